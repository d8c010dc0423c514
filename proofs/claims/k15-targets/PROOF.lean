import PyProof.Rows.All
import Wide.All
import OpenK.AllK
import Wide.FinOn
import KE.KStateDown
import HandS.ForMost
import HandS.Flow
import HandS.Style
import HandS.Wide
import HandS.Defaults
import HandS.MakeKw
import HandS.MakeKwOnly
import HandS.Exc
import HandS.TryOnly
import HandS.TryMany
import HandS.CallSlots
import HandS.ExcInit
import HandS.Head0
import HandS.Head1
import HandS.Head2
import HandS.HeadEnd
import HandS.HeadHook1
import HandS.HeadHook2
import HandS.TupLe
import HandS.TupAny
import HandS.Deep
import HandS.Comp
import HandS.Conv
import HandS.WordsDict
import HandS.Small
import HandS.Dict
import HandS.DictComp
import HandS.IsInst
import KE.KExcIs
import HandS.ExcField
import HandS.ExcIs
import HandS.Text
import HandS.More
import PyProof.InstNe
import HandS.ListItems
import HandS.ListEq
import HandS.DictEq
import PyProof.NeKinds
import HandS.Property
import HandS.ClsMeth
import HandS.SortInts
import HandS.Iter
import HandS.Finally
import HandS.Zip
import OpenK.KMeth
import OpenK.KOps
import HandS.OwnIter
import HandS.IterVal
import KE.KExcInit
import HandS.ExcOwn
import HandS.SetBool
import HandS.SetKeys
import HandS.Strs
import HandS.SetFor
import HandS.RaiseMore
import PyProof.ReprLen
import PyProof.ReprRoads
import PyProof.MeetsIn
import PyProof.InstEq
import HandS.Star
import HandS.OwnEq
import HandS.HotCalls
import HandS.Zip0
import PySem.Challenge.RW_filteredcopies_k15_targets
set_option Elab.async false
set_option linter.all false
set_option maxRecDepth 100000
set_option autoImplicit false
namespace Dn
open PySem PySem.Spec L2
open PyProof.Rows hiding St RelV
inductive D where
  | non | bl (b : Bool) | int (i : Int) | str (x : Str)
  | tup (ds : List D) | lst (ds : List D) | dic (kvs : List (D × D))
  | obj (C : String) (fs : List (Str × D))
  | ref (n : Nat) | glob (x : String) | scr (ns : List Int)
deriving Inhabited
abbrev Store := List D
abbrev Mu := List Addr
/-- a tuple, a list that stands in the written part -/
def KTup (K : PySem.W.Frag) (a : Addr) (xs : List V) : Prop :=
  ∃ (o : Obj) (its : Array Value) (n : Nat), K.lookup a = some o ∧ o.cls = .type "tuple" ∧ o.data = .seq its n ∧ its.size ≤ sizeLine ∧ Vals xs its.toList
def KLst (K : PySem.W.Frag) (a : Addr) (xs : List V) : Prop :=
  ∃ (o : Obj) (its : Array Value) (n : Nat), K.lookup a = some o ∧ o.cls = .type "list" ∧ o.dict = none ∧ o.data = .seq its n ∧ its.size ≤ sizeLine ∧ Vals xs its.toList
mutual
/-- the value v stands for d: what d leans on lies apart from the shared objects (μ) and from those that F owns -/
def RV (K : PySem.W.Frag) (H : Hp) (μ : Mu) (F : Addr → Prop) : D → V → Prop
  | .non, v => v = .non
  | .bl b, v => v = .bl b
  | .int b, v => v = .int b
  | .str b, v => v = .str b
  | .tup ds, v => ∃ a xs, v = .ref a ∧ ((H a = some (.tup xs) ∧ a ∉ μ ∧ ¬ F a) ∨ KTup K a xs) ∧ RVs K H μ F ds xs
  | .lst ds, v => ∃ a xs, v = .ref a ∧ (H a = some (.lst xs) ∧ a ∉ μ ∧ ¬ F a) ∧ RVs K H μ F ds xs
  | .dic kvs, v => ∃ a xs, v = .ref a ∧ (Rd H a (.dK xs) ∧ a ∉ μ ∧ ¬ F a) ∧ RVd K H μ F kvs xs
  | .obj C fs, v => ∃ a dx xs, v = .ref a ∧ (H a = some (.ins (He.ga K C) dx xs) ∧ a ∉ μ ∧ ¬ F a) ∧ RVf K H μ F fs xs
  | .ref n, v => ∃ a, v = .ref a ∧ μ[n]? = some a
  | .glob x, v => v = .ref (He.ga K x)
  | .scr ns, v => ∃ a, v = .ref a ∧ ((∃ o, H a = some (.frz o (.lst (ns.map V.int))) ∧ a ∉ μ ∧ ¬ F a) ∨ KLst K a (ns.map V.int))
def RVs (K : PySem.W.Frag) (H : Hp) (μ : Mu) (F : Addr → Prop) : List D → List V → Prop
  | [], xs => xs = []
  | d :: ds, xs => ∃ y ys, xs = y :: ys ∧ RV K H μ F d y ∧ RVs K H μ F ds ys
def RVd (K : PySem.W.Frag) (H : Hp) (μ : Mu) (F : Addr → Prop) : List (D × D) → List (Key × V) → Prop
  | [], xs => xs = []
  | (k, d) :: ds, xs => ∃ q y ys, xs = (q, y) :: ys ∧ RV K H μ F k (kV q) ∧ RV K H μ F d y ∧ RVd K H μ F ds ys
def RVf (K : PySem.W.Frag) (H : Hp) (μ : Mu) (F : Addr → Prop) : List (Str × D) → List (Str × V) → Prop
  | [], xs => xs = []
  | (k, d) :: ds, xs => ∃ y ys, xs = (k, y) :: ys ∧ RV K H μ F d y ∧ RVf K H μ F ds ys
end
/-- what is no shared and no owned object stays, the shared ones keep their numbers -/
structure Kp (H : Hp) (μ : Mu) (F : Addr → Prop) (H' : Hp) (μ' : Mu) (F' : Addr → Prop) : Prop where
  pure : ∀ a o, H a = some o → a ∉ μ → ¬ F a → H' a = some o ∧ a ∉ μ' ∧ ¬ F' a
  ix : ∀ (n : Nat) (a : Addr), μ[n]? = some a → μ'[n]? = some a
section
variable {K : PySem.W.Frag} {H H' : Hp} {μ μ' : Mu} {F F' : Addr → Prop}
theorem Rd.kp {a : Addr} {o : HO} (k : Kp H μ F H' μ' F') (h : Rd H a o ∧ a ∉ μ ∧ ¬ F a) : Rd H' a o ∧ a ∉ μ' ∧ ¬ F' a := by
  obtain ⟨h | ⟨q, h⟩, h1, h2⟩ := h
  · obtain ⟨e, r⟩ := k.pure a _ h h1 h2
    exact ⟨.inl e, r⟩
  · obtain ⟨e, r⟩ := k.pure a _ h h1 h2
    exact ⟨.inr ⟨q, e⟩, r⟩
mutual
theorem RV.kp (k : Kp H μ F H' μ' F') : ∀ {d : D} {v : V}, RV K H μ F d v → RV K H' μ' F' d v
  | .non, v, h => by unfold RV at h ⊢; exact h
  | .bl _, v, h => by unfold RV at h ⊢; exact h
  | .int _, v, h => by unfold RV at h ⊢; exact h
  | .str _, v, h => by unfold RV at h ⊢; exact h
  | .tup ds, v, h => by
    unfold RV at h ⊢
    obtain ⟨a, xs, e, h1, h2⟩ := h
    refine ⟨a, xs, e, ?_, RVs.kp k h2⟩
    rcases h1 with ⟨q1, q2, q3⟩ | q
    · exact .inl (k.pure a _ q1 q2 q3)
    · exact .inr q
  | .lst ds, v, h => by
    unfold RV at h ⊢
    obtain ⟨a, xs, e, h1, h2⟩ := h
    obtain ⟨q1, q2, q3⟩ := h1
    exact ⟨a, xs, e, k.pure a _ q1 q2 q3, RVs.kp k h2⟩
  | .dic ds, v, h => by
    unfold RV at h ⊢
    obtain ⟨a, xs, e, h1, h2⟩ := h
    exact ⟨a, xs, e, Rd.kp k h1, RVd.kp k h2⟩
  | .obj C fs, v, h => by
    unfold RV at h ⊢
    obtain ⟨a, dx, xs, e, ⟨q1, q2, q3⟩, h2⟩ := h
    exact ⟨a, dx, xs, e, k.pure a _ q1 q2 q3, RVf.kp k h2⟩
  | .ref n, v, h => by
    unfold RV at h ⊢
    obtain ⟨a, e, q⟩ := h
    exact ⟨a, e, k.ix n a q⟩
  | .glob x, v, h => by unfold RV at h ⊢; exact h
  | .scr ns, v, h => by
    unfold RV at h ⊢
    obtain ⟨a, e, h1⟩ := h
    refine ⟨a, e, ?_⟩
    rcases h1 with ⟨o, q1, q2, q3⟩ | q
    · exact .inl ⟨o, k.pure a _ q1 q2 q3⟩
    · exact .inr q
theorem RVs.kp (k : Kp H μ F H' μ' F') : ∀ {ds : List D} {vs : List V}, RVs K H μ F ds vs → RVs K H' μ' F' ds vs
  | [], vs, h => by unfold RVs at h ⊢; exact h
  | d :: ds, vs, h => by
    unfold RVs at h ⊢
    obtain ⟨y, ys, e, h1, h2⟩ := h
    exact ⟨y, ys, e, RV.kp k h1, RVs.kp k h2⟩
theorem RVd.kp (k : Kp H μ F H' μ' F') : ∀ {ds : List (D × D)} {vs : List (Key × V)}, RVd K H μ F ds vs → RVd K H' μ' F' ds vs
  | [], vs, h => by unfold RVd at h ⊢; exact h
  | (q, d) :: ds, vs, h => by
    unfold RVd at h ⊢
    obtain ⟨z, y, ys, e, h0, h1, h2⟩ := h
    exact ⟨z, y, ys, e, RV.kp k h0, RV.kp k h1, RVd.kp k h2⟩
theorem RVf.kp (k : Kp H μ F H' μ' F') : ∀ {ds : List (Str × D)} {vs : List (Str × V)}, RVf K H μ F ds vs → RVf K H' μ' F' ds vs
  | [], vs, h => by unfold RVf at h ⊢; exact h
  | (q, d) :: ds, vs, h => by
    unfold RVf at h ⊢
    obtain ⟨y, ys, e, h1, h2⟩ := h
    exact ⟨y, ys, e, RV.kp k h1, RVf.kp k h2⟩
end
end
/-- what lies at an address that is written -/
def RC (K : PySem.W.Frag) (H : Hp) (μ : Mu) (F : Addr → Prop) : D → Addr → Prop
  | .lst ds, a => ∃ xs, H a = some (.lst xs) ∧ RVs K H μ F ds xs
  | .dic kvs, a => ∃ xs, H a = some (.dK xs) ∧ RVd K H μ F kvs xs
  | .obj C fs, a => ∃ dx xs, H a = some (.ins (He.ga K C) dx xs) ∧ RVf K H μ F fs xs
  | _, _ => False
/-- .. or nothing is known of what lies there (a thing that is locked) -/
def RO (K : PySem.W.Frag) (H : Hp) (μ : Mu) (F : Addr → Prop) (d : D) (a : Addr) : Prop := RC K H μ F d a ∨ (d = .non ∧ ∃ o, H a = some o ∧ ∀ xs, o ≠ .tup xs) ∨ ∃ kvs xs q, d = .tup [.dic kvs] ∧ H a = some (.frz q (.dK xs)) ∧ RVd K H μ F kvs xs
/-- the store lies in the heap -/
structure RS (K : PySem.W.Frag) (H : Hp) (μ : Mu) (F : Addr → Prop) (st : Store) : Prop where
  len : μ.length = st.length
  nd : μ.Nodup
  nf : ∀ a ∈ μ, ¬ F a
  fd : ∀ a, F a → ∃ o, H a = some o
  at_ : ∀ (n : Nat) (d : D), st[n]? = some d → ∃ a, μ[n]? = some a ∧ RO K H μ F d a
/-- what an expression may do -/
structure Fut (H : Hp) (μ : Mu) (H' : Hp) (μ' : Mu) : Prop where
  ext : ∃ l, μ' = μ ++ l ∧ ∀ a ∈ l, H a = none
  keep : ∀ a o, a ∉ μ → H a = some o → H' a = some o
  there : ∀ a o, H a = some o → ∃ o', H' a = some o'
section
variable {K : PySem.W.Frag} {H H' H1 : Hp} {μ μ' μ1 : Mu} {F F' : Addr → Prop} {st : Store}
theorem Fut.refl : Fut H μ H μ := ⟨⟨[], by simp, fun _ h => nomatch h⟩, fun _ _ _ h => h, fun _ o h => ⟨o, h⟩⟩
theorem Fut.out (f : Fut H μ H' μ') {a : Addr} {o : HO} (h : H a = some o) (n : a ∉ μ) : a ∉ μ' := by
  obtain ⟨l, e, q⟩ := f.ext
  rw [e]
  intro z
  rcases List.mem_append.mp z with z | z
  · exact n z
  · rw [q a z] at h; cases h
theorem Fut.none_of (f : Fut H μ H' μ') {a : Addr} (h : H' a = none) : H a = none := by
  cases e : H a with
  | none => rfl
  | some o =>
    obtain ⟨o', q⟩ := f.there a o e
    rw [h] at q; cases q
theorem Fut.trans (f : Fut H μ H1 μ1) (g : Fut H1 μ1 H' μ') : Fut H μ H' μ' := by
  obtain ⟨l, e, q⟩ := id f.ext
  obtain ⟨l', e', q'⟩ := id g.ext
  refine ⟨⟨l ++ l', by rw [e', e, List.append_assoc], fun a h => ?_⟩, fun a o n h => g.keep a o (f.out h n) (f.keep a o n h), fun a o h => ?_⟩
  · rcases List.mem_append.mp h with h | h
    · exact q a h
    · exact f.none_of (q' a h)
  · obtain ⟨o1, h1⟩ := f.there a o h
    exact g.there a o1 h1
theorem Fut.kp (f : Fut H μ H' μ') (hi : ∀ a, F' a → F a ∨ H a = none) : Kp H μ F H' μ' F' where
  pure := fun a o h n nF => ⟨f.keep a o n h, f.out h n, fun z => (hi a z).elim nF fun q => by rw [h] at q; cases q⟩
  ix := fun n a h => by
    obtain ⟨l, e, _⟩ := f.ext
    rw [e, List.getElem?_append_left (List.getElem?_eq_some_iff.mp h).1]
    exact h
theorem Fut.kp0 (f : Fut H μ H' μ') : Kp H μ F H' μ' F := f.kp fun _ z => .inl z
/-- a new object, of no number -/
theorem Fut.new {p : Addr} {o : HO} (n : H p = none) : Fut H μ (upd H p o) μ :=
  ⟨⟨[], by simp, fun _ h => nomatch h⟩, fun a q _ h => by rw [upd_ne (ne_of_none h n)]; exact h, fun a q h => ⟨q, by rw [upd_ne (ne_of_none h n)]; exact h⟩⟩
theorem RC.kp (k : Kp H μ F H' μ' F') {d : D} {a b : Addr} (h : RC K H μ F d a) (e : H' b = H a) : RC K H' μ' F' d b := by
  cases d with
  | lst ds => obtain ⟨xs, q, r⟩ := h; exact ⟨xs, e.trans q, RVs.kp k r⟩
  | dic ds => obtain ⟨xs, q, r⟩ := h; exact ⟨xs, e.trans q, RVd.kp k r⟩
  | obj C fs => obtain ⟨dx, xs, q, r⟩ := h; exact ⟨dx, xs, e.trans q, RVf.kp k r⟩
  | _ => exact h
theorem RC.some {d : D} {a : Addr} (h : RC K H μ F d a) : ∃ o, H a = some o ∧ ∀ xs, o ≠ .tup xs := by
  cases d with
  | lst ds => obtain ⟨xs, q, r⟩ := h; exact ⟨_, q, fun _ z => nomatch z⟩
  | dic ds => obtain ⟨xs, q, r⟩ := h; exact ⟨_, q, fun _ z => nomatch z⟩
  | obj C fs => obtain ⟨dx, xs, q, r⟩ := h; exact ⟨_, q, fun _ z => nomatch z⟩
  | _ => exact h.elim
theorem RO.kp (k : Kp H μ F H' μ' F') {d : D} {a b : Addr} (h : RO K H μ F d a) (e : H' b = H a) : RO K H' μ' F' d b := by
  rcases h with h | ⟨h, o, q, n⟩ | ⟨kvs, xs, q, h, e2, r⟩
  · exact .inl (h.kp k e)
  · exact .inr (.inl ⟨h, o, e.trans q, n⟩)
  · exact .inr (.inr ⟨kvs, xs, q, h, e.trans e2, RVd.kp k r⟩)
theorem RO.some {d : D} {a : Addr} (h : RO K H μ F d a) : ∃ o, H a = some o ∧ ∀ xs, o ≠ .tup xs := by
  rcases h with h | ⟨h, o, q, n⟩ | ⟨kvs, xs, q, h, e2, r⟩
  · exact h.some
  · exact ⟨o, q, n⟩
  · exact ⟨_, e2, fun _ z => nomatch z⟩
theorem RO.c {d : D} {a : Addr} (h : RO K H μ F d a) (n : d ≠ .non) (n2 : ∀ kvs, d ≠ .tup [.dic kvs] := by intro _ z; cases z) : RC K H μ F d a := by
  rcases h with h | ⟨h, _⟩ | ⟨kvs, xs, q, h, _⟩
  · exact h
  · exact absurd h n
  · exact absurd h (n2 kvs)
theorem RS.there (r : RS K H μ F st) {a : Addr} (h : a ∈ μ) : ∃ o, H a = some o := by
  obtain ⟨n, e⟩ := List.getElem?_of_mem h
  have hn : n < st.length := by rw [← r.len]; exact (List.getElem?_eq_some_iff.mp e).1
  obtain ⟨b, e2, c⟩ := r.at_ n st[n] (List.getElem?_eq_getElem hn)
  rw [e] at e2; cases e2
  obtain ⟨o, q, _⟩ := c.some
  exact ⟨o, q⟩
theorem RS.fresh (r : RS K H μ F st) {p : Addr} (n : H p = none) : p ∉ μ ∧ ¬ F p :=
  ⟨fun z => (by
    obtain ⟨o, q⟩ := r.there z
    rw [n] at q
    cases q), fun z => (by
    obtain ⟨o, q⟩ := r.fd p z
    rw [n] at q
    cases q)⟩
/-- a new object of no number: the store lies as it lay -/
theorem RS.new (r : RS K H μ F st) {p : Addr} {o : HO} (n : H p = none) : RS K (upd H p o) μ F st where
  len := r.len
  nd := r.nd
  nf := r.nf
  fd := fun a h => by
    obtain ⟨q, e⟩ := r.fd a h
    exact ⟨q, by rw [upd_ne (ne_of_none e n)]; exact e⟩
  at_ := fun m d h => by
    obtain ⟨a, e, c⟩ := r.at_ m d h
    refine ⟨a, e, c.kp (Fut.new n).kp0 ?_⟩
    obtain ⟨q, e2, _⟩ := c.some
    exact upd_ne (ne_of_none e2 n)
/-- a shared object is written -/
theorem Fut.write {a : Addr} {o : HO} (h : a ∈ μ) : Fut H μ (upd H a o) μ :=
  ⟨⟨[], by simp, fun _ h => nomatch h⟩, fun b q n e => by rw [upd_ne (fun z => n (by rw [z]; exact h))]; exact e, fun b q e => by
    by_cases z : b = a
    · exact ⟨o, by rw [z, upd_same]⟩
    · exact ⟨q, by rw [upd_ne z]; exact e⟩⟩
theorem RS.writeO (r : RS K H μ F st) {n : Nat} {a : Addr} {o : HO} {d : D} (e : μ[n]? = some a) (c : RO K (upd H a o) μ F d a) : RS K (upd H a o) μ F (st.set n d) := by
  have ha : a ∈ μ := List.mem_of_getElem? e
  have f : Fut H μ (upd H a o) μ := Fut.write ha
  refine ⟨by rw [List.length_set]; exact r.len, r.nd, r.nf, fun b h => ?_, fun m q h => ?_⟩
  · obtain ⟨u, z⟩ := r.fd b h
    exact f.there b u z
  · by_cases hm : m = n
    · subst hm
      have hl : m < st.length := by
        have := (List.getElem?_eq_some_iff.mp h).1
        rwa [List.length_set] at this
      rw [List.getElem?_set_self hl] at h
      cases h
      exact ⟨a, e, c⟩
    · rw [List.getElem?_set_ne (Ne.symm hm)] at h
      obtain ⟨b, e2, c'⟩ := r.at_ m q h
      refine ⟨b, e2, c'.kp f.kp0 (upd_ne ?_)⟩
      rintro rfl
      have l1 := (List.getElem?_eq_some_iff.mp e2).1
      have l2 := (List.getElem?_eq_some_iff.mp e).1
      exact hm ((List.getElem_inj r.nd).mp ((List.getElem?_eq_some_iff.mp e2).2.trans (List.getElem?_eq_some_iff.mp e).2.symm))
theorem RS.write (r : RS K H μ F st) {n : Nat} {a : Addr} {o : HO} {d : D} (e : μ[n]? = some a) (c : RC K (upd H a o) μ F d a) : RS K (upd H a o) μ F (st.set n d) := r.writeO e (.inl c)
end
end Dn
namespace Dn
open PySem PySem.Spec L2
open PyProof.Rows hiding St RelV
/-- a slot: not known, a value, an object that the frame alone holds (b: the one that is being made), a caught exception -/
inductive Slot where
  | no | pu (d : D) | ow (b : Bool) (d : D) | exc (C : String) (fs : List (Str × D))
abbrev Loc := List Slot
inductive Res (α : Type) where
  | ok (a : α) (s : Store) | ex (C : String) (fs : List (Str × D)) (s : Store) | bad
abbrev E := Loc → Store → Res D
def Res.bind {α β : Type} (r : Res α) (k : α → Store → Res β) : Res β := match r with
  | .ok d s => k d s
  | .ex C fs s => .ex C fs s
  | .bad => .bad
@[simp] theorem Res.bind_ok {α β : Type} (a : α) (s : Store) (k : α → Store → Res β) : (Res.ok a s).bind k = k a s := rfl
@[simp] theorem Res.bind_ex {α β : Type} (C : String) (fs : List (Str × D)) (s : Store) (k : α → Store → Res β) : (Res.ex C fs s : Res α).bind k = .ex C fs s := rfl
@[simp] theorem Res.bind_bad {α β : Type} (k : α → Store → Res β) : (Res.bad : Res α).bind k = .bad := rfl
def Res.of {α : Type} (o : Option α) (s : Store) : Res α := match o with
  | some a => .ok a s
  | none => .bad
@[simp] theorem Res.of_some {α : Type} (a : α) (s : Store) : Res.of (some a) s = .ok a s := rfl
@[simp] theorem Res.of_none {α : Type} (s : Store) : (Res.of none s : Res α) = .bad := rfl
abbrev Pn := List (Addr × Obj)
/-- what a frame owns; the object that it makes -/
structure Own where
  g : Addr → Prop
  sf : Option Addr
def ownNo : Own := ⟨fun _ => False, none⟩
def RSlot (pn : Pn) (K : PySem.W.Frag) (H : Hp) (μ : Mu) (F : Addr → Prop) (G : Own) : Slot → Option V → Prop
  | .no, _ => True
  | .pu d, o => ∃ v, o = some v ∧ RV K H μ F d v
  | .ow b d, o => ∃ a, o = some (.ref a) ∧ (G.g a ∧ (b = true → G.sf = some a)) ∧ F a ∧ RC K H μ F d a
  | .exc C fs, o => ∃ a oe d xs, o = some (.ref a) ∧ (a, oe) ∈ pn ∧ Zc (.ref (He.ga K C)) (some d) oe ∧ (∃ vs, oe.data = .fields vs) ∧ H d = some (.xd xs) ∧ d ∉ μ ∧ ¬ F d ∧ RVf K H μ F fs xs
structure RL (pn : Pn) (K : PySem.W.Frag) (H : Hp) (μ : Mu) (F : Addr → Prop) (G : Own) (ρ : Loc) (σ : St) : Prop where
  len : ρ.length = σ.length
  at_ : ∀ (i : Nat) (sl : Slot), ρ[i]? = some sl → ∃ o, σ[i]? = some o ∧ RSlot pn K H μ F G sl o
  inj : ∀ (i j : Nat) (b c : Bool) (d e : D) (a : Addr), ρ[i]? = some (.ow b d) → ρ[j]? = some (.ow c e) → σ[i]? = some (some (.ref a)) → σ[j]? = some (some (.ref a)) → i = j
/-- a value that may be read: one that stands for itself, or an object of the frame's own -/
def RD (K : PySem.W.Frag) (H : Hp) (μ : Mu) (F : Addr → Prop) (d : D) (v : V) : Prop := RV K H μ F d v ∨ ∃ a, v = .ref a ∧ F a ∧ RC K H μ F d a
/-- what follows a result: P tells how what came lies behind it -/
def OkG {α β : Type} (P : Hp → Mu → α → β → Prop) (K : PySem.W.Frag) (W : WX) (F : Addr → Prop) (σ : St) (H : Hp) (μ : Mu) (r : Res α) (Q : β → Hp → Prop) : Prop := match r with
  | .ok d s => ∀ v H' μ', Fut H μ H' μ' → RS K H' μ' F s → P H' μ' d v → Q v H'
  | .ex C fs s => ∀ d H' μ' xs, Fut H μ H' μ' → RS K H' μ' F s → H' d = some (.xd xs) → d ∉ μ' → ¬ F d → RVf K H' μ' F fs xs → W (.ref (He.ga K C)) (some d) σ H'
  | .bad => False
/-- all of them may be read -/
def RDs (K : PySem.W.Frag) (H : Hp) (μ : Mu) (F : Addr → Prop) : List D → List V → Prop
  | [], xs => xs = []
  | d :: ds, xs => ∃ y ys, xs = y :: ys ∧ RD K H μ F d y ∧ RDs K H μ F ds ys
abbrev OkE (K : PySem.W.Frag) (W : WX) (F : Addr → Prop) (σ : St) (H : Hp) (μ : Mu) (r : Res D) (Q : VK) : Prop := OkG (fun H' μ' d v => RV K H' μ' F d v) K W F σ H μ r Q
/-- the state: slots and store -/
structure At (pn : Pn) (K : PySem.W.Frag) (H : Hp) (μ : Mu) (F : Addr → Prop) (G : Own) (ρ : Loc) (σ : St) (st : Store) : Prop where
  l : RL pn K H μ F G ρ σ
  s : RS K H μ F st
  gf : ∀ a, G.g a → F a
abbrev EL := Loc → Store → Res (List D)
abbrev ET := Loc → Store → Res Bool
def tG {α β : Type} (P : (Addr → Prop) → Hp → Mu → α → β → Prop) (pn : Pn) (K : PySem.W.Frag) (W : WX) (m : Loc → Store → Res α) : St → Hp → (β → Hp → Prop) → Prop :=
  fun σ H Q => ∃ ρ μ F G st, At pn K H μ F G ρ σ st ∧ OkG (P F) K W F σ H μ (m ρ st) Q
/-- m says what e does: a value; one that may be read; arguments; a test -/
def SE (X : Cx) (W : WX) (e : Expr) (m : E) : Prop := PE X e (tG (fun F H μ d v => RV X.K H μ F d v) X.pn X.K W m)
def SR (X : Cx) (W : WX) (e : Expr) (m : E) : Prop := PE X e (tG (fun F H μ d v => RD X.K H μ F d v) X.pn X.K W m)
def SA (X : Cx) (W : WX) (es : List Expr) (m : EL) : Prop := PA X es (tG (fun F H μ d v => RVs X.K H μ F d v) X.pn X.K W m)
def SAR (X : Cx) (W : WX) (es : List Expr) (m : EL) : Prop := PA X es (tG (fun F H μ d v => RDs X.K H μ F d v) X.pn X.K W m)
def ST (X : Cx) (W : WX) (e : Expr) (m : ET) : Prop := PT X e (tG (fun _ _ _ d v => d = v) X.pn X.K W m)
theorem PE.of {X : Cx} {e : Expr} {t t' : TE} (h : PE X e t) (i : ∀ σ H Q, t' σ H Q → t σ H Q) : PE X e t' := ⟨fun pins s σ H Q I q => h.run pins s σ H Q I (i σ H Q q)⟩
theorem PT.of {X : Cx} {e : Expr} {t t' : TT} (h : PT X e t) (i : ∀ σ H Q, t' σ H Q → t σ H Q) : PT X e t' := ⟨fun pins s σ H Q I q => h.run pins s σ H Q I (i σ H Q q)⟩
theorem PS.of {X : Cx} {e : Stmt} {t t' : TS} (h : PS X e t) (i : ∀ D σ H, t' D σ H → t D σ H) : PS X e t' := ⟨fun pins s σ H Q I q => h.run pins s σ H Q I (i Q σ H q)⟩
theorem PSs.of {X : Cx} {e : List Stmt} {t t' : TS} (h : PSs X e t) (i : ∀ D σ H, t' D σ H → t D σ H) : PSs X e t' := ⟨fun pins s σ H Q I q => h.run pins s σ H Q I (i Q σ H q)⟩
theorem PA.of {X : Cx} {e : List Expr} {t t' : TA} (h : PA X e t) (i : ∀ σ H Q, t' σ H Q → t σ H Q) : PA X e t' := ⟨fun pos pins s σ H Q I q => h.run pos pins s σ H Q I (i σ H Q q)⟩
section
variable {pn : Pn} {K : PySem.W.Frag} {W : WX} {H H' H1 : Hp} {μ μ' μ1 : Mu} {F F' : Addr → Prop} {G : Own} {st st1 : Store} {ρ : Loc} {σ : St} {d : D} {v : V}
theorem RD.of (h : RV K H μ F d v) : RD K H μ F d v := .inl h
theorem RD.fut (s : RS K H μ F st) (f : Fut H μ H' μ') (h : RD K H μ F d v) : RD K H' μ' F d v := by
  rcases h with h | ⟨a, e, h1, h2⟩
  · exact .inl (RV.kp f.kp0 h)
  · obtain ⟨o, q⟩ := s.fd a h1
    exact .inr ⟨a, e, h1, h2.kp f.kp0 ((f.keep a o (fun z => s.nf a z h1) q).trans q.symm)⟩
theorem OkG.fut {α β : Type} {P : Hp → Mu → α → β → Prop} {r : Res α} {Q : β → Hp → Prop} (f : Fut H μ H1 μ1) (h : OkG P K W F σ H μ r Q) : OkG P K W F σ H1 μ1 r Q := by
  cases r with
  | ok d s => exact fun v H' μ' g => h v H' μ' (f.trans g)
  | ex C fs s => exact fun d H' μ' xs g => h d H' μ' xs (f.trans g)
  | bad => exact h
theorem OkG.imp {α β : Type} {P P' : Hp → Mu → α → β → Prop} {r : Res α} {Q Q' : β → Hp → Prop} (h : OkG P K W F σ H μ r Q) (i : ∀ H' μ' d v, P' H' μ' d v → P H' μ' d v) (q : ∀ v H', Q v H' → Q' v H') : OkG P' K W F σ H μ r Q' := by
  cases r with
  | ok d s => exact fun v H' μ' f rs p => q _ _ (h v H' μ' f rs (i _ _ _ _ p))
  | ex C fs s => exact h
  | bad => exact h
theorem RDs.fut (s : RS K H μ F st) (f : Fut H μ H' μ') : ∀ {ds : List D} {vs : List V}, RDs K H μ F ds vs → RDs K H' μ' F ds vs
  | [], vs, h => h
  | d :: ds, vs, h => let ⟨y, ys, e, a, b⟩ := h; ⟨y, ys, e, a.fut s f, RDs.fut s f b⟩
theorem RSlot.fut (s : RS K H μ F st) (f : Fut H μ H' μ') {sl : Slot} {o : Option V} (h : RSlot pn K H μ F G sl o) : RSlot pn K H' μ' F G sl o := by
  cases sl with
  | no => exact True.intro
  | pu d => obtain ⟨v, e, q⟩ := h; exact ⟨v, e, RV.kp f.kp0 q⟩
  | ow b d =>
    obtain ⟨a, e, h0, h1, h2⟩ := h
    obtain ⟨u, q⟩ := s.fd a h1
    exact ⟨a, e, h0, h1, h2.kp f.kp0 ((f.keep a u (fun z => s.nf a z h1) q).trans q.symm)⟩
  | exc C fs =>
    obtain ⟨a, oe, d, xs, e, hp, hz, hd, h1, h2, h3, h4⟩ := h
    exact ⟨a, oe, d, xs, e, hp, hz, hd, f.keep d _ h2 h1, f.out h1 h2, h3, RVf.kp f.kp0 h4⟩
theorem RL.fut (s : RS K H μ F st) (f : Fut H μ H' μ') (h : RL pn K H μ F G ρ σ) : RL pn K H' μ' F G ρ σ :=
  ⟨h.len, fun i sl e => let ⟨o, e1, q⟩ := h.at_ i sl e; ⟨o, e1, q.fut s f⟩, h.inj⟩
theorem At.fut (h : At pn K H μ F G ρ σ st) (f : Fut H μ H1 μ1) (s : RS K H1 μ1 F st1) : At pn K H1 μ1 F G ρ σ st1 := ⟨h.l.fut h.s f, s, h.gf⟩
/-- one part, then what follows -/
theorem tG_at {α β γ δ : Type} {P : (Addr → Prop) → Hp → Mu → α → β → Prop} {P' : Hp → Mu → γ → δ → Prop} {Q : δ → Hp → Prop} {m : Loc → Store → Res α} {k : α → Store → Res γ} (a : At pn K H μ F G ρ σ st) (h : OkG P' K W F σ H μ ((m ρ st).bind k) Q) {R : β → Hp → Prop}
    (hR : ∀ x H1 μ1 st1 d, At pn K H1 μ1 F G ρ σ st1 → Fut H μ H1 μ1 → P F H1 μ1 d x → OkG P' K W F σ H1 μ1 (k d st1) Q → R x H1) :
    tG P pn K W m σ H R := by
  refine ⟨ρ, μ, F, G, st, a, ?_⟩
  cases e : m ρ st with
  | ok d s =>
    rw [e] at h
    exact fun v H' μ' f rs rv => hR v H' μ' s d (a.fut f rs) f rv (OkG.fut f h)
  | ex C fs s => rw [e] at h; exact h
  | bad => rw [e] at h; exact h
end
theorem SE.r {X : Cx} {W : WX} {e : Expr} {m : E} (h : SE X W e m) : SR X W e m := PE.of h fun σ H Q ⟨ρ, μ, F, G, st, a, q⟩ => ⟨ρ, μ, F, G, st, a, q.imp (fun _ _ _ _ p => .inl p) fun _ _ z => z⟩
end Dn
namespace Dn
open PySem PySem.Spec L2
open PyProof.Rows hiding St RelV
/-- a shared object's content -/
@[simp] def hid (n : Nat) : D → D
  | .non => .ref n
  | .tup [.dic kvs] => .dic kvs
  | d => d
@[simp] def der (st : Store) : D → D
  | .ref n => hid n ((st[n]?).getD (.ref n))
  | d => d
/-- v reads as d -/
def DR (K : PySem.W.Frag) (H : Hp) (μ : Mu) (F : Addr → Prop) : D → V → Prop
  | .non, v => v = .non
  | .bl b, v => v = .bl b
  | .int b, v => v = .int b
  | .str b, v => v = .str b
  | .tup ds, v => ∃ a xs, v = .ref a ∧ SqT K H a xs ∧ RVs K H μ F ds xs
  | .lst ds, v => ∃ a xs, v = .ref a ∧ H a = some (.lst xs) ∧ RVs K H μ F ds xs
  | .dic kvs, v => ∃ a xs, v = .ref a ∧ Rd H a (.dK xs) ∧ RVd K H μ F kvs xs
  | .obj C fs, v => ∃ a dx xs, v = .ref a ∧ H a = some (.ins (He.ga K C) dx xs) ∧ RVf K H μ F fs xs
  | .ref n, v => ∃ a, v = .ref a
  | .glob x, v => v = .ref (He.ga K x)
  | .scr ns, v => ∃ a, v = .ref a ∧ SqL K H a (ns.map V.int)
section
variable {K : PySem.W.Frag} {H H' : Hp} {μ μ' : Mu} {F F' : Addr → Prop} {st : Store} {d e : D} {v x y : V}
theorem RV.dr (h : RV K H μ F d v) (hr : ∀ n, d ≠ .ref n) : DR K H μ F d v := by
  cases d with
  | tup ds =>
    unfold RV at h
    obtain ⟨a, xs, e, q, r⟩ := h
    refine ⟨a, xs, e, ?_, r⟩
    rcases q with ⟨q, _⟩ | q
    · exact .inl (.inl q)
    · exact .inr q
  | lst ds => unfold RV at h; obtain ⟨a, xs, e, q, r⟩ := h; exact ⟨a, xs, e, q.1, r⟩
  | dic ds => unfold RV at h; obtain ⟨a, xs, e, q, r⟩ := h; exact ⟨a, xs, e, q.1, r⟩
  | obj C fs => unfold RV at h; obtain ⟨a, dx, xs, e, q, r⟩ := h; exact ⟨a, dx, xs, e, q.1, r⟩
  | ref n => exact absurd rfl (hr n)
  | scr ns =>
    unfold RV at h
    obtain ⟨a, e, q⟩ := h
    refine ⟨a, e, ?_⟩
    rcases q with ⟨o, q, _⟩ | q
    · exact .inl (.inr ⟨o, q⟩)
    · exact .inr q
  | _ => unfold RV at h; exact h
theorem RC.dr {a : Addr} (h : RC K H μ F d a) : DR K H μ F d (.ref a) := by
  cases d with
  | lst ds => obtain ⟨xs, q, r⟩ := h; exact ⟨a, xs, rfl, q, r⟩
  | dic ds => obtain ⟨xs, q, r⟩ := h; exact ⟨a, xs, rfl, .inl q, r⟩
  | obj C fs => obtain ⟨dx, xs, q, r⟩ := h; exact ⟨a, dx, xs, rfl, q, r⟩
  | _ => exact h.elim
theorem RD.dr (s : RS K H μ F st) (h : RD K H μ F d v) : DR K H μ F (der st d) v := by
  rcases h with h | ⟨a, e, _, h⟩
  · cases d with
    | ref n =>
      unfold RV at h
      obtain ⟨a, e, q⟩ := h
      have hn : n < st.length := by rw [← s.len]; exact (List.getElem?_eq_some_iff.mp q).1
      obtain ⟨b, q2, c⟩ := s.at_ n st[n] (List.getElem?_eq_getElem hn)
      rw [q] at q2; cases q2
      show DR K H μ F (hid n ((st[n]?).getD (.ref n))) v
      rw [List.getElem?_eq_getElem hn, e]
      rcases c with c | ⟨c, _⟩ | ⟨kvs, xs, q3, c, c2, c3⟩
      · show DR K H μ F (hid n st[n]) (.ref a)
        have c' := c.dr
        generalize st[n] = z at c c'
        cases z <;> first | exact c' | exact c.elim
      · rw [c]
        exact ⟨a, rfl⟩
      · rw [c]
        exact ⟨a, xs, rfl, .inr ⟨q3, c2⟩, c3⟩
    | _ => exact RV.dr h (fun n z => by cases z)
  · rw [e]
    cases d with
    | lst ds => exact h.dr
    | dic ds => exact h.dr
    | obj C fs => exact h.dr
    | _ => exact h.elim
theorem RVs.length : ∀ {ds : List D} {xs : List V}, RVs K H μ F ds xs → xs.length = ds.length
  | [], xs, h => by
    unfold RVs at h
    rw [h]
    rfl
  | d :: ds, xs, h => by
    unfold RVs at h
    obtain ⟨y, ys, e, _, r⟩ := h
    rw [e, List.length_cons, List.length_cons, RVs.length r]
theorem RVs.nil : RVs K H μ F [] [] := by unfold RVs; rfl
theorem RVs.cons {ds : List D} {xs : List V} (h : RV K H μ F d v) (r : RVs K H μ F ds xs) : RVs K H μ F (d :: ds) (v :: xs) := by
  unfold RVs; exact ⟨v, xs, rfl, h, r⟩
theorem RVs.get : ∀ {ds : List D} {xs : List V} {i : Nat} {d : D}, RVs K H μ F ds xs → ds[i]? = some d → ∃ v, xs[i]? = some v ∧ RV K H μ F d v
  | [], _, i, d, _, e => by simp at e
  | c :: ds, xs, 0, d, h, e => by
    unfold RVs at h
    obtain ⟨y, ys, e1, q, r⟩ := h
    have e2 : c = d := by simpa using e
    subst e2
    exact ⟨y, by rw [e1]; rfl, q⟩
  | c :: ds, xs, i + 1, d, h, e => by
    unfold RVs at h
    obtain ⟨y, ys, e1, q, r⟩ := h
    obtain ⟨v, e2, q2⟩ := RVs.get r (i := i) (d := d) (by simpa using e)
    exact ⟨v, by rw [e1]; simpa using e2, q2⟩
theorem RVs.append : ∀ {ds es : List D} {xs ys : List V}, RVs K H μ F ds xs → RVs K H μ F es ys → RVs K H μ F (ds ++ es) (xs ++ ys)
  | [], es, xs, ys, h, g => by unfold RVs at h; rw [h]; exact g
  | c :: ds, es, xs, ys, h, g => by
    unfold RVs at h
    obtain ⟨z, zs, e1, q, r⟩ := h
    rw [e1]
    exact RVs.cons q (RVs.append r g)
theorem RVs.take : ∀ {ds : List D} {xs : List V} (n : Nat), RVs K H μ F ds xs → RVs K H μ F (ds.take n) (xs.take n)
  | ds, xs, 0, h => by simp only [List.take_zero]; exact RVs.nil
  | [], xs, n + 1, h => by unfold RVs at h; rw [h]; exact RVs.nil
  | c :: ds, xs, n + 1, h => by
    unfold RVs at h
    obtain ⟨z, zs, e1, q, r⟩ := h
    rw [e1]
    exact RVs.cons q (RVs.take n r)
theorem RVs.drop : ∀ {ds : List D} {xs : List V} (n : Nat), RVs K H μ F ds xs → RVs K H μ F (ds.drop n) (xs.drop n)
  | ds, xs, 0, h => h
  | [], xs, n + 1, h => by unfold RVs at h; rw [h]; exact RVs.nil
  | c :: ds, xs, n + 1, h => by
    unfold RVs at h
    obtain ⟨z, zs, e1, q, r⟩ := h
    rw [e1]
    exact RVs.drop n r
theorem RVs.reverse : ∀ {ds : List D} {xs : List V}, RVs K H μ F ds xs → RVs K H μ F ds.reverse xs.reverse
  | [], xs, h => by unfold RVs at h; rw [h]; exact RVs.nil
  | c :: ds, xs, h => by
    unfold RVs at h
    obtain ⟨z, zs, e1, q, r⟩ := h
    rw [e1, List.reverse_cons, List.reverse_cons]
    exact RVs.append (RVs.reverse r) (RVs.cons q RVs.nil)
theorem RVs.ints : ∀ (ns : List Int), RVs K H μ F (ns.map D.int) (ns.map V.int)
  | [] => RVs.nil
  | n :: ns => RVs.cons (by unfold RV; rfl) (RVs.ints ns)
theorem RVs.set : ∀ {ds : List D} {xs : List V} (n : Nat), RVs K H μ F ds xs → RV K H μ F d v → RVs K H μ F (ds.set n d) (xs.set n v)
  | [], xs, n, h, _ => by unfold RVs at h; rw [h]; exact RVs.nil
  | c :: ds, xs, 0, h, g => by
    unfold RVs at h
    obtain ⟨z, zs, e1, q, r⟩ := h
    rw [e1]
    exact RVs.cons g r
  | c :: ds, xs, n + 1, h, g => by
    unfold RVs at h
    obtain ⟨z, zs, e1, q, r⟩ := h
    rw [e1]
    exact RVs.cons q (RVs.set n r g)
end
mutual
def deq : D → D → Bool
  | .non, .non => true
  | .bl a, .bl b => a == b
  | .bl a, .int j => (if a then 1 else 0) == j
  | .int i, .bl b => i == (if b then 1 else 0)
  | .int i, .int j => i == j
  | .str x, .str y => x == y
  | .tup ds, .tup es => deqs ds es
  | .lst ds, .lst es => deqs ds es
  | _, _ => false
def deqs : List D → List D → Bool
  | [], [] => true
  | d :: ds, e :: es => deq d e && deqs ds es
  | _, _ => false
end
/-- data that == can tell, nested at most n deep -/
def okq : Nat → D → Bool
  | _, .non => true
  | _, .bl _ => true
  | _, .int _ => true
  | _, .str _ => true
  | n + 1, .tup ds => ds.all (okq n)
  | n + 1, .lst ds => ds.all (okq n)
  | _, _ => false
section
variable {X : Cx} {pins : List (Addr × Obj)} {σ : St} {H : Hp} {s : Shared} {μ : Mu} {F : Addr → Prop}
theorem deqs_at : ∀ (ds es : List D), deqs ds es = ((List.range (min ds.length es.length)).all (fun j => deq (ds.getD j .non) (es.getD j .non)) && ds.length == es.length)
  | [], [] => by simp [deqs]
  | [], e :: es => by simp [deqs]
  | d :: ds, [] => by simp [deqs]
  | d :: ds, e :: es => by
    have ih := deqs_at ds es
    show (deq d e && deqs ds es) = _
    rw [ih]
    have hm : min (d :: ds).length (e :: es).length = min ds.length es.length + 1 := by simp only [List.length_cons]; omega
    rw [hm, List.range_succ_eq_map, List.all_cons, List.all_map]
    have e1 : ((d :: ds).length == (e :: es).length) = (ds.length == es.length) := by simp
    rw [e1, Bool.and_assoc]
    rfl
mutual
/-- one value, two readings -/
theorem deq_same (I : Inv X pins σ H s) : ∀ (d e : D) (n m : Nat) (v : V), okq n d = true → okq m e = true → DR X.K H μ F d v → DR X.K H μ F e v → d = e
  | .tup ds, .tup es, n, m, v, od, oe, h, g => by
    obtain ⟨a, xs, e1, q, r⟩ := h
    obtain ⟨b, ys, e2, q2, r2⟩ := g
    rw [e1] at e2; cases e2
    have := I.tuple_inj q q2
    subst this
    cases n with
    | zero => simp [okq] at od
    | succ n =>
      cases m with
      | zero => simp [okq] at oe
      | succ m =>
        simp only [okq] at od oe
        rw [deqs_same I ds es n m xs od oe r r2]
  | .lst ds, .lst es, n, m, v, od, oe, h, g => by
    obtain ⟨a, xs, e1, q, r⟩ := h
    obtain ⟨b, ys, e2, q2, r2⟩ := g
    rw [e1] at e2; cases e2
    rw [q] at q2; cases q2
    cases n with
    | zero => simp [okq] at od
    | succ n =>
      cases m with
      | zero => simp [okq] at oe
      | succ m =>
        simp only [okq] at od oe
        rw [deqs_same I ds es n m xs od oe r r2]
  | .tup ds, .lst es, n, m, v, od, oe, h, g => by
    obtain ⟨a, xs, e1, q, r⟩ := h
    obtain ⟨b, ys, e2, q2, r2⟩ := g
    rw [e1] at e2; cases e2
    obtain ⟨its, _, ⟨o, ho, hc, _⟩, _⟩ := I.tuple q
    obtain ⟨its2, _, p2, _⟩ := I.list (.inl (.inl q2))
    obtain ⟨o2, _, ho2, hc2, _⟩ := p2
    rw [ho] at ho2; cases ho2
    rw [hc] at hc2
    exact absurd (Value.type.inj hc2) (by decide)
  | .lst ds, .tup es, n, m, v, od, oe, h, g => by
    obtain ⟨a, xs, e1, q, r⟩ := h
    obtain ⟨b, ys, e2, q2, r2⟩ := g
    rw [e1] at e2; cases e2
    obtain ⟨its, _, ⟨o, ho, hc, _⟩, _⟩ := I.tuple q2
    obtain ⟨its2, _, p2, _⟩ := I.list (.inl (.inl q))
    obtain ⟨o2, _, ho2, hc2, _⟩ := p2
    rw [ho] at ho2; cases ho2
    rw [hc] at hc2
    exact absurd (Value.type.inj hc2) (by decide)
  | .non, .non, _, _, v, _, _, _, _ => rfl
  | .bl a, .bl b, _, _, v, _, _, h, g => by
    have h1 : v = .bl a := h
    have g1 : v = .bl b := g
    rw [h1] at g1; cases g1
    rfl
  | .int a, .int b, _, _, v, _, _, h, g => by
    have h1 : v = .int a := h
    have g1 : v = .int b := g
    rw [h1] at g1; cases g1
    rfl
  | .str a, .str b, _, _, v, _, _, h, g => by
    have h1 : v = .str a := h
    have g1 : v = .str b := g
    rw [h1] at g1; cases g1
    rfl
  | .non, .bl _, _, _, v, _, _, h, g => by simp only [DR] at h g; rw [h] at g; cases g
  | .non, .int _, _, _, v, _, _, h, g => by simp only [DR] at h g; rw [h] at g; cases g
  | .non, .str _, _, _, v, _, _, h, g => by simp only [DR] at h g; rw [h] at g; cases g
  | .non, .tup _, _, _, v, _, _, h, g => by obtain ⟨a, xs, e1, _⟩ := g; have h1 : v = .non := h; rw [h1] at e1; cases e1
  | .non, .lst _, _, _, v, _, _, h, g => by obtain ⟨a, xs, e1, _⟩ := g; have h1 : v = .non := h; rw [h1] at e1; cases e1
  | .bl _, .non, _, _, v, _, _, h, g => by simp only [DR] at h g; rw [h] at g; cases g
  | .bl _, .int _, _, _, v, _, _, h, g => by simp only [DR] at h g; rw [h] at g; cases g
  | .bl _, .str _, _, _, v, _, _, h, g => by simp only [DR] at h g; rw [h] at g; cases g
  | .bl b, .tup _, _, _, v, _, _, h, g => by obtain ⟨a, xs, e1, _⟩ := g; have h1 : v = .bl b := h; rw [h1] at e1; cases e1
  | .bl b, .lst _, _, _, v, _, _, h, g => by obtain ⟨a, xs, e1, _⟩ := g; have h1 : v = .bl b := h; rw [h1] at e1; cases e1
  | .int _, .non, _, _, v, _, _, h, g => by simp only [DR] at h g; rw [h] at g; cases g
  | .int _, .bl _, _, _, v, _, _, h, g => by simp only [DR] at h g; rw [h] at g; cases g
  | .int _, .str _, _, _, v, _, _, h, g => by simp only [DR] at h g; rw [h] at g; cases g
  | .int b, .tup _, _, _, v, _, _, h, g => by obtain ⟨a, xs, e1, _⟩ := g; have h1 : v = .int b := h; rw [h1] at e1; cases e1
  | .int b, .lst _, _, _, v, _, _, h, g => by obtain ⟨a, xs, e1, _⟩ := g; have h1 : v = .int b := h; rw [h1] at e1; cases e1
  | .str _, .non, _, _, v, _, _, h, g => by simp only [DR] at h g; rw [h] at g; cases g
  | .str _, .bl _, _, _, v, _, _, h, g => by simp only [DR] at h g; rw [h] at g; cases g
  | .str _, .int _, _, _, v, _, _, h, g => by simp only [DR] at h g; rw [h] at g; cases g
  | .str b, .tup _, _, _, v, _, _, h, g => by obtain ⟨a, xs, e1, _⟩ := g; have h1 : v = .str b := h; rw [h1] at e1; cases e1
  | .str b, .lst _, _, _, v, _, _, h, g => by obtain ⟨a, xs, e1, _⟩ := g; have h1 : v = .str b := h; rw [h1] at e1; cases e1
  | .tup _, .non, _, _, v, _, _, h, g => by obtain ⟨a, xs, e1, _⟩ := h; have h1 : v = .non := g; rw [h1] at e1; cases e1
  | .tup _, .bl b, _, _, v, _, _, h, g => by obtain ⟨a, xs, e1, _⟩ := h; have h1 : v = .bl b := g; rw [h1] at e1; cases e1
  | .tup _, .int b, _, _, v, _, _, h, g => by obtain ⟨a, xs, e1, _⟩ := h; have h1 : v = .int b := g; rw [h1] at e1; cases e1
  | .tup _, .str b, _, _, v, _, _, h, g => by obtain ⟨a, xs, e1, _⟩ := h; have h1 : v = .str b := g; rw [h1] at e1; cases e1
  | .lst _, .non, _, _, v, _, _, h, g => by obtain ⟨a, xs, e1, _⟩ := h; have h1 : v = .non := g; rw [h1] at e1; cases e1
  | .lst _, .bl b, _, _, v, _, _, h, g => by obtain ⟨a, xs, e1, _⟩ := h; have h1 : v = .bl b := g; rw [h1] at e1; cases e1
  | .lst _, .int b, _, _, v, _, _, h, g => by obtain ⟨a, xs, e1, _⟩ := h; have h1 : v = .int b := g; rw [h1] at e1; cases e1
  | .lst _, .str b, _, _, v, _, _, h, g => by obtain ⟨a, xs, e1, _⟩ := h; have h1 : v = .str b := g; rw [h1] at e1; cases e1
  | .dic _, _, n, _, _, od, _, _, _ => by cases n <;> simp [okq] at od
  | .obj _ _, _, n, _, _, od, _, _, _ => by cases n <;> simp [okq] at od
  | .ref _, _, n, _, _, od, _, _, _ => by cases n <;> simp [okq] at od
  | .glob _, _, n, _, _, od, _, _, _ => by cases n <;> simp [okq] at od
  | .scr _, _, n, _, _, od, _, _, _ => by cases n <;> simp [okq] at od
  | _, .dic _, _, n, _, _, od, _, _ => by cases n <;> simp [okq] at od
  | _, .obj _ _, _, n, _, _, od, _, _ => by cases n <;> simp [okq] at od
  | _, .ref _, _, n, _, _, od, _, _ => by cases n <;> simp [okq] at od
  | _, .glob _, _, n, _, _, od, _, _ => by cases n <;> simp [okq] at od
  | _, .scr _, _, n, _, _, od, _, _ => by cases n <;> simp [okq] at od
theorem deqs_same (I : Inv X pins σ H s) : ∀ (ds es : List D) (n m : Nat) (vs : List V), ds.all (okq n) = true → es.all (okq m) = true → RVs X.K H μ F ds vs → RVs X.K H μ F es vs → ds = es
  | [], [], _, _, _, _, _, _, _ => rfl
  | [], e :: es, _, _, vs, _, _, h, g => by
    unfold RVs at h g
    obtain ⟨y, ys, e1, _⟩ := g
    rw [h] at e1; cases e1
  | d :: ds, [], _, _, vs, _, _, h, g => by
    unfold RVs at h g
    obtain ⟨y, ys, e1, _⟩ := h
    rw [g] at e1; cases e1
  | d :: ds, e :: es, n, m, vs, od, oe, h, g => by
    unfold RVs at h g
    obtain ⟨y, ys, e1, q1, r1⟩ := h
    obtain ⟨z, zs, e2, q2, r2⟩ := g
    rw [e1] at e2; cases e2
    rw [List.all_cons, Bool.and_eq_true] at od oe
    have nr : ∀ {k : Nat} {c : D}, okq k c = true → ∀ n, c ≠ .ref n := fun {k c} ok n z => by subst z; cases k <;> simp [okq] at ok
    rw [deq_same I d e n m y od.1 oe.1 (q1.dr (nr od.1)) (q2.dr (nr oe.1)), deqs_same I ds es n m ys od.2 oe.2 r1 r2]
end
mutual
theorem deq_refl : ∀ (n : Nat) (d : D), okq n d = true → deq d d = true
  | n, .non, _ => rfl
  | n, .bl b, _ => by simp [deq]
  | n, .int b, _ => by simp [deq]
  | n, .str b, _ => by simp [deq]
  | 0, .tup ds, h => by simp [okq] at h
  | 0, .lst ds, h => by simp [okq] at h
  | n + 1, .tup ds, h => by
    simp only [okq] at h
    exact deqs_refl n ds h
  | n + 1, .lst ds, h => by
    simp only [okq] at h
    exact deqs_refl n ds h
  | n, .dic ds, h => by cases n <;> simp [okq] at h
  | n, .obj _ _, h => by cases n <;> simp [okq] at h
  | n, .ref _, h => by cases n <;> simp [okq] at h
  | n, .glob _, h => by cases n <;> simp [okq] at h
  | n, .scr _, h => by cases n <;> simp [okq] at h
theorem deqs_refl : ∀ (n : Nat) (ds : List D), ds.all (okq n) = true → deqs ds ds = true
  | _, [], _ => rfl
  | n, d :: ds, h => by
    rw [List.all_cons, Bool.and_eq_true] at h
    show (deq d d && deqs ds ds) = true
    rw [deq_refl n d h.1, deqs_refl n ds h.2]
    rfl
end
theorem okq_nr {k : Nat} {c : D} (ok : okq k c = true) : ∀ n, c ≠ .ref n := fun n z => by subst z; cases k <;> simp [okq] at ok
/-- what stands at a place of two lists of values -/
theorem items_at {ds : List D} {xs : List V} {its : List Value} {j : Nat} (r : RVs X.K H μ F ds xs) (q : Vals xs its) (h : j < its.length) : ∃ d v, ds[j]? = some d ∧ ds.getD j .non = d ∧ RV X.K H μ F d v ∧ RelV v its[j] := by
  have l1 := r.length
  have l2 := q.length
  have hd : j < ds.length := by omega
  obtain ⟨v, e, rv⟩ := r.get (List.getElem?_eq_getElem hd)
  obtain ⟨u, e2, rl⟩ := q.get e
  rw [List.getElem?_eq_getElem h] at e2
  cases e2
  exact ⟨ds[j], v, List.getElem?_eq_getElem hd, by simp [hd], rv, rl⟩
set_option maxHeartbeats 2000000 in
theorem deq_at (I : Inv X pins σ H s) : ∀ (n : Nat) (d e : D) (A : Around) (v w : V) (u u' : Value), okq n d = true → okq n e = true → DR X.K H μ F d v → DR X.K H μ F e w → RelV v u → RelV w u' → A.units + n + 1 < cLine →
    SeqAt.EqAt A s u u' (deq d e) ∧ SeqAt.RcAt A s u u' (deq d e) := by
  intro n
  induction n with
  | zero =>
    intro d e A v w u u' od oe hd he rv rw' hu
    cases d with
    | non =>
      cases e with
      | non =>
        cases (show v = .non from hd); cases (show u = Value.none from rv)
        cases (show w = .non from he); cases (show u' = Value.none from rw')
        exact ⟨.same _, .none_none⟩
      | bl b =>
        cases (show v = .non from hd); cases (show u = Value.none from rv)
        cases (show w = .bl b from he); cases (show u' = Value.bool b from rw')
        exact ⟨.none_bool b, .none_bool b⟩
      | int b =>
        cases (show v = .non from hd); cases (show u = Value.none from rv)
        cases (show w = .int b from he); obtain ⟨tb, eb⟩ := (show ∃ t, u' = Value.int b t from rw'); subst eb
        exact ⟨.none_int b tb, .none_int b tb⟩
      | str b =>
        cases (show v = .non from hd); cases (show u = Value.none from rv)
        cases (show w = .str b from he); obtain ⟨tb, eb⟩ := (show ∃ t, u' = Value.str b t from rw'); subst eb
        exact ⟨.none_str b tb, .none_str b tb⟩
      | _ => simp [okq] at oe
    | bl a =>
      cases e with
      | non =>
        cases (show v = .bl a from hd); cases (show u = Value.bool a from rv)
        cases (show w = .non from he); cases (show u' = Value.none from rw')
        exact ⟨.bool_none a, .bool_none a⟩
      | bl b =>
        cases (show v = .bl a from hd); cases (show u = Value.bool a from rv)
        cases (show w = .bl b from he); cases (show u' = Value.bool b from rw')
        exact ⟨.bool_bool a b, .bool_bool a b⟩
      | int b =>
        cases (show v = .bl a from hd); cases (show u = Value.bool a from rv)
        cases (show w = .int b from he); obtain ⟨tb, eb⟩ := (show ∃ t, u' = Value.int b t from rw'); subst eb
        exact ⟨.bool_int a b tb, .bool_int a b tb⟩
      | str b =>
        cases (show v = .bl a from hd); cases (show u = Value.bool a from rv)
        cases (show w = .str b from he); obtain ⟨tb, eb⟩ := (show ∃ t, u' = Value.str b t from rw'); subst eb
        exact ⟨.bool_str a b tb, .bool_str a b tb⟩
      | _ => simp [okq] at oe
    | int a =>
      cases e with
      | non =>
        cases (show v = .int a from hd); obtain ⟨ta, ea⟩ := (show ∃ t, u = Value.int a t from rv); subst ea
        cases (show w = .non from he); cases (show u' = Value.none from rw')
        exact ⟨.int_none a ta, .int_none a ta⟩
      | bl b =>
        cases (show v = .int a from hd); obtain ⟨ta, ea⟩ := (show ∃ t, u = Value.int a t from rv); subst ea
        cases (show w = .bl b from he); cases (show u' = Value.bool b from rw')
        exact ⟨.int_bool a ta b, .int_bool a ta b⟩
      | int b =>
        cases (show v = .int a from hd); obtain ⟨ta, ea⟩ := (show ∃ t, u = Value.int a t from rv); subst ea
        cases (show w = .int b from he); obtain ⟨tb, eb⟩ := (show ∃ t, u' = Value.int b t from rw'); subst eb
        exact ⟨.int_int a ta b tb, .int_int a ta b tb⟩
      | str b =>
        cases (show v = .int a from hd); obtain ⟨ta, ea⟩ := (show ∃ t, u = Value.int a t from rv); subst ea
        cases (show w = .str b from he); obtain ⟨tb, eb⟩ := (show ∃ t, u' = Value.str b t from rw'); subst eb
        exact ⟨.int_str a ta b tb, .int_str a ta b tb⟩
      | _ => simp [okq] at oe
    | str a =>
      cases e with
      | non =>
        cases (show v = .str a from hd); obtain ⟨ta, ea⟩ := (show ∃ t, u = Value.str a t from rv); subst ea
        cases (show w = .non from he); cases (show u' = Value.none from rw')
        exact ⟨.str_none a ta, .str_none a ta⟩
      | bl b =>
        cases (show v = .str a from hd); obtain ⟨ta, ea⟩ := (show ∃ t, u = Value.str a t from rv); subst ea
        cases (show w = .bl b from he); cases (show u' = Value.bool b from rw')
        exact ⟨.str_bool a ta b, .str_bool a ta b⟩
      | int b =>
        cases (show v = .str a from hd); obtain ⟨ta, ea⟩ := (show ∃ t, u = Value.str a t from rv); subst ea
        cases (show w = .int b from he); obtain ⟨tb, eb⟩ := (show ∃ t, u' = Value.int b t from rw'); subst eb
        exact ⟨.str_int a ta b tb, .str_int a ta b tb⟩
      | str b =>
        cases (show v = .str a from hd); obtain ⟨ta, ea⟩ := (show ∃ t, u = Value.str a t from rv); subst ea
        cases (show w = .str b from he); obtain ⟨tb, eb⟩ := (show ∃ t, u' = Value.str b t from rw'); subst eb
        exact ⟨.str_str a ta b tb, .str_str a ta b tb⟩
      | _ => simp [okq] at oe
    | _ => simp [okq] at od
  | succ n ih =>
    intro d e A v w u u' od oe hd he rv rw' hu
    have hu0 : A.units < cLine := by omega
    have hu1 : A.in1.units + n + 1 < cLine := by show A.units + 1 + n + 1 < cLine; omega
    cases d with
    | tup ds =>
      obtain ⟨a, xs, e1, q1, r1⟩ := hd
      subst e1
      cases (show u = Value.ref a from rv)
      obtain ⟨its, va, p1, _⟩ := I.tuple q1
      cases e with
      | tup es =>
        obtain ⟨b, ys, e2, q2, r2⟩ := he
        subst e2
        cases (show u' = Value.ref b from rw')
        obtain ⟨its2, vb, p2, _⟩ := I.tuple q2
        have rc : SeqAt.RcAt A s (.ref a) (.ref b) (deq (.tup ds) (.tup es)) := by
          have go := SeqAt.RcAt.tuples (s := s) (A := A) (e := fun j => deq (ds.getD j .non) (es.getD j .non)) p1 p2 hu0 fun j h1 h2 => by
            obtain ⟨c, x, ec, eg, rx, lx⟩ := items_at r1 va (j := j) (by simpa using h1)
            obtain ⟨c', x', ec', eg', rx', lx'⟩ := items_at r2 vb (j := j) (by simpa using h2)
            rw [eg, eg']
            simp only [okq, List.all_eq_true] at od oe
            have o1 := od c (List.mem_of_getElem? ec)
            have o2 := oe c' (List.mem_of_getElem? ec')
            exact (ih c c' A.in1 x x' _ _ o1 o2 (rx.dr (okq_nr o1)) (rx'.dr (okq_nr o2)) (by simpa using lx) (by simpa using lx') hu1).1
          have l1 := va.length
          have l2 := vb.length
          have l3 := r1.length
          have l4 := r2.length
          have ee : deq (.tup ds) (.tup es) = ((List.range (min its.toArray.size its2.toArray.size)).all (fun j => deq (ds.getD j .non) (es.getD j .non)) && its.toArray.size == its2.toArray.size) := by
            rw [List.size_toArray, List.size_toArray, ← l1, ← l2, l3, l4]
            exact deqs_at ds es
          rw [ee]
          exact go
        refine ⟨?_, rc⟩
        by_cases hab : a = b
        · subst hab
          rw [← deq_same I (.tup ds) (.tup es) (n + 1) (n + 1) (.ref a) od oe ⟨a, xs, rfl, q1, r1⟩ ⟨a, ys, rfl, q2, r2⟩, deq_refl (n + 1) _ od]
          exact .same _
        · exact .of_refs hab rc
      | lst es =>
        obtain ⟨b, ys, e2, q2, r2⟩ := he
        subst e2
        cases (show u' = Value.ref b from rw')
        obtain ⟨its2, vb, p2, _⟩ := I.list (.inl (.inl q2))
        exact ⟨.tuple_list p1 p2.isList hu0, .tuple_list p1 p2.isList hu0⟩
      | non => cases (show w = .non from he); cases (show u' = Value.none from rw'); exact ⟨.tuple_none p1 hu0, .tuple_none p1 hu0⟩
      | bl b => cases (show w = .bl b from he); cases (show u' = Value.bool b from rw'); exact ⟨.tuple_bool b p1 hu0, .tuple_bool b p1 hu0⟩
      | int b => cases (show w = .int b from he); obtain ⟨t, e2⟩ := (show ∃ t, u' = Value.int b t from rw'); subst e2; exact ⟨.tuple_int b t p1 hu0, .tuple_int b t p1 hu0⟩
      | str b => cases (show w = .str b from he); obtain ⟨t, e2⟩ := (show ∃ t, u' = Value.str b t from rw'); subst e2; exact ⟨.tuple_str b t p1 hu0, .tuple_str b t p1 hu0⟩
      | _ => simp [okq] at oe
    | lst ds =>
      obtain ⟨a, xs, e1, q1, r1⟩ := hd
      subst e1
      cases (show u = Value.ref a from rv)
      obtain ⟨its, va, p1, _⟩ := I.list (.inl (.inl q1))
      cases e with
      | lst es =>
        obtain ⟨b, ys, e2, q2, r2⟩ := he
        subst e2
        cases (show u' = Value.ref b from rw')
        obtain ⟨its2, vb, p2, _⟩ := I.list (.inl (.inl q2))
        have l1 := va.length
        have l2 := vb.length
        have l3 := r1.length
        have l4 := r2.length
        have rc : SeqAt.RcAt A s (.ref a) (.ref b) (deq (.lst ds) (.lst es)) := by
          show SeqAt.RcAt A s (.ref a) (.ref b) (deqs ds es)
          rw [deqs_at]
          by_cases hl : ds.length = es.length
          · have go := SeqAt.RcAt.lists (s := s) (A := A) (e := fun j => deq (ds.getD j .non) (es.getD j .non)) p1.isList p2.isList (by simp only [List.size_toArray]; omega) hu0 fun j h1 h2 => by
              obtain ⟨c, x, ec, eg, rx, lx⟩ := items_at r1 va (j := j) (by simpa using h1)
              obtain ⟨c', x', ec', eg', rx', lx'⟩ := items_at r2 vb (j := j) (by simpa using h2)
              rw [eg, eg']
              simp only [okq, List.all_eq_true] at od oe
              have o1 := od c (List.mem_of_getElem? ec)
              have o2 := oe c' (List.mem_of_getElem? ec')
              exact (ih c c' A.in1 x x' _ _ o1 o2 (rx.dr (okq_nr o1)) (rx'.dr (okq_nr o2)) (by simpa using lx) (by simpa using lx') hu1).1
            rw [List.size_toArray] at go
            rw [← hl, Nat.min_self, ← l3, l1, beq_self_eq_true, Bool.and_true]
            exact go
          · have e0 : (ds.length == es.length) = false := beq_eq_false_iff_ne.mpr hl
            rw [e0, Bool.and_false]
            exact .lists_lengths p1.isList p2.isList (by simp only [List.size_toArray, bne_iff_ne, ne_eq]; omega) hu0
        refine ⟨?_, rc⟩
        by_cases hab : a = b
        · subst hab
          rw [← deq_same I (.lst ds) (.lst es) (n + 1) (n + 1) (.ref a) od oe ⟨a, xs, rfl, q1, r1⟩ ⟨a, ys, rfl, q2, r2⟩, deq_refl (n + 1) _ od]
          exact .same _
        · exact .of_refs hab rc
      | tup es =>
        obtain ⟨b, ys, e2, q2, r2⟩ := he
        subst e2
        cases (show u' = Value.ref b from rw')
        obtain ⟨its2, vb, p2, _⟩ := I.tuple q2
        exact ⟨.list_tuple p1.isList p2 hu0, .list_tuple p1.isList p2 hu0⟩
      | non => cases (show w = .non from he); cases (show u' = Value.none from rw'); exact ⟨.list_none p1.isList hu0, .list_none p1.isList hu0⟩
      | bl b => cases (show w = .bl b from he); cases (show u' = Value.bool b from rw'); exact ⟨.list_bool b p1.isList hu0, .list_bool b p1.isList hu0⟩
      | int b => cases (show w = .int b from he); obtain ⟨t, e2⟩ := (show ∃ t, u' = Value.int b t from rw'); subst e2; exact ⟨.list_int b t p1.isList hu0, .list_int b t p1.isList hu0⟩
      | str b => cases (show w = .str b from he); obtain ⟨t, e2⟩ := (show ∃ t, u' = Value.str b t from rw'); subst e2; exact ⟨.list_str b t p1.isList hu0, .list_str b t p1.isList hu0⟩
      | _ => simp [okq] at oe
    | dic _ => simp [okq] at od
    | obj _ _ => simp [okq] at od
    | ref _ => simp [okq] at od
    | glob _ => simp [okq] at od
    | scr _ => simp [okq] at od
    | non =>
      cases e with
      | tup es =>
        obtain ⟨b, ys, e2, q2, r2⟩ := he
        subst e2
        cases (show u' = Value.ref b from rw')
        obtain ⟨its2, vb, p2, _⟩ := I.tuple q2
        cases (show v = .non from hd); cases (show u = Value.none from rv)
        exact ⟨.none_tuple p2 hu0, .none_tuple p2 hu0⟩
      | lst es =>
        obtain ⟨b, ys, e2, q2, r2⟩ := he
        subst e2
        cases (show u' = Value.ref b from rw')
        obtain ⟨its2, vb, p2, _⟩ := I.list (.inl (.inl q2))
        cases (show v = .non from hd); cases (show u = Value.none from rv)
        exact ⟨.none_list p2.isList hu0, .none_list p2.isList hu0⟩
      | non => exact ih .non .non A v w u u' (by cases n <;> rfl) (by cases n <;> rfl) hd he rv rw' (by omega)
      | bl b => exact ih .non (.bl b) A v w u u' (by cases n <;> rfl) (by cases n <;> rfl) hd he rv rw' (by omega)
      | int b => exact ih .non (.int b) A v w u u' (by cases n <;> rfl) (by cases n <;> rfl) hd he rv rw' (by omega)
      | str b => exact ih .non (.str b) A v w u u' (by cases n <;> rfl) (by cases n <;> rfl) hd he rv rw' (by omega)
      | _ => simp [okq] at oe
    | bl a =>
      cases e with
      | tup es =>
        obtain ⟨b, ys, e2, q2, r2⟩ := he
        subst e2
        cases (show u' = Value.ref b from rw')
        obtain ⟨its2, vb, p2, _⟩ := I.tuple q2
        cases (show v = .bl a from hd); cases (show u = Value.bool a from rv)
        exact ⟨.bool_tuple a p2 hu0, .bool_tuple a p2 hu0⟩
      | lst es =>
        obtain ⟨b, ys, e2, q2, r2⟩ := he
        subst e2
        cases (show u' = Value.ref b from rw')
        obtain ⟨its2, vb, p2, _⟩ := I.list (.inl (.inl q2))
        cases (show v = .bl a from hd); cases (show u = Value.bool a from rv)
        exact ⟨.bool_list a p2.isList hu0, .bool_list a p2.isList hu0⟩
      | non => exact ih (.bl a) .non A v w u u' (by cases n <;> rfl) (by cases n <;> rfl) hd he rv rw' (by omega)
      | bl b => exact ih (.bl a) (.bl b) A v w u u' (by cases n <;> rfl) (by cases n <;> rfl) hd he rv rw' (by omega)
      | int b => exact ih (.bl a) (.int b) A v w u u' (by cases n <;> rfl) (by cases n <;> rfl) hd he rv rw' (by omega)
      | str b => exact ih (.bl a) (.str b) A v w u u' (by cases n <;> rfl) (by cases n <;> rfl) hd he rv rw' (by omega)
      | _ => simp [okq] at oe
    | int a =>
      cases e with
      | tup es =>
        obtain ⟨b, ys, e2, q2, r2⟩ := he
        subst e2
        cases (show u' = Value.ref b from rw')
        obtain ⟨its2, vb, p2, _⟩ := I.tuple q2
        cases (show v = .int a from hd); obtain ⟨t, e3⟩ := (show ∃ t, u = Value.int a t from rv); subst e3
        exact ⟨.int_tuple a t p2 hu0, .int_tuple a t p2 hu0⟩
      | lst es =>
        obtain ⟨b, ys, e2, q2, r2⟩ := he
        subst e2
        cases (show u' = Value.ref b from rw')
        obtain ⟨its2, vb, p2, _⟩ := I.list (.inl (.inl q2))
        cases (show v = .int a from hd); obtain ⟨t, e3⟩ := (show ∃ t, u = Value.int a t from rv); subst e3
        exact ⟨.int_list a t p2.isList hu0, .int_list a t p2.isList hu0⟩
      | non => exact ih (.int a) .non A v w u u' (by cases n <;> rfl) (by cases n <;> rfl) hd he rv rw' (by omega)
      | bl b => exact ih (.int a) (.bl b) A v w u u' (by cases n <;> rfl) (by cases n <;> rfl) hd he rv rw' (by omega)
      | int b => exact ih (.int a) (.int b) A v w u u' (by cases n <;> rfl) (by cases n <;> rfl) hd he rv rw' (by omega)
      | str b => exact ih (.int a) (.str b) A v w u u' (by cases n <;> rfl) (by cases n <;> rfl) hd he rv rw' (by omega)
      | _ => simp [okq] at oe
    | str a =>
      cases e with
      | tup es =>
        obtain ⟨b, ys, e2, q2, r2⟩ := he
        subst e2
        cases (show u' = Value.ref b from rw')
        obtain ⟨its2, vb, p2, _⟩ := I.tuple q2
        cases (show v = .str a from hd); obtain ⟨t, e3⟩ := (show ∃ t, u = Value.str a t from rv); subst e3
        exact ⟨.str_tuple a t p2 hu0, .str_tuple a t p2 hu0⟩
      | lst es =>
        obtain ⟨b, ys, e2, q2, r2⟩ := he
        subst e2
        cases (show u' = Value.ref b from rw')
        obtain ⟨its2, vb, p2, _⟩ := I.list (.inl (.inl q2))
        cases (show v = .str a from hd); obtain ⟨t, e3⟩ := (show ∃ t, u = Value.str a t from rv); subst e3
        exact ⟨.str_list a t p2.isList hu0, .str_list a t p2.isList hu0⟩
      | non => exact ih (.str a) .non A v w u u' (by cases n <;> rfl) (by cases n <;> rfl) hd he rv rw' (by omega)
      | bl b => exact ih (.str a) (.bl b) A v w u u' (by cases n <;> rfl) (by cases n <;> rfl) hd he rv rw' (by omega)
      | int b => exact ih (.str a) (.int b) A v w u u' (by cases n <;> rfl) (by cases n <;> rfl) hd he rv rw' (by omega)
      | str b => exact ih (.str a) (.str b) A v w u u' (by cases n <;> rfl) (by cases n <;> rfl) hd he rv rw' (by omega)
      | _ => simp [okq] at oe
theorem dne_at (I : Inv X pins σ H s) (n : Nat) (d e : D) (A : Around) (v w : V) (u u' : Value) (od : okq (n + 1) d = true) (oe : okq (n + 1) e = true) (hd : DR X.K H μ F d v) (he : DR X.K H μ F e w) (rv : RelV v u) (rw' : RelV w u') (hu : A.units + n + 2 < cLine) :
    SeqAt.RcNeAt A s u u' (!deq d e) := by
  have hu0 : A.units < cLine := by omega
  have hu1 : A.in1.units + n + 1 < cLine := by show A.units + 1 + n + 1 < cLine; omega
  cases d with
  | non =>
    cases e with
    | non =>
      cases (show v = .non from hd); cases (show u = Value.none from rv)
      cases (show w = .non from he); cases (show u' = Value.none from rw')
      exact .none_none
    | bl b =>
      cases (show v = .non from hd); cases (show u = Value.none from rv)
      cases (show w = .bl b from he); cases (show u' = Value.bool b from rw')
      exact .none_bool b
    | int b =>
      cases (show v = .non from hd); cases (show u = Value.none from rv)
      cases (show w = .int b from he); obtain ⟨tb, eb⟩ := (show ∃ t, u' = Value.int b t from rw'); subst eb
      exact .none_int b tb
    | str b =>
      cases (show v = .non from hd); cases (show u = Value.none from rv)
      cases (show w = .str b from he); obtain ⟨tb, eb⟩ := (show ∃ t, u' = Value.str b t from rw'); subst eb
      exact .none_str b tb
    | tup b =>
      cases (show v = .non from hd); cases (show u = Value.none from rv)
      obtain ⟨lb, xsb, zb, qb, rb⟩ := he
      subst zb
      cases (show u' = Value.ref lb from rw')
      obtain ⟨itsb, vab, pb, _⟩ := I.tuple qb
      exact .none_tuple pb hu0
    | lst b =>
      cases (show v = .non from hd); cases (show u = Value.none from rv)
      obtain ⟨lb, xsb, zb, qb, rb⟩ := he
      subst zb
      cases (show u' = Value.ref lb from rw')
      obtain ⟨itsb, vab, pb, _⟩ := I.list (.inl (.inl qb))
      exact .none_list pb.isList hu0
    | _ => simp [okq] at oe
  | bl a =>
    cases e with
    | non =>
      cases (show v = .bl a from hd); cases (show u = Value.bool a from rv)
      cases (show w = .non from he); cases (show u' = Value.none from rw')
      exact .bool_none a
    | bl b =>
      cases (show v = .bl a from hd); cases (show u = Value.bool a from rv)
      cases (show w = .bl b from he); cases (show u' = Value.bool b from rw')
      exact .bool_bool a b
    | int b =>
      cases (show v = .bl a from hd); cases (show u = Value.bool a from rv)
      cases (show w = .int b from he); obtain ⟨tb, eb⟩ := (show ∃ t, u' = Value.int b t from rw'); subst eb
      exact .bool_int a b tb
    | str b =>
      cases (show v = .bl a from hd); cases (show u = Value.bool a from rv)
      cases (show w = .str b from he); obtain ⟨tb, eb⟩ := (show ∃ t, u' = Value.str b t from rw'); subst eb
      exact .bool_str a b tb
    | tup b =>
      cases (show v = .bl a from hd); cases (show u = Value.bool a from rv)
      obtain ⟨lb, xsb, zb, qb, rb⟩ := he
      subst zb
      cases (show u' = Value.ref lb from rw')
      obtain ⟨itsb, vab, pb, _⟩ := I.tuple qb
      exact .bool_tuple a pb hu0
    | lst b =>
      cases (show v = .bl a from hd); cases (show u = Value.bool a from rv)
      obtain ⟨lb, xsb, zb, qb, rb⟩ := he
      subst zb
      cases (show u' = Value.ref lb from rw')
      obtain ⟨itsb, vab, pb, _⟩ := I.list (.inl (.inl qb))
      exact .bool_list a pb.isList hu0
    | _ => simp [okq] at oe
  | int a =>
    cases e with
    | non =>
      cases (show v = .int a from hd); obtain ⟨ta, ea⟩ := (show ∃ t, u = Value.int a t from rv); subst ea
      cases (show w = .non from he); cases (show u' = Value.none from rw')
      exact .int_none a ta
    | bl b =>
      cases (show v = .int a from hd); obtain ⟨ta, ea⟩ := (show ∃ t, u = Value.int a t from rv); subst ea
      cases (show w = .bl b from he); cases (show u' = Value.bool b from rw')
      exact .int_bool a ta b
    | int b =>
      cases (show v = .int a from hd); obtain ⟨ta, ea⟩ := (show ∃ t, u = Value.int a t from rv); subst ea
      cases (show w = .int b from he); obtain ⟨tb, eb⟩ := (show ∃ t, u' = Value.int b t from rw'); subst eb
      exact .int_int a ta b tb
    | str b =>
      cases (show v = .int a from hd); obtain ⟨ta, ea⟩ := (show ∃ t, u = Value.int a t from rv); subst ea
      cases (show w = .str b from he); obtain ⟨tb, eb⟩ := (show ∃ t, u' = Value.str b t from rw'); subst eb
      exact .int_str a ta b tb
    | tup b =>
      cases (show v = .int a from hd); obtain ⟨ta, ea⟩ := (show ∃ t, u = Value.int a t from rv); subst ea
      obtain ⟨lb, xsb, zb, qb, rb⟩ := he
      subst zb
      cases (show u' = Value.ref lb from rw')
      obtain ⟨itsb, vab, pb, _⟩ := I.tuple qb
      exact .int_tuple a ta pb hu0
    | lst b =>
      cases (show v = .int a from hd); obtain ⟨ta, ea⟩ := (show ∃ t, u = Value.int a t from rv); subst ea
      obtain ⟨lb, xsb, zb, qb, rb⟩ := he
      subst zb
      cases (show u' = Value.ref lb from rw')
      obtain ⟨itsb, vab, pb, _⟩ := I.list (.inl (.inl qb))
      exact .int_list a ta pb.isList hu0
    | _ => simp [okq] at oe
  | str a =>
    cases e with
    | non =>
      cases (show v = .str a from hd); obtain ⟨ta, ea⟩ := (show ∃ t, u = Value.str a t from rv); subst ea
      cases (show w = .non from he); cases (show u' = Value.none from rw')
      exact .str_none a ta
    | bl b =>
      cases (show v = .str a from hd); obtain ⟨ta, ea⟩ := (show ∃ t, u = Value.str a t from rv); subst ea
      cases (show w = .bl b from he); cases (show u' = Value.bool b from rw')
      exact .str_bool a ta b
    | int b =>
      cases (show v = .str a from hd); obtain ⟨ta, ea⟩ := (show ∃ t, u = Value.str a t from rv); subst ea
      cases (show w = .int b from he); obtain ⟨tb, eb⟩ := (show ∃ t, u' = Value.int b t from rw'); subst eb
      exact .str_int a ta b tb
    | str b =>
      cases (show v = .str a from hd); obtain ⟨ta, ea⟩ := (show ∃ t, u = Value.str a t from rv); subst ea
      cases (show w = .str b from he); obtain ⟨tb, eb⟩ := (show ∃ t, u' = Value.str b t from rw'); subst eb
      exact .str_str a ta b tb
    | tup b =>
      cases (show v = .str a from hd); obtain ⟨ta, ea⟩ := (show ∃ t, u = Value.str a t from rv); subst ea
      obtain ⟨lb, xsb, zb, qb, rb⟩ := he
      subst zb
      cases (show u' = Value.ref lb from rw')
      obtain ⟨itsb, vab, pb, _⟩ := I.tuple qb
      exact .str_tuple a ta pb hu0
    | lst b =>
      cases (show v = .str a from hd); obtain ⟨ta, ea⟩ := (show ∃ t, u = Value.str a t from rv); subst ea
      obtain ⟨lb, xsb, zb, qb, rb⟩ := he
      subst zb
      cases (show u' = Value.ref lb from rw')
      obtain ⟨itsb, vab, pb, _⟩ := I.list (.inl (.inl qb))
      exact .str_list a ta pb.isList hu0
    | _ => simp [okq] at oe
  | tup a =>
    cases e with
    | non =>
      obtain ⟨la, xsa, za, qa, ra⟩ := hd
      subst za
      cases (show u = Value.ref la from rv)
      obtain ⟨itsa, vaa, pa, _⟩ := I.tuple qa
      cases (show w = .non from he); cases (show u' = Value.none from rw')
      exact .tuple_none pa hu0
    | bl b =>
      obtain ⟨la, xsa, za, qa, ra⟩ := hd
      subst za
      cases (show u = Value.ref la from rv)
      obtain ⟨itsa, vaa, pa, _⟩ := I.tuple qa
      cases (show w = .bl b from he); cases (show u' = Value.bool b from rw')
      exact .tuple_bool b pa hu0
    | int b =>
      obtain ⟨la, xsa, za, qa, ra⟩ := hd
      subst za
      cases (show u = Value.ref la from rv)
      obtain ⟨itsa, vaa, pa, _⟩ := I.tuple qa
      cases (show w = .int b from he); obtain ⟨tb, eb⟩ := (show ∃ t, u' = Value.int b t from rw'); subst eb
      exact .tuple_int b tb pa hu0
    | str b =>
      obtain ⟨la, xsa, za, qa, ra⟩ := hd
      subst za
      cases (show u = Value.ref la from rv)
      obtain ⟨itsa, vaa, pa, _⟩ := I.tuple qa
      cases (show w = .str b from he); obtain ⟨tb, eb⟩ := (show ∃ t, u' = Value.str b t from rw'); subst eb
      exact .tuple_str b tb pa hu0
    | tup b =>
      obtain ⟨la, xsa, za, qa, ra⟩ := hd
      subst za
      cases (show u = Value.ref la from rv)
      obtain ⟨itsa, vaa, pa, _⟩ := I.tuple qa
      obtain ⟨lb, xsb, zb, qb, rb⟩ := he
      subst zb
      cases (show u' = Value.ref lb from rw')
      obtain ⟨itsb, vab, pb, _⟩ := I.tuple qb
      have l1 := vaa.length
      have l2 := vab.length
      have l3 := ra.length
      have l4 := rb.length
      have go := SeqAt.RcNeAt.tuples (s := s) (A := A) (e := fun j => deq (a.getD j .non) (b.getD j .non)) pa pb hu0 fun j h1 h2 => by
          obtain ⟨c, x, ec, eg, rx, lx⟩ := items_at ra vaa (j := j) (by simpa using h1)
          obtain ⟨c', x', ec', eg', rx', lx'⟩ := items_at rb vab (j := j) (by simpa using h2)
          rw [eg, eg']
          simp only [okq, List.all_eq_true] at od oe
          have o1 := od c (List.mem_of_getElem? ec)
          have o2 := oe c' (List.mem_of_getElem? ec')
          exact (deq_at I n c c' A.in1 x x' _ _ o1 o2 (rx.dr (okq_nr o1)) (rx'.dr (okq_nr o2)) (by simpa using lx) (by simpa using lx') hu1).1
      have ee : deq (.tup a) (.tup b) = ((List.range (min itsa.toArray.size itsb.toArray.size)).all (fun j => deq (a.getD j .non) (b.getD j .non)) && itsa.toArray.size == itsb.toArray.size) := by
        rw [List.size_toArray, List.size_toArray, ← l1, ← l2, l3, l4]
        exact deqs_at a b
      rw [ee]
      exact go
    | lst b =>
      obtain ⟨la, xsa, za, qa, ra⟩ := hd
      subst za
      cases (show u = Value.ref la from rv)
      obtain ⟨itsa, vaa, pa, _⟩ := I.tuple qa
      obtain ⟨lb, xsb, zb, qb, rb⟩ := he
      subst zb
      cases (show u' = Value.ref lb from rw')
      obtain ⟨itsb, vab, pb, _⟩ := I.list (.inl (.inl qb))
      exact .tuple_list pa pb.isList hu0
    | _ => simp [okq] at oe
  | lst a =>
    cases e with
    | non =>
      obtain ⟨la, xsa, za, qa, ra⟩ := hd
      subst za
      cases (show u = Value.ref la from rv)
      obtain ⟨itsa, vaa, pa, _⟩ := I.list (.inl (.inl qa))
      cases (show w = .non from he); cases (show u' = Value.none from rw')
      exact .list_none pa.isList hu0
    | bl b =>
      obtain ⟨la, xsa, za, qa, ra⟩ := hd
      subst za
      cases (show u = Value.ref la from rv)
      obtain ⟨itsa, vaa, pa, _⟩ := I.list (.inl (.inl qa))
      cases (show w = .bl b from he); cases (show u' = Value.bool b from rw')
      exact .list_bool b pa.isList hu0
    | int b =>
      obtain ⟨la, xsa, za, qa, ra⟩ := hd
      subst za
      cases (show u = Value.ref la from rv)
      obtain ⟨itsa, vaa, pa, _⟩ := I.list (.inl (.inl qa))
      cases (show w = .int b from he); obtain ⟨tb, eb⟩ := (show ∃ t, u' = Value.int b t from rw'); subst eb
      exact .list_int b tb pa.isList hu0
    | str b =>
      obtain ⟨la, xsa, za, qa, ra⟩ := hd
      subst za
      cases (show u = Value.ref la from rv)
      obtain ⟨itsa, vaa, pa, _⟩ := I.list (.inl (.inl qa))
      cases (show w = .str b from he); obtain ⟨tb, eb⟩ := (show ∃ t, u' = Value.str b t from rw'); subst eb
      exact .list_str b tb pa.isList hu0
    | tup b =>
      obtain ⟨la, xsa, za, qa, ra⟩ := hd
      subst za
      cases (show u = Value.ref la from rv)
      obtain ⟨itsa, vaa, pa, _⟩ := I.list (.inl (.inl qa))
      obtain ⟨lb, xsb, zb, qb, rb⟩ := he
      subst zb
      cases (show u' = Value.ref lb from rw')
      obtain ⟨itsb, vab, pb, _⟩ := I.tuple qb
      exact .list_tuple pa.isList pb hu0
    | lst b =>
      obtain ⟨la, xsa, za, qa, ra⟩ := hd
      subst za
      cases (show u = Value.ref la from rv)
      obtain ⟨itsa, vaa, pa, _⟩ := I.list (.inl (.inl qa))
      obtain ⟨lb, xsb, zb, qb, rb⟩ := he
      subst zb
      cases (show u' = Value.ref lb from rw')
      obtain ⟨itsb, vab, pb, _⟩ := I.list (.inl (.inl qb))
      have l1 := vaa.length
      have l2 := vab.length
      have l3 := ra.length
      have l4 := rb.length
      show SeqAt.RcNeAt A s (.ref la) (.ref lb) (!deqs a b)
      rw [deqs_at]
      by_cases hl : a.length = b.length
      · have go := SeqAt.RcNeAt.lists (s := s) (A := A) (e := fun j => deq (a.getD j .non) (b.getD j .non)) pa.isList pb.isList (by simp only [List.size_toArray]; omega) hu0 fun j h1 h2 => by
          obtain ⟨c, x, ec, eg, rx, lx⟩ := items_at ra vaa (j := j) (by simpa using h1)
          obtain ⟨c', x', ec', eg', rx', lx'⟩ := items_at rb vab (j := j) (by simpa using h2)
          rw [eg, eg']
          simp only [okq, List.all_eq_true] at od oe
          have o1 := od c (List.mem_of_getElem? ec)
          have o2 := oe c' (List.mem_of_getElem? ec')
          exact (deq_at I n c c' A.in1 x x' _ _ o1 o2 (rx.dr (okq_nr o1)) (rx'.dr (okq_nr o2)) (by simpa using lx) (by simpa using lx') hu1).1
        rw [List.size_toArray] at go
        rw [← hl, Nat.min_self, ← l3, l1, beq_self_eq_true, Bool.and_true]
        exact go
      · have e0 : (a.length == b.length) = false := beq_eq_false_iff_ne.mpr hl
        rw [e0, Bool.and_false]
        exact .lists_lengths pa.isList pb.isList (by simp only [List.size_toArray, bne_iff_ne, ne_eq]; omega) hu0
    | _ => simp [okq] at oe
  | _ => simp [okq] at od
end
end Dn
namespace Dn
open PySem PySem.Spec L2
open PyProof.Rows hiding St RelV
def isNon : D → Bool
  | .non => true
  | _ => false
section
variable {K : PySem.W.Frag} {H H' : Hp} {μ μ' : Mu} {F F' : Addr → Prop} {st : Store} {d e : D} {v x y : V}
theorem RS.newT (s : RS K H μ F st) {p : Addr} (n : H p = none) {ds : List D} {xs : List V} (r : RVs K H μ F ds xs) : RV K (upd H p (.tup xs)) μ F (.tup ds) (.ref p) := by
  unfold RV
  exact ⟨p, xs, rfl, .inl ⟨upd_same, s.fresh n⟩, RVs.kp (Fut.new n).kp0 r⟩
theorem RS.newL (s : RS K H μ F st) {p : Addr} (n : H p = none) {ds : List D} {xs : List V} (r : RVs K H μ F ds xs) : RV K (upd H p (.lst xs)) μ F (.lst ds) (.ref p) := by
  unfold RV
  exact ⟨p, xs, rfl, ⟨upd_same, s.fresh n⟩, RVs.kp (Fut.new n).kp0 r⟩
theorem RS.newD (s : RS K H μ F st) {p : Addr} (n : H p = none) {ds : List (D × D)} {xs : List (Key × V)} (r : RVd K H μ F ds xs) : RV K (upd H p (.dK xs)) μ F (.dic ds) (.ref p) := by
  unfold RV
  exact ⟨p, xs, rfl, ⟨.inl upd_same, s.fresh n⟩, RVd.kp (Fut.new n).kp0 r⟩
@[simp] theorem RV_non : RV K H μ F .non .non := by unfold RV; rfl
@[simp] theorem RV_bl (b : Bool) : RV K H μ F (.bl b) (.bl b) := by unfold RV; rfl
@[simp] theorem RV_int (b : Int) : RV K H μ F (.int b) (.int b) := by unfold RV; rfl
@[simp] theorem RV_str (b : Str) : RV K H μ F (.str b) (.str b) := by unfold RV; rfl
theorem DR.non_iff (h : DR K H μ F d v) : decide (v = .non) = isNon d := by
  cases d with
  | non => have h1 : v = .non := h; simp [h1, isNon]
  | bl b => have h1 : v = .bl b := h; simp [h1, isNon]
  | int b => have h1 : v = .int b := h; simp [h1, isNon]
  | str b => have h1 : v = .str b := h; simp [h1, isNon]
  | tup ds => obtain ⟨a, xs, e, _⟩ := h; simp [e, isNon]
  | lst ds => obtain ⟨a, xs, e, _⟩ := h; simp [e, isNon]
  | dic ds => obtain ⟨a, xs, e, _⟩ := h; simp [e, isNon]
  | obj C fs => obtain ⟨a, dx, xs, e, _⟩ := h; simp [e, isNon]
  | ref n => obtain ⟨a, e⟩ := h; simp [e, isNon]
  | glob x => have h1 : v = .ref (He.ga K x) := h; simp [h1, isNon]
  | scr ns => obtain ⟨a, e, _⟩ := h; simp [e, isNon]
/-- sequences read -/
theorem DR.seq {ds : List D} (h : DR K H μ F (.lst ds) v ∨ DR K H μ F (.tup ds) v) : ∃ a xs, v = .ref a ∧ (SqL K H a xs ∨ SqT K H a xs) ∧ RVs K H μ F ds xs := by
  rcases h with ⟨a, xs, e, q, r⟩ | ⟨a, xs, e, q, r⟩
  · exact ⟨a, xs, e, .inl (.inl (.inl q)), r⟩
  · exact ⟨a, xs, e, .inr q, r⟩
end
def eLoc (i : Nat) : E := fun ρ s => match ρ[i]? with
  | some (.pu d) => .ok d s
  | _ => .bad
def eRd (i : Nat) : E := fun ρ s => match ρ[i]? with
  | some (.pu d) => .ok d s
  | some (.ow _ d) => .ok d s
  | _ => .bad
def eC (d : D) : E := fun _ s => .ok d s
section
variable {X : Cx} {W : WX} {a b c : Expr} {ma mb mc : E} {pos : Pos} {i : Nat} {x : Str}
theorem se_loc (i : Nat) {x : Str} {pos : Pos} (hN : X.N[i]? = some x := by rfl) (hv : Vis X.env.scope x := by first | exact Or.inl rfl | exact Or.inr (Or.inl rfl) | exact Or.inr (Or.inr rfl)) (hd : (x == ("__debug__" : Str)) = false := by decide)
    (hcd : (x == ("__classdict__" : Str)) = false := by decide) : SE X W (.Name x pos) (eLoc i) := PE.of (pe_var hN hv hd hcd) fun σ H Q ⟨ρ, μ, F, G, st, a, q⟩ => by
  unfold eLoc at q
  split at q
  · rename_i d e
    obtain ⟨o, e1, v, e2, rv⟩ := a.l.at_ i _ e
    subst e2
    exact ⟨v, e1, q v H μ .refl a.s rv⟩
  · exact q.elim
theorem sr_rd (i : Nat) {x : Str} {pos : Pos} (hN : X.N[i]? = some x := by rfl) (hv : Vis X.env.scope x := by first | exact Or.inl rfl | exact Or.inr (Or.inl rfl) | exact Or.inr (Or.inr rfl)) (hd : (x == ("__debug__" : Str)) = false := by decide)
    (hcd : (x == ("__classdict__" : Str)) = false := by decide) : SR X W (.Name x pos) (eRd i) := PE.of (pe_var hN hv hd hcd) fun σ H Q ⟨ρ, μ, F, G, st, a, q⟩ => by
  unfold eRd at q
  split at q
  · rename_i d e
    obtain ⟨o, e1, v, e2, rv⟩ := a.l.at_ i _ e
    subst e2
    exact ⟨v, e1, q v H μ .refl a.s (.inl rv)⟩
  · rename_i _ d e
    obtain ⟨o, e1, b, e2, h0, h1, h2⟩ := a.l.at_ i _ e
    subst e2
    exact ⟨.ref b, e1, q _ H μ .refl a.s (.inr ⟨b, rfl, h1, h2⟩)⟩
  · exact q.elim
theorem se_int {n : Int} {j pos} : SE X W (.Constant (.int n) j pos) (eC (.int n)) := PE.of pe_int fun σ H Q ⟨ρ, μ, F, G, st, a, q⟩ => q _ H μ .refl a.s (RV_int n)
theorem se_bl {n : Bool} {j pos} : SE X W (.Constant (.bool n) j pos) (eC (.bl n)) := PE.of pe_bl fun σ H Q ⟨ρ, μ, F, G, st, a, q⟩ => q _ H μ .refl a.s (RV_bl n)
theorem se_non {j pos} : SE X W (.Constant .none j pos) (eC .non) := PE.of pe_non fun σ H Q ⟨ρ, μ, F, G, st, a, q⟩ => q _ H μ .refl a.s RV_non
theorem se_str {n : Str} {j pos} : SE X W (.Constant (.str n) j pos) (eC (.str n)) := PE.of pe_str fun σ H Q ⟨ρ, μ, F, G, st, a, q⟩ => q _ H μ .refl a.s (RV_str n)
/-- a module's name that stands for d -/
def Gv (K : PySem.W.Frag) (mg : Str → Option Value) (x : Str) (d : D) : Prop := ∃ u v, mg x = some u ∧ RelV v u ∧ ∀ H μ F, RV K H μ F d v
theorem se_glob {d : D} (hg : Gl X x) (h : Gv X.K X.mg x d) (hd : (x == ("__debug__" : Str)) = false := by decide) : SE X W (.Name x pos) (eC d) := by
  obtain ⟨u, v, hm, r, hv⟩ := h
  exact PE.of (pe_glob hg hm r hd) fun σ H Q ⟨ρ, μ, F, G, st, a, q⟩ => q _ H μ .refl a.s (hv H μ F)
def line : Nat := 16777216
def binop : Operator → D → D → Option D
  | .Add, .int i, .int j => some (.int (i + j))
  | .Add, .str i, .str j => if i.length + j.length ≤ line then some (.str (i ++ j)) else none
  | .Add, .lst ds, .lst es => if ds.length + es.length ≤ line then some (.lst (ds ++ es)) else none
  | .Add, .tup ds, .tup es => if ds.length + es.length ≤ line then some (.tup (ds ++ es)) else none
  | .Sub, .int i, .int j => some (.int (i - j))
  | .Mult, .int i, .int j => if i.natAbs.log2 + j.natAbs.log2 < 1000000 then some (.int (i * j)) else none
  | .Mult, .lst ds, .int k => if -(2 ^ 63) ≤ k ∧ k < 2 ^ 63 ∧ ds.length * k.toNat ≤ line then some (.lst (List.replicate k.toNat ds).flatten) else none
  | .FloorDiv, .int i, .int j => if 0 < j ∧ j.natAbs.log2 < 9000 then some (.int (i / j)) else none
  | .Mod, .int i, .int j => if 0 < j then some (.int (i % j)) else none
  | .Pow, .int i, .int j => if 0 ≤ j ∧ j ≤ 1000000 ∧ i.natAbs < 2 ^ 64 then some (.int (i ^ j.toNat)) else none
  | .LShift, .int i, .int j => if 0 ≤ j ∧ j ≤ 1000000 ∧ i.natAbs < 2 ^ 64 then some (.int (i * 2 ^ j.toNat)) else none
  | .BitAnd, .int i, .int j => some (.int (Builtin.bitAnd i j))
  | _, _, _ => none
/-- f answers by g -/
def V2 (X : Cx) (f : Value → Value → Sem Value) (g : D → D → Option D) : Prop := OpR X f fun x y H Q =>
  ∃ μ F st d e r, RS X.K H μ F st ∧ RD X.K H μ F d x ∧ RD X.K H μ F e y ∧ g (der st d) (der st e) = some r ∧ ∀ v H' μ', Fut H μ H' μ' → RS X.K H' μ' F st → RV X.K H' μ' F r v → Q v H'
theorem OkG.some {α β : Type} {P : Hp → Mu → α → β → Prop} {K : PySem.W.Frag} {F : Addr → Prop} {σ : St} {H : Hp} {μ : Mu} {o : Option α} {s : Store} {Q : β → Hp → Prop} (h : OkG P K W F σ H μ (Res.of o s) Q) :
    ∃ r, o = some r ∧ ∀ v H' μ', Fut H μ H' μ' → RS K H' μ' F s → P H' μ' r v → Q v H' := by
  cases o with
  | none => exact h.elim
  | some r => exact ⟨r, rfl, h⟩
theorem flat_rep {K : PySem.W.Frag} {H : Hp} {μ : Mu} {F : Addr → Prop} {ds : List D} {xs : List V} (r : RVs K H μ F ds xs) : ∀ n, RVs K H μ F (List.replicate n ds).flatten (List.replicate n xs).flatten
  | 0 => RVs.nil
  | n + 1 => by
    rw [List.replicate_succ, List.replicate_succ, List.flatten_cons, List.flatten_cons]
    exact r.append (flat_rep r n)
theorem RD.tup {K : PySem.W.Frag} {H : Hp} {μ : Mu} {F : Addr → Prop} {st : Store} {d : D} {ds : List D} {v : V} (s : RS K H μ F st) (h : RD K H μ F d v) (e : der st d = .tup ds) : RV K H μ F (.tup ds) v := by
  cases d with
  | ref n =>
    rcases h with h | ⟨a, _, _, h⟩
    · unfold RV at h
      obtain ⟨a, _, q⟩ := h
      have hn : n < st.length := by rw [← s.len]; exact (List.getElem?_eq_some_iff.mp q).1
      obtain ⟨b, q2, c⟩ := s.at_ n st[n] (List.getElem?_eq_getElem hn)
      have e2 : hid n ((st[n]?).getD (.ref n)) = .tup ds := e
      rw [List.getElem?_eq_getElem hn] at e2
      have e3 : hid n st[n] = .tup ds := e2
      rcases c with c | ⟨c, _⟩ | ⟨kvs, xs, q3, c, _⟩
      · generalize st[n] = z at c e3
        cases z <;> first | exact c.elim | cases e3
      · rw [c] at e3
        cases e3
      · rw [c] at e3
        cases e3
    · exact h.elim
  | tup es =>
    have e2 : D.tup es = .tup ds := e
    rw [← e2]
    rcases h with h | ⟨a, _, _, h⟩
    · exact h
    · exact h.elim
  | _ => cases e
theorem line_eq : sizeLine = line := sizeLine_eq
theorem binop_ok (op : Operator) : V2 X (binaryOp op) (binop op) := by
  intro pins s σ H x y v u Q I rx ry h
  obtain ⟨μ, F, st, d, e, r, rs, hd, he, hg, q⟩ := h
  have hd0 := hd
  have he0 := he
  replace hd := hd.dr rs
  replace he := he.dr rs
  generalize e1 : der st d = d' at hg hd
  generalize e2 : der st e = e' at hg he
  unfold binop at hg
  split at hg
  · cases hg; exact op_add pins s σ H x y v u Q I rx ry ⟨_, _, hd, he, q _ H μ .refl rs (RV_int _)⟩
  · split at hg
    · rename_i hl
      cases hg
      exact op_add_str pins s σ H x y v u Q I rx ry ⟨_, _, hd, he, (by rw [line_eq]; exact hl), q _ H μ .refl rs (RV_str _)⟩
    · cases hg
  · split at hg
    · rename_i hl
      cases hg
      obtain ⟨a, xs, e1, q1, r1⟩ := hd
      obtain ⟨b, ys, e2, q2, r2⟩ := he
      exact op_cat pins s σ H x y v u Q I rx ry ⟨a, b, xs, ys, e1, e2, q1, q2, (by rw [line_eq, r1.length, r2.length]; exact hl), fun p hp => q _ _ μ (.new hp) (rs.new hp) (rs.newL hp (r1.append r2))⟩
    · cases hg
  · split at hg
    · rename_i hl
      cases hg
      rename_i ds es
      obtain ⟨a, xs, e1, q1, r1⟩ := hd
      obtain ⟨b, ys, e2, q2, r2⟩ := he
      have hd1 := hd0.tup rs ‹_›
      have he1 := he0.tup rs ‹_›
      refine op_catA pins s σ H x y v u Q I rx ry ⟨a, b, xs, ys, e1, e2, q1, q2, (by rw [line_eq, r1.length, r2.length]; exact hl), fun z => ?_, fun _ z => ?_, fun _ _ p hp => q _ _ μ (.new hp) (rs.new hp) (rs.newT hp (r1.append r2))⟩
      · have l := r1.length
        rw [z, List.length_nil] at l
        rw [List.eq_nil_of_length_eq_zero l.symm, List.nil_append] at q
        rw [e2] at he1
        exact q _ H μ .refl rs he1
      · have l := r2.length
        rw [z, List.length_nil] at l
        rw [List.eq_nil_of_length_eq_zero l.symm, List.append_nil] at q
        rw [e1] at hd1
        exact q _ H μ .refl rs hd1
    · cases hg
  · cases hg; exact op_sub pins s σ H x y v u Q I rx ry ⟨_, _, hd, he, q _ H μ .refl rs (RV_int _)⟩
  · split at hg
    · rename_i hl; cases hg; exact op_mulW pins s σ H x y v u Q I rx ry ⟨_, _, hd, he, hl, q _ H μ .refl rs (RV_int _)⟩
    · cases hg
  · split at hg
    · rename_i hl
      cases hg
      obtain ⟨a, xs, e1, q1, r1⟩ := hd
      exact op_rep pins s σ H x y v u Q I rx ry ⟨a, _, xs, e1, he, q1, hl.1, hl.2.1, (by rw [line_eq, r1.length]; exact hl.2.2), fun p hp => q _ _ μ (.new hp) (rs.new hp) (rs.newL hp (flat_rep r1 _))⟩
    · cases hg
  · split at hg
    · rename_i hl; cases hg; exact op_fdivW pins s σ H x y v u Q I rx ry ⟨_, _, hd, he, hl, q _ H μ .refl rs (RV_int _)⟩
    · cases hg
  · split at hg
    · rename_i hl; cases hg; exact op_mod pins s σ H x y v u Q I rx ry ⟨_, _, hd, he, hl, q _ H μ .refl rs (RV_int _)⟩
    · cases hg
  · split at hg
    · rename_i hl; cases hg; exact op_pow pins s σ H x y v u Q I rx ry ⟨_, _, hd, he, hl, q _ H μ .refl rs (RV_int _)⟩
    · cases hg
  · split at hg
    · rename_i hl; cases hg; exact op_shl pins s σ H x y v u Q I rx ry ⟨_, _, hd, he, hl, q _ H μ .refl rs (RV_int _)⟩
    · cases hg
  · cases hg; exact op_and pins s σ H x y v u Q I rx ry ⟨_, _, hd, he, q _ H μ .refl rs (RV_int _)⟩
  · cases hg
def strIn (i j : Str) : Option Bool := if i.length = 1 then some (j.cps.toList.contains (i.cps.getD 0 0)) else none
def cmpop : CmpOp → D → D → Option D
  | .Eq, d, e => if okq 60 d && okq 60 e then some (.bl (deq d e)) else none
  | .NotEq, d, e => if okq 60 d && okq 60 e then some (.bl (!deq d e)) else none
  | .Lt, .int i, .int j => some (.bl (decide (i < j)))
  | .LtE, .int i, .int j => some (.bl (decide (i ≤ j)))
  | .Gt, .int i, .int j => some (.bl (decide (j < i)))
  | .GtE, .int i, .int j => some (.bl (decide (j ≤ i)))
  | .Is, d, .non => some (.bl (isNon d))
  | .IsNot, d, .non => some (.bl (!isNon d))
  | .Is, .bl a, .bl b => some (.bl (decide (a = b)))
  | .Is, .non, .bl _ => some (.bl false)
  | .IsNot, .bl a, .bl b => some (.bl (!decide (a = b)))
  | .IsNot, .non, .bl _ => some (.bl true)
  | .In, x, .lst ds => if okq 60 x && ds.all (okq 60) then some (.bl (ds.any fun y => deq y x)) else none
  | .In, x, .tup ds => if okq 60 x && ds.all (okq 60) then some (.bl (ds.any fun y => deq y x)) else none
  | .NotIn, x, .lst ds => if okq 60 x && ds.all (okq 60) then some (.bl (!ds.any fun y => deq y x)) else none
  | .NotIn, x, .tup ds => if okq 60 x && ds.all (okq 60) then some (.bl (!ds.any fun y => deq y x)) else none
  | .In, .str i, .str j => (strIn i j).map fun b => .bl b
  | .NotIn, .str i, .str j => (strIn i j).map fun b => .bl (!b)
  | _, _, _ => none
open Classical in
noncomputable def eqf (X : Cx) (H : Hp) (μ : Mu) (F : Addr → Prop) (x : D) (w : Value) : Bool := if ∃ d v, RV X.K H μ F d v ∧ okq 60 d = true ∧ RelV v w ∧ deq d x = true then true else false
theorem eqf_at {pins : List (Addr × Obj)} {σ : St} {H : Hp} {s : Shared} {μ : Mu} {F : Addr → Prop} (I : Inv X pins σ H s) {x d : D} {v : V} {w : Value} (rv : RV X.K H μ F d v) (ok : okq 60 d = true) (r : RelV v w) : eqf X H μ F x w = deq d x := by
  unfold eqf
  by_cases h : deq d x = true
  · rw [if_pos ⟨d, v, rv, ok, r, h⟩, h]
  · rw [if_neg, Bool.eq_false_iff.mpr h]
    rintro ⟨d', v', rv', ok', r', h'⟩
    have e : v' = v := r'.inj r
    subst e
    exact h (by rw [deq_same I d d' 60 60 v' ok ok' (rv.dr (okq_nr ok)) (rv'.dr (okq_nr ok'))]; exact h')
theorem any_deq {pins : List (Addr × Obj)} {σ : St} {H : Hp} {s : Shared} {μ : Mu} {F : Addr → Prop} (I : Inv X pins σ H s) {x : D} : ∀ {ds : List D} {xs : List V} {its : List Value}, ds.all (okq 60) = true → RVs X.K H μ F ds xs → Vals xs its →
    its.any (eqf X H μ F x) = ds.any fun y => deq y x
  | [], xs, its, _, r, q => by
    unfold RVs at r
    subst r
    cases q
    rfl
  | d :: ds, xs, its, ok, r, q => by
    unfold RVs at r
    obtain ⟨y, ys, e, h1, h2⟩ := r
    subst e
    rw [List.all_cons, Bool.and_eq_true] at ok
    cases q with
    | cons q1 q2 => rw [List.any_cons, List.any_cons, eqf_at I h1 ok.1 q1, any_deq I ok.2 h2 q2]
theorem mem_deq {pins : List (Addr × Obj)} {σ : St} {H : Hp} {s : Shared} {μ : Mu} {F : Addr → Prop} (I : Inv X pins σ H s) (hu : X.A.units + 64 < cLine) {x : D} {vx : V} {ux : Value} (ox : okq 60 x = true) (hx : DR X.K H μ F x vx) (rx : RelV vx ux) :
    ∀ {ds : List D} {xs : List V} {its : List Value}, ds.all (okq 60) = true → RVs X.K H μ F ds xs → Vals xs its → ∀ w ∈ its, SeqAt.EqAt X.A.in1 s w ux (eqf X H μ F x w)
  | [], xs, its, _, r, q, w, hw => by
    unfold RVs at r
    subst r
    cases q
    cases hw
  | d :: ds, xs, its, ok, r, q, w, hw => by
    unfold RVs at r
    obtain ⟨y, ys, e, h1, h2⟩ := r
    subst e
    rw [List.all_cons, Bool.and_eq_true] at ok
    cases q with
    | cons q1 q2 =>
      rcases List.mem_cons.mp hw with rfl | hw
      · rw [eqf_at I h1 ok.1 q1]
        exact (deq_at I 60 d x X.A.in1 y vx _ ux ok.1 ox (h1.dr (okq_nr ok.1)) hx q1 rx (by show X.A.units + 1 + 60 + 1 < cLine; omega)).1
      · exact mem_deq I hu ox hx rx ok.2 h2 q2 w hw
theorem in_ok {pins : List (Addr × Obj)} {σ : St} {H : Hp} {s : Shared} {μ : Mu} {F : Addr → Prop} {Q : Value → Shared → Prop} {E : Value → Shared → Prop} (I : Inv X pins σ H s) (hu : X.A.units + 64 < cLine) {x e : D} {ds : List D} {vx vy : V} {ux uy : Value} (he : e = .lst ds ∨ e = .tup ds)
    (ox : okq 60 x = true) (hx : DR X.K H μ F x vx) (rx : RelV vx ux) (od : ds.all (okq 60) = true) (hy : DR X.K H μ F e vy) (ry : RelV vy uy) :
    (Q (.bool (ds.any fun y => deq y x)) s → wpAny (model X.prog X.w) X.A (compareOp .In ux uy) Q E s) ∧ (Q (.bool (!ds.any fun y => deq y x)) s → wpAny (model X.prog X.w) X.A (compareOp .NotIn ux uy) Q E s) := by
  rcases he with rfl | rfl
  · obtain ⟨a, xs, e1, q1, r1⟩ := hy
    subst e1
    cases (show uy = Value.ref a from ry)
    obtain ⟨its, va, p1, _⟩ := I.list (.inl (.inl q1))
    have ha : its.toArray.any (eqf X H μ F x) = ds.any fun y => deq y x := by
      rw [show its.toArray.any (eqf X H μ F x) = its.any (eqf X H μ F x) by simp, any_deq I od r1 va]
    exact ⟨fun q => SeqAt.in_listAt (eqf X H μ F x) p1.isList (fun w hw => mem_deq I hu ox hx rx od r1 va w (by simpa using hw)) (by rw [ha]; exact q),
      fun q => SeqAt.notIn_listAt (eqf X H μ F x) p1.isList (fun w hw => mem_deq I hu ox hx rx od r1 va w (by simpa using hw)) (by rw [ha]; exact q)⟩
  · obtain ⟨a, xs, e1, q1, r1⟩ := hy
    subst e1
    cases (show uy = Value.ref a from ry)
    obtain ⟨its, va, p1, _⟩ := I.tuple q1
    have ha : its.toArray.any (eqf X H μ F x) = ds.any fun y => deq y x := by
      rw [show its.toArray.any (eqf X H μ F x) = its.any (eqf X H μ F x) by simp, any_deq I od r1 va]
    exact ⟨fun q => SeqAt.in_tupleAt (eqf X H μ F x) p1 (fun w hw => mem_deq I hu ox hx rx od r1 va w (by simpa using hw)) (by rw [ha]; exact q),
      fun q => SeqAt.notIn_tupleAt (eqf X H μ F x) p1 (fun w hw => mem_deq I hu ox hx rx od r1 va w (by simpa using hw)) (by rw [ha]; exact q)⟩
theorem str_one {i : Str} (h : i.length = 1) : i = ⟨#[i.cps.getD 0 0]⟩ := by
  obtain ⟨a⟩ := i
  have h1 : a.size = 1 := h
  congr 1
  apply Array.ext
  · simp [h1, isNon]
  · intro k hk _
    have : k = 0 := by omega
    subst this
    simp [Array.getD, h1]
theorem cmpop_ok (hu : X.A.units + 64 < cLine) (op : CmpOp) : V2 X (compareOp op) (cmpop op) := by
  intro pins s σ H x y v u Q I rx ry h
  obtain ⟨μ, F, st, d, e, r, rs, hd, he, hg, q⟩ := h
  replace hd := hd.dr rs
  replace he := he.dr rs
  generalize der st d = d at hg hd
  generalize der st e = e at hg he
  have fin : ∀ {b : Bool}, r = .bl b → EP X pins σ Q (.bool b) s := fun {b} z => ⟨.bl b, H, I, rfl, by subst z; exact q _ H μ .refl rs (RV_bl b)⟩
  unfold cmpop at hg
  split at hg
  · split at hg
    · rename_i hc
      rw [Bool.and_eq_true] at hc
      cases hg
      exact (deq_at I 60 d e X.A x y v u hc.1 hc.2 hd he rx ry (by omega)).2 _ _ _ _ (fin rfl)
    · cases hg
  · split at hg
    · rename_i hc
      rw [Bool.and_eq_true] at hc
      cases hg
      exact dne_at I 59 d e X.A x y v u hc.1 hc.2 hd he rx ry (by omega) _ _ _ _ (fin rfl)
    · cases hg
  · cases hg; exact op_lt pins s σ H x y v u Q I rx ry ⟨_, _, hd, he, q _ H μ .refl rs (RV_bl _)⟩
  · cases hg; exact op_le pins s σ H x y v u Q I rx ry ⟨_, _, hd, he, q _ H μ .refl rs (RV_bl _)⟩
  · cases hg; exact op_gt pins s σ H x y v u Q I rx ry ⟨_, _, hd, he, q _ H μ .refl rs (RV_bl _)⟩
  · cases hg; exact op_ge pins s σ H x y v u Q I rx ry ⟨_, _, hd, he, q _ H μ .refl rs (RV_bl _)⟩
  · cases hg
    have z := hd.non_iff
    refine op_isN pins s σ H x y v u Q I rx ry ⟨he, ?_⟩
    rw [z]
    exact q _ H μ .refl rs (RV_bl _)
  · cases hg
    have z := hd.non_iff
    refine op_notN pins s σ H x y v u Q I rx ry ⟨he, ?_⟩
    rw [z]
    exact q _ H μ .refl rs (RV_bl _)
  · cases hg; exact op_isBl pins s σ H x y v u Q I rx ry ⟨_, _, hd, he, q _ H μ .refl rs (RV_bl _)⟩
  · cases hg
    cases (show x = .non from hd)
    cases (show y = .bl _ from he)
    cases (show v = Value.none from rx)
    cases (show u = Value.bool _ from ry)
    exact wpAny_is_other rfl (fun z => by cases z) (fin rfl)
  · cases hg; exact op_notBl pins s σ H x y v u Q I rx ry ⟨_, _, hd, he, q _ H μ .refl rs (RV_bl _)⟩
  · cases hg
    cases (show x = .non from hd)
    cases (show y = .bl _ from he)
    cases (show v = Value.none from rx)
    cases (show u = Value.bool _ from ry)
    exact wpAny_isNot_other rfl (fun z => by cases z) (fin rfl)
  · split at hg
    · rename_i hc
      rw [Bool.and_eq_true] at hc
      cases hg
      exact (in_ok I hu (.inl rfl) hc.1 hd rx hc.2 he ry).1 (fin rfl)
    · cases hg
  · split at hg
    · rename_i hc
      rw [Bool.and_eq_true] at hc
      cases hg
      exact (in_ok I hu (.inr rfl) hc.1 hd rx hc.2 he ry).1 (fin rfl)
    · cases hg
  · split at hg
    · rename_i hc
      rw [Bool.and_eq_true] at hc
      cases hg
      exact (in_ok I hu (.inl rfl) hc.1 hd rx hc.2 he ry).2 (fin rfl)
    · cases hg
  · split at hg
    · rename_i hc
      rw [Bool.and_eq_true] at hc
      cases hg
      exact (in_ok I hu (.inr rfl) hc.1 hd rx hc.2 he ry).2 (fin rfl)
    · cases hg
  · rename_i i j
    unfold strIn at hg
    split at hg
    · rename_i hl
      cases hg
      have hd' : x = .str ⟨#[i.cps.getD 0 0]⟩ := by rw [← str_one hl]; exact hd
      refine op_in_sign pins s σ H x y v u Q I rx ry ⟨_, _, hd', he, ?_⟩
      have e : decide (i.cps.getD 0 0 ∈ j.cps.toList) = j.cps.toList.contains (i.cps.getD 0 0) := by rw [List.contains_eq_mem]
      rw [e]
      exact q _ H μ .refl rs (RV_bl _)
    · cases hg
  · rename_i i j
    unfold strIn at hg
    split at hg
    · rename_i hl
      cases hg
      have hd' : x = .str ⟨#[i.cps.getD 0 0]⟩ := by rw [← str_one hl]; exact hd
      refine op_notIn_sign pins s σ H x y v u Q I rx ry ⟨_, _, hd', he, ?_⟩
      have e : decide (i.cps.getD 0 0 ∈ j.cps.toList) = j.cps.toList.contains (i.cps.getD 0 0) := by rw [List.contains_eq_mem]
      rw [e]
      exact q _ H μ .refl rs (RV_bl _)
    · cases hg
  · cases hg
end
end Dn
namespace Dn
open PySem PySem.Spec L2
open PyProof.Rows hiding St RelV
def dkey : D → Option Key
  | .int i => some (.inl i)
  | .str x => some (.inr x)
  | _ => none
def dgetK (q : Key) : List (D × D) → Option D
  | [] => none
  | (k, d) :: r => if dkey k = some q then some d else dgetK q r
def dhasK (q : Key) (kvs : List (D × D)) : Bool := kvs.any fun kv => decide (dkey kv.1 = some q)
def dputK (k : D) (q : Key) (v : D) (kvs : List (D × D)) : List (D × D) := if dhasK q kvs = true then kvs.map (fun kv => if dkey kv.1 = some q then (kv.1, v) else kv) else kvs ++ [(k, v)]
def dget (kvs : List (D × D)) (k : D) : Option (Option D) := (dkey k).map fun q => dgetK q kvs
section
variable {K : PySem.W.Frag} {H H' : Hp} {μ μ' : Mu} {F F' : Addr → Prop} {st : Store} {d e k : D} {v x y : V} {q : Key}
theorem RV_key (h : RV K H μ F k (kV q)) : dkey k = some q := by
  cases k <;> unfold RV at h
  case non => cases q <;> cases h
  case bl b => cases q <;> cases h
  case int i => cases q <;> cases h; rfl
  case str i => cases q <;> cases h; rfl
  case tup ds => obtain ⟨a, xs, e, _⟩ := h; cases q <;> cases e
  case lst ds => obtain ⟨a, xs, e, _⟩ := h; cases q <;> cases e
  case dic ds => obtain ⟨a, xs, e, _⟩ := h; cases q <;> cases e
  case obj C fs => obtain ⟨a, dx, xs, e, _⟩ := h; cases q <;> cases e
  case ref n => obtain ⟨a, e, _⟩ := h; cases q <;> cases e
  case glob x => cases q <;> cases h
  case scr ns => obtain ⟨a, e, _⟩ := h; cases q <;> cases e
theorem DR_key (h : DR K H μ F k v) (hq : dkey k = some q) : v = kV q := by
  cases k with
  | int i => cases hq; exact h
  | str i => cases hq; exact h
  | _ => cases hq
theorem RVd.get : ∀ {kvs : List (D × D)} {xs : List (Key × V)}, RVd K H μ F kvs xs → (∀ d, dgetK q kvs = some d → ∃ v, valV xs q = some v ∧ RV K H μ F d v) ∧ (dgetK q kvs = none → valV xs q = none)
  | [], xs, h => by
    unfold RVd at h
    subst h
    exact ⟨fun d e => (by cases e), fun _ => rfl⟩
  | (k, c) :: r, xs, h => by
    unfold RVd at h
    obtain ⟨q', y, ys, e, h1, h2, h3⟩ := h
    subst e
    have hk := RV_key h1
    obtain ⟨i1, i2⟩ := RVd.get h3
    by_cases z : q' = q
    · subst z
      refine ⟨fun d e => ?_, fun e => ?_⟩
      · unfold dgetK at e
        rw [if_pos hk] at e
        cases e
        exact ⟨y, valV_pos rfl, h2⟩
      · unfold dgetK at e
        rw [if_pos hk] at e
        cases e
    · have z2 : ¬ dkey k = some q := by rw [hk]; exact fun w => z (Option.some.inj w)
      refine ⟨fun d e => ?_, fun e => ?_⟩
      · unfold dgetK at e
        rw [if_neg z2] at e
        obtain ⟨w, e1, e2⟩ := i1 d e
        exact ⟨w, (valV_neg z).trans e1, e2⟩
      · unfold dgetK at e
        rw [if_neg z2] at e
        exact (valV_neg z).trans (i2 e)
theorem RVd.length : ∀ {kvs : List (D × D)} {xs : List (Key × V)}, RVd K H μ F kvs xs → xs.length = kvs.length
  | [], xs, h => by
    unfold RVd at h
    subst h
    rfl
  | (k, c) :: r, xs, h => by
    unfold RVd at h
    obtain ⟨q', y, ys, e, h1, h2, h3⟩ := h
    subst e
    rw [List.length_cons, List.length_cons, RVd.length h3]
theorem RVd.nil : RVd K H μ F [] [] := by unfold RVd; rfl
theorem RVd.cons {kvs : List (D × D)} {xs : List (Key × V)} (hk : RV K H μ F k (kV q)) (hv : RV K H μ F d v) (r : RVd K H μ F kvs xs) : RVd K H μ F ((k, d) :: kvs) ((q, v) :: xs) := by
  unfold RVd; exact ⟨q, v, xs, rfl, hk, hv, r⟩
theorem RVd.dget {kvs : List (D × D)} {xs : List (Key × V)} (r : RVd K H μ F kvs xs) {a : Addr} (hr : Rd H a (.dK xs)) (hk : DR K H μ F k y) {o : Option D} (ho : Dn.dget kvs k = some o) :
    ∃ ov : Option V, DGet H a y ov ∧ (∀ d, o = some d → ∃ v, ov = some v ∧ RV K H μ F d v) ∧ (o = none → ov = none) := by
  unfold Dn.dget at ho
  cases hq : dkey k with
  | none => rw [hq] at ho; cases ho
  | some q =>
    rw [hq] at ho
    have ho2 : dgetK q kvs = o := Option.some.inj ho
    subst ho2
    obtain ⟨i1, i2⟩ := RVd.get (q := q) r
    have hy := DR_key hk hq
    subst hy
    exact ⟨valV xs q, .inl ⟨xs, q, hr, rfl, rfl⟩, i1, i2⟩
end
section
variable {X : Cx} {W : WX} {a b c : Expr} {ma mb mc : E} {pos : Pos} {i : Nat} {x : Str}
def cmpD : CmpOp → D → D → Option D
  | .In, x, .dic kvs => (dget kvs x).map fun o => .bl o.isSome
  | .NotIn, x, .dic kvs => (dget kvs x).map fun o => .bl (!o.isSome)
  | op, d, e => cmpop op d e
theorem cmpD_ok (hu : X.A.units + 64 < cLine) (op : CmpOp) : V2 X (compareOp op) (cmpD op) := by
  intro pins s σ H x y v u Q I rx ry h
  obtain ⟨μ, F, st, d, e, r, rs, hd, he, hg, q⟩ := h
  have hd0 := hd.dr rs
  have he0 := he.dr rs
  unfold cmpD at hg
  split at hg
  · rename_i kvs h2
    rw [h2] at he0
    obtain ⟨a, xs, e1, q1, r1⟩ := he0
    subst e1
    obtain ⟨o, ho, hr⟩ := Option.map_eq_some_iff.mp hg
    obtain ⟨ov, g, g1, g2⟩ := r1.dget q1 hd0 ho
    cases (show u = Value.ref a from ry)
    refine d_in (X := X) (by omega) I g rx fun s' I' => ⟨.bl ov.isSome, H, I', rfl, ?_⟩
    have hb : ov.isSome = o.isSome := by
      cases o with
      | none => rw [g2 rfl]; rfl
      | some d => obtain ⟨w, e2, _⟩ := g1 d rfl; rw [e2]; rfl
    rw [hb]
    subst hr
    exact q _ H μ .refl rs (RV_bl _)
  · rename_i kvs h2
    rw [h2] at he0
    obtain ⟨a, xs, e1, q1, r1⟩ := he0
    subst e1
    obtain ⟨o, ho, hr⟩ := Option.map_eq_some_iff.mp hg
    obtain ⟨ov, g, g1, g2⟩ := r1.dget q1 hd0 ho
    cases (show u = Value.ref a from ry)
    refine d_notIn (X := X) (by omega) I g rx fun s' I' => ⟨.bl (!ov.isSome), H, I', rfl, ?_⟩
    have hb : ov.isSome = o.isSome := by
      cases o with
      | none => rw [g2 rfl]; rfl
      | some d => obtain ⟨w, e2, _⟩ := g1 d rfl; rw [e2]; rfl
    rw [hb]
    subst hr
    exact q _ H μ .refl rs (RV_bl _)
  · exact cmpop_ok hu _ pins s σ H x y v u Q I rx ry ⟨μ, F, st, d, e, r, rs, hd, he, hg, q⟩
def eBin (op : Operator) (a b : E) : E := fun ρ s => (a ρ s).bind fun x s => (b ρ s).bind fun y s => Res.of (binop op (der s x) (der s y)) s
def eCmp (op : CmpOp) (a b : E) : E := fun ρ s => (a ρ s).bind fun x s => (b ρ s).bind fun y s => Res.of (cmpD op (der s x) (der s y)) s
theorem two_at {g : D → D → Option D} {σ : St} {H : Hp} {Q : VK} (h : tG (fun F H μ d v => RV X.K H μ F d v) X.pn X.K W (fun ρ s => (ma ρ s).bind fun x s => (mb ρ s).bind fun y s => Res.of (g (der s x) (der s y)) s) σ H Q) :
    tG (fun F H μ d v => RD X.K H μ F d v) X.pn X.K W ma σ H fun x H1 => tG (fun F H μ d v => RD X.K H μ F d v) X.pn X.K W mb σ H1 fun y H2 =>
      ∃ μ F st d e r, RS X.K H2 μ F st ∧ RD X.K H2 μ F d x ∧ RD X.K H2 μ F e y ∧ g (der st d) (der st e) = some r ∧ ∀ v H' μ', Fut H2 μ H' μ' → RS X.K H' μ' F st → RV X.K H' μ' F r v → Q v H' := by
  obtain ⟨ρ, μ, F, G, st, a, h⟩ := h
  refine tG_at (k := fun x s => (mb ρ s).bind fun y s => Res.of (g (der s x) (der s y)) s) a h fun x H1 μ1 st1 d a1 f1 r1 h1 => ?_
  refine tG_at (k := fun y s => Res.of (g (der s d) (der s y)) s) a1 h1 fun y H2 μ2 st2 e a2 f2 r2 h2 => ?_
  obtain ⟨r, hr, hq⟩ := OkG.some h2
  exact ⟨μ2, F, st2, d, e, r, a2.s, r1.fut a1.s f2, r2, hr, hq⟩
theorem se_bin {op : Operator} (ha : SR X W a ma) (hb : SR X W b mb) : SE X W (.BinOp a op b pos) (eBin op ma mb) := PE.of (pe_op (binop_ok op) ha hb) fun σ H Q h => two_at h
theorem se_cmp {op : CmpOp} (hu : X.A.units + 64 < cLine) (ha : SR X W a ma) (hb : SR X W b mb) (hm : behindInMarks op b = false := by first | exact nomark _ | rfl) : SE X W (.Compare a [op] [b] pos) (eCmp op ma mb) :=
  PE.of (pe_cmpR (cmpD_ok hu op) ha hb hm) fun σ H Q h => two_at h
def truth : D → Option Bool
  | .non => some false
  | .bl b => some b
  | .int i => some (i != 0)
  | .str x => if x.length ≤ line then some ((x.length : Int) != 0) else none
  | .tup ds => some (!ds.isEmpty)
  | .lst ds => some (!ds.isEmpty)
  | .dic ds => some (!ds.isEmpty)
  | .scr ns => some (!ns.isEmpty)
  | _ => none
theorem isEmpty_len {α β : Type} {l : List α} {m : List β} (h : l.length = m.length) : l.isEmpty = m.isEmpty := by
  cases l <;> cases m <;> first | rfl | cases h
theorem truth_tru {K : PySem.W.Frag} {H : Hp} {μ : Mu} {F : Addr → Prop} {d : D} {v : V} {k : Bool} (h : DR K H μ F d v) (e : truth d = some k) : TruV K v H k ∨ ∃ a xs, v = .ref a ∧ Rd H a (.dK xs) ∧ k = !xs.isEmpty := by
  unfold truth at e
  split at e
  · cases e; cases (show v = _ from h); exact .inl rfl
  · cases e; cases (show v = _ from h); exact .inl rfl
  · cases e; cases (show v = _ from h); exact .inl rfl
  · split at e
    · rename_i hl
      cases e; cases (show v = _ from h)
      exact .inl ⟨by rw [line_eq]; exact hl, rfl⟩
    · cases e
  · cases e
    obtain ⟨a, xs, e1, q1, r1⟩ := h
    subst e1
    exact .inl (.inr (.inl ⟨xs, q1, by rw [isEmpty_len r1.length]⟩))
  · cases e
    obtain ⟨a, xs, e1, q1, r1⟩ := h
    subst e1
    exact .inl (.inl ⟨xs, .inl (.inl q1), by rw [isEmpty_len r1.length]⟩)
  · cases e
    obtain ⟨a, xs, e1, q1, r1⟩ := h
    subst e1
    exact .inr ⟨a, xs, rfl, q1, by rw [isEmpty_len r1.length]⟩
  · cases e
    obtain ⟨a, e1, q1⟩ := h
    subst e1
    exact .inl (.inl ⟨_, q1, by rw [isEmpty_len (List.length_map V.int)]⟩)
  · cases e
def eTru (a : E) : ET := fun ρ s => (a ρ s).bind fun x s => Res.of (truth (der s x)) s
theorem st_tru (ha : SR X W a ma) (he : ∀ whole, isTrue a X.env whole = (do let v ← whole; standAt a.pos; holding [v] (truthy v)) := by intro _; rfl) : ST X W a (eTru ma) := by
  refine ⟨fun pins s σ H Q I h => ?_⟩
  obtain ⟨ρ, μ, F, G, st, a, h⟩ := h
  refine isTrue_plain (thn (ha.run pins s σ H _ I (tG_at (k := fun x s => Res.of (truth (der s x)) s) (R := fun x H1 => ∃ k, (TruV X.K x H1 k ∨ ∃ a xs, x = .ref a ∧ Rd H1 a (.dK xs) ∧ k = !xs.isEmpty) ∧ Q k H1) a h fun x H1 μ1 st1 d a1 f1 r1 h1 => ?_)) fun v s1 ⟨x, H1, I1, r1, k, tr, q⟩ => ?_) (he _)
  · obtain ⟨k, hk, hq⟩ := OkG.some h1
    exact ⟨k, truth_tru (r1.dr a1.s) hk, hq k H1 μ1 .refl a1.s rfl⟩
  · rcases tr with tr | ⟨a, xs, e1, q1, e2⟩
    · exact tru_ok pins s1 σ H1 x v Q I1 r1 ⟨k, tr, q⟩
    · subst e1 e2
      cases (show v = Value.ref a from r1)
      exact d_truth (X := X) I1 q1 fun s' I' => ⟨H1, I', q⟩
/-- the value of a comparison is a truth value: its own test -/
def eIs (a : E) : ET := fun ρ s => (a ρ s).bind fun x s => match x with
  | .bl b => .ok b s
  | _ => .bad
theorem bool_at {σ : St} {H : Hp} {Q : Bool → Hp → Prop} {P : (Addr → Prop) → Hp → Mu → D → V → Prop} (hP : ∀ F H μ b v, P F H μ (.bl b) v → v = .bl b) (h : tG (fun _ _ _ d v => d = v) X.pn X.K W (eIs ma) σ H Q) : tG P X.pn X.K W ma σ H fun x H1 => ∃ k, x = .bl k ∧ Q k H1 := by
  obtain ⟨ρ, μ, F, G, st, a, h⟩ := h
  refine tG_at (k := fun (x : D) (s : Store) => match x with
  | .bl b => .ok b s
  | _ => .bad) a h fun x H1 μ1 st1 d a1 f1 r1 h1 => ?_
  cases d with
  | bl b => exact ⟨b, hP _ _ _ _ _ r1, h1 b H1 μ1 .refl a1.s rfl⟩
  | _ => exact h1.elim
theorem st_cmp {op : CmpOp} (hu : X.A.units + 64 < cLine) (ha : SR X W a ma) (hb : SR X W b mb) (hm : behindInMarks op b = false := by first | exact nomark _ | rfl) : ST X W (.Compare a [op] [b] pos) (eIs (eCmp op ma mb)) :=
  PT.of (pt_cmpR (cmpD_ok hu op) ha hb hm) fun σ H Q h => two_at (bool_at (fun _ _ _ _ _ h => by unfold RV at h; exact h) h)
def eNotT (a : ET) : ET := fun ρ s => (a ρ s).bind fun b s => .ok (!b) s
def eAndT (a b : ET) : ET := fun ρ s => (a ρ s).bind fun x s => if x = true then b ρ s else .ok false s
def eOrT (a b : ET) : ET := fun ρ s => (a ρ s).bind fun x s => if x = true then .ok true s else b ρ s
variable {ta tb tc : ET} {rest : List Expr}
theorem st_not (ha : ST X W a ta) : ST X W (.UnaryOp .Not a pos) (eNotT ta) := PT.of (pt_not ha) fun σ H Q ⟨ρ, μ, F, G, st, a, h⟩ =>
  tG_at (k := fun (b : Bool) (s : Store) => .ok (!b) s) a h fun x H1 μ1 st1 d a1 f1 r1 h1 => by
    subst r1
    exact h1 _ H1 μ1 .refl a1.s rfl
/-- a chain of and, of or, as a test -/
def SW (X : Cx) (W : WX) (e : Expr) (m : ET) : Prop := PW X e (tG (fun _ _ _ d v => d = v) X.pn X.K W m)
theorem PW.of {X : Cx} {e : Expr} {t t' : TT} (h : PW X e t) (i : ∀ σ H Q, t' σ H Q → t σ H Q) : PW X e t' := ⟨fun w pins s σ H Q I q => h.run w pins s σ H Q I (i σ H Q q)⟩
theorem sw_st (h : SW X W a ta) : ST X W a ta := PW.pt h
theorem sw_and1 (ha : ST X W a ta) : SW X W (.BoolOp .And [a] pos) ta := pw_and1 ha
theorem sw_or1 (ha : ST X W a ta) : SW X W (.BoolOp .Or [a] pos) ta := pw_or1 ha
theorem sw_and (ha : ST X W a ta) (hb : SW X W (.BoolOp .And (b :: rest) pos) tb) : SW X W (.BoolOp .And (a :: b :: rest) pos) (eAndT ta tb) := PW.of (pw_and ha hb) fun σ H Q ⟨ρ, μ, F, G, st, a, h⟩ =>
  tG_at (k := fun (x : Bool) (s : Store) => if x = true then tb ρ s else .ok false s) a h fun x H1 μ1 st1 d a1 f1 r1 h1 => by
    subst r1
    cases d with
    | true => rw [if_pos rfl]; exact ⟨ρ, μ1, F, G, st1, a1, h1⟩
    | false => rw [if_neg Bool.false_ne_true]; exact h1 _ H1 μ1 .refl a1.s rfl
theorem sw_or (ha : ST X W a ta) (hb : SW X W (.BoolOp .Or (b :: rest) pos) tb) : SW X W (.BoolOp .Or (a :: b :: rest) pos) (eOrT ta tb) := PW.of (pw_or ha hb) fun σ H Q ⟨ρ, μ, F, G, st, a, h⟩ =>
  tG_at (k := fun (x : Bool) (s : Store) => if x = true then .ok true s else tb ρ s) a h fun x H1 μ1 st1 d a1 f1 r1 h1 => by
    subst r1
    cases d with
    | true => rw [if_pos rfl]; exact h1 _ H1 μ1 .refl a1.s rfl
    | false => rw [if_neg Bool.false_ne_true]; exact ⟨ρ, μ1, F, G, st1, a1, h1⟩
def eNot (a : E) : E := fun ρ s => (a ρ s).bind fun x s => match x with
  | .bl b => .ok (.bl (!b)) s
  | _ => .bad
def eAnd (a b : E) : E := fun ρ s => (a ρ s).bind fun x s => match x with
  | .bl true => b ρ s
  | .bl false => .ok (.bl false) s
  | _ => .bad
theorem RV_blv {K : PySem.W.Frag} {H : Hp} {μ : Mu} {F : Addr → Prop} {b : Bool} {v : V} (h : RV K H μ F (.bl b) v) : v = .bl b := by unfold RV at h; exact h
theorem se_not (ha : SE X W a ma) : SE X W (.UnaryOp .Not a pos) (eNot ma) := PE.of (pe_not ha) fun σ H Q ⟨ρ, μ, F, G, st, a, h⟩ =>
  tG_at (k := fun (x : D) (s : Store) => match x with
  | D.bl b => Res.ok (D.bl (!b)) s
  | _ => .bad) a h fun x H1 μ1 st1 d a1 f1 r1 h1 => by
    cases d with
    | bl b => exact ⟨b, RV_blv r1, h1 _ H1 μ1 .refl a1.s (RV_bl _)⟩
    | _ => exact h1.elim
theorem se_one {op} (h : SE X W a ma) : SE X W (.BoolOp op [a] pos) ma := pe_one h
theorem se_and (ha : SE X W a ma) (hb : SE X W (.BoolOp .And (b :: rest) pos) mb) : SE X W (.BoolOp .And (a :: b :: rest) pos) (eAnd ma mb) := PE.of (pe_and ha hb) fun σ H Q ⟨ρ, μ, F, G, st, a, h⟩ =>
  tG_at (k := fun (x : D) (s : Store) => match x with
  | D.bl true => mb ρ s
  | D.bl false => Res.ok (D.bl false) s
  | _ => .bad) a h fun x H1 μ1 st1 d a1 f1 r1 h1 => by
    cases d with
    | bl b =>
      refine ⟨b, RV_blv r1, ?_⟩
      cases b with
      | true => rw [if_pos rfl]; exact ⟨ρ, μ1, F, G, st1, a1, h1⟩
      | false => rw [if_neg Bool.false_ne_true]; exact h1 _ H1 μ1 .refl a1.s (RV_bl _)
    | _ => exact h1.elim
def eIf (c : ET) (a b : E) : E := fun ρ s => (c ρ s).bind fun x s => if x = true then a ρ s else b ρ s
theorem se_if (hc : ST X W c tc) (ha : SE X W a ma) (hb : SE X W b mb) : SE X W (.IfExp c a b pos) (eIf tc ma mb) := PE.of (pe_ifExp hc ha hb) fun σ H Q ⟨ρ, μ, F, G, st, a, h⟩ =>
  tG_at (k := fun (x : Bool) (s : Store) => if x = true then ma ρ s else mb ρ s) a h fun x H1 μ1 st1 d a1 f1 r1 h1 => by
    subst r1
    cases d with
    | true => rw [if_pos rfl]; exact ⟨ρ, μ1, F, G, st1, a1, h1⟩
    | false => rw [if_neg Bool.false_ne_true]; exact ⟨ρ, μ1, F, G, st1, a1, h1⟩
def eChain (op op' : CmpOp) (a b c : E) : E := fun ρ s => (a ρ s).bind fun x s => (b ρ s).bind fun y s => match cmpD op (der s x) (der s y) with
  | some (.bl true) => (c ρ s).bind fun z s => Res.of (cmpD op' (der s y) (der s z)) s
  | some (.bl false) => .ok (.bl false) s
  | _ => .bad
theorem chain_at {op op' : CmpOp} {σ : St} {H : Hp} {Q : VK} (h : tG (fun F H μ d v => RV X.K H μ F d v) X.pn X.K W (eChain op op' ma mb mc) σ H Q) :
    tChain (fun x y H Q => ∃ μ F st d e r, RS X.K H μ F st ∧ RD X.K H μ F d x ∧ RD X.K H μ F e y ∧ cmpD op (der st d) (der st e) = some r ∧ ∀ v H' μ', Fut H μ H' μ' → RS X.K H' μ' F st → RV X.K H' μ' F r v → Q v H')
      (fun x y H Q => ∃ μ F st d e r, RS X.K H μ F st ∧ RD X.K H μ F d x ∧ RD X.K H μ F e y ∧ cmpD op' (der st d) (der st e) = some r ∧ ∀ v H' μ', Fut H μ H' μ' → RS X.K H' μ' F st → RV X.K H' μ' F r v → Q v H')
      (tG (fun F H μ d v => RD X.K H μ F d v) X.pn X.K W ma) (tG (fun F H μ d v => RD X.K H μ F d v) X.pn X.K W mb) (tG (fun F H μ d v => RD X.K H μ F d v) X.pn X.K W mc) σ H Q := by
  obtain ⟨ρ, μ, F, G, st, a, h⟩ := h
  refine tG_at (k := fun x s => (mb ρ s).bind fun y s => match cmpD op (der s x) (der s y) with
  | some (.bl true) => (mc ρ s).bind fun z s => Res.of (cmpD op' (der s y) (der s z)) s
  | some (.bl false) => .ok (.bl false) s
  | _ => .bad) a h fun x H1 μ1 st1 d a1 f1 r1 h1 => ?_
  refine tG_at (k := fun y s => match cmpD op (der s d) (der s y) with
  | some (.bl true) => (mc ρ s).bind fun z s => Res.of (cmpD op' (der s y) (der s z)) s
  | some (.bl false) => .ok (.bl false) s
  | _ => .bad) a1 h1 fun y H2 μ2 st2 e a2 f2 r2 h2 => ?_
  have h2 : OkE X.K W F σ H2 μ2 (match cmpD op (der st2 d) (der st2 e) with
  | some (.bl true) => (mc ρ st2).bind fun z s => Res.of (cmpD op' (der s e) (der s z)) s
  | some (.bl false) => .ok (.bl false) st2
  | _ => .bad) Q := h2
  cases hc : cmpD op (der st2 d) (der st2 e) with
  | none => rw [hc] at h2; exact h2.elim
  | some r =>
    rw [hc] at h2
    cases r with
    | bl b =>
      refine ⟨μ2, F, st2, d, e, .bl b, a2.s, r1.fut a1.s f2, r2, hc, fun v H' μ' f3 rs3 rv3 => ?_⟩
      refine ⟨b, RV_blv rv3, ?_⟩
      cases b with
      | true =>
        rw [if_pos rfl]
        refine tG_at (k := fun z s => Res.of (cmpD op' (der s e) (der s z)) s) (a2.fut f3 rs3) (OkG.fut f3 h2) fun z H4 μ4 st4 g a4 f4 r4 h4 => ?_
        obtain ⟨r, hr, hq⟩ := OkG.some h4
        exact ⟨μ4, F, st4, e, g, r, a4.s, (r2.fut a2.s f3).fut rs3 f4, r4, hr, hq⟩
      | false =>
        rw [if_neg Bool.false_ne_true]
        exact h2 _ H' μ' f3 rs3 (RV_bl _)
    | _ => exact h2.elim
theorem st_chain {op op' : CmpOp} (hu : X.A.units + 64 < cLine) (ha : SR X W a ma) (hb : SR X W b mb) (hc : SR X W c mc) (hm : lastMarks [op, op'] [b, c] = false := by with_unfolding_all rfl) : ST X W (.Compare a [op, op'] [b, c] pos) (eIs (eChain op op' ma mb mc)) :=
  PT.of (pt_chain (cmpD_ok hu op) (cmpD_ok hu op') ha hb hc hm) fun σ H Q h => chain_at (bool_at (fun _ _ _ _ _ h => by unfold RV at h; exact h) h)
def eNil : EL := fun _ s => .ok [] s
def eCons (a : E) (r : EL) : EL := fun ρ s => (a ρ s).bind fun d s => (r ρ s).bind fun ds s => .ok (d :: ds) s
variable {es : List Expr} {ml : EL}
theorem sa_nil : SA X W [] eNil := PA.of pa_nil fun σ H Q ⟨ρ, μ, F, G, st, a, h⟩ => h [] H μ .refl a.s RVs.nil
theorem sar_nil : SAR X W [] eNil := PA.of pa_nil fun σ H Q ⟨ρ, μ, F, G, st, a, h⟩ => h [] H μ .refl a.s rfl
theorem sa_cons (ha : SE X W a ma) (hr : SA X W es ml) (hs : starEach (a :: es) X.env = (false, eval a X.env) :: starEach es X.env := by rfl) : SA X W (a :: es) (eCons ma ml) := PA.of (pa_cons ha hr hs) fun σ H Q ⟨ρ, μ, F, G, st, a, h⟩ => by
  refine tG_at (k := fun d s => (ml ρ s).bind fun ds s => .ok (d :: ds) s) a h fun x H1 μ1 st1 d a1 f1 r1 h1 => ?_
  refine tG_at (k := fun ds s => .ok (d :: ds) s) a1 h1 fun xs H2 μ2 st2 ds a2 f2 r2 h2 => ?_
  exact h2 _ H2 μ2 .refl a2.s (RVs.cons (RV.kp f2.kp0 r1) r2)
theorem sar_cons (ha : SR X W a ma) (hr : SAR X W es ml) (hs : starEach (a :: es) X.env = (false, eval a X.env) :: starEach es X.env := by rfl) : SAR X W (a :: es) (eCons ma ml) := PA.of (pa_cons ha hr hs) fun σ H Q ⟨ρ, μ, F, G, st, a, h⟩ => by
  refine tG_at (k := fun d s => (ml ρ s).bind fun ds s => .ok (d :: ds) s) a h fun x H1 μ1 st1 d a1 f1 r1 h1 => ?_
  refine tG_at (k := fun ds s => .ok (d :: ds) s) a1 h1 fun xs H2 μ2 st2 ds a2 f2 r2 h2 => ?_
  exact h2 _ H2 μ2 .refl a2.s ⟨x, xs, rfl, r1.fut a1.s f2, r2⟩
def eTup (r : EL) : E := fun ρ s => (r ρ s).bind fun ds s => if ds.length ≤ line then .ok (.tup ds) s else .bad
def eLst (r : EL) : E := fun ρ s => (r ρ s).bind fun ds s => if ds.length ≤ line then .ok (.lst ds) s else .bad
theorem se_tup {k} (h : SA X W es ml) : SE X W (.Tuple es k pos) (eTup ml) := PE.of (pe_tup h) fun σ H Q ⟨ρ, μ, F, G, st, a, h⟩ => by
  refine tG_at (k := fun (ds : List D) s => if ds.length ≤ line then Res.ok (D.tup ds) s else .bad) a h fun xs H1 μ1 st1 ds a1 f1 r1 h1 => ?_
  by_cases hl : ds.length ≤ line
  · rw [if_pos hl] at h1
    exact ⟨by rw [line_eq, r1.length]; exact hl, fun p hp => h1 _ _ μ1 (.new hp) (a1.s.new hp) (a1.s.newT hp r1)⟩
  · rw [if_neg hl] at h1; exact h1.elim
theorem se_lst (h : SA X W es ml) : SE X W (.List es pos) (eLst ml) := PE.of (pe_lst h) fun σ H Q ⟨ρ, μ, F, G, st, a, h⟩ => by
  refine tG_at (k := fun (ds : List D) s => if ds.length ≤ line then Res.ok (D.lst ds) s else .bad) a h fun xs H1 μ1 st1 ds a1 f1 r1 h1 => ?_
  by_cases hl : ds.length ≤ line
  · rw [if_pos hl] at h1
    exact ⟨by rw [line_eq, r1.length]; exact hl, fun p hp => h1 _ _ μ1 (.new hp) (a1.s.new hp) (a1.s.newL hp r1)⟩
  · rw [if_neg hl] at h1; exact h1.elim
def item : D → D → Option D
  | .lst ds, .int i => atI ds i
  | .tup ds, .int i => atI ds i
  | .scr ns, .int i => (atI ns i).map .int
  | .str z, .int i => if z.length ≤ line then (atI z.cps.toList i).map fun c => .str ⟨#[c]⟩ else none
  | .dic kvs, k => (dget kvs k).bind id
  | _, _ => none
theorem atI_rel {K : PySem.W.Frag} {H : Hp} {μ : Mu} {F : Addr → Prop} {ds : List D} {xs : List V} (r : RVs K H μ F ds xs) {i : Int} {d : D} (h : atI ds i = some d) : ∃ v, atI xs i = some v ∧ RV K H μ F d v := by
  unfold atI at h ⊢
  rw [r.length]
  obtain ⟨j, e1, e2⟩ := Option.bind_eq_some_iff.mp h
  obtain ⟨v, e3, rv⟩ := r.get e2
  exact ⟨v, Option.bind_eq_some_iff.mpr ⟨j, e1, e3⟩, rv⟩
theorem atI_map {α β : Type} (f : α → β) (xs : List α) (i : Int) : atI (xs.map f) i = (atI xs i).map f := by
  unfold atI
  rw [List.length_map]
  cases ixN xs.length i with
  | none => rfl
  | some j => simp
def IxV (X : Cx) : R2 := fun x y H Q => ∃ μ F st d e r, RS X.K H μ F st ∧ RD X.K H μ F d x ∧ RD X.K H μ F e y ∧ item (der st d) (der st e) = some r ∧ ∀ v H' μ', Fut H μ H' μ' → RS X.K H' μ' F st → RV X.K H' μ' F r v → Q v H'
theorem item_ok (hu : X.A.units + 64 < cLine) : IxR X (IxV X) := by
  intro value slice pins s σ H x y v u Q I rx ry h hs
  obtain ⟨μ, F, st, d, e, r, rs, hd, he, hg, q⟩ := h
  have hd0 := hd.dr rs
  have he0 := he.dr rs
  generalize der st d = d' at hg hd0
  generalize der st e = e' at hg he0
  unfold item at hg
  split at hg
  · obtain ⟨a, xs, e1, q1, r1⟩ := hd0
    obtain ⟨w, e2, rw2⟩ := atI_rel r1 hg
    exact ix_list value slice pins s σ H x y v u Q I rx ry ⟨a, xs, _, w, e1, he0, .inl (.inl q1), e2, q w H μ .refl rs rw2⟩ hs
  · obtain ⟨a, xs, e1, q1, r1⟩ := hd0
    obtain ⟨w, e2, rw2⟩ := atI_rel r1 hg
    exact ix_tup value slice pins s σ H x y v u Q I rx ry ⟨a, xs, _, w, e1, he0, q1, e2, q w H μ .refl rs rw2⟩ hs
  · obtain ⟨a, e1, q1⟩ := hd0
    obtain ⟨n, e2, e3⟩ := Option.map_eq_some_iff.mp hg
    subst e3
    exact ix_list value slice pins s σ H x y v u Q I rx ry ⟨a, _, _, .int n, e1, he0, q1, by rw [atI_map, e2]; rfl, q _ H μ .refl rs (RV_int n)⟩ hs
  · split at hg
    · rename_i hl
      obtain ⟨c, e2, e3⟩ := Option.map_eq_some_iff.mp hg
      subst e3
      exact ix_str value slice pins s σ H x y v u Q I rx ry ⟨_, _, c, hd0, he0, by rw [line_eq]; exact hl, e2, q _ H μ .refl rs (RV_str _)⟩ hs
    · cases hg
  · obtain ⟨a, xs, e1, q1, r1⟩ := hd0
    obtain ⟨o, ho, hr⟩ := Option.bind_eq_some_iff.mp hg
    obtain ⟨ov, g, g1, g2⟩ := r1.dget q1 he0 ho
    have hr2 : o = some r := hr
    obtain ⟨w, e2, rw2⟩ := g1 r hr2
    subst e2 e1
    cases (show v = Value.ref a from rx)
    exact tail_any (dict_typeIs I g) PySem.F.slot_dict_getitem.lookup (d_getItem (X := X) (by omega) I g ry fun w' s3 I3 rw' => ⟨w, H, I3, rw', q w H μ .refl rs rw2⟩) hs
  · cases hg
def eIx (a b : E) : E := fun ρ s => (a ρ s).bind fun x s => (b ρ s).bind fun y s => Res.of (item (der s x) (der s y)) s
theorem se_ix (hu : X.A.units + 64 < cLine) (ha : SR X W a ma) (hb : SR X W b mb) (hs : PlainIx b := by exact fun _ _ => rfl) : SE X W (.Subscript a b pos) (eIx ma mb) := PE.of (pe_ix (item_ok hu) ha hb hs) fun σ H Q h => two_at h
end
end Dn
namespace Dn
open PySem PySem.Spec L2
open PyProof.Rows hiding St RelV
inductive SRes where
  | nx (ρ : Loc) (s : Store) | rt (d : D) (s : Store) | bk (ρ : Loc) (s : Store) | ct (ρ : Loc) (s : Store) | ex (C : String) (fs : List (Str × D)) (ρ : Loc) (s : Store) | bad
abbrev S := Loc → Store → SRes
def Res.to {α : Type} (r : Res α) (ρ : Loc) (k : α → Store → SRes) : SRes := match r with
  | .ok a s => k a s
  | .ex C fs s => .ex C fs ρ s
  | .bad => .bad
@[simp] theorem Res.to_ok {α : Type} (a : α) (s : Store) (ρ : Loc) (k : α → Store → SRes) : (Res.ok a s).to ρ k = k a s := rfl
@[simp] theorem Res.to_ex {α : Type} (C : String) (fs : List (Str × D)) (s : Store) (ρ : Loc) (k : α → Store → SRes) : (Res.ex C fs s : Res α).to ρ k = .ex C fs ρ s := rfl
@[simp] theorem Res.to_bad {α : Type} (ρ : Loc) (k : α → Store → SRes) : (Res.bad : Res α).to ρ k = .bad := rfl
def SRes.then (r : SRes) (k : S) : SRes := match r with
  | .nx ρ s => k ρ s
  | r => r
@[simp] theorem SRes.then_nx (ρ : Loc) (s : Store) (k : S) : (SRes.nx ρ s).then k = k ρ s := rfl
@[simp] theorem SRes.then_rt (d : D) (s : Store) (k : S) : (SRes.rt d s).then k = .rt d s := rfl
@[simp] theorem SRes.then_bk (ρ : Loc) (s : Store) (k : S) : (SRes.bk ρ s).then k = .bk ρ s := rfl
@[simp] theorem SRes.then_ct (ρ : Loc) (s : Store) (k : S) : (SRes.ct ρ s).then k = .ct ρ s := rfl
@[simp] theorem SRes.then_ex (C : String) (fs : List (Str × D)) (ρ : Loc) (s : Store) (k : S) : (SRes.ex C fs ρ s).then k = .ex C fs ρ s := rfl
@[simp] theorem SRes.then_bad (k : S) : (SRes.bad).then k = .bad := rfl
/-- what the statements of a frame may do: shared objects and the frame's own change, new ones come -/
structure Ev (H : Hp) (μ : Mu) (F : Addr → Prop) (G : Own) (H' : Hp) (μ' : Mu) (F' : Addr → Prop) (G' : Own) : Prop where
  ext : ∃ l, μ' = μ ++ l ∧ ∀ a ∈ l, H a = none
  keep : ∀ a o, a ∉ μ → ¬ G.g a → H a = some o → H' a = some o
  there : ∀ a o, H a = some o → ∃ o', H' a = some o'
  sub : ∀ a, F a → F' a ∨ G.g a
  own : ∀ a, F' a → F a ∨ H a = none
  g : ∀ a, G'.g a → G.g a ∨ H a = none
  fd : ∀ a, F a → ∃ o, H a = some o
  sf : G'.sf = G.sf
def OkS (pn : Pn) (K : PySem.W.Frag) (W : WX) (H0 : Hp) (μ0 : Mu) (F0 : Addr → Prop) (G0 : Own) (r : SRes) (D : Ends) : Prop := match r with
  | .nx ρ s => ∀ σ H μ F G, Ev H0 μ0 F0 G0 H μ F G → At pn K H μ F G ρ σ s → D.nx σ H
  | .rt d s => ∀ v H μ F G, Ev H0 μ0 F0 G0 H μ F G → RS K H μ F s → RV K H μ F d v → D.rt v H
  | .bk ρ s => ∀ σ H μ F G, Ev H0 μ0 F0 G0 H μ F G → At pn K H μ F G ρ σ s → D.bk σ H
  | .ct ρ s => ∀ σ H μ F G, Ev H0 μ0 F0 G0 H μ F G → At pn K H μ F G ρ σ s → D.ct σ H
  | .ex C fs ρ s => ∀ d σ H μ F G xs, Ev H0 μ0 F0 G0 H μ F G → At pn K H μ F G ρ σ s → H d = some (.xd xs) → d ∉ μ → ¬ F d → RVf K H μ F fs xs → W (.ref (He.ga K C)) (some d) σ H
  | .bad => False
def tS (pn : Pn) (K : PySem.W.Frag) (W : WX) (m : S) : TS := fun D σ H => ∃ ρ μ F G st, At pn K H μ F G ρ σ st ∧ OkS pn K W H μ F G (m ρ st) D
def SS (X : Cx) (W : WX) (st : Stmt) (m : S) : Prop := PS X st (tS X.pn X.K W m)
def SB (X : Cx) (W : WX) (st : List Stmt) (m : S) : Prop := PSs X st (tS X.pn X.K W m)
section
variable {pn : Pn} {K : PySem.W.Frag} {W : WX} {H0 H H' H1 : Hp} {μ0 μ μ' μ1 : Mu} {F0 F F' F1 : Addr → Prop} {G G' G0 G1 : Own} {st st1 : Store} {ρ ρ1 : Loc} {σ σ1 : St} {d : D} {v : V} {r : SRes} {D1 D2 : Ends}
theorem Ev.trans (f : Ev H μ F G H1 μ1 F1 G1) (g : Ev H1 μ1 F1 G1 H' μ' F' G') : Ev H μ F G H' μ' F' G' := by
  obtain ⟨l, e, q⟩ := id f.ext
  obtain ⟨l', e', q'⟩ := id g.ext
  have nn : ∀ {a : Addr}, H1 a = none → H a = none := fun {a} h => by
    cases z : H a with
    | none => rfl
    | some o =>
      obtain ⟨o', w⟩ := f.there a o z
      rw [h] at w; cases w
  refine ⟨⟨l ++ l', by rw [e', e, List.append_assoc], fun a h => ?_⟩, fun a o n nG h => ?_, fun a o h => ?_, fun a h => ?_, fun a h => ?_, fun a h => ?_, f.fd, g.sf.trans f.sf⟩
  · rcases List.mem_append.mp h with h | h
    · exact q a h
    · exact nn (q' a h)
  · refine g.keep a o ?_ ?_ (f.keep a o n nG h)
    · rw [e]
      intro z
      rcases List.mem_append.mp z with z | z
      · exact n z
      · rw [q a z] at h; cases h
    · intro z
      rcases f.g a z with z | z
      · exact nG z
      · rw [z] at h; cases h
  · obtain ⟨o1, h1⟩ := f.there a o h
    exact g.there a o1 h1
  · rcases f.sub a h with h1 | h1
    · rcases g.sub a h1 with h2 | h2
      · exact .inl h2
      · rcases f.g a h2 with h3 | h3
        · exact .inr h3
        · obtain ⟨o, w⟩ := f.fd a h
          rw [h3] at w; cases w
    · exact .inr h1
  · rcases g.own a h with h | h
    · exact f.own a h
    · exact .inr (nn h)
  · rcases g.g a h with h | h
    · exact f.g a h
    · exact .inr (nn h)
theorem At.ev (a : At pn K H μ F G ρ σ st) (f : Fut H μ H' μ') : Ev H μ F G H' μ' F G := ⟨f.ext, fun b o n _ h => f.keep b o n h, f.there, fun _ h => .inl h, fun _ h => .inl h, fun _ h => .inl h, a.s.fd, rfl⟩
theorem Ev.fut (e : Ev H μ F ownNo H' μ' F' G') : Fut H μ H' μ' := ⟨e.ext, fun a o n h => e.keep a o n (fun z => z) h, e.there⟩
theorem Ev.out (e : Ev H μ F G H' μ' F' G') {a : Addr} {o : HO} (h : H a = some o) (n : a ∉ μ) : a ∉ μ' := by
  obtain ⟨l, e, q⟩ := e.ext
  rw [e]
  intro z
  rcases List.mem_append.mp z with z | z
  · exact n z
  · rw [q a z] at h; cases h
theorem Ev.kp (e : Ev H μ F G H' μ' F' G') (gf : ∀ a, G.g a → F a) : Kp H μ F H' μ' F' where
  pure := fun a o h n nF => ⟨e.keep a o n (fun z => nF (gf a z)) h, e.out h n, fun z => (e.own a z).elim nF fun q => by rw [h] at q; cases q⟩
  ix := fun n a h => by
    obtain ⟨l, e, _⟩ := e.ext
    rw [e, List.getElem?_append_left (List.getElem?_eq_some_iff.mp h).1]
    exact h
theorem RS.weak (s : RS K H μ F st) (k : ∀ a, F0 a → F a) : RS K H μ F0 st :=
  ⟨s.len, s.nd, fun a h z => s.nf a h (k a z), fun a h => s.fd a (k a h), fun n d h => let ⟨a, e, c⟩ := s.at_ n d h; ⟨a, e, c.kp ⟨fun a o h n nF => ⟨h, n, fun z => nF (k a z)⟩, fun _ _ h => h⟩ rfl⟩⟩
theorem RV.weak (k : ∀ a, F0 a → F a) (h : RV K H μ F d v) : RV K H μ F0 d v := RV.kp ⟨fun a o h n nF => ⟨h, n, fun z => nF (k a z)⟩, fun _ _ h => h⟩ h
theorem OkS.ev (e : Ev H0 μ0 F0 G0 H μ F G) (h : OkS pn K W H0 μ0 F0 G0 r D1) : OkS pn K W H μ F G r D1 := by
  cases r with
  | nx ρ s => exact fun σ H μ F G a b => h σ H μ F G (e.trans a) b
  | rt d s => exact fun v H μ F G a b c => h v H μ F G (e.trans a) b c
  | bk ρ s => exact fun σ H μ F G a b => h σ H μ F G (e.trans a) b
  | ct ρ s => exact fun σ H μ F G a b => h σ H μ F G (e.trans a) b
  | ex C fs ρ s => exact fun d σ H μ F G xs a => h d σ H μ F G xs (e.trans a)
  | bad => exact h
/-- an expression within a statement -/
theorem tS_e {α β : Type} {P : (Addr → Prop) → Hp → Mu → α → β → Prop} {m : Loc → Store → Res α} {k : α → Store → SRes} {R : β → Hp → Prop} (a : At pn K H μ F G ρ σ st) (h : OkS pn K W H μ F G ((m ρ st).to ρ k) D1)
    (hR : ∀ x H1 μ1 st1 d, At pn K H1 μ1 F G ρ σ st1 → Fut H μ H1 μ1 → P F H1 μ1 d x → OkS pn K W H1 μ1 F G (k d st1) D1 → R x H1) : tG P pn K W m σ H R := by
  refine ⟨ρ, μ, F, G, st, a, ?_⟩
  cases e : m ρ st with
  | ok d s =>
    rw [e] at h
    exact fun v H' μ' f rs rv => hR v H' μ' s d (a.fut f rs) f rv (OkS.ev (a.ev f) h)
  | ex C fs s =>
    rw [e] at h
    exact fun d H' μ' xs f rs e1 e2 e3 e4 => h d σ H' μ' F G xs (a.ev f) (a.fut f rs) e1 e2 e3 e4
  | bad => rw [e] at h; exact h
/-- a slot gets a value -/
theorem RL.setP (l : RL pn K H μ F G ρ σ) {i : Nat} (hv : RV K H μ F d v) : RL pn K H μ F G (ρ.set i (.pu d)) (σ.set i (some v)) := by
  refine ⟨by rw [List.length_set, List.length_set]; exact l.len, fun j sl e => ?_, fun j k b c d e a h1 h2 h3 h4 => ?_⟩
  · by_cases h : i = j
    · subst h
      have hi : i < ρ.length := by
        have := (List.getElem?_eq_some_iff.mp e).1
        rwa [List.length_set] at this
      rw [List.getElem?_set_self hi] at e
      cases e
      exact ⟨_, List.getElem?_set_self (by rw [← l.len]; exact hi), v, rfl, hv⟩
    · rw [List.getElem?_set_ne h] at e
      obtain ⟨o, e1, q⟩ := l.at_ j sl e
      exact ⟨o, (List.getElem?_set_ne h).trans e1, q⟩
  · have ne2 : ∀ {c : D} {j : Nat} {b' : Bool} {d' : D}, (ρ.set i (.pu c))[j]? = some (.ow b' d') → i ≠ j ∧ ρ[j]? = some (.ow b' d') := fun {c j b' d'} q => by
      by_cases h : i = j
      · subst h
        have hi : i < ρ.length := by
          have := (List.getElem?_eq_some_iff.mp q).1
          rwa [List.length_set] at this
        rw [List.getElem?_set_self hi] at q
        cases q
      · exact ⟨h, by rw [List.getElem?_set_ne h] at q; exact q⟩
    obtain ⟨n1, e1⟩ := ne2 h1
    obtain ⟨n2, e2⟩ := ne2 h2
    rw [List.getElem?_set_ne n1] at h3
    rw [List.getElem?_set_ne n2] at h4
    exact l.inj j k _ _ _ _ a e1 e2 h3 h4
theorem At.setP (a : At pn K H μ F G ρ σ st) {i : Nat} (hv : RV K H μ F d v) : At pn K H μ F G (ρ.set i (.pu d)) (σ.set i (some v)) st := ⟨a.l.setP hv, a.s, a.gf⟩
end
section
variable {X : Cx} {W : WX} {st : Stmt} {sts : List Stmt} {e b c : Expr} {m k : S} {me ma mb : E} {tc : ET} {pos : Pos}
def bNil : S := fun ρ s => .nx ρ s
def bCons (m k : S) : S := fun ρ s => (m ρ s).then k
theorem sb_nil : SB X W [] bNil := PSs.of pss_nil fun D σ H ⟨ρ, μ, F, G, st, a, h⟩ => h σ H μ F G (a.ev .refl) a
theorem sb_cons (h1 : SS X W st m) (h2 : SB X W sts k) : SB X W (st :: sts) (bCons m k) := PSs.of (pss_cons h1 h2) fun D σ H ⟨ρ, μ, F, G, s, a, h⟩ => by
  refine ⟨ρ, μ, F, G, s, a, ?_⟩
  have h : OkS X.pn X.K W H μ F G ((m ρ s).then k) D := h
  cases q : m ρ s with
  | nx ρ1 s1 => rw [q] at h; exact fun σ1 H1 μ1 F1 G1 sc1 a1 => ⟨ρ1, μ1, F1, G1, s1, a1, OkS.ev sc1 h⟩
  | rt d s1 => rw [q] at h; exact h
  | bk ρ1 s1 => rw [q] at h; exact h
  | ct ρ1 s1 => rw [q] at h; exact h
  | ex C fs ρ1 s1 => rw [q] at h; exact h
  | bad => rw [q] at h; exact h
theorem sb_one (h1 : SS X W st m) : SB X W [st] m := pss_one h1
def sRet (e : E) : S := fun ρ s => (e ρ s).to ρ fun d s => .rt d s
def sIf (c : ET) (m k : S) : S := fun ρ s => (c ρ s).to ρ fun x s => if x = true then m ρ s else k ρ s
def sSet (i : Nat) (e : E) : S := fun ρ s => (e ρ s).to ρ fun d s => .nx (ρ.set i (.pu d)) s
theorem ss_ret (he : SE X W e me) : SS X W (.Return (some e) pos) (sRet me) := PS.of (ps_ret he) fun D σ H ⟨ρ, μ, F, G, st, a, h⟩ =>
  tS_e (k := fun d s => .rt d s) a h fun x H1 μ1 st1 d a1 f r h1 => h1 x H1 μ1 F G (a1.ev .refl) a1.s r
theorem ss_if {s1 s2 : List Stmt} (hc : ST X W c tc) (h1 : SB X W s1 m) (h2 : SB X W s2 k) : SS X W (.If c s1 s2 pos) (sIf tc m k) := PS.of (ps_if hc h1 h2) fun D σ H ⟨ρ, μ, F, G, st, a, h⟩ =>
  tS_e (k := fun x s => if x = true then m ρ s else k ρ s) a h fun x H1 μ1 st1 d a1 f r h1 => by
    subst r
    cases d with
    | true => rw [if_pos rfl]; exact ⟨ρ, μ1, F, G, st1, a1, h1⟩
    | false => rw [if_neg Bool.false_ne_true]; exact ⟨ρ, μ1, F, G, st1, a1, h1⟩
theorem ss_set {i : Nat} {x : Str} {pos' : Pos} (hN : X.N.Nodup) (he : SE X W e me) (hi : X.N[i]? = some x := by rfl) (hx : L2.Loc X.env.scope x := by first | exact Or.inl rfl | exact Or.inr rfl) (hs : swapsWith e (some (.Name x pos')) pos.line X.env = pure false := by rfl)
    (hf : X.fn x = true ∨ X.env.scope.names.lookup x = some .local := by first | exact .inl rfl | exact .inr rfl) : SS X W (.Assign [.Name x pos'] e pos) (sSet i me) :=
  PS.of (ps_set hN hi hx he hs hf) fun D σ H ⟨ρ, μ, F, G, st, a, h⟩ =>
    tS_e (k := fun d s => .nx (ρ.set i (.pu d)) s) a h fun x H1 μ1 st1 d a1 f r h1 => h1 _ H1 μ1 F G (a1.ev .refl) (a1.setP r)
def kPar2 (i j : Nat) (ρ : Loc) (ds : List D) (s : Store) : SRes := match ds with
  | [d, e] => .nx ((ρ.set i (.pu d)).set j (.pu e)) s
  | _ => .bad
def sPar2 (i j : Nat) (es : EL) : S := fun ρ s => (es ρ s).to ρ (kPar2 i j ρ)
theorem RVs2 {K : PySem.W.Frag} {H : Hp} {μ : Mu} {F : Addr → Prop} {d e : D} {xs : List V} (r : RVs K H μ F [d, e] xs) : ∃ v w, xs = [v, w] ∧ RV K H μ F d v ∧ RV K H μ F e w := by
  simp only [RVs] at r
  obtain ⟨v, ys, e1, r1, w, zs, e2, r2, e3⟩ := r
  subst e3 e2
  exact ⟨v, w, e1, r1, r2⟩
theorem ss_par2 {i j : Nat} {x y : Str} {a b : Expr} {ml : EL} {px py pt : Pos} {kt k2 pt2} (hc : X.calm = true) (hN : X.N.Nodup) (ha : SA X W [a, b] ml) (hi : X.N[i]? = some x := by rfl) (hj : X.N[j]? = some y := by rfl) (hij : i ≠ j := by decide)
    (hx : X.env.scope.names.lookup x = some .local := by rfl) (hy : X.env.scope.names.lookup y = some .local := by rfl)
    (hw : swappedStores [.Tuple [.Name x px, .Name y py] kt pt] (.Tuple [a, b] k2 pt2) X.env = pure (some [x, y]) := by rfl)
    (hs : swapsWithSole [.Tuple [.Name x px, .Name y py] kt pt] (.Tuple [a, b] k2 pt2) pos.line X.env = pure false := by rfl) :
    SS X W (.Assign [.Tuple [.Name x px, .Name y py] kt pt] (.Tuple [a, b] k2 pt2) pos) (sPar2 i j ml) :=
  PS.of (ps_par hc hN hi hj hij hx hy ha hw hs) fun D σ H ⟨ρ, μ, F, G, st, a, h⟩ =>
    tS_e (k := kPar2 i j ρ) a h fun xs H1 μ1 st1 ds a1 f r h1 => by
      match ds, r, h1 with
      | [d, e], r, h1 =>
        obtain ⟨v, w, e1, r1, r2⟩ := RVs2 r
        exact ⟨v, w, e1, h1 _ H1 μ1 F G (a1.ev .refl) ((a1.setP r1).setP r2)⟩
      | [], r, h1 => exact h1.elim
      | [_], r, h1 => exact h1.elim
      | _ :: _ :: _ :: _, r, h1 => exact h1.elim
end
end Dn
namespace Dn
open PySem PySem.Spec L2
open PyProof.Rows hiding St RelV
inductive Tgt where
  | nm (i : Nat) | tup (ts : List Tgt)
mutual
def setT : Tgt → D → Loc → Option Loc
  | .nm i, d, ρ => some (ρ.set i (.pu d))
  | .tup ts, d, ρ => match d with
    | .tup ds => setTs ts ds ρ
    | _ => none
def setTs : List Tgt → List D → Loc → Option Loc
  | [], [], ρ => some ρ
  | t :: ts, d :: ds, ρ => match setT t d ρ with
    | some ρ' => setTs ts ds ρ'
    | none => none
  | _, _, _ => none
end
mutual
def tvs : Tgt → List Nat
  | .nm i => [i]
  | .tup ts => tvss ts
def tvss : List Tgt → List Nat
  | [] => []
  | t :: ts => tvs t ++ tvss ts
end
/-- alike but at l -/
def Out (l : List Nat) (σ σ' : St) : Prop := σ'.length = σ.length ∧ ∀ j, j ∉ l → σ'[j]? = σ[j]?
theorem Out.trans {l l' : List Nat} {σ σ1 σ2 : St} (h : Out l σ σ1) (g : Out l' σ1 σ2) : Out (l ++ l') σ σ2 :=
  ⟨g.1.trans h.1, fun j n => (g.2 j fun z => n (List.mem_append_right _ z)).trans (h.2 j fun z => n (List.mem_append_left _ z))⟩
/-- the target is stored as t says -/
def gT (pn : Pn) (K : PySem.W.Frag) (t : Tgt) : TG := fun v σ H Q => ∃ ρ μ F G st d ρ', At pn K H μ F G ρ σ st ∧ RV K H μ F d v ∧ setT t d ρ = some ρ' ∧ ∀ σ', At pn K H μ F G ρ' σ' st → Out (tvs t) σ σ' → Q σ' H
def gTs (pn : Pn) (K : PySem.W.Frag) (t : List Tgt) : TGs := fun vs σ H Q => ∃ ρ μ F G st ds ρ', At pn K H μ F G ρ σ st ∧ RVs K H μ F ds vs ∧ setTs t ds ρ = some ρ' ∧ ∀ σ', At pn K H μ F G ρ' σ' st → Out (tvss t) σ σ' → Q σ' H
def SG (X : Cx) (tg : Expr) (t : Tgt) : Prop := PG X tg (gT X.pn X.K t)
def SGs (X : Cx) (tg : List Expr) (t : List Tgt) : Prop := PGs X tg (gTs X.pn X.K t)
theorem PG.of {X : Cx} {e : Expr} {t t' : TG} (h : PG X e t) (i : ∀ v σ H Q, t' v σ H Q → t v σ H Q) : PG X e t' := ⟨fun pins s σ H v u Q I r q => h.run pins s σ H v u Q I r (i v σ H Q q)⟩
theorem PGs.of {X : Cx} {e : List Expr} {t t' : TGs} (h : PGs X e t) (i : ∀ v σ H Q, t' v σ H Q → t v σ H Q) : PGs X e t' := ⟨fun pins s σ H v u Q I r q => h.run pins s σ H v u Q I r (i v σ H Q q)⟩
section
variable {X : Cx} {W : WX} {pos : Pos} {e : Expr} {es : List Expr} {t : Tgt} {ts : List Tgt}
theorem sg_nm (i : Nat) {x : Str} {pos : Pos} (hN : X.N.Nodup) (hi : X.N[i]? = some x := by rfl) (hx : L2.Loc X.env.scope x := by first | exact Or.inl rfl | exact Or.inr rfl) (hf : X.fn x = true ∨ X.env.scope.names.lookup x = some .local := by first | exact .inl rfl | exact .inr rfl) :
    SG X (.Name x pos) (.nm i) := PG.of (pg_name hN hi hx hf) fun v σ H Q ⟨ρ, μ, F, G, st, d, ρ', a, r, e, q⟩ => by
  simp only [setT, Option.some.injEq] at e
  subst e
  exact q _ (a.setP r) ⟨List.length_set, fun j n => List.getElem?_set_ne fun z => n (by rw [z]; exact List.mem_singleton.mpr rfl)⟩
theorem sgs_nil : SGs X [] [] := PGs.of pgs_nil fun v σ H Q ⟨ρ, μ, F, G, st, ds, ρ', a, r, e, q⟩ => by
  cases ds with
  | nil =>
    simp only [setTs, Option.some.injEq] at e
    subst e
    unfold RVs at r
    exact ⟨r, q σ a ⟨rfl, fun _ _ => rfl⟩⟩
  | cons d ds => simp [setTs] at e
theorem sgs_cons (h1 : SG X e t) (h2 : SGs X es ts) (hs : (assignEach (e :: es) X.env).map (·.2) = assign e X.env :: (assignEach es X.env).map (·.2) := by rfl) : SGs X (e :: es) (t :: ts) := PGs.of (pgs_cons h1 h2 hs) fun v σ H Q ⟨ρ, μ, F, G, st, ds, ρ', a, r, e, q⟩ => by
  cases ds with
  | nil => simp [setTs] at e
  | cons d ds =>
    unfold RVs at r
    obtain ⟨y, ys, e1, r1, r2⟩ := r
    simp only [setTs] at e
    cases hc : setT t d ρ with
    | none => rw [hc] at e; cases e
    | some ρ1 =>
      rw [hc] at e
      exact ⟨y, ys, e1, ρ, μ, F, G, st, d, ρ1, a, r1, hc, fun σ1 a1 o1 => ⟨ρ1, μ, F, G, st, ds, ρ', a1, r2, e, fun σ2 a2 o2 => q σ2 a2 (o1.trans o2)⟩⟩
theorem sg_tup {k : Nat} (hc : X.calm = true) (h : SGs X es ts) (hn : (assignEach es X.env).length = ts.length := by rfl) (hst : (assignEach es X.env).findIdx? (·.1) = none := by rfl) : SG X (.Tuple es k pos) (.tup ts) :=
  PG.of (pg_tup hc h hn hst) fun v σ H Q ⟨ρ, μ, F, G, st, d, ρ', a, r, e, q⟩ => by
    cases d with
    | tup ds =>
      simp only [setT] at e
      obtain ⟨b, xs, e1, q1, r1⟩ := r.dr (fun n z => by cases z)
      refine ⟨b, xs, e1, q1, ?_, ρ, μ, F, G, st, ds, ρ', a, r1, e, q⟩
      rw [r1.length]
      have key : ∀ (ts : List Tgt) (ds : List D) (ρ ρ' : Loc), setTs ts ds ρ = some ρ' → ds.length = ts.length := by
        intro ts
        induction ts with
        | nil => intro ds ρ ρ' e; cases ds with | nil => rfl | cons d ds => simp [setTs] at e
        | cons t ts ih =>
          intro ds ρ ρ' e
          cases ds with
          | nil => simp [setTs] at e
          | cons d ds =>
            simp only [setTs] at e
            cases hc : setT t d ρ with
            | none => rw [hc] at e; cases e
            | some ρ1 => rw [hc] at e; rw [List.length_cons, List.length_cons, ih ds ρ1 ρ' e]
      exact key ts ds ρ ρ' e
    | _ => simp [setT] at e
end
structure Walks (K : PySem.W.Frag) (F : Addr → Prop) (H0 : Hp) (μ0 : Mu) (J : It) (ds : List D) : Prop where
  go : ∀ (i : Nat) (d : D) (H : Hp) (μ : Mu) (F2 : Addr → Prop) (st : Store), ds[i]? = some d → Kp H0 μ0 F H μ F2 → RS K H μ F2 st →
    J.go i H ∧ ∀ x H2, J.yld i H x H2 → RS K H2 μ F2 st ∧ Fut H μ H2 μ ∧ RV K H2 μ F2 d x
  stop : ∀ (i : Nat) (H : Hp) (μ : Mu) (F2 : Addr → Prop), ds.length ≤ i → Kp H0 μ0 F H μ F2 → J.stop i H
abbrev EI := Loc → Store → Res (List D)
def SI (X : Cx) (W : WX) (tg e : Expr) (m : EI) : Prop := PI X tg e (tG (fun F H μ ds J => Walks X.K F H μ J ds) X.pn X.K W m)
theorem PI.of {X : Cx} {g e : Expr} {t t' : TI} (h : PI X g e t) (i : ∀ σ H Q, t' σ H Q → t σ H Q) : PI X g e t' := ⟨fun pins s σ H Q I q => h.run pins s σ H Q I (i σ H Q q)⟩
section
variable {X : Cx} {W : WX} {tg e a b : Expr} {me : E} {ml : EL} {pos p : Pos}
/-- a list, a tuple, the script: what does not change -/
def seqOf : D → Option (List D)
  | .lst ds => some ds
  | .tup ds => some ds
  | .scr ns => some (ns.map .int)
  | _ => none
def isLst : D → Bool
  | .lst _ => true
  | .scr _ => true
  | _ => false
def iLst (e : E) : EI := fun ρ s => (e ρ s).bind fun d s => if isLst d = true then Res.of (seqOf d) s else .bad
def isTup : D → Bool
  | .tup _ => true
  | _ => false
def iTp (e : E) : EI := fun ρ s => (e ρ s).bind fun d s => if isTup d = true then Res.of (seqOf d) s else .bad
/-- lo, lo + 1, .. -/
def intsD (lo : Int) (n : Nat) : List D := (List.range n).map fun (i : Nat) => D.int (lo + (i : Int))
theorem walks_range {K : PySem.W.Frag} {F : Addr → Prop} {H0 : Hp} {μ0 : Mu} (lo : Int) (n : Nat) : Walks K F H0 μ0 (Itr lo n) (intsD lo n) := by
  refine ⟨fun i d H μ F2 st e f rs => ?_, fun i H μ F2 hl f => ?_⟩
  · unfold intsD at e
    rw [List.getElem?_map] at e
    obtain ⟨k, e1, e2⟩ := Option.map_eq_some_iff.mp e
    have hk : i < n ∧ k = i := by
      have := List.getElem?_eq_some_iff.mp e1
      obtain ⟨h1, h2⟩ := this
      rw [List.length_range] at h1
      simp at h2
      exact ⟨h1, h2.symm⟩
    obtain ⟨hk, rfl⟩ := hk
    subst e2
    refine ⟨hk, fun x H2 hy => ?_⟩
    obtain ⟨rfl, rfl⟩ := hy
    exact ⟨rs, .refl, RV_int _⟩
  · unfold intsD at hl
    rw [List.length_map, List.length_range] at hl
    exact hl
def big : Int := 4611686018427387904
def rng1K (ds : List D) (s : Store) : Res (List D) := match ds with
  | [.int j] => if -big ≤ j ∧ j < big then .ok (intsD 0 j.toNat) s else .bad
  | _ => .bad
def iRng1 (es : EL) : EI := fun ρ s => (es ρ s).bind rng1K
theorem big_eq : big = 2 ^ 62 := by decide
theorem RVs1i {K : PySem.W.Frag} {H : Hp} {μ : Mu} {F : Addr → Prop} {j : Int} {xs : List V} (r : RVs K H μ F [.int j] xs) : xs = [.int j] := by
  simp only [RVs, RV] at r
  obtain ⟨v, ys, e1, r1, e2⟩ := r
  rw [e1, r1, e2]
theorem si_rng1 (hg : Gl X "range") (hm : X.mg "range" = none) (ha : SA X W [a] ml) (hs : starEach [a] X.env = [(false, eval a X.env)] := by rfl) : SI X W tg (.Call (.Name "range" p) [a] [] pos) (Dn.iRng1 ml) :=
  PI.of (pi_range1 hg hm ha hs) fun σ H Q ⟨ρ, μ, F, G, st, a, h⟩ => by
    refine tG_at (k := rng1K) a h fun xs H1 μ1 st1 ds a1 f1 r1 h1 => ?_
    unfold rng1K at h1
    split at h1
    · split at h1
      · rename_i j hj
        rw [big_eq] at hj
        exact ⟨j, RVs1i r1, hj.1, hj.2, h1 _ H1 μ1 .refl a1.s (walks_range 0 j.toNat)⟩
      · exact h1.elim
    · exact h1.elim
def forM (t : Tgt) (body : S) : List D → S
  | [], ρ, s => .nx ρ s
  | d :: ds, ρ, s => match setT t d ρ with
    | none => .bad
    | some ρ' => match body ρ' s with
      | .nx ρ s => forM t body ds ρ s
      | .ct ρ s => forM t body ds ρ s
      | .bk ρ s => .nx ρ s
      | r => r
def sFor (t : Tgt) (it : EI) (body : S) : S := fun ρ s => (it ρ s).to ρ fun ds s => forM t body ds ρ s
theorem ss_for {iter : Expr} {body : List Stmt} {mi : EI} {t : Tgt} {mb : S} (hp : PassesOwn (model X.prog X.w) X.A X.env X.xe) (hc : X.calm = true) (hi : SI X W tg iter mi) (hg : SG X tg t) (hb : SB X W body mb)
    (hs : ∀ x, foldedSetIterable iter X.env x = pure x := by intro _; rfl) : SS X W (.For tg iter body [] pos) (sFor t mi mb) := PS.of (ps_for hp hc hi hg hb hs) fun D σ H ⟨ρ, μ, F, G, st, a, h⟩ => by
  refine tS_e (k := fun ds s => forM t mb ds ρ s) a h fun J H1 μ1 st1 ds a1 f1 wk h1 => ?_
  refine ⟨fun i m σ H => m = ds.length - i ∧ i ≤ ds.length ∧ ∃ ρ μ F' G' st, Ev H1 μ1 F G H μ F' G' ∧ At X.pn X.K H μ F' G' ρ σ st ∧ OkS X.pn X.K W H μ F' G' (forM t mb (ds.drop i) ρ st) D, ⟨ds.length, by simp, Nat.zero_le _, ρ, μ1, F, G, st1, a1.ev .refl, a1, h1⟩, ?_⟩
  rintro i m σ2 H2 ⟨rfl, hi2, ρ2, μ2, F2, G2, st2, e2, a2, h2⟩
  have kp := e2.kp a1.gf
  by_cases hlt : i < ds.length
  · have ed : ds.drop i = ds[i] :: ds.drop (i + 1) := List.drop_eq_getElem_cons hlt
    rw [ed] at h2
    obtain ⟨g1, g2⟩ := wk.go i ds[i] H2 μ2 F2 st2 (List.getElem?_eq_getElem hlt) kp a2.s
    refine .inr ⟨g1, fun σ3 H3 => ∃ ρ μ F' G' st, Ev H1 μ1 F G H3 μ F' G' ∧ At X.pn X.K H3 μ F' G' ρ σ3 st ∧ OkS X.pn X.K W H3 μ F' G' (forM t mb (ds.drop (i + 1)) ρ st) D, fun σ3 H3 h3 => ⟨ds.length - (i + 1), by omega, rfl, hlt, h3⟩, fun x H3 hy => ?_⟩
    obtain ⟨rs3, f3, rv3⟩ := g2 x H3 hy
    have a3 := a2.fut f3 rs3
    have e3 := e2.trans (a2.ev f3)
    have h3 := OkS.ev (a2.ev f3) h2
    have h3 : OkS X.pn X.K W H3 μ2 F2 G2 (match setT t ds[i] ρ2 with
    | none => .bad
    | some ρ' => match mb ρ' st2 with
      | .nx ρ s => forM t mb (ds.drop (i + 1)) ρ s
      | .ct ρ s => forM t mb (ds.drop (i + 1)) ρ s
      | .bk ρ s => .nx ρ s
      | r => r) D := h3
    cases hs : setT t ds[i] ρ2 with
    | none => rw [hs] at h3; exact h3.elim
    | some ρ3 =>
      rw [hs] at h3
      have h3 : OkS X.pn X.K W H3 μ2 F2 G2 (match mb ρ3 st2 with
      | .nx ρ s => forM t mb (ds.drop (i + 1)) ρ s
      | .ct ρ s => forM t mb (ds.drop (i + 1)) ρ s
      | .bk ρ s => .nx ρ s
      | r => r) D := h3
      refine ⟨ρ2, μ2, F2, G2, st2, ds[i], ρ3, a3, rv3, hs, fun σ4 a4 _ => ?_⟩
      refine ⟨ρ3, μ2, F2, G2, st2, a4, ?_⟩
      cases hm : mb ρ3 st2 with
      | nx ρ s => rw [hm] at h3; exact fun σ5 H5 μ5 F5 G5 e5 a5 => ⟨ρ, μ5, F5, G5, s, e3.trans e5, a5, OkS.ev e5 h3⟩
      | ct ρ s => rw [hm] at h3; exact fun σ5 H5 μ5 F5 G5 e5 a5 => ⟨ρ, μ5, F5, G5, s, e3.trans e5, a5, OkS.ev e5 h3⟩
      | bk ρ s => rw [hm] at h3; exact h3
      | rt d s => rw [hm] at h3; exact h3
      | ex C fs ρ s => rw [hm] at h3; exact h3
      | bad => rw [hm] at h3; exact h3
  · have e : i = ds.length := by omega
    subst e
    rw [List.drop_length] at h2
    exact .inl ⟨wk.stop _ H2 μ2 F2 (Nat.le_refl _) kp, h2 σ2 H2 μ2 F2 G2 (a2.ev .refl) a2⟩
end
end Dn
namespace Dn
open PySem PySem.Spec L2
open PyProof.Rows hiding St RelV
/-- there is room, and nothing is being shown -/
structure Room (k : Nat) (A : Around) : Prop where
  r : L2.Room k A
  gd : A.guards = some []
namespace Room
variable {j k : Nat} {A : Around}
theorem mono (h : Room k A) (i : j ≤ k) : Room j A := ⟨h.r.mono i, h.gd⟩
theorem hd (h : Room k A) : A.handled = none := h.r.hd
theorem dp (h : Room k A) : A.depth + 3 * k + 5 < recursionLimit := h.r.dp
theorem un (h : Room k A) : A.units + 16 * k + 200 < cLine := h.r.un
theorem depth (h : Room k A) : A.depth < recursionLimit := h.r.depth
theorem units (h : Room k A) : A.units + 64 < cLine := h.r.units
theorem deeper (h : Room (k + 1) A) (e : Env) : Room k (A.deeper e) := ⟨h.r.deeper e, h.gd⟩
theorem in1 (h : Room (k + 1) A) : Room k A.in1 := ⟨h.r.in1, h.gd⟩
theorem make (h : Room (k + 1) A) (C : Addr) (us : List Value) (kw : List (Str × Value)) : Room k (A.under (.builtin "type.__call__" ⟨.ref C :: us, kw⟩)) := by
  refine ⟨h.r.make C us kw, ?_⟩
  have e : (Code.builtin "type.__call__" ⟨.ref C :: us, kw⟩).guards = [] := by simp [Code.guards, Code.isGuard, guardIds]
  have u : (A.under (.builtin "type.__call__" ⟨.ref C :: us, kw⟩)).guards = pushGuards (Code.builtin "type.__call__" ⟨.ref C :: us, kw⟩).guards A.guards := rfl
  rw [u, e]
  exact h.gd
end Room
theorem room_caller {k : Nat} (h : L2.Room k callerA) : Room k callerA := ⟨h, rfl⟩
/-- a def's promise, given where no display is under way -/
structure FnOk (P : Program) (w : World) (K : PySem.W.Frag) (mg : Str → Option Value) (base : Heap) (cx : CXT) (k : Nat) (f : Addr) (fd : FuncData) (ps : List Str) (sp : Sp) : Prop where
  len : ∀ xs H Q E, sp xs H Q E → xs.length = ps.length
  run : ∀ (A : Around) (fs : List Env) (s : Shared) (H : Hp) (ar : Args) (us : List Value) (xs : List V) (Q : VK) (E : XK), Room k A → Env0 P w K mg base A fs s H → BindsTo s fd ar (ps.zip us) → Vals xs us → sp xs H Q E →
    codeAny (model P w) A (.call (.ref f) ar) (CR cx fs P w H s Q E) s
section
variable {P : Program} {w : World} {K : PySem.W.Frag} {mg : Str → Option Value} {base : Heap} {cx cx' : CXT} {j k : Nat} {f : Addr} {fd : FuncData} {ps : List Str} {sp sp' : Sp}
theorem FnOk.of (F : L2.FnOk P w K mg base cx k f fd ps sp) : FnOk P w K mg base cx k f fd ps sp := ⟨F.len, fun A fs s H ar us xs Q E h => F.run A fs s H ar us xs Q E h.r⟩
theorem FnOk.mono (F : FnOk P w K mg base cx j f fd ps sp) (h : j ≤ k) : FnOk P w K mg base cx k f fd ps sp := ⟨F.len, fun A fs s H ar us xs Q E i => F.run A fs s H ar us xs Q E (i.mono h)⟩
theorem FnOk.imp (F : FnOk P w K mg base cx k f fd ps sp) (h : ∀ xs H Q E, sp' xs H Q E → sp xs H Q E) : FnOk P w K mg base cx k f fd ps sp' :=
  ⟨fun xs H Q E q => F.len xs H Q E (h _ _ _ _ q), fun A fs s H ar us xs Q E i e b v q => F.run A fs s H ar us xs Q E i e b v (h _ _ _ _ q)⟩
/-- THE RULE for a def of the text, under such a room -/
theorem okG {x qual : Str} {params : Arguments} {body : List Stmt} {scope : Scope} {dvs : List V} {kws : List (Str × V)} {N : List Str} (F : FunD K x qual params body scope dvs kws f fd) (S : FnScope N ps scope) (len : ∀ xs H Q E, sp xs H Q E → xs.length = ps.length)
    (hbody : ∀ (cdv : Value) (A : Around) (fs : List Env) (s : Shared) (H : Hp) (xs : List V) (Q : VK) (E : XK), Room k (A.deeper (envOfC qual scope s.heap.objs.size f cdv)) → sp xs H Q E →
      ∃ t, PSs (cxOf cx P w K mg base N qual scope f cdv A fs s H E) body t ∧ t { nx := fun _ H1 => Q .non H1, rt := Q } (start N xs) H) : FnOk P w K mg base cx (k + 1) f fd ps sp := by
  obtain ⟨c0, d0, v0, v1, v2, v3, a0, cdv, v4, sl, rfl, look, hcode, _, _⟩ := F.ex
  refine ⟨len, fun A fs s H ar us xs Q E room e0 bd rel hq0 => ?_⟩
  have n0 := len _ _ _ _ hq0
  have kin : K.In s.heap := e0.mod.kin.keeps fun b o z => (e0.bs b o z).1
  have nolim : s.heap.NoLimit := e0.mod.nolimit.keeps fun b o z => (e0.bs b o z).1
  have kinds : ∀ y ∈ ps.zip us, scope.names.lookup y.1 = some .local ∨ (scope.names.lookup y.1 = some .cell ∧ ((cellsFrom (s.heap.objs.size + 1) scope.names []).lookup y.1).isSome = true) := by
    rintro ⟨nm, v⟩ hy
    rcases S.par nm (List.of_mem_zip hy).1 with z | z
    · exact .inl z
    · exact .inr ⟨z, PySem.W.cellsFrom_some _ _ _ (.inl z)⟩
  refine codeAny_call_function room.depth (kin _ _ look) rfl S.co S.gen rfl (PySem.W.codeRec_of kin hcode) (bd _ _ _ _ ?_)
  refine wpAny_newFunctionEnv_cells S.kind kinds fun env he s1 inCall => ?_
  subst he
  refine ⟨nolim.keeps inCall.toInCall.keep, codeAny_func ?_⟩
  obtain ⟨t, ht, hq⟩ := hbody cdv A fs s H xs Q E (room.deeper _) hq0
  have I : Inv (cxOf cx P w K mg base N qual scope f cdv A fs s H E) [] (start N xs) H s1 := inv_start S room.hd e0 n0 rel inCall
  refine wpAny_mono (ht.run [] s1 (start N xs) H _ I hq) (fun fl s2 hs => ?_) fun e s2 hs => hs
  cases fl with
  | ret u =>
    obtain ⟨v, σ2, H2, J, rv, q⟩ := hs
    exact ⟨v, H2, J.os, J.bare, J.base, J.hok, rv, q⟩
  | next =>
    obtain ⟨σ2, H2, J, q⟩ := hs
    exact ⟨.non, H2, J.os, J.bare, J.base, J.hok, rfl, q⟩
  | brk =>
    obtain ⟨_, _, _, q⟩ := hs
    exact q.elim
  | cont =>
    obtain ⟨_, _, _, q⟩ := hs
    exact q.elim
end
section
variable {P : Program} {w : World} {K : PySem.W.Frag} {mg mb : Str → Option Value} {cx : CXT} {k : Nat} {fa a : Addr} {fd : FuncData} {x : Str} {sp : Sp} {s0 : Shared} {vs : List Value} {ns : List Int}
theorem call_from (H : Hp) (KX : K.In s0.heap) (hns : s0.heap.Ns mainGlobals mg) (hb : s0.heap.Ns builtinsNs mb) (hbb : ∀ x : Str, x ≠ "__name__" → mb x = bootBuiltins x) (hlim : s0.heap.NoLimit) (hg : s0.gens = #[])
    (ha : s0.heap.get? a = some { cls := .type "list", data := .seq vs.toArray }) (room : Room k callerA)
    (F : ∀ base : Heap, K.In base → base.Ns mainGlobals mg → FnOk P w K mg base cx k fa fd [x] sp) (bd : ∀ (s : Shared) (u : Value), BindsTo s fd ⟨[u], []⟩ [(x, u)])
    (hsp : sp [.ref a] H (fun v _ => v = .bl true) fun _ _ _ => False) (hcx : ∀ e s', cx [] H s0 (fun _ _ _ => False) e s' → False)
    (only : Only H) (ok : HOk P w H s0.heap) (hA : ∀ b, H b ≠ none → b = a) (hK : H a ≠ none → K.lookup a = none) :
    codeAny (model P w) callerA (.call (.ref fa) ⟨[.ref a], []⟩) (fun r s' => r = .ok (.ret (.bool true)) ∧ OldK s0.heap s'.heap ∧ s'.os = s0.os ∧ AllBare s'.gens) s0 := by
  have at_a : ∀ {b : Addr} {o : HO}, H b = some o → b = a := fun {b o} z => hA b (by rw [z]; exact fun y => nomatch y)
  have free : ∀ {b : Addr} {o : Obj} {es : Array DictEntry} {ep : Nat}, s0.heap.get? b = some o → o.data = .dict es ep → H b = none := by
    intro b o es ep e d
    cases z : H b with
    | none => rfl
    | some u =>
      rw [at_a z, ha] at e
      cases e
      exact nomatch (show Data.seq vs.toArray _ = Data.dict es ep from d)
  have low : ∀ {b : Addr} {m : Str → Option Value}, s0.heap.Ns b m → (hidT s0.heap H).Ns b m := by
    rintro b m ⟨o, es, ep, e, d, r⟩
    exact ⟨o, es, ep, hidT_get e (free e d), d, r⟩
  have kin : K.In (hidT s0.heap H) := by
    intro b o e
    refine hidT_get (KX b o e) ?_
    cases z : H b with
    | none => rfl
    | some u =>
      rw [at_a z] at e z
      rw [hK (by rw [z]; exact fun y => nomatch y)] at e
      cases e
  have md : Mod K mg (hidT s0.heap H) := ⟨kin, low hns, ⟨mb, low hb, hbb⟩, let ⟨mc, h1, h2⟩ := hlim; ⟨mc, low h1, h2⟩⟩
  have env : Env0 P w K mg (hidT s0.heap H) callerA [] s0 H := ⟨rfl, md, fun b o e => of_hidT e, Nat.le_of_eq (hidT_size _ _), trivial, (fun b z => nomatch z), ok, .of_eq hg⟩
  refine codeAny_mono ((F _ kin (low hns)).run callerA [] s0 H ⟨[.ref a], []⟩ [.ref a] [.ref a] _ _ room env (bd s0 (.ref a)) (.cons rfl .nil) hsp) fun r s' h => ?_
  cases r with
  | error e => exact (hcx e s' h).elim
  | ok fl =>
    cases fl with
    | ret u =>
      obtain ⟨v, H', os, bare, un, ok', rv, q⟩ := h
      cases (show v = .bl true from q)
      cases (show u = Value.bool true from rv)
      refine ⟨rfl, OldK.of_keep fun b o e => ?_, os, bare⟩
      cases z : H b with
      | none => exact un.keep b o e z (fun y => nomatch y) (fun y => nomatch y)
      | some u =>
        rcases only b with y | ⟨ob, xs, y⟩
        · rw [z] at y; cases y
        · obtain ⟨e1, _⟩ := ok b _ y
          obtain ⟨e2, _⟩ := ok' b _ (un.frzs b ob _ y)
          rw [e] at e1
          cases e1
          exact e2
    | next => exact h.elim
    | brk => exact h.elim
    | cont => exact h.elim
theorem call_law (KX : K.In s0.heap) (hns : s0.heap.Ns mainGlobals mg) (hb : s0.heap.Ns builtinsNs mb) (hbb : ∀ x : Str, x ≠ "__name__" → mb x = bootBuiltins x) (hlim : s0.heap.NoLimit) (hg : s0.gens = #[])
    (ha : s0.heap.get? a = some { cls := .type "list", data := .seq vs.toArray }) (hi : IntsAre vs ns) (hl : ns.length ≤ sizeLine) (room : Room k callerA)
    (F : ∀ base : Heap, K.In base → base.Ns mainGlobals mg → FnOk P w K mg base cx k fa fd [x] sp) (bd : ∀ (s : Shared) (u : Value), BindsTo s fd ⟨[u], []⟩ [(x, u)])
    (hsp : ∀ H : Hp, Only H → SqL K H a (ns.map V.int) → sp [.ref a] H (fun v _ => v = .bl true) fun _ _ _ => False) (hcx : ∀ H e s', cx [] H s0 (fun _ _ _ => False) e s' → False) :
    codeAny (model P w) callerA (.call (.ref fa) ⟨[.ref a], []⟩) (fun r s' => r = .ok (.ret (.bool true)) ∧ OldK s0.heap s'.heap ∧ s'.os = s0.os ∧ AllBare s'.gens) s0 := by
  have rv := vals_ints hi
  have hsz := hi.length
  cases hk : K.lookup a with
  | some o =>
    have e := KX a o hk
    rw [ha] at e
    cases e
    have only : Only fun _ => none := fun _ => .inl rfl
    have sq : SqL K (fun _ => none) a (ns.map V.int) := .inr ⟨_, vs.toArray, _, hk, rfl, rfl, rfl, by rw [List.size_toArray, hsz]; exact hl, by simpa using rv⟩
    exact call_from _ KX hns hb hbb hlim hg ha room F bd (hsp _ only sq) (hcx _) only (fun b u z => nomatch z) (fun b z => absurd rfl z) fun z => absurd rfl z
  | none =>
    generalize hH : (fun b => if b = a then some (HO.frz { cls := .type "list", data := .seq vs.toArray } (.lst (ns.map V.int))) else none : Hp) = H
    have h1 : H a = some (.frz { cls := .type "list", data := .seq vs.toArray } (.lst (ns.map V.int))) := by rw [← hH]; exact if_pos rfl
    have h2 : ∀ b, b ≠ a → H b = none := fun b z => by rw [← hH]; exact if_neg z
    have only : Only H := fun b => by
      by_cases z : b = a
      · exact .inr ⟨_, _, by rw [z]; exact h1⟩
      · exact .inl (h2 b z)
    refine call_from H KX hns hb hbb hlim hg ha room F bd (hsp H only (.inl (.inr ⟨_, h1⟩))) (hcx _) only (fun b u z => ?_) (fun b z => ?_) fun _ => hk
    · by_cases y : b = a
      · rw [y, h1] at z
        cases z
        rw [y]
        exact ⟨ha, by rw [List.length_map]; exact hl, vs, _, rv, ha⟩
      · rw [h2 b y] at z; cases z
    · by_cases y : b = a
      · exact y
      · exact absurd (h2 b y) z
end
/-- a law's end over a head by facts -/
theorem walk_G {l : PySem.W.OpenLaw} {n k : Nat} {q : Program} {loose : List Str} {XP : (Str → Option Value) → Heap → Prop} {YP : World → Heap → Prop} {d : DefRec} {cx : CXT} {x : Str}
    (hn : l.most = some n) (hn2 : n ≤ sizeLine) (hdf : d.params.defaults = []) (room : L2.Room k callerA)
    (F : ∀ (w : World) (mg : Str → Option Value) (fa : Addr) (h : Heap), YP w h → h.Ns mainGlobals mg → mg d.name = some (.ref fa) →
      ∃ (K : PySem.W.Frag) (fd : FuncData) (sp : Sp), K.In h ∧ (∀ (s : Shared) (u : Value), BindsTo s fd ⟨[u], []⟩ [(x, u)]) ∧
        (∀ (H : Hp) (a : Addr) (ns : List Int), ns.length ≤ n → Only H → SqL K H a (ns.map V.int) → sp [.ref a] H (fun v _ => v = .bl true) fun _ _ _ => False) ∧
        ∀ base : Heap, K.In base → base.Ns mainGlobals mg → FnOk l.prog w K mg base cx k fa fd [x] sp)
    (hcx : ∀ (H : Hp) (s : Shared) (e : Value) (s' : Shared), cx [] H s (fun _ _ _ => False) e s' → False) :
    PySem.W.WalkO q loose XP YP l.row.toRowW d [] (fun f vs => PySem.call f vs) := by
  refine Att.attach_call hn hdf fun w sa sb mg mb fa o pm cd doc a vs ns top Y ho hd hcd hmg obj hin hlen gens => ?_
  obtain ⟨K, fd, sp, KX, bd, hsp, F⟩ := F w mg fa _ Y top.T.g hmg
  exact call_law KX top.T.g top.T.b top.T.builtins top.T.nolimit gens obj hin (Nat.le_trans hlen hn2) (room_caller room) F bd (fun H h1 h2 => hsp H a ns hlen h1 h2) fun H e s' => hcx H sb e s'
end Dn
namespace Dn
open PySem PySem.Spec L2
open PyProof.Rows hiding St RelV
abbrev M := List D → Store → Res D
def spOf (K : PySem.W.Frag) (n : Nat) (m : M) : Sp := fun vs H Q E => ∃ μ F st ds, RS K H μ F st ∧ RVs K H μ F ds vs ∧ ds.length = n ∧ OkE K (fun c d _ H => E c d H) F [] H μ (m ds st) Q
def SRes.fin (r : SRes) : Res D := match r with
  | .nx _ s => .ok .non s
  | .rt d s => .ok d s
  | .ex C fs _ s => .ex C fs s
  | _ => .bad
/-- a def's body at its arguments; N: how many slots -/
def fnM (N : Nat) (body : S) : M := fun ds s => (body (ds.map .pu ++ List.replicate (N - ds.length) .no) s).fin
section
variable {pn : Pn} {K : PySem.W.Frag} {W : WX} {H : Hp} {μ : Mu} {F : Addr → Prop} {st : Store}
theorem RL.start {ds : List D} {vs : List V} (r : RVs K H μ F ds vs) (N : List Str) : RL pn K H μ F ownNo (ds.map .pu ++ List.replicate (N.length - ds.length) .no) (L2.start N vs) := by
  have hl := r.length
  refine ⟨by unfold L2.start; simp [hl], fun i sl e => ?_, fun i j b c d e a h1 _ _ _ => ?_⟩
  · by_cases hi : i < ds.length
    · rw [List.getElem?_append_left (by simpa using hi), List.getElem?_map] at e
      obtain ⟨d, e1, e2⟩ := Option.map_eq_some_iff.mp e
      subst e2
      obtain ⟨v, e3, rv⟩ := r.get e1
      refine ⟨some v, ?_, v, rfl, rv⟩
      unfold L2.start
      rw [List.getElem?_append_left (by simpa [hl] using hi), List.getElem?_map, e3]
      rfl
    · rw [List.getElem?_append_right (by simpa using hi), List.getElem?_replicate] at e
      split at e
      · rename_i h
        cases e
        refine ⟨none, ?_, True.intro⟩
        unfold L2.start
        rw [List.length_map] at h
        rw [List.getElem?_append_right (by simp [hl]; omega), List.getElem?_replicate, if_pos (by rw [List.length_map, hl]; exact h)]
      · cases e
  · by_cases hi : i < ds.length
    · rw [List.getElem?_append_left (by simpa using hi), List.getElem?_map] at h1
      obtain ⟨d, e1, e2⟩ := Option.map_eq_some_iff.mp h1
      cases e2
    · rw [List.getElem?_append_right (by simpa using hi), List.getElem?_replicate] at h1
      split at h1 <;> cases h1
/-- THE RULE for a def -/
theorem fn_ok {P : Program} {w : World} {mg : Str → Option Value} {base : Heap} {x qual : Str} {params : Arguments} {body : List Stmt} {scope : Scope} {dvs : List V} {kws : List (Str × V)} {f : Addr} {fd : FuncData} {N ps : List Str} {k : Nat} {mb : S}
    (Fu : FunD K x qual params body scope dvs kws f fd) (S : FnScope N ps scope)
    (hb : ∀ (cdv : Value) (A : Around) (outer : List Env) (s : Shared) (H : Hp) (E : XK), Room k (A.deeper (envOfC qual scope s.heap.objs.size f cdv)) →
      SB (cxOf (L2.CX P w) P w K mg base N qual scope f cdv A outer s H E) (fun c d _ H => E c d H) body mb) : FnOk P w K mg base (L2.CX P w) (k + 1) f fd ps (spOf K ps.length (fnM N.length mb)) := by
  refine okG Fu S (fun vs H Q E ⟨μ, F, st, ds, _, r, hl, _⟩ => by rw [r.length]; exact hl) fun cdv A outer s H vs Q E hr ⟨μ, F, st, ds, rs, r, hl, h⟩ => ⟨_, hb cdv A outer s H E hr, _, μ, F, ownNo, st, ⟨RL.start r N, rs, fun _ z => False.elim z⟩, ?_⟩
  unfold fnM at h
  have bk : ∀ {H' : Hp} {μ' : Mu} {F' : Addr → Prop} {G' : Own}, Ev H μ F ownNo H' μ' F' G' → ∀ a, F a → F' a := fun e a z => (e.sub a z).elim id fun z => False.elim z
  show OkS [] K (fun c d _ H => E c d H) H μ F ownNo (mb _ st) _
  cases e : mb (ds.map .pu ++ List.replicate (N.length - ds.length) .no) st with
  | nx ρ s => rw [e] at h; exact fun σ H' μ' F' G' e' a' => h .non H' μ' e'.fut (a'.s.weak (bk e')) RV_non
  | rt d s => rw [e] at h; exact fun v H' μ' F' G' e' a' rv => h v H' μ' e'.fut (a'.weak (bk e')) (RV.weak (bk e') rv)
  | ex C fs ρ s => rw [e] at h; exact fun d σ H' μ' F' G' xs e' a' q1 q2 q3 q4 => h d H' μ' xs e'.fut (a'.s.weak (bk e')) q1 q2 (fun z => q3 (bk e' d z)) (RVf.kp ⟨fun a o h n nF => ⟨h, n, fun z => nF (bk e' a z)⟩, fun _ _ h => h⟩ q4)
  | bk ρ s => rw [e] at h; exact h.elim
  | ct ρ s => rw [e] at h; exact h.elim
  | bad => rw [e] at h; exact h.elim
end
structure Fr (X : Cx) (W : WX) : Prop where
  hu : X.A.units + 64 < cLine
  hc : X.calm = true
  tk : Takes X W
  hp : PassesOwn (model X.prog X.w) X.A X.env X.xe
theorem Fr.of {P : Program} {w : World} {K : PySem.W.Frag} {mg : Str → Option Value} {base : Heap} {N : List Str} {qual : Str} {scope : Scope} {f : Addr} {cdv : Value} {A : Around} {outer : List Env} {s : Shared} {H : Hp} {E : XK} {k : Nat} (hr : Room k (A.deeper (envOfC qual scope s.heap.objs.size f cdv))) :
    Fr (cxOf (L2.CX P w) P w K mg base N qual scope f cdv A outer s H E) (fun c d _ H => E c d H) :=
  ⟨hr.units, rfl, takes_of rfl rfl rfl rfl, passes_of (K := fun e s'' => L2.CX P w outer H s E e s'') rfl⟩
def pick {α : Type} (perm : List Nat) (l : List α) : List α := perm.filterMap fun i => l[i]?
theorem Vals.pick {vs : List V} {us : List Value} (r : Vals vs us) : ∀ perm : List Nat, Vals (pick perm vs) (pick perm us)
  | [] => .nil
  | i :: perm => by
    have ih := Vals.pick r perm
    unfold Dn.pick at ih ⊢
    rw [List.filterMap_cons, List.filterMap_cons]
    cases e : vs[i]? with
    | none =>
      have : us[i]? = none := by
        rw [List.getElem?_eq_none_iff] at e ⊢
        rw [← r.length]; exact e
      rw [this]
      exact ih
    | some v =>
      obtain ⟨u, e2, rv⟩ := r.get e
      rw [e2]
      exact .cons rv ih
theorem RVs.pick {K : PySem.W.Frag} {H : Hp} {μ : Mu} {F : Addr → Prop} {ds : List D} {vs : List V} (r : RVs K H μ F ds vs) : ∀ perm : List Nat, RVs K H μ F (pick perm ds) (pick perm vs)
  | [] => RVs.nil
  | i :: perm => by
    have ih := RVs.pick r perm
    unfold Dn.pick at ih ⊢
    rw [List.filterMap_cons, List.filterMap_cons]
    cases e : ds[i]? with
    | none =>
      have : vs[i]? = none := by
        rw [List.getElem?_eq_none_iff] at e ⊢
        rw [r.length]; exact e
      rw [this]
      exact ih
    | some v =>
      obtain ⟨u, e2, rv⟩ := r.get e
      rw [e2]
      exact RVs.cons rv ih
/-- the call of c with positional arguments and keywords ks: m tells what comes of the written arguments -/
def CallsD (X : Cx) (W : WX) (c : Value) (ks : List Str) (m : M) : Prop := ∀ (pins : List (Addr × Obj)) (s : Shared) (σ : St) (H : Hp) (us ws : List Value) (vs zs : List V) (Q : VK) (μ : Mu) (F : Addr → Prop) (st : Store) (ds es : List D),
  Inv X pins σ H s → Vals vs us → Vals zs ws → ws.length = ks.length → RS X.K H μ F st → RVs X.K H μ F ds vs → RVs X.K H μ F es zs → OkE X.K W F σ H μ (m (ds ++ es) st) Q → wpAny (model X.prog X.w) X.A (call c us (ks.zip ws)) (EP X pins σ Q) X.xe s
/-- how a def binds np positional values and the keywords ks; dfl: the defaults that fill up; perm: where each parameter's value stands among them -/
def KB (K : PySem.W.Frag) (fd : FuncData) (ps : List Str) (np : Nat) (ks : List Str) (perm : List Nat) (dfl : List D) : Prop := ∃ (its : List Value) (dvs : List V), Vals dvs its ∧ (∀ H μ F, RVs K H μ F dfl dvs) ∧
  ∀ (s : Shared) (us ws : List Value), K.In s.heap → us.length = np → ws.length = ks.length → BindsTo s fd ⟨us, ks.zip ws⟩ (ps.zip (pick perm (us ++ ws ++ its)))
def argsM (np nk : Nat) (perm : List Nat) (dfl : List D) (m : M) : M := fun ds s => if ds.length = np + nk ∧ (pick perm (ds ++ dfl)).length = perm.length then m (pick perm (ds ++ dfl)) s else .bad
section
variable {X : Cx} {W : WX} {k np : Nat} {f : Addr} {fd : FuncData} {ps ks : List Str} {perm : List Nat} {dfl : List D} {m : M}
theorem OkG.at {α β : Type} {P : Hp → Mu → α → β → Prop} {K : PySem.W.Frag} {F : Addr → Prop} {σ : St} {H : Hp} {μ : Mu} {r : Res α} {Q : β → Hp → Prop} (h : OkG P K W F σ H μ r Q) : OkG P K (fun c d _ H => W c d σ H) F [] H μ r Q := by
  cases r with
  | ok d s => exact h
  | ex C fs s => exact h
  | bad => exact h
theorem fn_calls (Fn : FnOk X.prog X.w X.K X.mg X.base (L2.CX X.prog X.w) k f fd ps (spOf X.K ps.length m)) (hr : Room k X.A) (tk : Takes X W) (hb : KB X.K fd ps np ks perm dfl) (hp : perm.length = ps.length) : CallsD X W (.ref f) ks (argsM np ks.length perm dfl m) := by
  intro pins s σ H us ws vs zs Q μ F st ds es I r rz lz rs rd re h
  obtain ⟨its, dvs, rt, rdf, hb⟩ := hb
  unfold argsM at h
  split at h
  · rename_i hl
    have l1 := rd.length
    have l2 := re.length
    have l3 := r.length
    have l4 := rz.length
    rw [List.length_append] at hl
    have hus : us.length = np := by omega
    have r2 : Vals (pick perm (vs ++ zs ++ dvs)) (pick perm (us ++ ws ++ its)) := Vals.pick ((r.append rz).append rt) perm
    have r3 : RVs X.K H μ F (pick perm (ds ++ es ++ dfl)) (pick perm (vs ++ zs ++ dvs)) := RVs.pick ((rd.append re).append (rdf H μ F)) perm
    have hq : spOf X.K ps.length m (pick perm (vs ++ zs ++ dvs)) H Q (WE W σ) := ⟨μ, F, st, _, rs, r3, by rw [hl.2, hp], h.at⟩
    refine wpAny_call (codeAny_mono (Fn.run X.A X.stack s H ⟨us, ks.zip ws⟩ _ _ Q (WE W σ) hr I.env0 (hb s us ws I.kIn hus lz) r2 hq) fun r s' hq => ?_)
    cases r with
    | error e => exact passAt tk σ pins H s e s' I hq
    | ok fl =>
      cases fl with
      | ret u => exact I.after hq
      | next => exact False.elim hq
      | brk => exact False.elim hq
      | cont => exact False.elim hq
  · exact h.elim
variable {x : Str} {p pos : Pos} {e : Expr} {es : List Expr} {kws : List Keyword} {ml mk : EL} {c : Value}
def eCall (m : M) (a : EL) : E := fun ρ s => (a ρ s).bind fun ds s => m ds s
def eCallK (nk : Nat) (m : M) (a b : EL) : E := fun ρ s => (a ρ s).bind fun ds s => (b ρ s).bind fun es s => if es.length = nk then m (ds ++ es) s else .bad
theorem call_at {σ : St} {H : Hp} {Q : VK} (h : tG (fun F H μ d v => RV X.K H μ F d v) X.pn X.K W (eCall m ml) σ H Q) (C : CallsD X W c [] m) :
    tG (fun F H μ d v => RVs X.K H μ F d v) X.pn X.K W ml σ H fun vs H1 => ∀ pins s us, Inv X pins σ H1 s → Vals vs us → wpAny (model X.prog X.w) X.A (call c us) (EP X pins σ Q) X.xe s := by
  obtain ⟨ρ, μ, F, G, st, a, h⟩ := h
  refine tG_at (k := fun ds s => m ds s) a h fun vs H1 μ1 st1 ds a1 f1 r1 h1 => fun pins s us I r => ?_
  exact C pins s σ H1 us [] vs [] Q μ1 F st1 ds [] I r .nil rfl a1.s r1 RVs.nil (by rw [List.append_nil]; exact h1)
/-- x(e, ..), a name of the module -/
theorem se_call (C : CallsD X W c [] m) (hg : Gl X x) (hm : X.mg x = some c) (hk : PySem.W.keepIn X.K c = true) (ha : SA X W (e :: es) ml) (hdb : (x == ("__debug__" : Str)) = false := by decide)
    (he : starEach (e :: es) X.env = (false, eval e X.env) :: starEach es X.env := by rfl) (hpl : (backTo pos (starEach es X.env)).any (·.1) = false := by rfl) : SE X W (.Call (.Name x p) (e :: es) [] pos) (eCall m ml) := by
  refine ⟨fun pins s σ H Q I h => ?_⟩
  refine wpAny_Call_Name_kw (ld_glob I hg hm ?_ hdb)
  refine PySem.W.callWith_K (h₀ := X.base) I.ok.mod.kin hk (thn (ha.run pos pins s σ H _ I (call_at h C)) fun us s1 ⟨vs, H1, I1, r, q⟩ => ⟨I1.kIn, ?_⟩) he hpl
  exact q pins s1 us I1 r
/-- the values of keywords -/
def SK (X : Cx) (W : WX) (kws : List Keyword) (m : EL) : Prop := PK X kws (tG (fun F H μ d v => RVs X.K H μ F d v) X.pn X.K W m)
theorem PK.of {X : Cx} {e : List Keyword} {t t' : TA} (h : PK X e t) (i : ∀ σ H Q, t' σ H Q → t σ H Q) : PK X e t' := ⟨fun pos pins s σ H Q I q => h.run pos pins s σ H Q I (i σ H Q q)⟩
theorem sk_nil : SK X W [] eNil := PK.of pk_nil fun σ H Q ⟨ρ, μ, F, G, st, a, h⟩ => h [] H μ .refl a.s RVs.nil
theorem sk_cons {nm : Option Str} {kpos : Pos} {me : E} (ha : SE X W e me) (hr : SK X W kws mk) : SK X W (⟨nm, e, kpos⟩ :: kws) (eCons me mk) := PK.of (pk_cons ha hr) fun σ H Q ⟨ρ, μ, F, G, st, a, h⟩ => by
  refine tG_at (k := fun d s => (mk ρ s).bind fun ds s => .ok (d :: ds) s) a h fun x H1 μ1 st1 d a1 f1 r1 h1 => ?_
  refine tG_at (k := fun ds s => .ok (d :: ds) s) a1 h1 fun xs H2 μ2 st2 ds a2 f2 r2 h2 => ?_
  exact h2 _ H2 μ2 .refl a2.s (RVs.cons (RV.kp f2.kp0 r1) r2)
end
mutual
def kB (K : PySem.W.Frag) : D → Value → Bool
  | .non, u => (match u with | .none => true | _ => false)
  | .bl b, u => (match u with | .bool c => b == c | _ => false)
  | .int i, u => (match u with | .int j _ => decide (i = j) | _ => false)
  | .str x, u => (match u with | .str y _ => decide (x = y) | _ => false)
  | .glob x, u => (match u with | .ref a => decide (a = He.ga K x) | _ => false)
  | .tup ds, u => (match u with
    | .ref a => (match K.lookup a with
      | some ⟨.type c, _, .seq its _, _⟩ => decide (c = "tuple") && (decide (its.size ≤ sizeLine) && kBs K ds its.toList)
      | _ => false)
    | _ => false)
  | _, _ => false
def kBs (K : PySem.W.Frag) : List D → List Value → Bool
  | [], us => us.isEmpty
  | d :: ds, us => (match us with
    | [] => false
    | u :: us => kB K d u && kBs K ds us)
end
theorem kB_and {a b : Bool} (h : (a && b) = true) : a = true ∧ b = true := Bool.and_eq_true_iff.mp h
mutual
theorem kB_ok {K : PySem.W.Frag} : ∀ (d : D) (u : Value), kB K d u = true → ∃ v, RelV v u ∧ ∀ H μ F, RV K H μ F d v
  | .non, u, h => by
    unfold kB at h
    split at h
    · exact ⟨.non, rfl, fun _ _ _ => RV_non⟩
    · cases h
  | .bl b, u, h => by
    unfold kB at h
    split at h
    · rename_i c
      have e : b = c := eq_of_beq h
      subst e
      exact ⟨.bl b, rfl, fun _ _ _ => RV_bl b⟩
    · cases h
  | .int i, u, h => by
    unfold kB at h
    split at h
    · rename_i j t
      have e : i = j := of_decide_eq_true h
      subst e
      exact ⟨.int i, ⟨t, rfl⟩, fun _ _ _ => RV_int i⟩
    · cases h
  | .str i, u, h => by
    unfold kB at h
    split at h
    · rename_i j t
      have e : i = j := of_decide_eq_true h
      subst e
      exact ⟨.str i, ⟨t, rfl⟩, fun _ _ _ => RV_str i⟩
    · cases h
  | .glob x, u, h => by
    unfold kB at h
    split at h
    · rename_i a
      have e : a = He.ga K x := of_decide_eq_true h
      subst e
      exact ⟨.ref _, rfl, fun _ _ _ => by unfold RV; rfl⟩
    · cases h
  | .tup ds, u, h => by
    unfold kB at h
    split at h
    · rename_i a
      split at h
      · rename_i c _ its n _ hl
        obtain ⟨h1, h2⟩ := kB_and h
        obtain ⟨h3, h4⟩ := kB_and h2
        obtain ⟨vs, r, q⟩ := kBs_ok ds _ h4
        refine ⟨.ref a, rfl, fun H μ F => ?_⟩
        unfold RV
        exact ⟨a, vs, rfl, .inr ⟨_, its, n, hl, congrArg Value.type (of_decide_eq_true h1), rfl, of_decide_eq_true h3, r⟩, q H μ F⟩
      · cases h
    · cases h
  | .lst _, _, h => by simp [kB] at h
  | .dic _, _, h => by simp [kB] at h
  | .obj _ _, _, h => by simp [kB] at h
  | .ref _, _, h => by simp [kB] at h
  | .scr _, _, h => by simp [kB] at h
theorem kBs_ok {K : PySem.W.Frag} : ∀ (ds : List D) (us : List Value), kBs K ds us = true → ∃ vs, Vals vs us ∧ ∀ H μ F, RVs K H μ F ds vs
  | [], us, h => by
    unfold kBs at h
    have e : us = [] := by cases us with | nil => rfl | cons _ _ => cases h
    subst e
    exact ⟨[], .nil, fun _ _ _ => RVs.nil⟩
  | d :: ds, us, h => by
    unfold kBs at h
    split at h
    · cases h
    · obtain ⟨h1, h2⟩ := kB_and h
      obtain ⟨v, r, q⟩ := kB_ok d _ h1
      obtain ⟨vs, r2, q2⟩ := kBs_ok ds _ h2
      exact ⟨v :: vs, .cons r r2, fun H μ F => RVs.cons (q H μ F) (q2 H μ F)⟩
end
/-- the module's name x stands for d -/
def gB (K : PySem.W.Frag) (x : Str) (d : D) : Bool := match PySem.W.nsIn K mainGlobals x with
  | some (some u) => kB K d u
  | _ => false
theorem gB_ok {K : PySem.W.Frag} {h : Heap} {mg : Str → Option Value} {x : Str} {d : D} (X : K.In h) (G : h.Ns mainGlobals mg) (c : gB K x d = true) : Gv K mg x d := by
  unfold gB at c
  split at c
  · rename_i u e
    obtain ⟨v, r, q⟩ := kB_ok d u c
    exact ⟨u, v, PySem.W.mg_of X G e, r, q⟩
  · cases c
/-- facts by names, and what a law checks besides -/
abbrev AlX : Type := He.AlD × Bool
def obsX (fa : List He.Fa) (fn : List He.DefD) (chk : PySem.W.Frag → Bool) (K : PySem.W.Frag) : AlX := (He.obsD fa fn K, chk K)
def SaysX (fa : List He.Fa) (fn : List He.DefD) (chk : PySem.W.Frag → Bool) (K : PySem.W.Frag) : Prop := obsX fa fn chk K = (He.valD fn, true)
theorem SaysX.d {fa : List He.Fa} {fn : List He.DefD} {chk : PySem.W.Frag → Bool} {K : PySem.W.Frag} (c : SaysX fa fn chk K) : He.SaysD fa fn K := congrArg (fun z : AlX => z.1) c
theorem SaysX.c {fa : List He.Fa} {fn : List He.DefD} {chk : PySem.W.Frag → Bool} {K : PySem.W.Frag} (c : SaysX fa fn chk K) : chk K = true := congrArg (fun z : AlX => z.2) c
theorem only_rs {K : PySem.W.Frag} {H : Hp} : RS K H [] (fun _ => False) [] := ⟨rfl, List.nodup_nil, fun _ h => (by cases h), fun _ h => False.elim h, fun _ _ h => (by cases h)⟩
theorem law_sp {K : PySem.W.Frag} {most : Nat} {m : M} (hm : ∀ ns : List Int, ns.length ≤ most → ∃ s, m [.scr ns] [] = .ok (.bl true) s) (H : Hp) (a : Addr) (ns : List Int) (hl : ns.length ≤ most) (hO : Only H) (hS : SqL K H a (ns.map V.int)) :
    spOf K 1 m [.ref a] H (fun v _ => v = .bl true) fun _ _ _ => False := by
  obtain ⟨s, e⟩ := hm ns hl
  refine ⟨[], fun _ => False, [], [.scr ns], only_rs, ?_, rfl, ?_⟩
  · refine RVs.cons ?_ RVs.nil
    unfold RV
    refine ⟨a, rfl, ?_⟩
    rcases hS with (h | ⟨o, h⟩) | h
    · rcases hO a with z | ⟨o, xs, z⟩
      · rw [h] at z; cases z
      · rw [h] at z; cases z
    · exact .inl ⟨o, h, by simp, fun z => z⟩
    · exact .inr h
  · rw [e]
    exact fun v H' μ' f rs rv => RV_blv rv
end Dn
namespace Dn
open PySem PySem.Spec L2
open PyProof.Rows hiding St RelV
def VB (X : Cx) (f : Value) (g : List D → Option D) : Prop := CallR X f fun xs H Q => ∃ μ F st ds r, RS X.K H μ F st ∧ RDs X.K H μ F ds xs ∧ g (ds.map (der st)) = some r ∧ ∀ v H' μ', Fut H μ H' μ' → RS X.K H' μ' F st → RV X.K H' μ' F r v → Q v H'
def eBt (g : List D → Option D) (a : EL) : E := fun ρ s => (a ρ s).bind fun ds s => Res.of (g (ds.map (der s))) s
section
variable {X : Cx} {W : WX} {e : Expr} {es : List Expr} {ml : EL} {g : List D → Option D} {p pos : Pos} {x : Str}
theorem bt_at {σ : St} {H : Hp} {Q : VK} (h : tG (fun F H μ d v => RV X.K H μ F d v) X.pn X.K W (eBt g ml) σ H Q) :
    tG (fun F H μ d v => RDs X.K H μ F d v) X.pn X.K W ml σ H fun xs H => ∃ μ F st ds r, RS X.K H μ F st ∧ RDs X.K H μ F ds xs ∧ g (ds.map (der st)) = some r ∧ ∀ v H' μ', Fut H μ H' μ' → RS X.K H' μ' F st → RV X.K H' μ' F r v → Q v H' := by
  obtain ⟨ρ, μ, F, G, st, a, h⟩ := h
  refine tG_at (k := fun (ds : List D) s => Res.of (g (ds.map (der s))) s) a h fun xs H1 μ1 st1 ds a1 f1 r1 h1 => ?_
  obtain ⟨r, hr, hq⟩ := OkG.some h1
  exact ⟨μ1, F, st1, ds, r, a1.s, r1, hr, hq⟩
theorem se_bt {id : String} (hc : VB X (.builtin id) g) (hg : Gl X x) (hm : X.mg x = none) (ha : SAR X W (e :: es) ml) (hv : bootBuiltins x = some (.builtin id) := by decide +kernel) (hn : x ≠ "__name__" := by decide) (hdb : (x == ("__debug__" : Str)) = false := by decide)
    (he : starEach (e :: es) X.env = (false, eval e X.env) :: starEach es X.env := by rfl) (hpl : (backTo pos (starEach es X.env)).any (·.1) = false := by rfl) : SE X W (.Call (.Name x p) (e :: es) [] pos) (eBt g ml) :=
  PE.of (pe_callB hc hg hm hv ha hn hdb he hpl) fun σ H Q h => bt_at h
theorem se_bty {T : String} (hc : VB X (.type T) g) (hg : Gl X x) (hm : X.mg x = none) (ha : SAR X W (e :: es) ml) (hv : bootBuiltins x = some (.type T) := by decide +kernel) (hn : x ≠ "__name__" := by decide) (hdb : (x == ("__debug__" : Str)) = false := by decide)
    (he : starEach (e :: es) X.env = (false, eval e X.env) :: starEach es X.env := by rfl) (hpl : (backTo pos (starEach es X.env)).any (·.1) = false := by rfl) : SE X W (.Call (.Name x p) (e :: es) [] pos) (eBt g ml) :=
  PE.of (pe_callTy hc hg hm hv ha hn hdb he hpl) fun σ H Q h => bt_at h
end
def gLen : List D → Option D
  | [.lst ds] => some (.int ds.length)
  | [.tup ds] => some (.int ds.length)
  | [.scr ns] => some (.int ns.length)
  | [.dic ds] => some (.int ds.length)
  | [.str z] => if z.length ≤ line then some (.int z.length) else none
  | _ => none
def gAbs : List D → Option D
  | [.int i] => some (.int (if i < 0 then -i else i))
  | _ => none
def gInt : List D → Option D
  | [.int i] => some (.int i)
  | [.bl b] => some (.int (if b then 1 else 0))
  | _ => none
def gMax2 : List D → Option D
  | [.int i, .int j] => some (.int (if j > i then j else i))
  | _ => none
def gMin2 : List D → Option D
  | [.int i, .int j] => some (.int (if j < i then j else i))
  | _ => none
def gTuple : List D → Option D
  | [.lst ds] => some (.tup ds)
  | [.tup ds] => some (.tup ds)
  | [.scr ns] => some (.tup (ns.map .int))
  | _ => none
def gList : List D → Option D
  | [.lst ds] => some (.lst ds)
  | [.tup ds] => some (.lst ds)
  | [.scr ns] => some (.lst (ns.map .int))
  | _ => none
section
variable {X : Cx} {K : PySem.W.Frag} {H : Hp} {μ : Mu} {F : Addr → Prop} {st : Store}
theorem RDs.one {ds : List D} {xs : List V} {c : D} (s : RS K H μ F st) (r : RDs K H μ F ds xs) (e : ds.map (der st) = [c]) : ∃ d x, ds = [d] ∧ xs = [x] ∧ RD K H μ F d x ∧ der st d = c := by
  match ds, r, e with
  | [], r, e => cases e
  | [d], r, e =>
    obtain ⟨x, ys, e1, r1, e2⟩ := r
    rw [show ys = [] from e2] at e1
    exact ⟨d, x, rfl, e1, r1, List.cons.inj e |>.1⟩
  | _ :: _ :: _, r, e => cases e
theorem RDs.two {ds : List D} {xs : List V} {c c' : D} (s : RS K H μ F st) (r : RDs K H μ F ds xs) (e : ds.map (der st) = [c, c']) : ∃ d d' x x', ds = [d, d'] ∧ xs = [x, x'] ∧ RD K H μ F d x ∧ RD K H μ F d' x' ∧ der st d = c ∧ der st d' = c' := by
  match ds, r, e with
  | [], r, e => cases e
  | [d], r, e => cases e
  | [d, d'], r, e =>
    obtain ⟨x, ys, e1, r1, x', zs, e2, r2, e3⟩ := r
    rw [show zs = [] from e3] at e2
    rw [e2] at e1
    have e' := List.cons.inj e
    exact ⟨d, d', x, x', rfl, e1, r1, r2, e'.1, (List.cons.inj e'.2).1⟩
  | _ :: _ :: _ :: _, r, e => cases e
theorem gLen_ok : VB X (.builtin "len") gLen := by
  intro pins s σ H xs us Q I r h
  obtain ⟨μ, F, st, ds, rr, rs, rd, hg, q⟩ := h
  generalize hds : ds.map (der st) = cs at hg
  unfold gLen at hg
  split at hg
  · cases hg
    obtain ⟨d, x, e1, e2, r1, e3⟩ := rd.one rs hds
    have r2 := r1.dr rs
    rw [e3] at r2
    obtain ⟨a, ys, e4, q1, q2⟩ := r2
    refine call_len pins s σ H xs us Q I r ⟨x, ys.length, e2, ?_, ?_⟩
    · rw [e4]; exact .inl ⟨ys, .inl (.inl q1), rfl⟩
    · rw [q2.length]; exact q _ H μ .refl rs (RV_int _)
  · cases hg
    obtain ⟨d, x, e1, e2, r1, e3⟩ := rd.one rs hds
    have r2 := r1.dr rs
    rw [e3] at r2
    obtain ⟨a, ys, e4, q1, q2⟩ := r2
    refine call_len pins s σ H xs us Q I r ⟨x, ys.length, e2, ?_, ?_⟩
    · rw [e4]; exact .inr ⟨ys, q1, rfl⟩
    · rw [q2.length]; exact q _ H μ .refl rs (RV_int _)
  · cases hg
    rename_i ns
    obtain ⟨d, x, e1, e2, r1, e3⟩ := rd.one rs hds
    have r2 := r1.dr rs
    rw [e3] at r2
    obtain ⟨a, e4, q1⟩ := r2
    refine call_len pins s σ H xs us Q I r ⟨x, (ns.map V.int).length, e2, ?_, ?_⟩
    · rw [e4]; exact .inl ⟨_, q1, rfl⟩
    · rw [List.length_map]; exact q _ H μ .refl rs (RV_int _)
  · cases hg
    obtain ⟨d, x, e1, e2, r1, e3⟩ := rd.one rs hds
    have r2 := r1.dr rs
    rw [e3] at r2
    obtain ⟨a, ys, e4, q1, q2⟩ := r2
    subst e2 e4
    obtain rfl := Vals.ref1 r
    refine d_len I q1 fun t s' I' => ⟨.int ys.length, H, I', ⟨t, rfl⟩, ?_⟩
    rw [q2.length]; exact q _ H μ .refl rs (RV_int _)
  · split at hg
    · rename_i hl
      cases hg
      obtain ⟨d, x, e1, e2, r1, e3⟩ := rd.one rs hds
      have r2 := r1.dr rs
      rw [e3] at r2
      rw [show x = .str _ from r2] at e2
      exact call_len pins s σ H xs us Q I r ⟨_, _, e2, ⟨by rw [line_eq]; exact hl, rfl⟩, q _ H μ .refl rs (RV_int _)⟩
    · cases hg
  · cases hg
theorem gAbs_ok : VB X (.builtin "abs") gAbs := by
  intro pins s σ H xs us Q I r h
  obtain ⟨μ, F, st, ds, rr, rs, rd, hg, q⟩ := h
  generalize hds : ds.map (der st) = cs at hg
  unfold gAbs at hg
  split at hg
  · cases hg
    obtain ⟨d, x, e1, e2, r1, e3⟩ := rd.one rs hds
    have r2 := r1.dr rs
    rw [e3] at r2
    rw [show x = .int _ from r2] at e2
    exact call_abs pins s σ H xs us Q I r ⟨_, e2, q _ H μ .refl rs (RV_int _)⟩
  · cases hg
theorem gInt_ok : VB X (.type "int") gInt := by
  intro pins s σ H xs us Q I r h
  obtain ⟨μ, F, st, ds, rr, rs, rd, hg, q⟩ := h
  generalize hds : ds.map (der st) = cs at hg
  unfold gInt at hg
  split at hg
  · cases hg
    obtain ⟨d, x, e1, e2, r1, e3⟩ := rd.one rs hds
    have r2 := r1.dr rs
    rw [e3] at r2
    rw [show x = .int _ from r2] at e2
    exact call_int1 pins s σ H xs us Q I r (.inl ⟨_, e2, q _ H μ .refl rs (RV_int _)⟩)
  · cases hg
    obtain ⟨d, x, e1, e2, r1, e3⟩ := rd.one rs hds
    have r2 := r1.dr rs
    rw [e3] at r2
    rw [show x = .bl _ from r2] at e2
    exact call_int1 pins s σ H xs us Q I r (.inr ⟨_, e2, q _ H μ .refl rs (RV_int _)⟩)
  · cases hg
theorem gMax2_ok (hc : X.calm = true) : VB X (.builtin "max") gMax2 := by
  intro pins s σ H xs us Q I r h
  obtain ⟨μ, F, st, ds, rr, rs, rd, hg, q⟩ := h
  generalize hds : ds.map (der st) = cs at hg
  unfold gMax2 at hg
  split at hg
  · cases hg
    obtain ⟨d, d', x, x', e1, e2, r1, r1', e3, e3'⟩ := rd.two rs hds
    have r2 := r1.dr rs
    have r2' := r1'.dr rs
    rw [e3] at r2
    rw [e3'] at r2'
    rw [show x = .int _ from r2, show x' = .int _ from r2'] at e2
    exact call_max2 hc pins s σ H xs us Q I r ⟨_, _, e2, q _ H μ .refl rs (RV_int _)⟩
  · cases hg
theorem gMin2_ok (hc : X.calm = true) : VB X (.builtin "min") gMin2 := by
  intro pins s σ H xs us Q I r h
  obtain ⟨μ, F, st, ds, rr, rs, rd, hg, q⟩ := h
  generalize hds : ds.map (der st) = cs at hg
  unfold gMin2 at hg
  split at hg
  · cases hg
    obtain ⟨d, d', x, x', e1, e2, r1, r1', e3, e3'⟩ := rd.two rs hds
    have r2 := r1.dr rs
    have r2' := r1'.dr rs
    rw [e3] at r2
    rw [e3'] at r2'
    rw [show x = .int _ from r2, show x' = .int _ from r2'] at e2
    exact call_min2 hc pins s σ H xs us Q I r ⟨_, _, e2, q _ H μ .refl rs (RV_int _)⟩
  · cases hg
theorem gTuple_ok : VB X (.type "tuple") gTuple := by
  intro pins s σ H xs us Q I r h
  obtain ⟨μ, F, st, ds, rr, rs, rd, hg, q⟩ := h
  generalize hds : ds.map (der st) = cs at hg
  unfold gTuple at hg
  split at hg
  · cases hg
    obtain ⟨d, x, e1, e2, r1, e3⟩ := rd.one rs hds
    have r2 := r1.dr rs
    rw [e3] at r2
    obtain ⟨a, ys, e4, q1, q2⟩ := r2
    rw [e4] at e2
    exact call_tuple_of pins s σ H xs us Q I r ⟨a, ys, e2, .inl ⟨.inl (.inl q1), fun l hl => q _ _ μ (.new hl) (rs.new hl) (rs.newT hl q2)⟩⟩
  · cases hg
    obtain ⟨d, x, e1, e2, r1, e3⟩ := rd.one rs hds
    have r2 := r1.dr rs
    rw [e3] at r2
    obtain ⟨a, ys, e4, q1, q2⟩ := r2
    have rv := r1.tup rs e3
    rw [e4] at e2 rv
    exact call_tuple_of pins s σ H xs us Q I r ⟨a, ys, e2, .inr ⟨q1, q _ H μ .refl rs rv⟩⟩
  · cases hg
    obtain ⟨d, x, e1, e2, r1, e3⟩ := rd.one rs hds
    have r2 := r1.dr rs
    rw [e3] at r2
    obtain ⟨a, e4, q1⟩ := r2
    rw [e4] at e2
    exact call_tuple_of pins s σ H xs us Q I r ⟨a, _, e2, .inl ⟨q1, fun l hl => q _ _ μ (.new hl) (rs.new hl) (rs.newT hl (RVs.ints _))⟩⟩
  · cases hg
theorem gList_ok : VB X (.type "list") gList := by
  intro pins s σ H xs us Q I r h
  obtain ⟨μ, F, st, ds, rr, rs, rd, hg, q⟩ := h
  generalize hds : ds.map (der st) = cs at hg
  unfold gList at hg
  split at hg
  · cases hg
    obtain ⟨d, x, e1, e2, r1, e3⟩ := rd.one rs hds
    have r2 := r1.dr rs
    rw [e3] at r2
    obtain ⟨a, ys, e4, q1, q2⟩ := r2
    rw [e4] at e2
    exact call_list_of pins s σ H xs us Q I r ⟨a, ys, e2, .inl (.inl (.inl q1)), fun l hl => q _ _ μ (.new hl) (rs.new hl) (rs.newL hl q2)⟩
  · cases hg
    obtain ⟨d, x, e1, e2, r1, e3⟩ := rd.one rs hds
    have r2 := r1.dr rs
    rw [e3] at r2
    obtain ⟨a, ys, e4, q1, q2⟩ := r2
    rw [e4] at e2
    exact call_list_of pins s σ H xs us Q I r ⟨a, ys, e2, .inr q1, fun l hl => q _ _ μ (.new hl) (rs.new hl) (rs.newL hl q2)⟩
  · cases hg
    obtain ⟨d, x, e1, e2, r1, e3⟩ := rd.one rs hds
    have r2 := r1.dr rs
    rw [e3] at r2
    obtain ⟨a, e4, q1⟩ := r2
    rw [e4] at e2
    exact call_list_of pins s σ H xs us Q I r ⟨a, _, e2, .inl q1, fun l hl => q _ _ μ (.new hl) (rs.new hl) (rs.newL hl (RVs.ints _))⟩
  · cases hg
end
end Dn
namespace Dn
open PySem PySem.Spec L2
open PyProof.Rows hiding St RelV
def cutD {α : Type} (xs : List α) (lo hi : Option Int) : List α := (xs.drop (HT.sIx xs.length 0 lo)).take (HT.sIx xs.length xs.length hi - HT.sIx xs.length 0 lo)
def cutOf : D → Option Int → Option Int → Option D
  | .lst ds, l, u => some (.lst (cutD ds l u))
  | .tup ds, l, u => some (.tup (cutD ds l u))
  | .scr ns, l, u => some (.lst ((cutD ns l u).map .int))
  | .str z, l, u => if z.length ≤ line then some (.str (cutS z l u)) else none
  | _, _, _ => none
abbrev EP' := Loc → Store → Res (Option Int)
def eNoPart : EP' := fun _ s => .ok none s
def partK (d : D) (s : Store) : Res (Option Int) := match d with
  | .int i => .ok (some i) s
  | _ => .bad
def ePart (e : E) : EP' := fun ρ s => (e ρ s).bind partK
def eSl (a : E) (l u : EP') : E := fun ρ s => (a ρ s).bind fun x s => (l ρ s).bind fun l s => (u ρ s).bind fun u s => Res.of (cutOf (der s x) l u) s
section
variable {X : Cx} {W : WX} {e : Expr} {es : List Expr} {me : E} {ml mu : EP'} {pos p2 : Pos} {lo hi : Option Expr}
def SO (X : Cx) (W : WX) (e : Option Expr) (m : EP') : Prop := PO X e (tG (fun _ _ _ d v => d = v) X.pn X.K W m)
theorem PO.of {X : Cx} {e : Option Expr} {t t' : TO} (h : PO X e t) (i : ∀ σ H Q, t' σ H Q → t σ H Q) : PO X e t' := ⟨fun pins s σ H Q I q => h.run pins s σ H Q I (i σ H Q q)⟩
theorem so_none : SO X W none eNoPart := PO.of po_none fun σ H Q ⟨ρ, μ, F, G, st, a, h⟩ => h none H μ .refl a.s rfl
theorem so_some (he : SE X W e me) : SO X W (some e) (ePart me) := PO.of (po_some he) fun σ H Q ⟨ρ, μ, F, G, st, a, h⟩ =>
  tG_at (k := partK) a h fun x H1 μ1 st1 d a1 f1 r1 h1 => by
    cases d with
    | int i =>
      unfold RV at r1
      exact ⟨i, r1, h1 _ H1 μ1 .refl a1.s rfl⟩
    | _ => exact h1.elim
def rCut (X : Cx) : V → Option Int → Option Int → Hp → VK → Prop := fun x l u H Q => ∃ μ F st d r, RS X.K H μ F st ∧ RD X.K H μ F d x ∧ cutOf (der st d) l u = some r ∧ ∀ v H' μ', Fut H μ H' μ' → RS X.K H' μ' F st → RV X.K H' μ' F r v → Q v H'
theorem RVs.cut {K : PySem.W.Frag} {H : Hp} {μ : Mu} {F : Addr → Prop} {ds : List D} {xs : List V} (r : RVs K H μ F ds xs) (l u : Option Int) : RVs K H μ F (cutD ds l u) (cutV xs l u) := by
  unfold cutD cutV
  rw [r.length]
  exact (r.drop _).take _
theorem cutV_map (ns : List Int) (l u : Option Int) : cutV (ns.map V.int) l u = (cutD ns l u).map V.int := by
  unfold cutD cutV
  rw [List.length_map, List.map_take, List.map_drop]
theorem cut_ok : SlR X (rCut X) := by
  intro pins s σ H x v vl vu lo hi sl Q I rx hs pl pu h
  obtain ⟨μ, F, st, d, r, rs, rd, hg, q⟩ := h
  have rr := rd.dr rs
  generalize hd : der st d = c at hg rr
  unfold cutOf at hg
  split at hg
  · cases hg
    obtain ⟨a, xs, e1, q1, q2⟩ := rr
    exact sl_list pins s σ H x v vl vu lo hi sl Q I rx hs pl pu ⟨a, xs, e1, .inl (.inl q1), fun p hp => q _ _ μ (.new hp) (rs.new hp) (rs.newL hp (q2.cut lo hi))⟩
  · cases hg
    rename_i ds
    obtain ⟨a, xs, e1, q1, q2⟩ := rr
    have rv := rd.tup rs hd
    rw [e1] at rv
    refine sl_tupA pins s σ H x v vl vu lo hi sl Q I rx hs pl pu ⟨a, xs, e1, q1, fun hw => ?_, fun _ p hp => q _ _ μ (.new hp) (rs.new hp) (rs.newT hp (q2.cut lo hi))⟩
    have e : cutD ds lo hi = ds := by
      unfold cutD
      rw [q2.length] at hw
      rw [hw.1, hw.2, List.drop_zero, Nat.sub_zero, List.take_length]
    rw [e] at q
    exact q _ H μ .refl rs rv
  · cases hg
    obtain ⟨a, e1, q1⟩ := rr
    refine sl_list pins s σ H x v vl vu lo hi sl Q I rx hs pl pu ⟨a, _, e1, q1, fun p hp => q _ _ μ (.new hp) (rs.new hp) (rs.newL hp ?_)⟩
    rw [cutV_map]
    exact RVs.ints _
  · split at hg
    · rename_i hl
      cases hg
      exact sl_str pins s σ H x v vl vu lo hi sl Q I rx hs pl pu ⟨_, rr, by rw [line_eq]; exact hl, q _ H μ .refl rs (RV_str _)⟩
    · cases hg
  · cases hg
theorem se_sl (he : SR X W e me) (hl : SO X W lo ml) (hu : SO X W hi mu) : SE X W (.Subscript e (.Slice lo hi none p2) pos) (eSl me ml mu) := PE.of (pe_slice cut_ok he hl hu) fun σ H Q ⟨ρ, μ, F, G, st, a, h⟩ => by
  refine tG_at (k := fun x s => (ml ρ s).bind fun l s => (mu ρ s).bind fun u s => Res.of (cutOf (der s x) l u) s) a h fun x H1 μ1 st1 d a1 f1 r1 h1 => ?_
  refine tG_at (k := fun l s => (mu ρ s).bind fun u s => Res.of (cutOf (der s d) l u) s) a1 h1 fun l H2 μ2 st2 l' a2 f2 r2 h2 => ?_
  refine tG_at (k := fun u s => Res.of (cutOf (der s d) l' u) s) a2 h2 fun u H3 μ3 st3 u' a3 f3 r3 h3 => ?_
  subst r2 r3
  obtain ⟨r, hr, hq⟩ := OkG.some h3
  exact ⟨μ3, F, st3, d, r, a3.s, (r1.fut a1.s f2).fut a2.s f3, hr, hq⟩
def revOf : D → Option D
  | .lst ds => some (.lst ds.reverse)
  | .scr ns => some (.lst (ns.reverse.map .int))
  | _ => none
def eRev (a : E) : E := fun ρ s => (a ρ s).bind fun x s => Res.of (revOf (der s x)) s
end
def enumD : Nat → List D → List D
  | _, [] => []
  | i, d :: ds => .tup [.int (i : Int), d] :: enumD (i + 1) ds
theorem enumD_get : ∀ (ds : List D) (k i : Nat), (enumD k ds)[i]? = (ds[i]?).map fun d => .tup [.int ((k + i : Nat) : Int), d]
  | [], k, i => by simp [enumD]
  | d :: ds, k, 0 => by simp [enumD]
  | d :: ds, k, i + 1 => by
    show (enumD (k + 1) ds)[i]? = _
    rw [enumD_get ds (k + 1) i]
    have e : k + 1 + i = k + (i + 1) := by omega
    rw [e]
    rfl
theorem enumD_len : ∀ (ds : List D) (k : Nat), (enumD k ds).length = ds.length
  | [], _ => rfl
  | d :: ds, k => by simp [enumD, enumD_len ds]
def enumK (ds : List D) (s : Store) : Res (List D) := match ds with
  | [d] => (match d with
    | .lst xs => .ok (enumD 0 xs) s
    | .scr ns => .ok (enumD 0 (ns.map .int)) s
    | _ => .bad)
  | _ => .bad
def iEnum (a : EL) : EI := fun ρ s => (a ρ s).bind enumK
theorem walks_enum {K : PySem.W.Frag} {F : Addr → Prop} {H0 : Hp} {μ0 : Mu} {a : Addr} {ds : List D} (h : ∀ H μ F2, Kp H0 μ0 F H μ F2 → ∃ xs, SqL K H a xs ∧ RVs K H μ F2 ds xs) : Walks K F H0 μ0 (Ite K a) (enumD 0 ds) where
  go := fun i d H μ F2 st e kp rs => by
    obtain ⟨xs, q, r⟩ := h H μ F2 kp
    rw [enumD_get] at e
    obtain ⟨c, e1, e2⟩ := Option.map_eq_some_iff.mp e
    subst e2
    obtain ⟨v, e3, rv⟩ := r.get e1
    refine ⟨⟨xs, v, q, e3⟩, fun x H2 hy => ?_⟩
    obtain ⟨T, y, rfl, hT, rfl, hy⟩ := hy
    have hy := hy xs q
    rw [e3] at hy; cases hy
    refine ⟨rs.new hT, .new hT, ?_⟩
    rw [Nat.zero_add]
    exact rs.newT hT (RVs.cons (RV_int _) (RVs.cons rv RVs.nil))
  stop := fun i H μ F2 hl kp => by
    obtain ⟨xs, q, r⟩ := h H μ F2 kp
    exact ⟨xs, q, by rw [r.length]; rw [enumD_len] at hl; exact hl⟩
section
variable {X : Cx} {W : WX} {e : Expr} {elts : List Expr} {kk : Nat} {tpos p pos : Pos} {ml : EL}
/-- of a list: nothing else can be read at its address in a state of the walk -/
theorem si_enum (hg : Gl X "enumerate") (hm : X.mg "enumerate" = none) (ha : SA X W [e] ml) (hs : starEach [e] X.env = [(false, eval e X.env)] := by rfl) : SI X W (.Tuple elts kk tpos) (.Call (.Name "enumerate" p) [e] [] pos) (Dn.iEnum ml) := by
  refine ⟨fun pins s σ H R I h => ?_⟩
  refine (pi_enum hg hm ha hs).run pins s σ H R I ?_
  obtain ⟨ρ, μ, F, G, st, a, h⟩ := h
  refine tG_at (k := enumK) a h fun xs H1 μ1 st1 ds a1 f1 r1 h1 => ?_
  unfold enumK at h1
  split at h1
  · split at h1
    · rename_i ds
      simp only [RVs] at r1
      obtain ⟨v, ys, e1, r1, e2⟩ := r1
      subst e2
      unfold RV at r1
      obtain ⟨b, xs, e2, q1, q2⟩ := r1
      subst e2
      refine ⟨b, xs, e1, .inl (.inl q1.1), h1 _ H1 μ1 .refl a1.s (walks_enum fun H μ F2 kp => ⟨xs, .inl (.inl (kp.pure b _ q1.1 q1.2.1 q1.2.2).1), RVs.kp kp q2⟩)⟩
    · rename_i ns
      simp only [RVs] at r1
      obtain ⟨v, ys, e1, r1, e2⟩ := r1
      subst e2
      unfold RV at r1
      obtain ⟨b, e2, q1⟩ := r1
      subst e2
      have key : ∀ H μ F2, Kp H1 μ1 F H μ F2 → SqL X.K H b (ns.map V.int) := fun H μ F2 f => by
        rcases q1 with ⟨o, h1, h2, h3⟩ | q1
        · exact .inl (.inr ⟨o, (f.pure b _ h1 h2 h3).1⟩)
        · exact .inr q1
      exact ⟨b, _, e1, key H1 μ1 F ⟨fun _ _ h n nf => ⟨h, n, nf⟩, fun _ _ h => h⟩, h1 _ H1 μ1 .refl a1.s (walks_enum fun H μ F2 kp => ⟨_, key H μ F2 kp, RVs.ints ns⟩)⟩
    · exact h1.elim
  · exact h1.elim
end
section
variable {X : Cx} {W : WX} {e o i tg : Expr} {me mo mi : E} {t : Tgt} {pos tpos : Pos}
def sAsg (t : Tgt) (e : E) : S := fun ρ s => (e ρ s).to ρ fun d s => match setT t d ρ with
  | some ρ' => .nx ρ' s
  | none => .bad
/-- c[i] = d -/
def putIx (c : D) (i : D) (d : D) : Option D := match c, i with
  | .lst ds, .int j => (ixN ds.length j).map fun k => .lst (ds.set k d)
  | .dic kvs, k => if kvs.length < line then (dkey k).map fun q => .dic (dputK k q d kvs) else none
  | _, _ => none
/-- o[i] = e, o a shared object -/
def sPut (e o i : E) : S := fun ρ s => (e ρ s).to ρ fun d s => (o ρ s).to ρ fun b s => (i ρ s).to ρ fun j s => match b with
  | .ref n => (match s[n]? with
    | some c => (match putIx c (der s j) d with
      | some c' => .nx ρ (s.set n c')
      | none => .bad)
    | none => .bad)
  | _ => .bad
theorem RVd.any {K : PySem.W.Frag} {H : Hp} {μ : Mu} {F : Addr → Prop} {q : Key} : ∀ {kvs : List (D × D)} {xs : List (Key × V)}, RVd K H μ F kvs xs → (xs.any fun kv => decide (kv.1 = q)) = dhasK q kvs
  | [], xs, h => by
    unfold RVd at h
    subst h
    rfl
  | (k', c) :: r, xs, h => by
    unfold RVd at h
    obtain ⟨q', y, ys, e, h1, h2, h3⟩ := h
    subst e
    have hq := RV_key h1
    have ih := RVd.any (q := q) h3
    unfold dhasK at ih ⊢
    rw [List.any_cons, List.any_cons, ih]
    show (decide (q' = q) || _) = (decide (dkey k' = some q) || _)
    rw [hq]
    simp
theorem RVd.upd {K : PySem.W.Frag} {H : Hp} {μ : Mu} {F : Addr → Prop} {d : D} {v : V} {q : Key} (hv : RV K H μ F d v) : ∀ {kvs : List (D × D)} {xs : List (Key × V)}, RVd K H μ F kvs xs →
    RVd K H μ F (kvs.map fun kv => if dkey kv.1 = some q then (kv.1, d) else kv) (xs.map fun kv => if kv.1 = q then (kv.1, v) else kv)
  | [], xs, h => by
    unfold RVd at h
    subst h
    exact RVd.nil
  | (k', c) :: r, xs, h => by
    unfold RVd at h
    obtain ⟨q', y, ys, e, h1, h2, h3⟩ := h
    subst e
    have hq := RV_key h1
    have ih := RVd.upd (q := q) hv h3
    rw [List.map_cons, List.map_cons]
    by_cases z : q' = q
    · subst z
      rw [if_pos hq, if_pos rfl]
      exact RVd.cons h1 hv ih
    · rw [if_neg (by rw [hq]; exact fun w => z (Option.some.inj w)), if_neg z]
      exact RVd.cons h1 h2 ih
theorem RVd.append {K : PySem.W.Frag} {H : Hp} {μ : Mu} {F : Addr → Prop} : ∀ {kvs ls : List (D × D)} {xs ys : List (Key × V)}, RVd K H μ F kvs xs → RVd K H μ F ls ys → RVd K H μ F (kvs ++ ls) (xs ++ ys)
  | [], ls, xs, ys, h, g => by
    unfold RVd at h
    subst h
    exact g
  | (k', c) :: r, ls, xs, ys, h, g => by
    unfold RVd at h
    obtain ⟨q', y, zs, e, h1, h2, h3⟩ := h
    subst e
    exact RVd.cons h1 h2 (RVd.append h3 g)
theorem RVd.put {K : PySem.W.Frag} {H : Hp} {μ : Mu} {F : Addr → Prop} {k d : D} {v : V} {q : Key} (hk : RV K H μ F k (kV q)) (hv : RV K H μ F d v) {kvs : List (D × D)} {xs : List (Key × V)} (h : RVd K H μ F kvs xs) : RVd K H μ F (dputK k q d kvs) (putK xs q v) := by
  unfold dputK putK
  rw [h.any]
  by_cases z : dhasK q kvs = true
  · rw [if_pos z, if_pos z]
    exact h.upd hv
  · rw [if_neg z, if_neg z]
    exact h.append (RVd.cons hk hv RVd.nil)
theorem dkey_RV {K : PySem.W.Frag} {H : Hp} {μ : Mu} {F : Addr → Prop} {k : D} {y : V} {q : Key} (h : dkey k = some q) (r : DR K H μ F k y) : y = kV q ∧ RV K H μ F k (kV q) := by
  have e := DR_key r h
  subst e
  refine ⟨rfl, ?_⟩
  cases k with
  | int i => cases h; exact RV_int i
  | str i => cases h; exact RV_str i
  | _ => cases h
theorem ss_put (hu : X.A.units + 64 < cLine) (he : SE X W e me) (ho : SE X W o mo) (hi : SR X W i mi) (ha : ∀ v, assign (.Subscript o i tpos) X.env v = (do
      let ov ← holding [v] (eval o X.env)
      let iv ← holding [v, ov] (eval i X.env)
      standAt tpos
      holding [v, ov, iv] (setItem ov iv v)
      release [v, ov, iv] []) := by intro _; rfl) (hs : swapsWithSole [.Subscript o i tpos] e pos.line X.env = pure false := by rfl) (hw : swappedStores [.Subscript o i tpos] e X.env = pure none := by rfl)
    (h1 : (assignEach [.Subscript o i tpos] X.env).map (·.2) = [assign (.Subscript o i tpos) X.env] := by rfl) : SS X W (.Assign [.Subscript o i tpos] e pos) (sPut me mo mi) := by
  refine ⟨fun pins s σ H D I h => ?_⟩
  have hset : PSet X (fun o i v H Q => rSetL o i v H Q ∨ rSetD o i v H Q) := by
    intro pins s σ H o i v ov iv u Q I ro ri rv h
    rcases h with h | h
    · exact set_list pins s σ H o i v ov iv u Q I ro ri rv h
    · exact set_dict (by omega) pins s σ H o i v ov iv u Q I ro ri rv h
  refine (ps_asg he (pg_sub ho hi hset ha) hs hw h1).run pins s σ H D I ?_
  obtain ⟨ρ, μ, F, G, st, a, h⟩ := h
  refine tS_e (k := fun d s => (mo ρ s).to ρ fun b s => (mi ρ s).to ρ fun j s => match b with
  | .ref n => (match s[n]? with
    | some c => (match putIx c (der s j) d with
      | some c' => .nx ρ (s.set n c')
      | none => .bad)
    | none => .bad)
  | _ => .bad) a h fun x H1 μ1 st1 d a1 f1 r1 h1 => ?_
  refine tS_e (k := fun b s => (mi ρ s).to ρ fun j s => match b with
  | .ref n => (match s[n]? with
    | some c => (match putIx c (der s j) d with
      | some c' => .nx ρ (s.set n c')
      | none => .bad)
    | none => .bad)
  | _ => .bad) a1 h1 fun y H2 μ2 st2 b a2 f2 r2 h2 => ?_
  refine tS_e (k := fun j s => match b with
  | .ref n => (match s[n]? with
    | some c => (match putIx c (der s j) d with
      | some c' => .nx ρ (s.set n c')
      | none => .bad)
    | none => .bad)
  | _ => .bad) a2 h2 fun z H3 μ3 st3 j a3 f3 r3 h3 => ?_
  cases b with
  | ref n =>
    replace h3 : OkS X.pn X.K W H3 μ3 F G (match st3[n]? with
    | some c => (match putIx c (der st3 j) d with
      | some c' => .nx ρ (st3.set n c')
      | none => .bad)
    | none => .bad) D := h3
    cases hc : st3[n]? with
    | none => rw [hc] at h3; exact h3.elim
    | some c =>
      rw [hc] at h3
      replace h3 : OkS X.pn X.K W H3 μ3 F G (match putIx c (der st3 j) d with
      | some c' => .nx ρ (st3.set n c')
      | none => .bad) D := h3
      cases hp : putIx c (der st3 j) d with
      | none => rw [hp] at h3; exact h3.elim
      | some c' =>
        rw [hp] at h3
        have r2' := RV.kp f3.kp0 r2
        unfold RV at r2'
        obtain ⟨p, rfl, hn⟩ := r2'
        have hmem : p ∈ μ3 := List.mem_of_getElem? hn
        obtain ⟨p', hn', rc⟩ := a3.s.at_ n c hc
        rw [hn] at hn'; cases hn'
        have rj := r3.dr a3.s
        have rx : RV X.K H3 μ3 F d x := RV.kp f3.kp0 (RV.kp f2.kp0 r1)
        have fin : ∀ o : HO, RC X.K (upd H3 p o) μ3 F c' p → D.nx σ (upd H3 p o) := fun o rc' => by
          have fw : Fut H3 μ3 (upd H3 p o) μ3 := Fut.write hmem
          have rs' := a3.s.write hn rc'
          exact h3 σ (upd H3 p o) μ3 F G (a3.ev fw) (a3.fut fw rs')
        unfold putIx at hp
        split at hp
        · rename_i ds k hj
          obtain ⟨m, hm, hr⟩ := Option.map_eq_some_iff.mp hp
          obtain ⟨xs, hx, rxs⟩ := rc.c (fun z => nomatch z)
          subst hr
          rw [hj] at rj
          refine .inl ⟨p, xs, k, m, rfl, rj, hx, by rw [rxs.length]; exact hm, fin _ ⟨_, upd_same, ?_⟩⟩
          exact RVs.kp (Fut.write hmem).kp0 (rxs.set m rx)
        · rename_i kvs kk
          split at hp
          · rename_i hl
            obtain ⟨q, hq, hr⟩ := Option.map_eq_some_iff.mp hp
            obtain ⟨xs, hx, rxs⟩ := rc.c (fun z => nomatch z)
            subst hr
            obtain ⟨e1, rk⟩ := dkey_RV hq rj
            refine .inr ⟨p, _, rfl, .inl ⟨xs, q, hx, e1, by rw [rxs.length, line_eq]; exact hl, rfl⟩, fin _ ⟨_, upd_same, ?_⟩⟩
            exact RVd.kp (Fut.write hmem).kp0 (rxs.put rk rx)
          · cases hp
        · cases hp
  | _ => exact h3.elim
end
abbrev EPs := Loc → Store → Res (List (D × D))
def dNil : EPs := fun _ s => .ok [] s
def dCons (k v : E) (r : EPs) : EPs := fun ρ s => (k ρ s).bind fun x s => (v ρ s).bind fun y s => (r ρ s).bind fun ps s => .ok ((x, y) :: ps) s
def dicOf : List (D × D) → List (D × D) → Option (List (D × D))
  | acc, [] => some acc
  | acc, (k, v) :: r => match dkey k with
    | some q => dicOf (dputK k q v acc) r
    | none => none
def eDic (r : EPs) : E := fun ρ s => (r ρ s).bind fun ps s => if ps.length ≤ 15 then (match dicOf [] ps with
  | some kvs => .ok (.dic kvs) s
  | none => .bad) else .bad
def RPs (K : PySem.W.Frag) (H : Hp) (μ : Mu) (F : Addr → Prop) : List (D × D) → List (V × V) → Prop
  | [], xs => xs = []
  | (k, d) :: ds, xs => ∃ x y ys, xs = (x, y) :: ys ∧ RV K H μ F k x ∧ RV K H μ F d y ∧ RPs K H μ F ds ys
/-- an object of the walk's own, beside those that F has -/
def plus (F : Addr → Prop) (p : Addr) : Addr → Prop := fun a => F a ∨ a = p
section
variable {pn : Pn} {K : PySem.W.Frag} {W : WX} {H H1 : Hp} {μ μ1 : Mu} {F : Addr → Prop} {G : Own} {st st1 : Store} {ρ : Loc} {σ : St} {p : Addr} {o : HO}
theorem Fut.kpP (n : H p = none) (f : Fut (upd H p o) μ H1 μ1) : Kp H μ F H1 μ1 (plus F p) :=
  ((Fut.new (μ := μ) n).trans f).kp fun a h => h.elim .inl fun e => .inr (by rw [e]; exact n)
theorem RS.plus (s : RS K H μ F st) (n : H p = none) : RS K (upd H p o) μ (plus F p) st where
  len := s.len
  nd := s.nd
  nf := fun a h z => z.elim (s.nf a h) fun e => (s.fresh n).1 (by rw [← e]; exact h)
  fd := fun a h => h.elim (fun z => (s.new n).fd a z) fun e => ⟨o, by rw [e, upd_same]⟩
  at_ := fun m d h => by
    obtain ⟨a, e, c⟩ := s.at_ m d h
    refine ⟨a, e, c.kp (Fut.kpP n .refl) ?_⟩
    obtain ⟨q, e2, _⟩ := c.some
    exact upd_ne (ne_of_none e2 n)
theorem RSlot.kp {H' : Hp} {μ' : Mu} {F' : Addr → Prop} (k : Kp H μ F H' μ' F') (hG : ∀ a, G.g a → F a → F' a ∧ ∀ o, H a = some o → H' a = some o) {sl : Slot} {v : Option V} (h : RSlot pn K H μ F G sl v) : RSlot pn K H' μ' F' G sl v := by
  cases sl with
  | no => exact True.intro
  | pu d => obtain ⟨v, e, q⟩ := h; exact ⟨v, e, RV.kp k q⟩
  | ow b d =>
    obtain ⟨a, e, h0, h1, h2⟩ := h
    obtain ⟨z1, z2⟩ := hG a h0.1 h1
    obtain ⟨u, q, _⟩ := h2.some
    exact ⟨a, e, h0, z1, h2.kp k ((z2 u q).trans q.symm)⟩
  | exc C fs =>
    obtain ⟨a, oe, d, xs, e, hp, hz, hd, h1, h2, h3, h4⟩ := h
    obtain ⟨q1, q2, q3⟩ := k.pure d _ h1 h2 h3
    exact ⟨a, oe, d, xs, e, hp, hz, hd, q1, q2, q3, RVf.kp k h4⟩
theorem At.plus (a : At pn K H μ F G ρ σ st) (n : H p = none) : At pn K (upd H p o) μ (plus F p) G ρ σ st where
  l := ⟨a.l.len, fun i sl e => let ⟨v, e1, q⟩ := a.l.at_ i sl e; ⟨v, e1, q.kp (Fut.kpP n .refl) fun b h1 h2 => ⟨.inl h2, fun u e => by rw [upd_ne (ne_of_none e n)]; exact e⟩⟩, a.l.inj⟩
  s := a.s.plus n
  gf := fun b h => .inl (a.gf b h)
theorem RS.minus (s : RS K H1 μ1 (Dn.plus F p) st) : RS K H1 μ1 F st := s.weak fun a h => .inl h
/-- what is held changes -/
theorem RS.held (s : RS K H μ F st) (h : F p) : RS K (upd H p o) μ F st where
  len := s.len
  nd := s.nd
  nf := s.nf
  fd := fun a z => by
    by_cases e : a = p
    · exact ⟨o, by rw [e, upd_same]⟩
    · obtain ⟨u, q⟩ := s.fd a z
      exact ⟨u, by rw [upd_ne e]; exact q⟩
  at_ := fun m d z => by
    obtain ⟨a, e, c⟩ := s.at_ m d z
    have na : a ≠ p := fun w => s.nf a (List.mem_of_getElem? e) (by rw [w]; exact h)
    exact ⟨a, e, c.kp ⟨fun b u q1 q2 q3 => ⟨by rw [upd_ne (fun w => q3 (by rw [w]; exact h))]; exact q1, q2, q3⟩, fun _ _ q => q⟩ (upd_ne na)⟩
theorem kp_held (h : F p) : Kp H μ F (upd H p o) μ F := ⟨fun b u q1 q2 q3 => ⟨by rw [upd_ne (fun w => q3 (by rw [w]; exact h))]; exact q1, q2, q3⟩, fun _ _ q => q⟩
theorem Fut.heldNew {o' : HO} (f : Fut (upd H p o) μ H1 μ1) (n : H p = none) : Fut H μ (upd H1 p o') μ1 := by
  obtain ⟨l, e, q⟩ := id f.ext
  refine ⟨⟨l, e, fun a h => ?_⟩, fun a u m h => ?_, fun a u h => ?_⟩
  · have z := q a h
    by_cases w : a = p
    · rw [w, upd_same] at z; cases z
    · rw [upd_ne w] at z; exact z
  · have w := ne_of_none h n
    rw [upd_ne w]
    exact f.keep a u m (by rw [upd_ne w]; exact h)
  · have w := ne_of_none h n
    rw [upd_ne w]
    exact f.there a u (by rw [upd_ne w]; exact h)
/-- the held object is let go: a dict, a list -/
theorem RS.outD (s : RS K H1 μ1 (Dn.plus F p) st) (n : ¬ F p) {kvs : List (D × D)} {xs : List (Key × V)} (r : RVd K H1 μ1 (Dn.plus F p) kvs xs) : RV K (upd H1 p (.dK xs)) μ1 F (.dic kvs) (.ref p) := by
  unfold RV
  exact ⟨p, xs, rfl, ⟨.inl upd_same, fun z => s.nf p z (.inr rfl), n⟩, RVd.kp ⟨fun b u q1 q2 q3 => ⟨by rw [upd_ne (fun w => q3 (.inr w))]; exact q1, q2, fun z => q3 (.inl z)⟩, fun _ _ q => q⟩ r⟩
theorem RS.outL (s : RS K H1 μ1 (Dn.plus F p) st) (n : ¬ F p) {ds : List D} {xs : List V} (h : H1 p = some (.lst xs)) (r : RVs K H1 μ1 (Dn.plus F p) ds xs) : RV K H1 μ1 F (.lst ds) (.ref p) := by
  unfold RV
  exact ⟨p, xs, rfl, ⟨h, fun z => s.nf p z (.inr rfl), n⟩, RVs.kp ⟨fun b u q1 q2 q3 => ⟨q1, q2, fun z => q3 (.inl z)⟩, fun _ _ q => q⟩ r⟩
theorem RPs.length : ∀ {ds : List (D × D)} {xs : List (V × V)}, RPs K H μ F ds xs → xs.length = ds.length
  | [], xs, h => by rw [show xs = [] from h]; rfl
  | (q, d) :: ds, xs, h => by
    obtain ⟨x, y, ys, e, a, b, c⟩ := h
    rw [e, List.length_cons, List.length_cons, RPs.length c]
theorem RPs.kp {H' : Hp} {μ' : Mu} {F' : Addr → Prop} (k : Kp H μ F H' μ' F') : ∀ {ds : List (D × D)} {xs : List (V × V)}, RPs K H μ F ds xs → RPs K H' μ' F' ds xs
  | [], xs, h => h
  | (q, d) :: ds, xs, h => let ⟨x, y, ys, e, a, b, c⟩ := h; ⟨x, y, ys, e, RV.kp k a, RV.kp k b, RPs.kp k c⟩
end
section
variable {X : Cx} {W : WX} {pos : Pos}
def dPairs : List (E × E) → EPs
  | [] => dNil
  | (k, v) :: r => dCons k v (dPairs r)
abbrev tGV (X : Cx) (W : WX) (m : E) : TE := tG (fun F H μ d v => RV X.K H μ F d v) X.pn X.K W m
theorem pairs_at : ∀ (ms : List (E × E)) (σ : St) (H : Hp) (R : List (V × V) → Hp → Prop), tG (fun F H μ ds xs => RPs X.K H μ F ds xs) X.pn X.K W (dPairs ms) σ H R → tPairs (ms.map fun m => (tGV X W m.1, tGV X W m.2)) σ H R
  | [], σ, H, R, ⟨ρ, μ, F, G, st, a, h⟩ => h [] H μ .refl a.s rfl
  | (k, v) :: r, σ, H, R, ⟨ρ, μ, F, G, st, a, h⟩ => by
    refine tG_at (k := fun x s => (v ρ s).bind fun y s => (dPairs r ρ s).bind fun ps s => .ok ((x, y) :: ps) s) a h fun x H1 μ1 st1 d a1 f1 r1 h1 => ?_
    refine tG_at (k := fun y s => (dPairs r ρ s).bind fun ps s => .ok ((d, y) :: ps) s) a1 h1 fun y H2 μ2 st2 e a2 f2 r2 h2 => ?_
    refine pairs_at r σ H2 _ (tG_at (k := fun ps s => .ok ((d, e) :: ps) s) a2 h2 fun ps H3 μ3 st3 ds a3 f3 r3 h3 => ?_)
    exact h3 _ H3 μ3 .refl a3.s ⟨x, y, ps, rfl, RV.kp f3.kp0 (RV.kp f2.kp0 r1), RV.kp f3.kp0 r2, r3⟩
theorem dicOf_rel {K : PySem.W.Frag} {H : Hp} {μ : Mu} {F : Addr → Prop} : ∀ {ds : List (D × D)} {ps : List (V × V)} {acc kvs : List (D × D)} {xs : List (Key × V)}, RPs K H μ F ds ps → RVd K H μ F acc xs → dicOf acc ds = some kvs →
    ∃ ks : List (Key × V), ps = ks.map (fun kv => (kV kv.1, kv.2)) ∧ RVd K H μ F kvs (mergeK xs ks)
  | [], ps, acc, kvs, xs, h, g, e => by
    cases e
    rw [show ps = [] from h]
    exact ⟨[], rfl, g⟩
  | (k, d) :: ds, ps, acc, kvs, xs, h, g, e => by
    obtain ⟨x, y, ys, e1, a, b, c⟩ := h
    simp only [dicOf] at e
    cases hq : dkey k with
    | none => rw [hq] at e; cases e
    | some q =>
      rw [hq] at e
      have ex : x = kV q := by
        cases k with
        | int i => cases hq; unfold RV at a; exact a
        | str i => cases hq; unfold RV at a; exact a
        | _ => cases hq
      subst ex
      obtain ⟨ks, e2, r⟩ := dicOf_rel c (g.put a b) e
      refine ⟨(q, y) :: ks, by rw [e1, e2]; rfl, ?_⟩
      exact r
theorem se_dic {keys : List (Option Expr)} {values : List Expr} {ms : List (E × E)} (h : PPs X pos keys values (ms.map fun m => (tGV X W m.1, tGV X W m.2))) (hall : keys.all (·.isSome) = true := by rfl) (hl : keys.length = values.length := by rfl) (h0 : keys ≠ [] := by exact fun z => nomatch z)
    (h15 : keys.length ≤ 15 := by decide) : SE X W (.Dict keys values pos) (eDic (dPairs ms)) := PE.of (pe_disp h hall hl h0 h15) fun σ H Q ⟨ρ, μ, F, G, st, a, h⟩ => by
  intro p hp
  refine pairs_at ms σ _ _ ⟨ρ, μ, plus F p, G, st, a.plus hp, ?_⟩
  have h : OkG (fun H μ d v => RV X.K H μ F d v) X.K W F σ H μ (((dPairs ms) ρ st).bind fun ps s => if ps.length ≤ 15 then (match dicOf [] ps with
  | some kvs => .ok (.dic kvs) s
  | none => .bad) else .bad) Q := h
  cases e : dPairs ms ρ st with
  | bad => rw [e] at h; exact h.elim
  | ex C fs s =>
    rw [e] at h
    refine fun d H' μ' xs f rs e1 e2 e3 e4 => h d H' μ' xs ((Fut.new hp).trans f) rs.minus e1 e2 (fun z => e3 (.inl z)) (RVf.kp ⟨fun b o q n nF => ⟨q, n, fun z => nF (.inl z)⟩, fun _ _ q => q⟩ e4)
  | ok ds s =>
    rw [e] at h
    intro ps H2 μ2 f rs r
    have h : OkG (fun H μ d v => RV X.K H μ F d v) X.K W F σ H μ (if ds.length ≤ 15 then (match dicOf [] ds with
  | some kvs => .ok (.dic kvs) s
  | none => .bad) else .bad) Q := h
    split at h
    · rename_i hle
      cases ed : dicOf [] ds with
      | none => rw [ed] at h; exact h.elim
      | some kvs =>
        rw [ed] at h
        have hm : p ∉ μ := (a.s.fresh hp).1
        have hk : H2 p = some (.dK []) := f.keep p _ hm upd_same
        obtain ⟨ks, e1, rk⟩ := dicOf_rel (xs := []) r RVd.nil ed
        refine ⟨hk, ks, e1, ?_, ?_⟩
        · rw [← List.length_map (f := fun kv : Key × V => (kV kv.1, kv.2)), ← e1, r.length]; exact hle
        · exact h (.ref p) _ μ2 (f.heldNew hp) (rs.held (.inr rfl)).minus (RS.outD rs (a.s.fresh hp).2 rk)
    · exact h.elim
end
end Dn
namespace Dn
open PySem PySem.Spec L2
open PyProof.Rows hiding St RelV
def Slot.drop : Slot → Slot
  | .exc _ _ => .no
  | s => s
/-- the slots within a comprehension's block: its own names forgotten -/
def wipeL (ρ : Loc) : List Nat → Loc
  | [] => ρ.map Slot.drop
  | v :: vs => (wipeL ρ vs).set v .no
def W0 : WX := fun _ _ _ _ => False
/-- the loop: None where something fails -/
def lcM (t : Tgt) (c : ET) (e : E) (ρ0 : Loc) : List D → Store → Option (List D × Store)
  | [], s => some ([], s)
  | d :: ds, s => match setT t d ρ0 with
    | none => none
    | some ρ => match c ρ s with
      | .ok true s => (match e ρ s with
        | .ok x s => (match lcM t c e ρ0 ds s with
          | some (xs, s) => some (x :: xs, s)
          | none => none)
        | _ => none)
      | .ok false s => lcM t c e ρ0 ds s
      | _ => none
def lcK (t : Tgt) (c : ET) (e : E) (ρ0 : Loc) (ds : List D) (s : Store) : Res D := if ds.length ≤ line then (match lcM t c e ρ0 ds s with
  | some (xs, s) => .ok (.lst xs) s
  | none => .bad) else .bad
def eLc (t : Tgt) (it : EI) (c : ET) (e : E) (vs : List Nat) : E := fun ρ s => (it ρ s).bind (lcK t c e (wipeL ρ vs))
def eYes : ET := fun _ s => .ok true s
def SPT (X : Cx) (W : WX) (ifs : List Expr) (m : ET) : Prop := PTs X ifs (tG (fun _ _ _ d v => d = v) X.pn X.K W m)
theorem PTs.of {X : Cx} {e : List Expr} {t t' : TT} (h : PTs X e t) (i : ∀ σ H Q, t' σ H Q → t σ H Q) : PTs X e t' := ⟨fun pins s σ H Q I q => h.run pins s σ H Q I (i σ H Q q)⟩
section
variable {pn : Pn} {K : PySem.W.Frag} {W : WX} {H H' H1 : Hp} {μ μ' μ1 : Mu} {F F' : Addr → Prop} {G GD : Own} {st st1 : Store} {ρ : Loc} {σ : St}
theorem spt_nil {X : Cx} {W : WX} : SPT X W [] eYes := PTs.of pts_nil fun σ H Q ⟨ρ, μ, F, G, st, a, h⟩ => h true H μ .refl a.s rfl
theorem spt_one {X : Cx} {W : WX} {c : Expr} {m : ET} (h : ST X W c m) : SPT X W [c] m := pts_one h
theorem RL.drop (h : RL pn K H μ F G ρ σ) : RL [] K H μ F G (ρ.map Slot.drop) σ := by
  refine ⟨by rw [List.length_map]; exact h.len, fun i sl e => ?_, fun i j b c d e a h1 h2 h3 h4 => ?_⟩
  · rw [List.getElem?_map] at e
    obtain ⟨s0, e1, e2⟩ := Option.map_eq_some_iff.mp e
    obtain ⟨o, e3, q⟩ := h.at_ i s0 e1
    refine ⟨o, e3, ?_⟩
    cases s0 <;> (subst e2; first | exact True.intro | exact q)
  · rw [List.getElem?_map] at h1 h2
    obtain ⟨s1, e1, e2⟩ := Option.map_eq_some_iff.mp h1
    obtain ⟨s2, e3, e4⟩ := Option.map_eq_some_iff.mp h2
    have k1 : s1 = .ow b d := by cases s1 <;> first | exact e2 | cases e2
    have k2 : s2 = .ow c e := by cases s2 <;> first | exact e4 | cases e4
    subst k1 k2
    exact h.inj i j b c d e a e1 e3 h3 h4
theorem RL.unset (h : RL pn K H μ F G ρ σ) (v : Nat) (x : Option V) : RL pn K H μ F G (ρ.set v .no) (σ.set v x) := by
  have get : ∀ {i : Nat} {sl : Slot}, (ρ.set v .no)[i]? = some sl → (i = v ∧ sl = .no) ∨ (v ≠ i ∧ ρ[i]? = some sl) := fun {i sl} e => by
    by_cases z : v = i
    · subst z
      have hi : v < ρ.length := by
        have := (List.getElem?_eq_some_iff.mp e).1
        rwa [List.length_set] at this
      rw [List.getElem?_set_self hi] at e
      cases e
      exact .inl ⟨rfl, rfl⟩
    · rw [List.getElem?_set_ne z] at e
      exact .inr ⟨z, e⟩
  refine ⟨by rw [List.length_set, List.length_set]; exact h.len, fun i sl e => ?_, fun i j b c d e a h1 h2 h3 h4 => ?_⟩
  · rcases get e with ⟨z1, z2⟩ | ⟨z1, z2⟩
    · subst z1 z2
      have hi : i < ρ.length := by
        have := (List.getElem?_eq_some_iff.mp e).1
        rwa [List.length_set] at this
      exact ⟨x, List.getElem?_set_self (by rw [← h.len]; exact hi), True.intro⟩
    · obtain ⟨o, e1, q⟩ := h.at_ i sl z2
      exact ⟨o, (List.getElem?_set_ne z1).trans e1, q⟩
  · rcases get h1 with ⟨_, z2⟩ | ⟨z1, z2⟩
    · cases z2
    · rcases get h2 with ⟨_, w2⟩ | ⟨w1, w2⟩
      · cases w2
      · rw [List.getElem?_set_ne z1] at h3
        rw [List.getElem?_set_ne w1] at h4
        exact h.inj i j b c d e a z2 w2 h3 h4
theorem RL.wipe (h : RL pn K H μ F G ρ σ) : ∀ vs : List Nat, RL [] K H μ F G (wipeL ρ vs) (wipe σ vs)
  | [] => h.drop
  | v :: vs => by
    unfold wipeL L2.wipe
    exact (RL.wipe h vs).unset v none
theorem wipe_out2 {l : List Nat} {σ σ' : St} : ∀ (vs : List Nat), Out l σ σ' → (∀ i ∈ l, i ∈ vs) → wipe σ' vs = wipe σ vs := by
  intro vs h hl
  apply List.ext_getElem?
  intro j
  by_cases hj : j ∈ vs
  · have key : ∀ (τ : St) (vs : List Nat), j ∈ vs → (wipe τ vs)[j]? = if j < τ.length then some none else none := by
      intro τ vs
      induction vs with
      | nil => intro h; cases h
      | cons v vs ih =>
        intro hv
        unfold wipe
        by_cases e : v = j
        · subst e
          by_cases hlen : v < τ.length
          · rw [if_pos hlen, List.getElem?_set_self (by rw [wipe_length]; exact hlen)]
          · rw [if_neg hlen, List.getElem?_eq_none (by rw [List.length_set, wipe_length]; omega)]
        · rw [List.getElem?_set_ne e]
          exact ih ((List.mem_cons.mp hv).resolve_left (Ne.symm e))
    rw [key σ' vs hj, key σ vs hj, h.1]
  · have key : ∀ (τ : St) (vs : List Nat), j ∉ vs → (wipe τ vs)[j]? = τ[j]? := by
      intro τ vs
      induction vs with
      | nil => intro _; rfl
      | cons v vs ih =>
        intro hv
        unfold wipe
        rw [List.getElem?_set_ne (fun e => hv (by rw [e]; exact List.mem_cons_self))]
        exact ih fun z => hv (List.mem_cons_of_mem _ z)
    rw [key σ' vs hj, key σ vs hj]
    exact h.2 j fun z => hj (hl j z)
/-- objects of GD change, those of G do not -/
theorem RL.ev2 (a : At pn K H μ F G ρ σ st) (e : Ev H μ F GD H' μ' F GD) (gd : ∀ b, GD.g b → F b ∧ ¬ G.g b) : RL pn K H' μ' F G ρ σ :=
  ⟨a.l.len, fun i sl h => let ⟨v, e1, q⟩ := a.l.at_ i sl h; ⟨v, e1, q.kp (e.kp fun b z => (gd b z).1) fun b h1 h2 => ⟨h2, fun u w => e.keep b u (fun z => a.s.nf b z h2) (fun z => (gd b z).2 h1) w⟩⟩, a.l.inj⟩
theorem RS.ev (s : RS K H μ F st) (f : Fut H μ H' μ') : Ev H μ F G H' μ' F G := ⟨f.ext, fun b o n _ h => f.keep b o n h, f.there, fun _ h => .inl h, fun _ h => .inl h, fun _ h => .inl h, s.fd, rfl⟩
def own1 (p : Addr) : Own := ⟨(· = p), none⟩
theorem RS.evHeld {p : Addr} {o : HO} (s : RS K H μ F st) (h : ∃ u, H p = some u) : Ev H μ F (own1 p) (upd H p o) μ F (own1 p) :=
  ⟨⟨[], by simp, fun _ z => nomatch z⟩, fun b u _ n z => by rw [upd_ne n]; exact z, fun b u z => by
    by_cases e : b = p
    · exact ⟨o, by rw [e, upd_same]⟩
    · exact ⟨u, by rw [upd_ne e]; exact z⟩, fun _ h => .inl h, fun _ h => .inl h, fun _ h => .inl h, s.fd, rfl⟩
theorem Ev.heldNew {p : Addr} {o : HO} {F' : Addr → Prop} (f : Ev (upd H p o) μ F (own1 p) H1 μ1 F (own1 p)) (n : H p = none) : Fut H μ H1 μ1 := by
  obtain ⟨l, e, q⟩ := id f.ext
  refine ⟨⟨l, e, fun a h => ?_⟩, fun a u m h => ?_, fun a u h => ?_⟩
  · have z := q a h
    by_cases w : a = p
    · rw [w, upd_same] at z; cases z
    · rw [upd_ne w] at z; exact z
  · have w := ne_of_none h n
    exact f.keep a u m w (by rw [upd_ne w]; exact h)
  · have w := ne_of_none h n
    exact f.there a u (by rw [upd_ne w]; exact h)
end
section
variable {X : Cx} {W : WX} {elt tg iter : Expr} {ifs : List Expr} {scope : Scope} {own : List (Str × Nat)} {pos : Pos} {mi : EI} {t : Tgt} {mc : ET} {me : E}
theorem lc_at (hv : ∀ i ∈ tvs t, i ∈ own.map (·.2)) {σ : St} {H : Hp} {Q : VK} (h : tG (fun F H μ d v => RV X.K H μ F d v) X.pn X.K W (eLc t mi mc me (own.map (·.2))) σ H Q) :
    tLc (tG (fun F H μ ds J => Walks X.K F H μ J ds) X.pn X.K W mi) (gT [] X.K t) (tG (fun _ _ _ d v => d = v) [] X.K W0 mc) (tG (fun F H μ d v => RV X.K H μ F d v) [] X.K W0 me) (own.map (·.2)) σ H Q := by
  obtain ⟨ρ, μ, F, G, st, a, h⟩ := h
  refine tG_at (k := lcK t mc me (wipeL ρ (own.map (·.2)))) a h fun J H1 μ1 st1 ds a1 f1 wk h1 => ?_
  intro p hp
  unfold lcK at h1
  by_cases hlen : ds.length ≤ line
  case neg =>
    rw [if_neg hlen] at h1
    exact h1.elim
  rw [if_pos hlen] at h1
  cases hm : lcM t mc me (wipeL ρ (own.map (·.2))) ds st1 with
  | none => rw [hm] at h1; exact h1.elim
  | some xs =>
    obtain ⟨xs, sf⟩ := xs
    rw [hm] at h1
    have aw : At [] X.K (upd H1 p (.lst [])) μ1 (plus F p) G (wipeL ρ (own.map (·.2))) (wipe σ (own.map (·.2))) st1 := by
      have ap : At X.pn X.K (upd H1 p (.lst [])) μ1 (plus F p) G ρ σ st1 := a1.plus hp
      exact ⟨ap.l.wipe _, ap.s, ap.gf⟩
    have gd : ∀ b, (own1 p).g b → plus F p b ∧ ¬ G.g b := fun b e => ⟨.inr e, fun z => (a1.s.fresh hp).2 (by rw [← e]; exact a1.gf b z)⟩
    refine ⟨fun i m H => m = ds.length - i ∧ i ≤ ds.length ∧ ∃ μ st acc accd rest, Ev (upd H1 p (.lst [])) μ1 (plus F p) (own1 p) H μ (plus F p) (own1 p) ∧ RS X.K H μ (plus F p) st ∧ H p = some (.lst acc) ∧ RVs X.K H μ (plus F p) accd acc ∧ accd.length ≤ i ∧
      lcM t mc me (wipeL ρ (own.map (·.2))) (ds.drop i) st = some (rest, sf) ∧ accd ++ rest = xs, ⟨ds.length, by simp, Nat.zero_le _, μ1, st1, [], [], xs, aw.s.ev .refl, aw.s, upd_same, RVs.nil, Nat.le_refl _, hm, rfl⟩, ?_⟩
    rintro i m H2 ⟨rfl, hi2, μ2, st2, acc, accd, rest, e2, s2, hp2, ra, hla, hl2, hx⟩
    have kp := e2.kp (fun b z => (gd b z).1)
    have kp0 : Kp H1 μ1 F H2 μ2 (plus F p) := (e2.heldNew (F' := F) hp).kp fun b z => z.elim .inl fun w => .inr (by rw [w]; exact hp)
    have a2 : At [] X.K H2 μ2 (plus F p) G (wipeL ρ (own.map (·.2))) (wipe σ (own.map (·.2))) st2 := ⟨RL.ev2 aw e2 gd, s2, aw.gf⟩
    by_cases hlt : i < ds.length
    · have ed : ds.drop i = ds[i] :: ds.drop (i + 1) := List.drop_eq_getElem_cons hlt
      rw [ed] at hl2
      obtain ⟨g1, g2⟩ := wk.go i ds[i] H2 μ2 (plus F p) st2 (List.getElem?_eq_getElem hlt) kp0 s2
      refine .inr ⟨g1, fun H' => ∃ μ st acc accd rest, Ev (upd H1 p (.lst [])) μ1 (plus F p) (own1 p) H' μ (plus F p) (own1 p) ∧ RS X.K H' μ (plus F p) st ∧ H' p = some (.lst acc) ∧ RVs X.K H' μ (plus F p) accd acc ∧ accd.length ≤ i + 1 ∧
        lcM t mc me (wipeL ρ (own.map (·.2))) (ds.drop (i + 1)) st = some (rest, sf) ∧ accd ++ rest = xs, fun H' h' => ⟨ds.length - (i + 1), by omega, rfl, hlt, h'⟩, fun x H3 hy => ?_⟩
      obtain ⟨rs3, f3, rv3⟩ := g2 x H3 hy
      have a3 := a2.fut f3 rs3
      have e3 := e2.trans (s2.ev f3)
      have hp3 : H3 p = some (.lst acc) := f3.keep p _ (fun z => s2.nf p z (.inr rfl)) hp2
      have ra3 := RVs.kp f3.kp0 ra
      simp only [lcM] at hl2
      cases hset : setT t ds[i] (wipeL ρ (own.map (·.2))) with
      | none => rw [hset] at hl2; cases hl2
      | some ρ3 =>
        rw [hset] at hl2
        refine ⟨_, μ2, plus F p, G, st2, ds[i], ρ3, a3, rv3, hset, fun σ4 a4 o4 => ⟨?_, ?_⟩⟩
        · have w := wipe_out2 (own.map (·.2)) o4 hv
          rw [w]
          exact (wipe_out2 (l := own.map (·.2)) (own.map (·.2)) (σ := σ) (σ' := wipe σ (own.map (·.2))) ⟨wipe_length _ _, fun j hj => wipe_out hj⟩ fun _ z => z)
        · refine ⟨ρ3, μ2, plus F p, G, st2, a4, ?_⟩
          dsimp only at hl2
          cases hcv : mc ρ3 st2 with
          | bad => rw [hcv] at hl2; cases hl2
          | ex C fs s => rw [hcv] at hl2; cases hl2
          | ok b s5 =>
            rw [hcv] at hl2
            intro b' H5 μ5 f5 rs5 eb
            subst eb
            have a5 := a4.fut f5 rs5
            have e5 := e3.trans (rs3.ev f5)
            have hp5 : H5 p = some (.lst acc) := f5.keep p _ (fun z => rs3.nf p z (.inr rfl)) hp3
            have ra5 := RVs.kp f5.kp0 ra3
            cases b with
            | false =>
              rw [if_neg Bool.false_ne_true]
              exact ⟨μ5, s5, acc, accd, rest, e5, rs5, hp5, ra5, Nat.le_succ_of_le hla, hl2, hx⟩
            | true =>
              rw [if_pos rfl]
              refine ⟨ρ3, μ5, plus F p, G, s5, a5, ?_⟩
              dsimp only at hl2
              cases hev : me ρ3 s5 with
              | bad => rw [hev] at hl2; cases hl2
              | ex C fs s => rw [hev] at hl2; cases hl2
              | ok y s6 =>
                rw [hev] at hl2
                dsimp only at hl2
                intro v H6 μ6 f6 rs6 rv6
                have hp6 : H6 p = some (.lst acc) := f6.keep p _ (fun z => rs5.nf p z (.inr rfl)) hp5
                have ra6 := RVs.kp f6.kp0 ra5
                have e6 := e5.trans (rs5.ev f6)
                cases hr : lcM t mc me (wipeL ρ (own.map (·.2))) (ds.drop (i + 1)) s6 with
                | none => rw [hr] at hl2; cases hl2
                | some q =>
                  obtain ⟨ys, sg⟩ := q
                  rw [hr] at hl2
                  dsimp only at hl2
                  have hl3 := Option.some.inj hl2
                  have hl4 : y :: ys = rest ∧ sg = sf := Prod.mk.injEq .. ▸ hl3
                  obtain ⟨hr1, hr2⟩ := hl4
                  subst hr2
                  refine ⟨acc, hp6, ?_, μ6, s6, acc ++ [v], accd ++ [y], ys, e6.trans (rs6.evHeld ⟨_, hp6⟩), rs6.held (.inr rfl), upd_same, ?_, ?_, hr, ?_⟩
                  · rw [ra6.length, line_eq]; omega
                  · exact RVs.kp (kp_held (.inr rfl)) (ra6.append (RVs.cons rv6 RVs.nil))
                  · rw [List.length_append, List.length_singleton]; omega
                  · rw [List.append_assoc, List.singleton_append, hr1]; exact hx
    · have e : i = ds.length := by omega
      subst e
      rw [List.drop_length] at hl2
      simp only [lcM, Option.some.injEq, Prod.mk.injEq] at hl2
      obtain ⟨hr1, hr2⟩ := hl2
      subst hr1 hr2
      rw [List.append_nil] at hx
      subst hx
      exact .inl ⟨wk.stop _ H2 μ2 (plus F p) (Nat.le_refl _) kp0, h1 (.ref p) H2 μ2 (e2.heldNew (F' := F) hp) s2.minus (s2.outL (a1.s.fresh hp).2 hp2 ra)⟩
theorem se_lc (hc : X.calm = true) (hN : X.N.Nodup) (hi : SI X W tg iter mi) (ok : BlkOk X.N X.env.scope scope own)
    (hg : ∀ (s : Shared) (H : Hp) (C : Addr) (cl : List (Str × Addr)) (fp : List Addr), SG (X.blk s H scope (compEnvC scope cl C X.env) fp) tg t) (ht : ∀ (s : Shared) (H : Hp) (C : Addr) (cl : List (Str × Addr)) (fp : List Addr), SPT (X.blk s H scope (compEnvC scope cl C X.env) fp) W0 ifs mc)
    (he : ∀ (s : Shared) (H : Hp) (C : Addr) (cl : List (Str × Addr)) (fp : List Addr), SE (X.blk s H scope (compEnvC scope cl C X.env) fp) W0 elt me) (hv : ∀ i ∈ tvs t, i ∈ own.map (·.2)) (hs : ∀ x, foldedSetIterable iter X.env x = pure x := by intro _; rfl) :
    SE X W (.ListComp elt [⟨tg, iter, ifs, 0⟩] scope pos) (eLc t mi mc me (own.map (·.2))) :=
  PE.of (pe_lc (te := tG (fun F H μ d v => RV X.K H μ F d v) [] X.K W0 me) (tt := tG (fun _ _ _ d v => d = v) [] X.K W0 mc) (g := gT [] X.K t) hc hN hi ok hg ht he hs) fun σ H Q h => lc_at hv h
/-- x = [..], x a plain local -/
theorem ss_setLc {i : Nat} {y : Str} {py spos : Pos} (hc : X.calm = true) (hN : X.N.Nodup) (hi : SI X W tg iter mi) (ok : BlkOk X.N X.env.scope scope own)
    (hg : ∀ (s : Shared) (H : Hp) (C : Addr) (cl : List (Str × Addr)) (fp : List Addr), SG (X.blk s H scope (compEnvC scope cl C X.env) fp) tg t) (ht : ∀ (s : Shared) (H : Hp) (C : Addr) (cl : List (Str × Addr)) (fp : List Addr), SPT (X.blk s H scope (compEnvC scope cl C X.env) fp) W0 ifs mc)
    (he : ∀ (s : Shared) (H : Hp) (C : Addr) (cl : List (Str × Addr)) (fp : List Addr), SE (X.blk s H scope (compEnvC scope cl C X.env) fp) W0 elt me) (hv : ∀ i ∈ tvs t, i ∈ own.map (·.2))
    (hsw : swapsWith (.ListComp elt [⟨tg, iter, ifs, 0⟩] scope pos) (some (.Name y py)) spos.line X.env = pure true := by exact sw_true (by rfl) (by rfl) (by rfl) (by rfl)) (hy : X.N[i]? = some y := by rfl) (hyl : X.env.scope.names.lookup y = some .local := by rfl) (hs : ∀ x, foldedSetIterable iter X.env x = pure x := by intro _; rfl) :
    SS X W (.Assign [.Name y py] (.ListComp elt [⟨tg, iter, ifs, 0⟩] scope pos) spos) (sSet i (eLc t mi mc me (own.map (·.2)))) :=
  PS.of (ps_setLc (te := tG (fun F H μ d v => RV X.K H μ F d v) [] X.K W0 me) (tt := tG (fun _ _ _ d v => d = v) [] X.K W0 mc) (g := gT [] X.K t) hc hN hy hyl hsw hi ok hg ht he hs) fun D σ H ⟨ρ, μ, F, G, st, a, h⟩ =>
    lc_at hv (tS_e (k := fun d s => .nx (ρ.set i (.pu d)) s) a h fun x H1 μ1 st1 d a1 f r h1 => h1 _ H1 μ1 F G (a1.ev .refl) (a1.setP r))
def eNeg (a : E) : E := fun ρ s => (a ρ s).bind fun x s => match x with
  | .int i => .ok (.int (-i)) s
  | _ => .bad
theorem se_neg {a : Expr} {ma : E} (ha : SE X W a ma) : SE X W (.UnaryOp .USub a pos) (eNeg ma) := PE.of (pe_un un_neg ha) fun σ H Q ⟨ρ, μ, F, G, st, a, h⟩ =>
  tG_at (k := fun (x : D) (s : Store) => match x with
  | D.int i => Res.ok (D.int (-i)) s
  | _ => .bad) a h fun x H1 μ1 st1 d a1 f1 r1 h1 => by
    cases d with
    | int i =>
      unfold RV at r1
      exact ⟨i, r1, h1 _ H1 μ1 .refl a1.s (RV_int _)⟩
    | _ => exact h1.elim
end
theorem takes_w0 {X : Cx} : Takes X W0 := fun _ _ ⟨_, _, _, _, _, _, _, _, _, _, _, _, _, _, _, _, w⟩ => w.elim
/-- a def of the module, without defaults, keeps its promise -/
def FOk (P : Program) (w : World) (K : PySem.W.Frag) (mg : Str → Option Value) (base : Heap) (x : String) (st : Stmt) (k : Nat) (ps : List Str) (m : M) : Prop :=
  ∃ fd, FunD K x x (defArgs st) (defBody st) (defScope st) [] [] (He.ga K x) fd ∧ FnOk P w K mg base (L2.CX P w) k (He.ga K x) fd ps (spOf K ps.length m)
section
variable {X : Cx} {W : WX} {x : String} {st : Stmt} {k j np : Nat} {ps ks : List Str} {m : M} {perm : List Nat}
theorem FOk.calls (F : FOk X.prog X.w X.K X.mg X.base x st k ps m) (hr : Room j X.A) (hj : k ≤ j) (tk : Takes X W) (np : Nat) (ks : List Str) (perm : List Nat)
    (h : ∀ (kV doc pm : Value) (an : Option Addr) (cdv ct : Value) (us ws : List Value), us.length = np → ws.length = ks.length → bindArgs (PySem.W.fnOf x x (defArgs st) (defBody st) (defScope st) .none kV doc pm an cdv ct) ⟨us, ks.zip ws⟩ = pure (ps.zip (pick perm (us ++ ws))))
    (hp : perm.length = ps.length := by rfl) : CallsD X W (.ref (He.ga X.K x)) ks (argsM np ks.length perm [] m) := by
  obtain ⟨fd, F1, F2⟩ := F
  refine fn_calls F2 (hr.mono hj) tk ?_ hp
  refine ⟨[], [], .nil, fun _ _ _ => RVs.nil, fun s us ws _ h1 h2 => ?_⟩
  obtain ⟨oc, od, dV, kV, doc, pm, an, cdv, ct, osl, rfl, lk, hcd, hD, hK⟩ := F1.ex
  rcases hD with ⟨_, rfl⟩ | ⟨e, _⟩
  · rw [List.append_nil]
    exact .of_eq (h kV doc pm an cdv ct us ws h1 h2)
  · exact absurd rfl e
theorem FOk.keep {P : Program} {w : World} {K : PySem.W.Frag} {mg : Str → Option Value} {base : Heap} (F : FOk P w K mg base x st k ps m) : PySem.W.keepIn K (.ref (He.ga K x)) = true := let ⟨_, F1, _⟩ := F; F1.kp
end
/-- exceptions at any world: what a law's end takes -/
def CXw (P : Program) : CXT := fun outer H s E e s' => ∃ w, L2.CX P w outer H s E e s'
theorem fn_cx {P : Program} {w : World} {K : PySem.W.Frag} {mg : Str → Option Value} {base : Heap} {C C' : CXT} {k : Nat} {f : Addr} {fd : FuncData} {ps : List Str} {sp : Sp} (F : FnOk P w K mg base C k f fd ps sp)
    (h : ∀ outer H s E e s', C outer H s E e s' → C' outer H s E e s') : FnOk P w K mg base C' k f fd ps sp :=
  ⟨F.len, fun A outer s H args us vs Q E hr e0 hb r hsp => codeAny_mono (F.run A outer s H args us vs Q E hr e0 hb r hsp) fun r s' hq => by
    cases r with
    | error e => exact h _ _ _ _ _ _ hq
    | ok fl =>
      cases fl with
      | ret u => exact hq
      | next => exact hq
      | brk => exact hq
      | cont => exact hq⟩
theorem cxw_no {P : Program} {H : Hp} {s : Shared} {e : Value} {s' : Shared} (h : CXw P [] H s (fun _ _ _ => False) e s') : False := let ⟨_, _, _, _, _, _, _, _, _, _, _, _, _, z⟩ := h; z
end Dn
namespace Dn
open PySem PySem.Spec L2
open PyProof.Rows hiding St RelV
theorem seq_nx {m k : S} {ρ ρ1 : Loc} {s s1 : Store} (h : m ρ s = .nx ρ1 s1) : bCons m k ρ s = k ρ1 s1 := by unfold bCons; rw [h]; rfl
theorem set_ok {i : Nat} {e : E} {ρ : Loc} {s s1 : Store} {d : D} (h : e ρ s = .ok d s1) : sSet i e ρ s = .nx (ρ.set i (.pu d)) s1 := by unfold sSet; rw [h]; rfl
theorem fnM_eq (N : Nat) (b : S) (ds : List D) (s : Store) : fnM N b ds s = (b (ds.map .pu ++ List.replicate (N - ds.length) .no) s).fin := rfl
def srcD (g m c : Int) : D := .lst [.int g, .int m, .int c]
theorem mul_ok {a b : Int} (h1 : a.natAbs < 2 ^ 200) (h2 : b.natAbs < 2 ^ 200) : binop .Mult (.int a) (.int b) = some (.int (a * b)) := by
  have l1 : a.natAbs.log2 < 200 := PySem.Flt.log2_lt_of (by decide) h1
  have l2 : b.natAbs.log2 < 200 := PySem.Flt.log2_lt_of (by decide) h2
  show (if _ then _ else _) = _
  rw [if_pos (by omega)]
theorem mod_ok {a b : Int} (h : 0 < b) : binop .Mod (.int a) (.int b) = some (.int (a % b)) := by
  show (if _ then _ else _) = _
  rw [if_pos h]
theorem fdiv_ok {a b : Int} (h : 0 < b) (h2 : b.natAbs < 2 ^ 200) : binop .FloorDiv (.int a) (.int b) = some (.int (a / b)) := by
  have l2 : b.natAbs.log2 < 200 := PySem.Flt.log2_lt_of (by decide) h2
  show (if _ then _ else _) = _
  rw [if_pos ⟨h, by omega⟩]
theorem pow_ok {a : Int} (k : Nat) (hk : (k : Int) ≤ 1000000) (h : a.natAbs < 2 ^ 64) : binop .Pow (.int a) (.int k) = some (.int (a ^ k)) := by
  show (if _ then _ else _) = _
  rw [if_pos ⟨by omega, hk, h⟩, Int.toNat_natCast]
theorem ixN_at {n : Nat} {i : Int} (h0 : 0 ≤ i) (h1 : i < n) : ixN n i = some i.toNat := by
  unfold ixN
  rw [if_pos h0, if_pos h1]
theorem der_int (s : Store) (i : Int) : der s (.int i) = .int i := rfl
theorem get_set {α : Type} {s : List α} {n : Nat} {a : α} (h : n < s.length) : (s.set n a)[n]? = some a := List.getElem?_set_self h
end Dn
namespace Dn
open PySem PySem.Spec L2
open PyProof.Rows hiding St RelV
/-- the result is a new object of the content d, which nothing else knows -/
def OkN (K : PySem.W.Frag) (W : WX) (F : Addr → Prop) (σ : St) (H : Hp) (μ : Mu) (r : Res D) (Q : VK) : Prop := match r with
  | .ok d s => ∀ H' μ' p, Fut H μ H' μ' → RS K H' μ' (plus F p) s → H p = none → ¬ F p → RC K H' μ' (plus F p) d p → Q (.ref p) H'
  | .ex C fs s => ∀ d H' μ' xs, Fut H μ H' μ' → RS K H' μ' F s → H' d = some (.xd xs) → d ∉ μ' → ¬ F d → RVf K H' μ' F fs xs → W (.ref (He.ga K C)) (some d) σ H'
  | .bad => False
def tN (pn : Pn) (K : PySem.W.Frag) (W : WX) (m : E) : TE := fun σ H Q => ∃ ρ μ F G st, At pn K H μ F G ρ σ st ∧ OkN K W F σ H μ (m ρ st) Q
def SN (X : Cx) (W : WX) (e : Expr) (m : E) : Prop := PE X e (tN X.pn X.K W m)
section
variable {pn : Pn} {K : PySem.W.Frag} {W : WX} {H H1 : Hp} {μ μ1 : Mu} {F : Addr → Prop} {G : Own} {st st1 s : Store} {ρ : Loc} {σ : St} {p : Addr} {o : HO} {d : D} {Q : VK}
theorem OkN.fut {r : Res D} (f : Fut H μ H1 μ1) (h : OkN K W F σ H μ r Q) : OkN K W F σ H1 μ1 r Q := by
  cases r with
  | ok d s => exact fun H' μ' p g a b => h H' μ' p (f.trans g) a (f.none_of b)
  | ex C fs s => exact fun d H' μ' xs g => h d H' μ' xs (f.trans g)
  | bad => exact h
/-- one part, then what follows -/
theorem tN_at {α β : Type} {P : (Addr → Prop) → Hp → Mu → α → β → Prop} {m : Loc → Store → Res α} {k : α → Store → Res D} (a : At pn K H μ F G ρ σ st) (h : OkN K W F σ H μ ((m ρ st).bind k) Q) {R : β → Hp → Prop}
    (hR : ∀ x H1 μ1 st1 d, At pn K H1 μ1 F G ρ σ st1 → Fut H μ H1 μ1 → P F H1 μ1 d x → OkN K W F σ H1 μ1 (k d st1) Q → R x H1) : tG P pn K W m σ H R := by
  refine ⟨ρ, μ, F, G, st, a, ?_⟩
  cases e : m ρ st with
  | ok d s =>
    rw [e] at h
    exact fun v H' μ' f rs rv => hR v H' μ' s d (a.fut f rs) f rv (OkN.fut f h)
  | ex C fs s => rw [e] at h; exact h
  | bad => rw [e] at h; exact h
/-- .. it is laid: a list, a dict -/
theorem OkN.lay (a : RS K H μ F st) (h : OkN K W F σ H μ (.ok d st) Q) (hp : H p = none) (c : RC K (upd H p o) μ (plus F p) d p) : Q (.ref p) (upd H p o) :=
  h _ μ p (.new hp) (a.plus hp) hp (a.fresh hp).2 c
theorem RC.L {ds : List D} {xs : List V} (hp : H p = none) (r : RVs K H μ F ds xs) : RC K (upd H p (.lst xs)) μ (plus F p) (.lst ds) p := ⟨xs, upd_same, RVs.kp (Fut.kpP hp .refl) r⟩
/-- a new object as a value -/
theorem RC.val (s : RS K H1 μ1 (plus F p) st1) (n : ¬ F p) (c : RC K H1 μ1 (plus F p) d p) : RV K H1 μ1 F d (.ref p) := by
  have kp : Kp H1 μ1 (plus F p) H1 μ1 F := ⟨fun b u q1 q2 q3 => ⟨q1, q2, fun z => q3 (.inl z)⟩, fun _ _ q => q⟩
  have nm : p ∉ μ1 := fun z => s.nf p z (.inr rfl)
  cases d with
  | lst ds =>
    obtain ⟨xs, q, r⟩ := c
    unfold RV
    exact ⟨p, xs, rfl, ⟨q, nm, n⟩, RVs.kp kp r⟩
  | dic ds =>
    obtain ⟨xs, q, r⟩ := c
    unfold RV
    exact ⟨p, xs, rfl, ⟨.inl q, nm, n⟩, RVd.kp kp r⟩
  | obj C fs =>
    obtain ⟨dx, xs, q, r⟩ := c
    unfold RV
    exact ⟨p, dx, xs, rfl, ⟨q, nm, n⟩, RVf.kp kp r⟩
  | _ => exact c.elim
/-- a new object gets a number -/
theorem RS.join (s : RS K H1 μ1 (Dn.plus F p) st1) (n : ¬ F p) (c : RC K H1 μ1 (Dn.plus F p) d p) : RS K H1 (μ1 ++ [p]) F (st1 ++ [d]) := by
  have nm : p ∉ μ1 := fun z => s.nf p z (.inr rfl)
  have kp : Kp H1 μ1 (Dn.plus F p) H1 (μ1 ++ [p]) F := ⟨fun b u q1 q2 q3 => ⟨q1, fun z => (List.mem_append.mp z).elim q2 fun w => q3 (.inr (List.mem_singleton.mp w)), fun z => q3 (.inl z)⟩, fun m a q => by
    rw [List.getElem?_append_left (List.getElem?_eq_some_iff.mp q).1]; exact q⟩
  refine ⟨by rw [List.length_append, List.length_append, s.len]; rfl, ?_, fun a h z => ?_, fun a h => s.fd a (.inl h), fun m q h => ?_⟩
  · rw [List.nodup_append]
    refine ⟨s.nd, by simp, fun a h b h2 => ?_⟩
    rw [List.mem_singleton.mp h2]
    rintro rfl
    exact nm h
  · rcases List.mem_append.mp h with h | h
    · exact s.nf a h (.inl z)
    · rw [List.mem_singleton.mp h] at z; exact n z
  · by_cases hm : m < st1.length
    · rw [List.getElem?_append_left hm] at h
      obtain ⟨a, e, c'⟩ := s.at_ m q h
      exact ⟨a, by rw [List.getElem?_append_left (by rw [s.len]; exact hm)]; exact e, c'.kp kp rfl⟩
    · have hl : m = st1.length := by
        have := (List.getElem?_eq_some_iff.mp h).1
        rw [List.length_append, List.length_singleton] at this
        omega
      subst hl
      rw [List.getElem?_append_right (Nat.le_refl _), Nat.sub_self] at h
      cases h
      exact ⟨p, by rw [← s.len, List.getElem?_append_right (Nat.le_refl _), Nat.sub_self]; rfl, .inl (c.kp kp rfl)⟩
theorem Fut.join (f : Fut H μ H1 μ1) (n : H p = none) : Fut H μ H1 (μ1 ++ [p]) := by
  obtain ⟨l, e, q⟩ := id f.ext
  exact ⟨⟨l ++ [p], by rw [e, List.append_assoc], fun a h => (List.mem_append.mp h).elim (q a) fun z => by rw [List.mem_singleton.mp z]; exact n⟩, f.keep, f.there⟩
end
def eNew (m : E) : E := fun ρ s => (m ρ s).bind fun d s => .ok (.ref s.length) (s ++ [d])
section
variable {X : Cx} {W : WX} {e : Expr} {m : E}
theorem SN.se (h : SN X W e m) : SE X W e m := PE.of h fun σ H Q ⟨ρ, μ, F, G, st, a, h⟩ => by
  refine ⟨ρ, μ, F, G, st, a, ?_⟩
  cases e : m ρ st with
  | ok d s => rw [e] at h; exact fun H' μ' p f rs hp nF c => h (.ref p) H' μ' f rs.minus (c.val rs nF)
  | ex C fs s => rw [e] at h; exact h
  | bad => rw [e] at h; exact h
theorem SN.ref (h : SN X W e m) : SE X W e (eNew m) := PE.of h fun σ H Q ⟨ρ, μ, F, G, st, a, h⟩ => by
  refine ⟨ρ, μ, F, G, st, a, ?_⟩
  have h : OkE X.K W F σ H μ ((m ρ st).bind fun d s => .ok (.ref s.length) (s ++ [d])) Q := h
  cases e : m ρ st with
  | ok d s =>
    rw [e] at h
    refine fun H' μ' p f rs hp nF c => h (.ref p) H' (μ' ++ [p]) (f.join hp) (rs.join nF c) ?_
    unfold RV
    exact ⟨p, rfl, by rw [← rs.len, List.getElem?_append_right (Nat.le_refl _), Nat.sub_self, List.getElem?_cons_zero]⟩
  | ex C fs s => rw [e] at h; exact h
  | bad => rw [e] at h; exact h
end
section
variable {X : Cx} {W : WX} {e : Expr} {m : E} {es : List Expr} {ml : EL} {pos : Pos}
theorem sn_lst (h : SA X W es ml) : SN X W (.List es pos) (eLst ml) := PE.of (pe_lst h) fun σ H Q ⟨ρ, μ, F, G, st, a, h⟩ => by
  refine tN_at (k := fun (ds : List D) s => if ds.length ≤ line then Res.ok (D.lst ds) s else .bad) a h fun xs H1 μ1 st1 ds a1 f1 r1 h1 => ?_
  by_cases hl : ds.length ≤ line
  · rw [if_pos hl] at h1
    exact ⟨by rw [line_eq, r1.length]; exact hl, fun p hp => h1.lay a1.s hp (RC.L hp r1)⟩
  · rw [if_neg hl] at h1; exact h1.elim
def eDic0 : E := fun _ s => .ok (.dic []) s
end
section
variable {pn : Pn} {K : PySem.W.Frag} {W : WX} {H H1 : Hp} {μ μ1 : Mu} {F : Addr → Prop} {G : Own} {st st1 s : Store} {ρ : Loc} {σ : St} {p : Addr} {o : HO} {d d' : D} {b : Bool} {i : Nat}
def Own.add (G : Own) (p : Addr) : Own := ⟨fun a => G.g a ∨ a = p, G.sf⟩
theorem set_get {α : Type} {l : List α} {i j : Nat} {x y : α} (e : (l.set i x)[j]? = some y) : (i = j ∧ i < l.length ∧ y = x) ∨ (i ≠ j ∧ l[j]? = some y) := by
  by_cases h : i = j
  · subst h
    have hi : i < l.length := by
      have := (List.getElem?_eq_some_iff.mp e).1
      rwa [List.length_set] at this
    rw [List.getElem?_set_self hi] at e
    exact .inl ⟨rfl, hi, (Option.some.inj e).symm⟩
  · rw [List.getElem?_set_ne h] at e
    exact .inr ⟨h, e⟩
/-- a new object becomes the frame's own -/
theorem At.own (a : At pn K H μ F G ρ σ st) (f : Fut H μ H1 μ1) (rs : RS K H1 μ1 (Dn.plus F p) st1) (hp : H p = none) (c : RC K H1 μ1 (Dn.plus F p) d p) : At pn K H1 μ1 (Dn.plus F p) (G.add p) (ρ.set i (.ow false d)) (σ.set i (some (.ref p))) st1 := by
  have kp : Kp H μ F H1 μ1 (Dn.plus F p) := f.kp fun a h => h.elim .inl fun e => .inr (by rw [e]; exact hp)
  refine ⟨⟨by rw [List.length_set, List.length_set]; exact a.l.len, fun j sl e => ?_, fun j k b c d e q h1 h2 h3 h4 => ?_⟩, rs, fun q h => h.elim (fun z => .inl (a.gf q z)) .inr⟩
  · rcases set_get e with ⟨rfl, hi, rfl⟩ | ⟨ne, e⟩
    · exact ⟨_, List.getElem?_set_self (by rw [← a.l.len]; exact hi), p, rfl, ⟨.inr rfl, fun z => by cases z⟩, .inr rfl, c⟩
    · obtain ⟨v, e1, q⟩ := a.l.at_ j sl e
      refine ⟨v, (List.getElem?_set_ne ne).trans e1, ?_⟩
      cases sl with
      | no => exact True.intro
      | pu d => obtain ⟨v, e, q⟩ := q; exact ⟨v, e, RV.kp kp q⟩
      | ow b d =>
        obtain ⟨x, e, h0, h1, h2⟩ := q
        obtain ⟨u, w⟩ := a.s.fd x h1
        exact ⟨x, e, ⟨.inl h0.1, h0.2⟩, .inl h1, h2.kp kp ((f.keep x u (fun z => a.s.nf x z h1) w).trans w.symm)⟩
      | exc C fs =>
        obtain ⟨x, oe, d, xs, e, hp', hz, hd, h1, h2, h3, h4⟩ := q
        obtain ⟨q1, q2, q3⟩ := kp.pure d _ h1 h2 h3
        exact ⟨x, oe, d, xs, e, hp', hz, hd, q1, q2, q3, RVf.kp kp h4⟩
  · have old : ∀ {j : Nat} {b : Bool} {d : D} {q : Addr}, ρ[j]? = some (.ow b d) → σ[j]? = some (some (.ref q)) → q ≠ p := fun {j b d q} e1 e2 z => by
      obtain ⟨v, e3, x, e4, h0, h1, h2⟩ := a.l.at_ j _ e1
      rw [e2] at e3; cases e3
      cases e4
      obtain ⟨u, w⟩ := a.s.fd q h1
      rw [z, hp] at w; cases w
    rcases set_get h1 with ⟨rfl, hi, e1⟩ | ⟨n1, e1⟩ <;> rcases set_get h2 with ⟨rfl, hi2, e2⟩ | ⟨n2, e2⟩
    · rfl
    · rw [List.getElem?_set_self (by rw [← a.l.len]; exact hi)] at h3
      cases h3
      rw [List.getElem?_set_ne n2] at h4
      exact absurd rfl (old e2 h4)
    · rw [List.getElem?_set_self (by rw [← a.l.len]; exact hi2)] at h4
      cases h4
      rw [List.getElem?_set_ne n1] at h3
      exact absurd rfl (old e1 h3)
    · rw [List.getElem?_set_ne n1] at h3
      rw [List.getElem?_set_ne n2] at h4
      exact a.l.inj j k _ _ _ _ q e1 e2 h3 h4
theorem At.evOwn (a : At pn K H μ F G ρ σ st) (f : Fut H μ H1 μ1) (hp : H p = none) : Ev H μ F G H1 μ1 (Dn.plus F p) (G.add p) :=
  ⟨f.ext, fun a o n _ h => f.keep a o n h, f.there, fun _ h => .inl (.inl h), fun a h => h.elim .inl fun e => .inr (by rw [e]; exact hp), fun a h => h.elim .inl fun e => .inr (by rw [e]; exact hp), a.s.fd, rfl⟩
/-- an object of one's own is changed -/
theorem At.mut (a : At pn K H μ F G ρ σ st) (hi : ρ[i]? = some (.ow b d)) (hs : σ[i]? = some (some (.ref p))) (c : RC K (upd H p o) μ F d' p) : At pn K (upd H p o) μ F G (ρ.set i (.ow b d')) σ st ∧ Ev H μ F G (upd H p o) μ F G := by
  obtain ⟨v, e3, x, e4, h0, h1, h2⟩ := a.l.at_ i _ hi
  rw [hs] at e3; cases e3
  cases e4
  have kp : Kp H μ F (upd H p o) μ F := kp_held h1
  refine ⟨⟨⟨by rw [List.length_set]; exact a.l.len, fun j sl e => ?_, fun j k b2 c2 d2 e2 q g1 g2 g3 g4 => ?_⟩, a.s.held h1, a.gf⟩, ⟨⟨[], by simp, fun _ z => nomatch z⟩, fun b u _ n z => by rw [upd_ne (fun w => n (by rw [w]; exact h0.1))]; exact z, fun b u z => by
    by_cases e : b = p
    · exact ⟨o, by rw [e, upd_same]⟩
    · exact ⟨u, by rw [upd_ne e]; exact z⟩, fun _ h => .inl h, fun _ h => .inl h, fun _ h => .inl h, a.s.fd, rfl⟩⟩
  · rcases set_get e with ⟨rfl, hl, rfl⟩ | ⟨ne, e⟩
    · exact ⟨_, hs, p, rfl, h0, h1, c⟩
    · obtain ⟨v, e1, q⟩ := a.l.at_ j sl e
      refine ⟨v, e1, ?_⟩
      cases sl with
      | no => exact True.intro
      | pu d => obtain ⟨v, e, q⟩ := q; exact ⟨v, e, RV.kp kp q⟩
      | ow b' d'' =>
        obtain ⟨x, e', k0, k1, k2⟩ := q
        subst e'
        have nx : x ≠ p := fun z => ne (a.l.inj i j _ _ _ _ p hi e hs (by rw [e1, z]))
        exact ⟨x, rfl, k0, k1, k2.kp kp (upd_ne nx)⟩
      | exc C fs =>
        obtain ⟨x, oe, d, xs, e, hp', hz, hd, k1, k2, k3, k4⟩ := q
        obtain ⟨q1, q2, q3⟩ := kp.pure d _ k1 k2 k3
        exact ⟨x, oe, d, xs, e, hp', hz, hd, q1, q2, q3, RVf.kp kp k4⟩
  · have get : ∀ {j : Nat} {b' : Bool} {d'' : D}, (ρ.set i (.ow b d'))[j]? = some (.ow b' d'') → ∃ b' d'', ρ[j]? = some (.ow b' d'') := fun {j b' d''} e => by
      rcases set_get e with ⟨rfl, hl, _⟩ | ⟨ne, e⟩
      · exact ⟨_, _, hi⟩
      · exact ⟨_, _, e⟩
    obtain ⟨_, _, e1⟩ := get g1
    obtain ⟨_, _, e2⟩ := get g2
    exact a.l.inj j k _ _ _ _ q e1 e2 g3 g4
/-- .. is let go: from now on nobody changes it -/
theorem At.frz (a : At pn K H μ F G ρ σ st) (hi : ρ[i]? = some (.ow false d)) : ∃ F' G', At pn K H μ F' G' (ρ.set i (.pu d)) σ st ∧ ∀ {H' : Hp} {μ' : Mu} {F'' : Addr → Prop} {G'' : Own}, Ev H μ F' G' H' μ' F'' G'' → Ev H μ F G H' μ' F'' G'' := by
  obtain ⟨v, e3, x, e4, h0, h1, h2⟩ := a.l.at_ i _ hi
  subst e4
  have kp : Kp H μ F H μ (fun a => F a ∧ a ≠ x) := ⟨fun b u q1 q2 q3 => ⟨q1, q2, fun z => q3 z.1⟩, fun _ _ q => q⟩
  have rs : RS K H μ (fun a => F a ∧ a ≠ x) st := a.s.weak fun _ h => h.1
  refine ⟨fun a => F a ∧ a ≠ x, ⟨fun a => G.g a ∧ a ≠ x, G.sf⟩, ⟨⟨by rw [List.length_set]; exact a.l.len, fun j sl e => ?_, fun j k b c d e q g1 g2 g3 g4 => ?_⟩, rs, fun q h => ⟨a.gf q h.1, h.2⟩⟩, fun e => ⟨e.ext, fun a o n g h => e.keep a o n (fun z => g z.1) h, e.there, fun q h => ?_, fun q h => (e.own q h).imp (fun z => z.1) id, fun q h => (e.g q h).imp (fun z => z.1) id, a.s.fd, e.sf⟩⟩
  · rcases set_get e with ⟨rfl, hl, rfl⟩ | ⟨ne, e⟩
    · refine ⟨_, e3, .ref x, rfl, ?_⟩
      have nm : x ∉ μ := fun z => a.s.nf x z h1
      cases d with
      | lst ds =>
        obtain ⟨xs, q, r⟩ := h2
        unfold RV
        exact ⟨x, xs, rfl, ⟨q, nm, fun z => z.2 rfl⟩, RVs.kp kp r⟩
      | dic ds =>
        obtain ⟨xs, q, r⟩ := h2
        unfold RV
        exact ⟨x, xs, rfl, ⟨.inl q, nm, fun z => z.2 rfl⟩, RVd.kp kp r⟩
      | obj C fs =>
        obtain ⟨dx, xs, q, r⟩ := h2
        unfold RV
        exact ⟨x, dx, xs, rfl, ⟨q, nm, fun z => z.2 rfl⟩, RVf.kp kp r⟩
      | _ => exact h2.elim
    · obtain ⟨v, e1, q⟩ := a.l.at_ j sl e
      refine ⟨v, e1, ?_⟩
      cases sl with
      | no => exact True.intro
      | pu d => obtain ⟨v, e, q⟩ := q; exact ⟨v, e, RV.kp kp q⟩
      | ow b' d'' =>
        obtain ⟨y, e', k0, k1, k2⟩ := q
        subst e'
        have nx : y ≠ x := fun z => ne (a.l.inj i j _ _ _ _ x hi e e3 (by rw [e1, z]))
        exact ⟨y, rfl, ⟨⟨k0.1, nx⟩, k0.2⟩, ⟨k1, nx⟩, k2.kp kp rfl⟩
      | exc C fs =>
        obtain ⟨x, oe, d, xs, e, hp', hz, hd, k1, k2, k3, k4⟩ := q
        obtain ⟨q1, q2, q3⟩ := kp.pure d _ k1 k2 k3
        exact ⟨x, oe, d, xs, e, hp', hz, hd, q1, q2, q3, RVf.kp kp k4⟩
  · rcases set_get g1 with ⟨rfl, hi, e1⟩ | ⟨n1, e1⟩
    · cases e1
    · rcases set_get g2 with ⟨rfl, hi2, e2⟩ | ⟨n2, e2⟩
      · cases e2
      · exact a.l.inj j k _ _ _ _ q e1 e2 g3 g4
  · by_cases z : q = x
    · right
      rw [z]
      exact h0.1
    · exact (e.sub q ⟨h, z⟩).imp id fun w => w.1
end
section
variable {X : Cx} {W : WX} {st : Stmt} {sts : List Stmt} {e k : Expr} {m : S} {me mk : E} {pos pos' : Pos} {i : Nat} {x : Str}
/-- x = (what is new): from now on an object of the frame's own -/
def sOwn (i : Nat) (e : E) : S := fun ρ s => (e ρ s).to ρ fun d s => .nx (ρ.set i (.ow false d)) s
theorem OkS.own {σ : St} {H : Hp} {μ : Mu} {F : Addr → Prop} {G : Own} {ρ : Loc} {st : Store} {D : Ends} (a : At X.pn X.K H μ F G ρ σ st) (h : OkS X.pn X.K W H μ F G ((me ρ st).to ρ fun d s => .nx (ρ.set i (.ow false d)) s) D) :
    OkN X.K W F σ H μ (me ρ st) fun v H' => D.nx (σ.set i (some v)) H' := by
  cases e : me ρ st with
  | ok d s => rw [e] at h; exact fun H' μ' p f rs hp nF c => h _ H' μ' _ _ (a.evOwn f hp) (a.own f rs hp c)
  | ex C fs s => rw [e] at h; exact fun d H' μ' xs f rs e1 e2 e3 e4 => h d σ H' μ' F G xs (a.ev f) (a.fut f rs) e1 e2 e3 e4
  | bad => rw [e] at h; exact h
theorem ss_own (hN : X.N.Nodup) (he : SN X W e me) (hi : X.N[i]? = some x := by rfl) (hx : L2.Loc X.env.scope x := by first | exact Or.inl rfl | exact Or.inr rfl) (hs : swapsWith e (some (.Name x pos')) pos.line X.env = pure false := by rfl)
    (hf : X.fn x = true ∨ X.env.scope.names.lookup x = some .local := by first | exact .inl rfl | exact .inr rfl) : SS X W (.Assign [.Name x pos'] e pos) (sOwn i me) :=
  PS.of (ps_set hN hi hx he hs hf) fun D σ H ⟨ρ, μ, F, G, st, a, h⟩ => ⟨ρ, μ, F, G, st, a, OkS.own a h⟩
/-- an object of the frame's own is let go ahead of a block -/
def frzL (i : Nat) (ρ : Loc) : Option Loc := match ρ[i]? with
  | some (.ow false d) => some (ρ.set i (.pu d))
  | some (.pu d) => some ρ
  | _ => none
def bFrz (i : Nat) (m : S) : S := fun ρ s => match frzL i ρ with
  | some ρ' => m ρ' s
  | none => .bad
def owOf (ρ : Loc) (i : Nat) : Option (Bool × D) := match ρ[i]? with
  | some (.ow b d) => some (b, d)
  | _ => none
/-- one argument -/
theorem tS_1 {pn : Pn} {K : PySem.W.Frag} {H : Hp} {μ : Mu} {F : Addr → Prop} {G : Own} {ρ : Loc} {σ : St} {st : Store} {D1 : Ends} {kk : D → Store → SRes} {R : List V → Hp → Prop} (a : At pn K H μ F G ρ σ st) (h : OkS pn K W H μ F G ((me ρ st).to ρ kk) D1)
    (hR : ∀ x H1 μ1 st1 d, At pn K H1 μ1 F G ρ σ st1 → Fut H μ H1 μ1 → RV K H1 μ1 F d x → OkS pn K W H1 μ1 F G (kk d st1) D1 → R [x] H1) : tG (fun F H μ d v => RVs K H μ F d v) pn K W (eCons me eNil) σ H R := by
  refine ⟨ρ, μ, F, G, st, a, ?_⟩
  show OkG _ K W F σ H μ ((me ρ st).bind fun d s => (eNil ρ s).bind fun ds s => .ok (d :: ds) s) R
  cases e : me ρ st with
  | ok d s =>
    rw [e] at h
    intro xs H' μ' f rs r
    unfold RVs at r
    obtain ⟨x, ys, e1, r1, r2⟩ := r
    unfold RVs at r2
    subst r2
    subst e1
    exact hR x H' μ' s d (a.fut f rs) f r1 (OkS.ev (a.ev f) h)
  | ex C fs s => rw [e] at h; exact fun d H' μ' xs f rs e1 e2 e3 e4 => h d σ H' μ' F G xs (a.ev f) (a.fut f rs) e1 e2 e3 e4
  | bad => rw [e] at h; exact h
theorem ow_at {pn : Pn} {K : PySem.W.Frag} {H : Hp} {μ : Mu} {F : Addr → Prop} {G : Own} {ρ : Loc} {σ : St} {st : Store} {b : Bool} {d : D} (a : At pn K H μ F G ρ σ st) (h : owOf ρ i = some (b, d)) : ρ[i]? = some (.ow b d) ∧ ∃ p, σ[i]? = some (some (.ref p)) ∧ F p ∧ RC K H μ F d p := by
  unfold owOf at h
  split at h
  · rename_i b' d' e
    cases h
    obtain ⟨v, e3, x, e4, h0, h1, h2⟩ := a.l.at_ i _ e
    subst e4
    exact ⟨e, x, e3, h1, h2⟩
  · cases h
/-- x.append(e) -/
def sApp (i : Nat) (e : E) : S := fun ρ s => match owOf ρ i with
  | some (b, .lst ds) => (e ρ s).to ρ fun d s => if ds.length < line then .nx (ρ.set i (.ow b (.lst (ds ++ [d])))) s else .bad
  | _ => .bad
theorem ss_app {p1 p2 p3 : Pos} (he : SE X W e me) (hN : X.N[i]? = some x := by rfl) (hv : Vis X.env.scope x := by first | exact Or.inl rfl | exact Or.inr (Or.inl rfl) | exact Or.inr (Or.inr rfl)) (hd : (x == ("__debug__" : Str)) = false := by decide)
    (hcd : (x == ("__classdict__" : Str)) = false := by decide) (hbase : attributeBase (.Name x p1) "append" X.env (eval (.Name x p1) X.env) = eval (.Name x p1) X.env := by rfl)
    (hfew : ((backTo p3 (starEach [e] X.env)).all (fun x => !x.1) && (backToKw p3 (keywordEach [] X.env)).all (fun x => x.1.isSome)
      && decide (([e] : List Expr).length + ([] : List Keyword).length + (if ([] : List Keyword).isEmpty then 0 else 1) < 30)) = true := by rfl)
    (hline : (p2.endLine == p3.line) = true := by rfl) (hst : starEach [e] X.env = (false, eval e X.env) :: starEach [] X.env := by rfl) (hplain : (backTo p3 (starEach [] X.env)).any (·.1) = false := by rfl)
    (hs : swapsWith (.Call (.Attribute (.Name x p1) "append" p2) [e] [] p3) none pos.line X.env = pure false := by rfl) : SS X W (.Expr (.Call (.Attribute (.Name x p1) "append" p2) [e] [] p3) pos) (sApp i me) := by
  have ha : SA X W [e] (eCons me eNil) := sa_cons he sa_nil hst
  refine PS.of (ps_expr (pe_bm PySem.F.plainAttrs_list PySem.F.slot_list_append PySem.F.type_list_append mt_append (pe_var hN hv hd hcd) ha hbase hfew hline hst hplain) hs) fun D σ H ⟨ρ, μ, F, G, st, a, h⟩ => ?_
  have h : OkS X.pn X.K W H μ F G (match owOf ρ i with
  | some (b, .lst ds) => (me ρ st).to ρ fun d s => if ds.length < line then .nx (ρ.set i (.ow b (.lst (ds ++ [d])))) s else .bad
  | _ => .bad) D := h
  split at h
  · rename_i b ds ho
    obtain ⟨hi, p, hp, hF, c⟩ := ow_at a ho
    obtain ⟨xs, hx, rx⟩ := id c
    refine ⟨.ref p, hp, .inl ⟨rfl, xs, .inl (.inl hx)⟩, tS_1 a h fun y H1 μ1 st1 d a1 f1 r1 h1 => ?_⟩
    split at h1
    · rename_i hl
      have hx1 := f1.keep p _ (fun z => a.s.nf p z hF) hx
      have rx1 := RVs.kp f1.kp0 rx
      obtain ⟨a2, e2⟩ := a1.mut (o := .lst (xs ++ [y])) (d' := .lst (ds ++ [d])) hi hp ⟨_, upd_same, RVs.kp (kp_held hF) (rx1.append (RVs.cons r1 RVs.nil))⟩
      exact ⟨p, xs, y, rfl, rfl, hx1, by rw [rx.length, line_eq]; exact hl, h1 σ _ μ1 F G e2 a2⟩
    · exact h1.elim
  · exact h.elim
/-- x[k] = e -/
def sPutO (i : Nat) (e k : E) : S := fun ρ s => (e ρ s).to ρ fun d s => match owOf ρ i with
  | some (b, c) => (k ρ s).to ρ fun j s => (match putIx c (der s j) d with
    | some c' => .nx (ρ.set i (.ow b c')) s
    | none => .bad)
  | none => .bad
end
end Dn
namespace Dn
open PySem PySem.Spec L2
open PyProof.Rows hiding St RelV
def putD (f : Str) (d : D) : List (Str × D) → List (Str × D)
  | [] => [(f, d)]
  | (g, x) :: r => if g = f then (g, d) :: r else (g, x) :: putD f d r
section
variable {K : PySem.W.Frag} {H : Hp} {μ : Mu} {F : Addr → Prop} {f : Str} {d : D} {v : V}
theorem RVf.nil : RVf K H μ F [] [] := by unfold RVf; rfl
theorem RVf.cons {fs : List (Str × D)} {xs : List (Str × V)} (h : RV K H μ F d v) (r : RVf K H μ F fs xs) : RVf K H μ F ((f, d) :: fs) ((f, v) :: xs) := by unfold RVf; exact ⟨v, xs, rfl, h, r⟩
theorem RVf.lookup : ∀ {fs : List (Str × D)} {xs : List (Str × V)}, RVf K H μ F fs xs → (∀ d, fs.lookup f = some d → ∃ v, xs.lookup f = some v ∧ RV K H μ F d v) ∧ (fs.lookup f = none → xs.lookup f = none)
  | [], xs, h => by
    unfold RVf at h
    subst h
    exact ⟨fun d e => (by cases e), fun _ => rfl⟩
  | (k, c) :: fs, xs, h => by
    unfold RVf at h
    obtain ⟨y, ys, e, h1, h2⟩ := h
    subst e
    obtain ⟨i1, i2⟩ := RVf.lookup h2
    simp only [List.lookup]
    cases hk : f == k with
    | true => exact ⟨fun d e => ⟨y, rfl, (by cases e; exact h1)⟩, fun e => (by cases e)⟩
    | false => exact ⟨i1, i2⟩
theorem RVf.length : ∀ {fs : List (Str × D)} {xs : List (Str × V)}, RVf K H μ F fs xs → xs.length = fs.length
  | [], xs, h => by
    unfold RVf at h
    subst h
    rfl
  | (k, c) :: fs, xs, h => by
    unfold RVf at h
    obtain ⟨y, ys, e, h1, h2⟩ := h
    subst e
    rw [List.length_cons, List.length_cons, RVf.length h2]
theorem RVf.put (hv : RV K H μ F d v) : ∀ {fs : List (Str × D)} {xs : List (Str × V)}, RVf K H μ F fs xs → RVf K H μ F (putD f d fs) (putF f v xs)
  | [], xs, h => by
    unfold RVf at h
    subst h
    exact RVf.cons hv RVf.nil
  | (k, c) :: fs, xs, h => by
    unfold RVf at h
    obtain ⟨y, ys, e, h1, h2⟩ := h
    subst e
    by_cases z : k = f
    · subst z
      simp only [putD, putF, if_true]
      exact RVf.cons hv h2
    · simp only [putD, putF, if_neg z]
      exact RVf.cons h1 (RVf.put hv h2)
end
/-- the classes of L let f be read off their instances -/
def ClsF (K : PySem.W.Frag) (L : List String) (f : Str) : Prop := ∀ C ∈ L, Cls K (He.ga K C) ∧ NoAttr K (He.ga K C) f
def attrOf (L : List String) (f : Str) : D → Option D
  | .obj C fs => if C ∈ L then fs.lookup f else none
  | _ => none
def eAttr (L : List String) (f : Str) (a : E) : E := fun ρ s => (a ρ s).bind fun x s => Res.of (attrOf L f (der s x)) s
section
variable {X : Cx} {W : WX} {a e : Expr} {ma me : E} {f : Str} {pos apos pos' : Pos} {L : List String}
theorem se_attr (h : ClsF X.K L f) (ha : SR X W a ma) (hb : attributeBase a f X.env (eval a X.env) = eval a X.env := by rfl) : SE X W (.Attribute a f pos) (eAttr L f ma) := PE.of (pe_fld ha hb) fun σ H Q ⟨ρ, μ, F, G, st, a, q⟩ => by
  refine tG_at (k := fun x s => Res.of (attrOf L f (der s x)) s) a q fun x H1 μ1 st1 d a1 f1 r1 h1 => ?_
  obtain ⟨r, hr, hq⟩ := OkG.some h1
  have rr := r1.dr a1.s
  generalize der st1 d = c at hr rr
  unfold attrOf at hr
  split at hr
  · split at hr
    · rename_i C fs hC
      obtain ⟨p, dx, xs, e1, e2, rf⟩ := rr
      obtain ⟨v, e3, rv⟩ := (rf.lookup (f := f)).1 r hr
      obtain ⟨c1, c2⟩ := h C hC
      exact ⟨p, _, dx, xs, v, e1, e2, c1, c2, e3, hq v H1 μ1 .refl a1.s rv⟩
    · cases hr
  · cases hr
/-- self.f = e, self an object of the frame's own -/
def sFldO (L : List String) (i : Nat) (f : Str) (e : E) : S := fun ρ s => (e ρ s).to ρ fun d s => match owOf ρ i with
  | some (b, .obj C fs) => if C ∈ L ∧ fs.length < 1000 then .nx (ρ.set i (.ow b (.obj C (putD f d fs)))) s else .bad
  | _ => .bad
theorem ss_fldO {i : Nat} {x : Str} {p1 : Pos} (h : ClsF X.K L f) (he : SE X W e me) (hN : X.N[i]? = some x := by rfl) (hv : Vis X.env.scope x := by first | exact Or.inl rfl | exact Or.inr (Or.inl rfl) | exact Or.inr (Or.inr rfl)) (hd : (x == ("__debug__" : Str)) = false := by decide)
    (hcd : (x == ("__classdict__" : Str)) = false := by decide) (hs : swapsWith e (some (.Attribute (.Name x p1) f pos')) pos.line X.env = pure false := by rfl) : SS X W (.Assign [.Attribute (.Name x p1) f pos'] e pos) (sFldO L i f me) :=
  PS.of (ps_fld (pe_var hN hv hd hcd) he hs) fun D σ H ⟨ρ, μ, F, G, st, a, q⟩ => tS_e (k := fun d s => match owOf ρ i with
  | some (b, .obj C fs) => if C ∈ L ∧ fs.length < 1000 then .nx (ρ.set i (.ow b (.obj C (putD f d fs)))) s else .bad
  | _ => .bad) a q fun y H1 μ1 st1 d a1 f1 r1 h1 => by
    split at h1
    · rename_i b C fs ho
      split at h1
      · rename_i hl
        obtain ⟨hi, p, hp, hF, dx, xs, hx, rx⟩ := ow_at a1 ho
        obtain ⟨c1, c2⟩ := h C hl.1
        obtain ⟨a2, e2⟩ := a1.mut (o := .ins (He.ga X.K C) dx (putF f y xs)) (d' := .obj C (putD f d fs)) hi hp ⟨dx, _, upd_same, RVf.kp (kp_held hF) (rx.put r1)⟩
        exact ⟨.ref p, hp, p, _, dx, xs, rfl, hx, c1, c2, by rw [rx.length]; exact hl.2, h1 σ _ μ1 F G e2 a2⟩
      · exact h1.elim
    · exact h1.elim
end
def spInit (K : PySem.W.Frag) (C : String) (n : Nat) (m : M) : Sp := fun vs H Q E => ∃ μ F st ds x dx rest Hc, vs = .ref x :: rest ∧ H = upd (upd Hc dx (.own x)) x (.ins (He.ga K C) dx []) ∧ Hc x = none ∧ Hc dx = none ∧ dx ≠ x ∧ RS K Hc μ F st ∧ RVs K Hc μ F ds rest ∧ ds.length = n ∧
  OkN K (fun c d _ H => E c d H) F [] Hc μ (m ds st) fun v H' => v = .ref x → Q .non H'
def SRes.made (r : SRes) : Res D := match r with
  | .nx ρ s => (match (ρ[0]? : Option Slot) with
    | some (.ow true (.obj C fs)) => .ok (.obj C fs) s
    | _ => .bad)
  | .ex C fs _ s => .ex C fs s
  | _ => .bad
def initM (C : String) (N : Nat) (body : S) : M := fun ds s => (body (.ow true (.obj C []) :: (ds.map .pu ++ List.replicate (N - (ds.length + 1)) .no)) s).made
theorem RL.slot0 {pn : Pn} {K : PySem.W.Frag} {H H' : Hp} {μ μ' : Mu} {F F' : Addr → Prop} {G : Own} {ρ : Loc} {σ : St} {d : D} {x : Addr} (l : RL pn K H μ F ownNo ρ σ) (k : Kp H μ F H' μ' F') (hn : H x = none) (g : G.g x) (sf : G.sf = some x) (hF : F' x) (c : RC K H' μ' F' d x)
    (hno : ∀ sl ∈ ρ, ∀ b d, sl ≠ .ow b d) : RL pn K H' μ' F' G (.ow true d :: ρ) (some (.ref x) :: σ) := by
  refine ⟨by rw [List.length_cons, List.length_cons, l.len], fun i sl e => ?_, fun i j b c d e q h1 h2 _ _ => ?_⟩
  · cases i with
    | zero =>
      cases e
      exact ⟨_, rfl, x, rfl, ⟨g, fun _ => sf⟩, hF, c⟩
    | succ i =>
      have e : ρ[i]? = some sl := by simpa using e
      obtain ⟨v, e1, q⟩ := l.at_ i sl e
      refine ⟨v, by simpa using e1, ?_⟩
      cases sl with
      | no => exact True.intro
      | pu d => obtain ⟨v, e, q⟩ := q; exact ⟨v, e, RV.kp k q⟩
      | ow b d => exact absurd rfl (hno _ (List.mem_of_getElem? e) b d)
      | exc C fs =>
        obtain ⟨a, oe, d, xs, e, hp, hz, hd, h1, h2, h3, h4⟩ := q
        obtain ⟨q1, q2, q3⟩ := k.pure d _ h1 h2 h3
        exact ⟨a, oe, d, xs, e, hp, hz, hd, q1, q2, q3, RVf.kp k h4⟩
  · have z : ∀ {i : Nat} {b : Bool} {d' : D}, (Slot.ow true d :: ρ)[i]? = some (.ow b d') → i = 0 := fun {i b d'} e => by
      cases i with
      | zero => rfl
      | succ i => exact absurd rfl (hno _ (List.mem_of_getElem? (show ρ[i]? = some (.ow b d') by simpa using e)) b d')
    have z : ∀ {d0 : D} {i : Nat} {b : Bool} {d' : D}, (Slot.ow true d0 :: ρ)[i]? = some (.ow b d') → i = 0 := fun {d0 i b d'} e => by
      cases i with
      | zero => rfl
      | succ i => exact absurd rfl (hno _ (List.mem_of_getElem? (show ρ[i]? = some (.ow b d') by simpa using e)) b d')
    rw [z h1, z h2]
theorem init_ok {P : Program} {w : World} {K : PySem.W.Frag} {mg : Str → Option Value} {base : Heap} {x qual : Str} {params : Arguments} {body : List Stmt} {scope : Scope} {dvs : List V} {kws : List (Str × V)} {f : Addr} {fd : FuncData} {N : List Str} {p0 : Str} {ps : List Str} {k : Nat} {mb : S} (C : String)
    (Fu : FunD K x qual params body scope dvs kws f fd) (S : FnScope N (p0 :: ps) scope) (hN : ps.length < N.length)
    (hb : ∀ (cdv : Value) (A : Around) (outer : List Env) (s : Shared) (H : Hp) (E : XK), Room k (A.deeper (envOfC qual scope s.heap.objs.size f cdv)) →
      SB (cxOf (L2.CX P w) P w K mg base N qual scope f cdv A outer s H E) (fun c d _ H => E c d H) body mb) : FnOk P w K mg base (L2.CX P w) (k + 1) f fd (p0 :: ps) (spInit K C ps.length (initM C N.length mb)) := by
  refine okG Fu S (fun vs H Q E h => ?_) fun cdv A outer s H vs Q E hr h => ?_
  · obtain ⟨μ, F, st, ds, x, dx, rest, Hc, rfl, _, _, _, _, _, r, hl, _⟩ := h
    rw [List.length_cons, List.length_cons, r.length, hl]
  · obtain ⟨μ, F, st, ds, x, dx, rest, Hc, rfl, rfl, hx, hdx, hne, rs, r, hl, h⟩ := h
    have hx1 : (upd Hc dx (.own x)) x = none := by rw [upd_ne (Ne.symm hne)]; exact hx
    have rs1 : RS K (upd Hc dx (.own x)) μ F st := rs.new hdx
    have rs2 : RS K (upd (upd Hc dx (.own x)) x (.ins (He.ga K C) dx [])) μ (plus F x) st := rs1.plus hx1
    have kp0 : Kp Hc μ F (upd Hc dx (.own x)) μ F := (Fut.new (μ := μ) hdx).kp0
    have kp1 : Kp (upd Hc dx (.own x)) μ F (upd (upd Hc dx (.own x)) x (.ins (He.ga K C) dx [])) μ (plus F x) := Fut.kpP hx1 .refl
    have hst : start N (.ref x :: rest) = some (.ref x) :: (rest.map some ++ List.replicate (N.length - (rest.length + 1)) none) := by
      unfold L2.start
      rw [List.map_cons, List.cons_append, List.length_cons]
    have lr := r.length
    have l0 : RL [] K (upd Hc dx (.own x)) μ F ownNo (ds.map .pu ++ List.replicate (N.length - (ds.length + 1)) .no) (rest.map some ++ List.replicate (N.length - (rest.length + 1)) none) := by
      have q := RL.start (pn := []) (RVs.kp kp0 r) (N.tail)
      unfold L2.start at q
      rw [List.length_tail] at q
      rw [show N.length - (ds.length + 1) = N.length - 1 - ds.length by omega, show N.length - (rest.length + 1) = N.length - 1 - rest.length by omega]
      exact q
    have at0 : At [] K (upd (upd Hc dx (.own x)) x (.ins (He.ga K C) dx [])) μ (plus F x) ⟨(· = x), some x⟩ (.ow true (.obj C []) :: (ds.map .pu ++ List.replicate (N.length - (ds.length + 1)) .no)) (start N (.ref x :: rest)) st := by
      rw [hst]
      refine ⟨l0.slot0 kp1 hx1 rfl rfl (.inr rfl) ⟨dx, [], upd_same, RVf.nil⟩ (fun sl h b d => ?_), rs2, fun a h => .inr h⟩
      rcases List.mem_append.mp h with h | h
      · obtain ⟨c, _, e⟩ := List.mem_map.mp h
        subst e
        exact fun z => by cases z
      · rw [(List.mem_replicate.mp h).2]
        exact fun z => by cases z
    have key : ∀ {H' : Hp} {μ' : Mu} {F' : Addr → Prop} {G' : Own}, Ev (upd (upd Hc dx (.own x)) x (.ins (He.ga K C) dx [])) μ (plus F x) ⟨(· = x), some x⟩ H' μ' F' G' → Fut Hc μ H' μ' ∧ ∀ a, F a → F' a := fun {H' μ' F' G'} e => by
      have back : ∀ {b : Addr}, (upd (upd Hc dx (.own x)) x (.ins (He.ga K C) dx [])) b = none → Hc b = none := fun {b} z => by
        by_cases h1 : b = x
        · rw [h1, upd_same] at z; cases z
        · rw [upd_ne h1] at z
          by_cases h2 : b = dx
          · rw [h2]; exact hdx
          · rw [upd_ne h2] at z; exact z
      have fwd : ∀ {b : Addr} {o : HO}, Hc b = some o → (upd (upd Hc dx (.own x)) x (.ins (He.ga K C) dx [])) b = some o := fun {b o} z => by
        rw [upd_ne (ne_of_none z hx), upd_ne (ne_of_none z hdx)]; exact z
      obtain ⟨l, el, ql⟩ := id e.ext
      refine ⟨⟨⟨l, el, fun a h => back (ql a h)⟩, fun a o n h => e.keep a o n (fun z => by rw [show a = x from z, hx] at h; cases h) (fwd h), fun a o h => e.there a o (fwd h)⟩, fun a h => (e.sub a (.inl h)).elim id fun z => ?_⟩
      obtain ⟨o, q⟩ := rs.fd a h
      rw [show a = x from z, hx] at q
      cases q
    refine ⟨_, hb cdv A outer s _ E hr, _, μ, plus F x, ⟨(· = x), some x⟩, st, at0, ?_⟩
    unfold initM at h
    show OkS [] K (fun c d _ H => E c d H) _ μ (plus F x) _ (mb _ st) _
    cases e : mb (.ow true (.obj C []) :: (ds.map .pu ++ List.replicate (N.length - (ds.length + 1)) .no)) st with
    | nx ρ s =>
      rw [e] at h
      intro σ' H' μ' F' G' ev a'
      obtain ⟨fu, fs⟩ := key ev
      have h : OkN K (fun c d _ H => E c d H) F [] Hc μ (match (ρ[0]? : Option Slot) with
        | some (.ow true (.obj C fs)) => .ok (.obj C fs) s
        | _ => .bad) (fun v H' => v = .ref x → Q .non H') := h
      split at h
      · rename_i C' fs' h0
        obtain ⟨v, e3, p, e4, g0, g1, g2⟩ := a'.l.at_ 0 _ h0
        have ex : p = x := by
          have := g0.2 rfl
          rw [ev.sf] at this
          exact (Option.some.inj this).symm
        subst ex
        have wk : ∀ a, plus F p a → F' a := fun a z => z.elim (fs a) fun w => by rw [w]; exact g1
        exact h H' μ' p fu (a'.s.weak wk) hx (fun z => (rs.fresh hx).2 z) (g2.kp ⟨fun a o h n nF => ⟨h, n, fun z => nF (wk a z)⟩, fun _ _ h => h⟩ rfl) rfl
      · exact h.elim
    | ex C' fs' ρ s =>
      rw [e] at h
      intro d σ' H' μ' F' G' xs ev a' q1 q2 q3 q4
      obtain ⟨fu, fs⟩ := key ev
      exact h d H' μ' xs fu (a'.s.weak fs) q1 q2 (fun z => q3 (fs d z)) (RVf.kp ⟨fun a o h n nF => ⟨h, n, fun z => nF (fs a z)⟩, fun _ _ h => h⟩ q4)
    | rt d s => rw [e] at h; exact h.elim
    | bk ρ s => rw [e] at h; exact h.elim
    | ct ρ s => rw [e] at h; exact h.elim
    | bad => rw [e] at h; exact h.elim
end Dn
namespace Dn
open PySem PySem.Spec L2
open PyProof.Rows hiding St RelV
section
variable {K : PySem.W.Frag} {x qual : Str} {params : Arguments} {body : List Stmt} {scope : Scope} {kws : List (Str × V)} {f : Addr} {fd : FuncData} {ps : List Str}
/-- no defaults stand -/
theorem kb_all (F : FunD K x qual params body scope [] kws f fd) (np : Nat) (ks : List Str) (perm : List Nat)
    (h : ∀ (kV doc pm : Value) (an : Option Addr) (cdv ct : Value) (us ws : List Value), us.length = np → ws.length = ks.length → bindArgs (PySem.W.fnOf x qual params body scope .none kV doc pm an cdv ct) ⟨us, ks.zip ws⟩ = pure (ps.zip (pick perm (us ++ ws)))) : KB K fd ps np ks perm [] := by
  refine ⟨[], [], .nil, fun _ _ _ => RVs.nil, fun s us ws _ h1 h2 => ?_⟩
  obtain ⟨oc, od, dV, kV, doc, pm, an, cdv, ct, osl, rfl, lk, hcd, hD, hK⟩ := F.ex
  rcases hD with ⟨_, rfl⟩ | ⟨e, _⟩
  · rw [List.append_nil]
    exact .of_eq (h kV doc pm an cdv ct us ws h1 h2)
  · exact absurd rfl e
/-- keyword-only defaults fill up: ms those that lack -/
theorem kb_kw (F : FunD K x qual params body scope [] kws f fd) (np : Nat) (ks : List Str) (perm : List Nat) (ms : List (Str × V)) (dfl : List D) (hk : kws ≠ []) (hms : ∀ q ∈ ms, q ∈ kws) (hdf : ∀ H μ F, RVs K H μ F dfl (ms.map (·.2)))
    (h : ∀ (D : Addr) (doc pm : Value) (an : Option Addr) (cdv ct : Value) (us mv ws : List Value), us.length = np → mv.length = ms.length → ws.length = ks.length →
      KwChain D ((ms.map (·.1)).zip mv) (bindArgs (PySem.W.fnOf x qual params body scope .none (.ref D) doc pm an cdv ct) ⟨us, ks.zip ws⟩) (ps.zip (pick perm (us ++ ws ++ mv)))) : KB K fd ps np ks perm dfl := by
  obtain ⟨oc, od, dV, kV, doc, pm, an, cdv, ct, osl, rfl, lk, hcd, hD, hK⟩ := F.ex
  rcases hD with ⟨_, rfl⟩ | ⟨e, _⟩
  · rcases hK with e | ⟨D, rfl, hq⟩
    · exact absurd e hk
    · obtain ⟨mv, hl, rk, hks⟩ := kwd_vals (ms := ms) fun q hm => hq q (hms q hm)
      exact ⟨mv, _, rk, hdf, fun s us ws X l1 l2 => BindsTo.of_looks fun M => KwChain.looks X hks (h D doc pm an cdv ct us mv ws l1 hl l2)⟩
  · exact absurd rfl e
theorem pick_succ {α : Type} (x : α) (l : List α) : ∀ perm : List Nat, pick (perm.map (· + 1)) (x :: l) = pick perm l
  | [] => rfl
  | i :: perm => by
    have ih := pick_succ x l perm
    unfold pick at ih ⊢
    rw [List.map_cons, List.filterMap_cons, List.filterMap_cons, ih, List.getElem?_cons_succ]
theorem pick_self {α : Type} (x : α) (l : List α) (perm : List Nat) : pick (0 :: perm.map (· + 1)) (x :: l) = x :: pick perm l := by
  have := pick_succ x l perm
  unfold pick at this ⊢
  rw [List.filterMap_cons, this]
  rfl
end
/-- the call of c makes a new object -/
def CallsN (X : Cx) (W : WX) (c : Value) (ks : List Str) (m : M) : Prop := ∀ (pins : List (Addr × Obj)) (s : Shared) (σ : St) (H : Hp) (us ws : List Value) (vs zs : List V) (Q : VK) (μ : Mu) (F : Addr → Prop) (st : Store) (ds es : List D),
  Inv X pins σ H s → Vals vs us → Vals zs ws → ws.length = ks.length → RS X.K H μ F st → RVs X.K H μ F ds vs → RVs X.K H μ F es zs → OkN X.K W F σ H μ (m (ds ++ es) st) Q → wpAny (model X.prog X.w) X.A (call c us (ks.zip ws)) (EP X pins σ Q) X.xe s
section
variable {X : Cx} {W : WX} {k np : Nat} {f C : Addr} {fd : FuncData} {p0 : Str} {ps ks : List Str} {perm : List Nat} {dfl : List D} {m : M} {Cn : String}
theorem CallsN.d {c : Value} (h : CallsN X W c ks m) : CallsD X W c ks m := by
  intro pins s σ H us ws vs zs Q μ F st ds es I r rz lz rs rd re q
  refine h pins s σ H us ws vs zs Q μ F st ds es I r rz lz rs rd re ?_
  cases e : m (ds ++ es) st with
  | ok d s => rw [e] at q; exact fun H' μ' p f rs hp nF c => q (.ref p) H' μ' f rs.minus (c.val rs nF)
  | ex C fs s => rw [e] at q; exact q
  | bad => rw [e] at q; exact q
theorem mk_calls (Mk' : Mk X.K (He.ga X.K Cn) f) (Fn : FnOk X.prog X.w X.K X.mg X.base (L2.CX X.prog X.w) k f fd (p0 :: ps) (spInit X.K Cn ps.length m)) (hr : Room (k + 1) X.A) (tk : Takes X W) (hb : KB X.K fd (p0 :: ps) (np + 1) ks (0 :: perm.map (· + 1)) dfl) (hp : perm.length = ps.length) :
    CallsN X W (.ref (He.ga X.K Cn)) ks (argsM np ks.length perm dfl m) := by
  intro pins s σ H us ws vs zs Q μ F st ds es I r rz lz rs rd re h
  obtain ⟨its, dvs, rt, rdf, hb⟩ := hb
  unfold argsM at h
  split at h
  case isFalse => exact h.elim
  case isTrue hl =>
    have l1 := rd.length
    have l2 := re.length
    have l3 := r.length
    have l4 := rz.length
    rw [List.length_append] at hl
    have hus : us.length = np := by omega
    have r2 : Vals (pick perm (vs ++ zs ++ dvs)) (pick perm (us ++ ws ++ its)) := Vals.pick ((r.append rz).append rt) perm
    have r3 : RVs X.K H μ F (pick perm (ds ++ es ++ dfl)) (pick perm (vs ++ zs ++ dvs)) := RVs.pick ((rd.append re).append (rdf H μ F)) perm
    have I2 := Inv.made (C := He.ga X.K Cn) I
    have rv : Vals (V.ref (s.heap.objs.size + 1) :: pick perm (vs ++ zs ++ dvs)) (Value.ref (s.heap.objs.size + 1) :: pick perm (us ++ ws ++ its)) := .cons rfl r2
    have hbind := hb { s with heap := (s.heap.push PySem.W.emptyDict).push (PySem.W.instObj (He.ga X.K Cn) s.heap.objs.size) } (Value.ref (s.heap.objs.size + 1) :: us) ws I2.kIn (by rw [List.length_cons, hus]) lz
    rw [List.cons_append, List.cons_append, pick_self] at hbind
    have hq : spInit X.K Cn ps.length m (V.ref (s.heap.objs.size + 1) :: pick perm (vs ++ zs ++ dvs)) (upd (upd H s.heap.objs.size (.own (s.heap.objs.size + 1))) (s.heap.objs.size + 1) (.ins (He.ga X.K Cn) s.heap.objs.size []))
        (fun v H2 => v = .non ∧ Q (.ref (s.heap.objs.size + 1)) H2) (WE W σ) := by
      refine ⟨μ, F, st, _, _, _, _, H, rfl, rfl, I.hok.fresh (Nat.le_succ _), I.hok.fresh (Nat.le_refl _), Nat.ne_of_lt (Nat.lt_succ_self _), rs, r3, by rw [hl.2, hp], ?_⟩
      cases e : m (pick perm (ds ++ es ++ dfl)) st with
      | ok d s' => rw [e] at h; exact fun H' μ' p f rs hp nF c z => ⟨rfl, by rw [← z]; exact h H' μ' p f rs hp nF c⟩
      | ex C fs s' => rw [e] at h; exact h
      | bad => rw [e] at h; exact h
    refine wpAny_call (make_map (f := f) I.kIn Mk'.makes Mk'.init (beq_iff_eq.mp Mk'.fn) (codeAny_mono (Fn.run _ X.stack _ _ ⟨Value.ref (s.heap.objs.size + 1) :: us, ks.zip ws⟩ _ _ _ (WE W σ) (hr.make _ us (ks.zip ws)) (I2.env0.make _ us (ks.zip ws)) hbind rv hq) fun r s' hq' => ?_))
    cases r with
    | error e => exact passAt tk σ pins _ _ e s' I2 hq'
    | ok fl =>
      cases fl with
      | ret u =>
        obtain ⟨v, H', I3, rv3, ev, q3⟩ := I2.after hq'
        subst ev
        exact ⟨rv3, ⟨V.ref (s.heap.objs.size + 1), H', I3, rfl, q3⟩⟩
      | next => exact False.elim hq'
      | brk => exact False.elim hq'
      | cont => exact False.elim hq'
variable {x : Str} {p pos : Pos} {e : Expr} {es : List Expr} {kws : List Keyword} {ml mk : EL} {c : Value}
theorem callN_at {σ : St} {H : Hp} {Q : VK} (h : tN X.pn X.K W (eCallK ks.length m ml mk) σ H Q) (C : CallsN X W c ks m) :
    tG (fun F H μ d v => RVs X.K H μ F d v) X.pn X.K W ml σ H fun vs H1 => tG (fun F H μ d v => RVs X.K H μ F d v) X.pn X.K W mk σ H1 fun zs H2 => ∀ pins s us ws, Inv X pins σ H2 s → Vals vs us → Vals zs ws → wpAny (model X.prog X.w) X.A (call c us (ks.zip ws)) (EP X pins σ Q) X.xe s := by
  obtain ⟨ρ, μ, F, G, st, a, h⟩ := h
  refine tN_at (k := fun ds s => (mk ρ s).bind fun es s => if es.length = ks.length then m (ds ++ es) s else .bad) a h fun vs H1 μ1 st1 ds a1 f1 r1 h1 => ?_
  refine tN_at (k := fun es s => if es.length = ks.length then m (ds ++ es) s else .bad) a1 h1 fun zs H2 μ2 st2 es a2 f2 r2 h2 => fun pins s us ws I r rz => ?_
  split at h2
  · rename_i hl
    exact C pins s σ H2 us ws vs zs Q μ2 F st2 ds es I r rz (by rw [← rz.length, r2.length, hl]) a2.s (RVs.kp f2.kp0 r1) r2 h2
  · exact h2.elim
/-- C(e, .., k = v, ..) -/
theorem sn_callK (C : CallsN X W c ks m) (hg : Gl X x) (hm : X.mg x = some c) (hk : PySem.W.keepIn X.K c = true) (ha : SA X W (e :: es) ml) (hkw : SK X W kws mk) (hall : (backToKw pos (keywordEach kws X.env)).all (·.1.isSome) = true := by rfl) (hks : (backToKw pos (keywordEach kws X.env)).filterMap (·.1) = ks := by rfl)
    (hdb : (x == ("__debug__" : Str)) = false := by decide) (he : starEach (e :: es) X.env = (false, eval e X.env) :: starEach es X.env := by rfl)
    (hpl : ((backTo pos (starEach (e :: es) X.env)).any (·.1) || (backToKw pos (keywordEach kws X.env)).any (·.1.isNone)) = false := by rfl) : SN X W (.Call (.Name x p) (e :: es) kws pos) (eCallK ks.length m ml mk) := by
  refine ⟨fun pins s σ H Q I h => ?_⟩
  refine wpAny_Call_Name_kw (ld_glob I hg hm ?_ hdb)
  refine PySem.W.callWith_KW (h₀ := X.base) I.ok.mod.kin hk hall (thn (ha.run pos pins s σ H _ I (callN_at h C)) fun us s1 ⟨vs, H1, I1, r, q⟩ => ?_) hpl he
  refine thn (hkw.run pos pins s1 σ H1 _ I1 q) fun ws s2 ⟨zs, H2, I2, rz, q2⟩ => ⟨I2.kIn, ?_⟩
  rw [hks]
  exact q2 pins s2 us ws I2 r rz
theorem sn_callK0 (C : CallsN X W c ks m) (hg : Gl X x) (hm : X.mg x = some c) (hk : PySem.W.keepIn X.K c = true) (hkw : SK X W kws mk) (hall : (backToKw pos (keywordEach kws X.env)).all (·.1.isSome) = true := by rfl) (hks : (backToKw pos (keywordEach kws X.env)).filterMap (·.1) = ks := by rfl)
    (hdb : (x == ("__debug__" : Str)) = false := by decide)
    (hpl : ((backTo pos (starEach [] X.env)).any (·.1) || (backToKw pos (keywordEach kws X.env)).any (·.1.isNone)) = false := by rfl) : SN X W (.Call (.Name x p) [] kws pos) (eCallK ks.length m eNil mk) := by
  refine ⟨fun pins s σ H Q I ⟨ρ, μ, F, G, st, a, h⟩ => ?_⟩
  refine wpAny_Call_Name_kw (ld_glob I hg hm ?_ hdb)
  refine PySem.W.callWith_KW0 (h₀ := X.base) I.ok.mod.kin hk hall ?_ hpl
  refine thn (hkw.run pos pins s σ H _ I (tN_at (k := fun es s => if es.length = ks.length then m es s else .bad) a h fun zs H2 μ2 st2 es a2 f2 r2 h2 => ?_ : tG (fun F H μ d v => RVs X.K H μ F d v) X.pn X.K W mk σ H fun zs H2 => ∀ pins s ws, Inv X pins σ H2 s → Vals zs ws → wpAny (model X.prog X.w) X.A (call c [] (ks.zip ws)) (EP X pins σ Q) X.xe s)) fun ws s2 ⟨zs, H2, I2, rz, q2⟩ => ⟨I2.kIn, ?_⟩
  · intro pins s ws I rz
    split at h2
    · rename_i hl
      exact C pins s σ H2 [] ws [] zs Q μ2 F st2 [] es I .nil rz (by rw [← rz.length, r2.length, hl]) a2.s RVs.nil r2 h2
    · exact h2.elim
  · rw [hks]
    exact q2 pins s2 ws I2 rz
/-- C(e, ..) -/
theorem sn_call (C : CallsN X W c [] m) (hg : Gl X x) (hm : X.mg x = some c) (hk : PySem.W.keepIn X.K c = true) (ha : SA X W (e :: es) ml) (hdb : (x == ("__debug__" : Str)) = false := by decide)
    (he : starEach (e :: es) X.env = (false, eval e X.env) :: starEach es X.env := by rfl) (hpl : (backTo pos (starEach es X.env)).any (·.1) = false := by rfl) : SN X W (.Call (.Name x p) (e :: es) [] pos) (eCall m ml) := by
  refine ⟨fun pins s σ H Q I ⟨ρ, μ, F, G, st, a, h⟩ => ?_⟩
  refine wpAny_Call_Name_kw (ld_glob I hg hm ?_ hdb)
  have h' := tN_at (P := fun F H μ d v => RVs X.K H μ F d v) (k := fun ds s => m ds s) (R := fun vs H1 => ∀ pins s us, Inv X pins σ H1 s → Vals vs us → wpAny (model X.prog X.w) X.A (call c us) (EP X pins σ Q) X.xe s) a h fun vs H1 μ1 st1 ds a1 f1 r1 h1 pins s us I r =>
    C pins s σ H1 us [] vs [] Q μ1 F st1 ds [] I r .nil rfl a1.s r1 RVs.nil (by rw [List.append_nil]; exact h1)
  refine PySem.W.callWith_K (h₀ := X.base) I.ok.mod.kin hk (thn (ha.run pos pins s σ H _ I h') fun us s1 ⟨vs, H1, I1, r, q⟩ => ⟨I1.kIn, ?_⟩) he hpl
  exact q pins s1 us I1 r
theorem sn_call0 (C : CallsN X W c [] m) (hg : Gl X x) (hm : X.mg x = some c) (hk : PySem.W.keepIn X.K c = true) (hdb : (x == ("__debug__" : Str)) = false := by decide) : SN X W (.Call (.Name x p) [] [] pos) (eCall m eNil) := by
  refine ⟨fun pins s σ H Q I ⟨ρ, μ, F, G, st, a, h⟩ => ?_⟩
  refine wpAny_Call_Name_kw (ld_glob I hg hm ?_ hdb)
  exact PySem.W.callWith_K0 I.kIn hk (C pins s σ H [] [] [] [] Q μ F st [] [] I .nil .nil rfl a.s RVs.nil RVs.nil h)
end
/-- the method's meaning by the class of the instance -/
abbrev Disp := List (String × M)
def methOf (L : Disp) (m : Str) : D → Option M
  | .obj C fs => if fs.lookup m = none then L.lookup C else none
  | _ => none
def eMeth (L : Disp) (m : Str) (o : E) (a : EL) : E := fun ρ s => (o ρ s).bind fun x s => match methOf L m (der s x) with
  | some g => (a ρ s).bind fun ds s => g (x :: ds) s
  | none => .bad
theorem lookup_mem {α : Type} {C : String} {g : α} : ∀ {L : List (String × α)}, L.lookup C = some g → (C, g) ∈ L
  | [], h => by cases h
  | (k, v) :: L, h => by
    simp only [List.lookup] at h
    cases e : C == k with
    | true =>
      rw [e] at h
      cases h
      rw [eq_of_beq e]
      exact List.mem_cons_self
    | false =>
      rw [e] at h
      exact List.mem_cons_of_mem _ (lookup_mem h)
end Dn
namespace Dn
open PySem PySem.Spec L2
open PyProof.Rows hiding St RelV
/-- the kind of a value: a built-in type (false), an own class (true) -/
def kindD : D → Option (Bool × String)
  | .non => some (false, "NoneType")
  | .bl _ => some (false, "bool")
  | .int _ => some (false, "int")
  | .str _ => some (false, "str")
  | .tup _ => some (false, "tuple")
  | .lst _ => some (false, "list")
  | .dic _ => some (false, "dict")
  | .scr _ => some (false, "list")
  | .obj C _ => some (true, C)
  | _ => none
def tyV' (K : PySem.W.Frag) (k : Bool × String) : Value := if k.1 = true then .ref (He.ga K k.2) else .type k.2
/-- what an own class must say -/
structure InsF (K : PySem.W.Frag) (C : String) : Prop where
  cl : Cls K (He.ga K C)
  ha : PySem.W.findIn K (.ref (He.ga K C)) "__class__" = some (some (.builtin "object.__class__"))
  hn : PySem.W.specialIn K (.builtin "object.__class__") "__get__" = some (some (.builtin "getset_descriptor.__get__"))
  ht : PySem.W.takesIn K (.builtin "object.__class__") = some true
  hm : PySem.W.mroIn K (He.ga K C) (.type "object") = some true
abbrev KTab := List ((Bool × String) × Bool)
/-- the table L tells what isinstance says of the class cv -/
def IsiF (K : PySem.W.Frag) (cv : Value) (L : KTab) : Prop := ∀ k b, (k, b) ∈ L → PySem.W.kitOne K (tyV' K k) cv = some b ∧ (k.1 = true → InsF K k.2)
theorem lookup_memK {α β : Type} [BEq α] [LawfulBEq α] {k : α} {g : β} : ∀ {L : List (α × β)}, L.lookup k = some g → (k, g) ∈ L
  | [], h => by cases h
  | (k', v) :: L, h => by
    simp only [List.lookup] at h
    cases e : k == k' with
    | true =>
      rw [e] at h
      cases h
      rw [eq_of_beq e]
      exact List.mem_cons_self
    | false =>
      rw [e] at h
      exact List.mem_cons_of_mem _ (lookup_memK h)
def isiOf (L : KTab) (d : D) : Option D := (kindD d).bind fun k => (L.lookup k).map .bl
def eIsi (L : KTab) (a : E) : E := fun ρ s => (a ρ s).bind fun x s => Res.of (isiOf L (der s x)) s
section
variable {X : Cx} {W : WX} {a e : Expr} {ma me : E} {pos p q : Pos} {L : KTab}
theorem kind_ty {K : PySem.W.Frag} {H : Hp} {μ : Mu} {F : Addr → Prop} {d : D} {v : V} {k : Bool × String} (h : DR K H μ F d v) (e : kindD d = some k) (hi : k.1 = true → InsF K k.2) : TyX K H v (tyV' K k) := by
  cases d with
  | non => cases e; cases (show v = _ from h); exact .base .non
  | bl b => cases e; cases (show v = _ from h); exact .base (.bl b)
  | int b => cases e; cases (show v = _ from h); exact .base (.int b)
  | str b => cases e; cases (show v = _ from h); exact .base (.str b)
  | tup ds =>
    cases e
    obtain ⟨a, xs, e1, q, r⟩ := h
    subst e1
    rcases q with (q | ⟨o, q⟩) | ⟨o, its, n, q, c, _⟩
    · exact .base (.tup q)
    · exact .fTuple q
    · exact .kTuple q c
  | lst ds =>
    cases e
    obtain ⟨a, xs, e1, q, r⟩ := h
    subst e1
    exact .base (.lst q)
  | dic ds =>
    cases e
    obtain ⟨a, xs, e1, q, r⟩ := h
    subst e1
    exact q.elim (fun q => .base (.dK q)) fun ⟨_, q⟩ => .fDict q
  | obj C fs =>
    cases e
    obtain ⟨a, dx, xs, e1, q, r⟩ := h
    subst e1
    have c := hi rfl
    exact .base (.ins q c.cl c.ha c.hn c.ht c.hm)
  | scr ns =>
    cases e
    obtain ⟨a, e1, q⟩ := h
    subst e1
    rcases q with (q | ⟨o, q⟩) | ⟨o, its, n, q, c, _⟩
    · exact .base (.lst q)
    · exact .base (.frz q)
    · exact .kList q c
  | ref n => cases e
  | glob x => cases e
theorem isi_at {c : V} {cv : Value} {σ : St} {H : Hp} {Q : VK} (hL : IsiF X.K cv L) (hc : ClsV c cv) (h : tG (fun F H μ d v => RV X.K H μ F d v) X.pn X.K W (eIsi L ma) σ H Q) :
    tG (fun F H μ d v => RD X.K H μ F d v) X.pn X.K W ma σ H fun x H1 => rIsi X.K [x, c] H1 Q := by
  obtain ⟨ρ, μ, F, G, st, a, q⟩ := h
  refine tG_at (k := fun x s => Res.of (isiOf L (der s x)) s) a q fun x H1 μ1 st1 d a1 f1 r1 h1 => ?_
  obtain ⟨r, hr, hq⟩ := OkG.some h1
  have rr := r1.dr a1.s
  unfold isiOf at hr
  obtain ⟨k, hk, hr⟩ := Option.bind_eq_some_iff.mp hr
  obtain ⟨b, hb, e⟩ := Option.map_eq_some_iff.mp hr
  subst e
  obtain ⟨h2, h3⟩ := hL k b (lookup_memK hb)
  exact ⟨x, c, _, _, b, rfl, hc, kind_ty rr hk h3, h2, hq _ H1 μ1 .refl a1.s (RV_bl b)⟩
/-- isinstance(e, T), T a built-in type -/
theorem se_isiT {T : String} {x : Str} (hL : IsiF X.K (.type T) L) (hg : Gl X "isinstance") (hm : X.mg "isinstance" = none) (hgT : Gl X x) (hmT : X.mg x = none) (ha : SR X W a ma) (hvT : bootBuiltins x = some (.type T) := by decide +kernel) (hnT : x ≠ "__name__" := by decide) (hdT : (x == ("__debug__" : Str)) = false := by decide)
    (he : starEach [a, .Name x q] X.env = (false, eval a X.env) :: starEach [.Name x q] X.env := by rfl) (he2 : starEach [.Name x q] X.env = (false, eval (.Name x q) X.env) :: starEach [] X.env := by rfl)
    (hpl : (backTo pos (starEach [.Name x q] X.env)).any (·.1) = false := by rfl) : SE X W (.Call (.Name "isinstance" p) [a, .Name x q] [] pos) (eIsi L ma) := by
  refine PE.of (pe_callB call_isi hg hm (by decide +kernel) (pa_cons ha (pa_cons (pe_bltn hgT hmT hvT (show RelV (.ty T) (.type T) from rfl) hnT hdT) pa_nil he2) he) (he := he) (hpl := hpl)) fun σ H Q h => ?_
  exact isi_at hL (.ty T) h
/-- isinstance(e, C), C an own class -/
theorem se_isiC {C : String} (hL : IsiF X.K (.ref (He.ga X.K C)) L) (hg : Gl X "isinstance") (hm : X.mg "isinstance" = none) (hgT : Gl X C) (hmT : X.mg C = some (.ref (He.ga X.K C))) (ha : SR X W a ma) (hdT : ((C : Str) == ("__debug__" : Str)) = false := by decide)
    (he : starEach [a, .Name C q] X.env = (false, eval a X.env) :: starEach [.Name C q] X.env := by rfl) (he2 : starEach [.Name C q] X.env = (false, eval (.Name C q) X.env) :: starEach [] X.env := by rfl)
    (hpl : (backTo pos (starEach [.Name C q] X.env)).any (·.1) = false := by rfl) : SE X W (.Call (.Name "isinstance" p) [a, .Name C q] [] pos) (eIsi L ma) := by
  refine PE.of (pe_callB call_isi hg hm (by decide +kernel) (pa_cons ha (pa_cons (pe_glob hgT hmT (show RelV (.ref (He.ga X.K C)) (.ref (He.ga X.K C)) from rfl) hdT) pa_nil he2) he) (he := he) (hpl := hpl)) fun σ H Q h => ?_
  exact isi_at hL (.own _) h
end
/-- what __init__ stores: the field, the parameter's place -/
def xfs (L : List (Str × Nat)) (ds : List D) (acc : List (Str × D)) : Option (List (Str × D)) := match L with
  | [] => some acc
  | (f, j) :: r => match ds[j]? with
    | some d => xfs r ds ((f, d) :: acc)
    | none => none
def spX (K : PySem.W.Frag) (C : String) (n : Nat) (L : List (Str × Nat)) : Sp := fun vs H Q E => ∃ μ F ds a rest Hc fs, vs = .ref a :: rest ∧ H = upd Hc a (exo a (He.ga K C) none) ∧ Hc a = none ∧ RVs K Hc μ F ds rest ∧ ds.length = n ∧ xfs L ds [] = some fs ∧
  ∀ d xs, Hc d = none → d ≠ a → RVf K Hc μ F fs xs → Q .non (upd (upd Hc d (exd d xs)) a (exo a (He.ga K C) (some d)))
def tXs (K : PySem.W.Frag) : List (Str × Nat) → TS
  | [] => tNext
  | (f, j) :: r => tSeq (tOst K f (tVar 0) (tVar (j + 1))) (tXs K r)
theorem xs_old {K : PySem.W.Frag} {C : String} (T : OexC K (He.ga K C)) {Hc : Hp} {μ : Mu} {F : Addr → Prop} {ds : List D} {rest : List V} {a d : Addr} {N : List Str} (r : RVs K Hc μ F ds rest) (ha : Hc a = none) (hd : Hc d = none) (hda : d ≠ a) {D1 : Ends} :
    ∀ (L : List (Str × Nat)) (acc fs : List (Str × D)) (xs : List (Str × V)), (∀ p ∈ L, PySem.W.findIn K (.ref (He.ga K C)) p.1 = some none) → RVf K Hc μ F acc xs → acc.length + L.length ≤ 900 → xfs L ds acc = some fs →
      (∀ ys, RVf K Hc μ F fs ys → D1.nx (start N (.ref a :: rest)) (upd (upd Hc d (exd d ys)) a (exo a (He.ga K C) (some d)))) → tXs K L D1 (start N (.ref a :: rest)) (upd (upd Hc d (exd d xs)) a (exo a (He.ga K C) (some d)))
  | [], acc, fs, xs, _, rx, _, e, q => by
    cases e
    exact q xs rx
  | (f, j) :: L, acc, fs, xs, hf, rx, hl, e, q => by
    simp only [xfs] at e
    cases hj : ds[j]? with
    | none => rw [hj] at e; cases e
    | some dd =>
      rw [hj] at e
      obtain ⟨y, hy, ry⟩ := r.get hj
      have h0 : (start N (V.ref a :: rest))[0]? = some (some (.ref a)) := by unfold L2.start; simp
      have hj1 : (start N (V.ref a :: rest))[j + 1]? = some (some y) := by
        unfold L2.start
        rw [List.getElem?_append_left (by rw [List.length_map, List.length_cons]; have := (List.getElem?_eq_some_iff.mp hy).1; omega), List.getElem?_map, List.getElem?_cons_succ, hy]
        rfl
      refine ⟨y, hj1, .ref a, h0, a, He.ga K C, rfl, T, hf _ List.mem_cons_self, .inr ⟨d, xs, upd_same, by rw [upd_ne hda, upd_same], by rw [rx.length]; rw [List.length_cons] at hl; omega, ?_⟩⟩
      have e2 : upd (upd (upd Hc d (exd d xs)) a (exo a (He.ga K C) (some d))) d (exd d ((f, y) :: xs)) = upd (upd Hc d (exd d ((f, y) :: xs))) a (exo a (He.ga K C) (some d)) := by
        funext b
        by_cases h1 : b = a
        · rw [h1, upd_ne (Ne.symm hda), upd_same, upd_same]
        · by_cases h2 : b = d
          · rw [h2, upd_same, upd_ne hda, upd_same]
          · rw [upd_ne h2, upd_ne h1, upd_ne h2, upd_ne h1, upd_ne h2]
      rw [e2]
      exact xs_old T r ha hd hda L ((f, dd) :: acc) fs ((f, y) :: xs) (fun p hp => hf p (List.mem_cons_of_mem _ hp)) (RVf.cons ry rx) (by rw [List.length_cons] at hl ⊢; omega) e q
theorem x_init {P : Program} {w : World} {K : PySem.W.Frag} {mg : Str → Option Value} {base : Heap} {x qual : Str} {params : Arguments} {body : List Stmt} {scope : Scope} {dvs : List V} {kws : List (Str × V)} {f : Addr} {fd : FuncData} {N : List Str} {p0 : Str} {ps : List Str} {k : Nat} {C : String} {f0 : Str} {j0 : Nat} {L : List (Str × Nat)}
    (T : OexC K (He.ga K C)) (Fu : FunD K x qual params body scope dvs kws f fd) (S : FnScope N (p0 :: ps) scope) (hf : ∀ p ∈ (f0, j0) :: L, PySem.W.findIn K (.ref (He.ga K C)) p.1 = some none) (hl : L.length ≤ 800)
    (hb : ∀ (cdv : Value) (A : Around) (outer : List Env) (s : Shared) (H : Hp) (E : XK), PSs (cxOf (L2.CX P w) P w K mg base N qual scope f cdv A outer s H E) body (tXs K ((f0, j0) :: L))) : L2.FnOk P w K mg base (L2.CX P w) (k + 1) f fd (p0 :: ps) (spX K C ps.length ((f0, j0) :: L)) := by
  refine Fu.ok S (fun vs H Q E h => ?_) fun cdv A outer s H vs Q E hr h => ?_
  · obtain ⟨μ, F, ds, a, rest, Hc, fs, rfl, _, _, r, hl, _⟩ := h
    rw [List.length_cons, List.length_cons, r.length, hl]
  · obtain ⟨μ, F, ds, a, rest, Hc, fs, rfl, rfl, ha, r, hl2, e, q⟩ := h
    refine ⟨_, hb cdv A outer s _ E, ?_⟩
    simp only [xfs] at e
    cases hj : ds[j0]? with
    | none => rw [hj] at e; cases e
    | some dd =>
      rw [hj] at e
      obtain ⟨y, hy, ry⟩ := r.get hj
      have h0 : (start N (V.ref a :: rest))[0]? = some (some (.ref a)) := by unfold L2.start; simp
      have hj1 : (start N (V.ref a :: rest))[j0 + 1]? = some (some y) := by
        unfold L2.start
        rw [List.getElem?_append_left (by rw [List.length_map, List.length_cons]; have := (List.getElem?_eq_some_iff.mp hy).1; omega), List.getElem?_map, List.getElem?_cons_succ, hy]
        rfl
      refine ⟨y, hj1, .ref a, h0, a, He.ga K C, rfl, T, hf _ List.mem_cons_self, .inl ⟨upd_same, fun d hd hda => ?_⟩⟩
      rw [upd_ne hda] at hd
      have e2 : upd (upd (upd Hc a (exo a (He.ga K C) none)) d (exd d [(f0, y)])) a (exo a (He.ga K C) (some d)) = upd (upd Hc d (exd d [(f0, y)])) a (exo a (He.ga K C) (some d)) := by
        funext b
        by_cases h1 : b = a
        · rw [h1, upd_same, upd_same]
        · rw [upd_ne h1, upd_ne h1]
          by_cases h2 : b = d
          · rw [h2, upd_same, upd_same]
          · rw [upd_ne h2, upd_ne h2, upd_ne h1]
      rw [e2]
      exact xs_old T r ha hd hda L [(f0, dd)] fs [(f0, y)] (fun p hp => hf p (List.mem_cons_of_mem _ hp)) (RVf.cons ry RVf.nil) (by rw [List.length_singleton]; omega) e fun ys ry => q d ys hd hda ry
/-- raise C(e, ..) -/
def kRaise (C : String) (n : Nat) (L : List (Str × Nat)) (ρ : Loc) (ds : List D) (s : Store) : SRes := if ds.length = n then (match xfs L ds [] with
  | some fs => .ex C fs ρ s
  | none => .bad) else .bad
def sRaise (C : String) (n : Nat) (L : List (Str × Nat)) (a : EL) : S := fun ρ s => (a ρ s).to ρ (kRaise C n L ρ)
section
variable {X : Cx} {W : WX} {k : Nat} {f : Addr} {fd : FuncData} {p0 : Str} {ps : List Str} {L : List (Str × Nat)} {C : String} {p pos pos2 : Pos} {e : Expr} {es : List Expr} {ml : EL}
theorem ss_raise (hc : X.calm = true) (tk : Takes X W) (T : OexC X.K (He.ga X.K C)) (iC : PySem.W.findIn X.K (.ref (He.ga X.K C)) "__init__" = some (some (.ref f))) (tI : PySem.W.typeIn X.K (.ref f) = some (.type "function"))
    (Fn : L2.FnOk X.prog X.w X.K X.mg X.base (L2.CX X.prog X.w) k f fd (p0 :: ps) (spX X.K C ps.length L)) (hr : Room (k + 1) X.A) (hb : Binds X.K fd (p0 :: ps) []) (hn : ps.length ≤ 1000) (hg : Gl X C) (hm : X.mg C = some (.ref (He.ga X.K C))) (ha : SA X W (e :: es) ml)
    (hdb : ((C : Str) == ("__debug__" : Str)) = false := by decide) (he : starEach (e :: es) X.env = (false, eval e X.env) :: starEach es X.env := by rfl) (hpl : (backTo pos (starEach es X.env)).any (·.1) = false := by rfl) :
    SS X W (.Raise (some (.Call (.Name C p) (e :: es) [] pos)) none pos2) (sRaise C ps.length L ml) := by
  have hx : Passes (L2.CX X.prog X.w) X (fun _ _ _ => False) := fun _ _ _ _ _ _ _ ⟨_, _, _, _, _, _, _, _, _, _, _, _, z⟩ => z.elim
  refine PS.of (ps_raise hc tk (pmk_oex T iC tI Fn hr.r hb .nil hx hg hm ha hdb he hpl)) fun D σ H ⟨ρ, μ, F, G, st, a, h⟩ => ?_
  refine tS_e (k := kRaise C ps.length L ρ) a h fun vs H1 μ1 st1 ds a1 f1 r1 h1 => ?_
  unfold kRaise at h1
  split at h1
  · rename_i hl
    split at h1
    · rename_i fs hfs
      have lv := r1.length
      refine ⟨by omega, fun b hb => ?_⟩
      rw [List.append_nil]
      refine ⟨μ1, F, ds, b, vs, H1, fs, rfl, rfl, hb, r1, hl, hfs, fun d xs hd hda rf => ⟨rfl, d, xs, upd_same, by rw [upd_ne hda, upd_same], hd, ?_⟩⟩
      have e2 : upd (del (upd (upd H1 d (exd d xs)) b (exo b (He.ga X.K C) (some d))) b) d (.xd xs) = upd H1 d (.xd xs) := by
        funext c
        by_cases h1 : c = d
        · rw [h1, upd_same, upd_same]
        · rw [upd_ne h1, upd_ne h1]
          by_cases h2 : c = b
          · rw [h2, del_same]; exact hb.symm
          · rw [del_ne h2, upd_ne h2, upd_ne h1]
      rw [e2]
      have a2 := a1.fut (Fut.new (o := .xd xs) hd) (a1.s.new hd)
      exact h1 d σ _ μ1 F G xs (a1.ev (Fut.new hd)) a2 upd_same (a1.s.fresh hd).1 (a1.s.fresh hd).2 (RVf.kp (Fut.new hd).kp0 rf)
    · exact h1.elim
  · exact h1.elim
end
end Dn
namespace Dn
open PySem PySem.Spec L2
open PyProof.Rows hiding St RelV
def SRes.dropX : SRes → SRes
  | .nx ρ s => .nx (ρ.map Slot.drop) s
  | .rt d s => .rt d s
  | .bk ρ s => .bk (ρ.map Slot.drop) s
  | .ct ρ s => .ct (ρ.map Slot.drop) s
  | .ex C fs ρ s => .ex C fs (ρ.map Slot.drop) s
  | .bad => .bad
def SRes.unname (i : Nat) : SRes → SRes
  | .nx ρ s => .nx ((ρ.map Slot.drop).set i .no) s
  | .rt d s => .rt d s
  | .bk ρ s => .bk ((ρ.map Slot.drop).set i .no) s
  | .ct ρ s => .ct ((ρ.map Slot.drop).set i .no) s
  | _ => .bad
section
variable {pn pn' : Pn} {K : PySem.W.Frag} {W : WX} {H : Hp} {μ : Mu} {F : Addr → Prop} {G : Own} {st : Store} {ρ : Loc} {σ : St}
theorem RL.up (h : RL [] K H μ F G ρ σ) : RL pn K H μ F G ρ σ := ⟨h.len, fun i sl e => let ⟨o, e1, q⟩ := h.at_ i sl e; ⟨o, e1, by
  cases sl with
  | exc C fs => obtain ⟨_, _, _, _, _, hp, _⟩ := q; cases hp
  | _ => exact q⟩, h.inj⟩
theorem At.up (a : At [] K H μ F G ρ σ st) : At pn K H μ F G ρ σ st := ⟨a.l.up, a.s, a.gf⟩
theorem At.dropX (a : At pn K H μ F G ρ σ st) : At [] K H μ F G (ρ.map Slot.drop) σ st := ⟨a.l.drop, a.s, a.gf⟩
theorem At.unset (a : At pn K H μ F G ρ σ st) (i : Nat) (x : Option V) : At pn K H μ F G (ρ.set i .no) (σ.set i x) st := ⟨a.l.unset i x, a.s, a.gf⟩
theorem RL.setS (l : RL pn K H μ F G ρ σ) {i : Nat} {sl : Slot} {v : V} (hs : RSlot pn K H μ F G sl (some v)) (hn : ∀ b d, sl ≠ .ow b d) : RL pn K H μ F G (ρ.set i sl) (σ.set i (some v)) := by
  refine ⟨by rw [List.length_set, List.length_set]; exact l.len, fun j sl' e => ?_, fun j k b c d e a h1 h2 h3 h4 => ?_⟩
  · rcases set_get e with ⟨rfl, hi, rfl⟩ | ⟨ne, e⟩
    · exact ⟨_, List.getElem?_set_self (by rw [← l.len]; exact hi), hs⟩
    · obtain ⟨o, e1, q⟩ := l.at_ j sl' e
      exact ⟨o, (List.getElem?_set_ne ne).trans e1, q⟩
  · rcases set_get h1 with ⟨rfl, _, e1⟩ | ⟨n1, e1⟩
    · exact absurd e1.symm (hn _ _)
    · rcases set_get h2 with ⟨rfl, _, e2⟩ | ⟨n2, e2⟩
      · exact absurd e2.symm (hn _ _)
      · rw [List.getElem?_set_ne n1] at h3
        rw [List.getElem?_set_ne n2] at h4
        exact l.inj j k _ _ _ _ a e1 e2 h3 h4
theorem At.mono {p : Addr × Obj} (a : At pn K H μ F G ρ σ st) (h : ∀ q ∈ pn, q ∈ pn') : At pn' K H μ F G ρ σ st := ⟨⟨a.l.len, fun i sl e => let ⟨o, e1, q⟩ := a.l.at_ i sl e; ⟨o, e1, by
  cases sl with
  | exc C fs => obtain ⟨x1, x2, x3, x4, x5, hp, x6⟩ := q; exact ⟨x1, x2, x3, x4, x5, h _ hp, x6⟩
  | _ => exact q⟩, a.l.inj⟩, a.s, a.gf⟩
end
section
variable {X : Cx} {W : WX} {x n : Str} {c : Value} {i : Nat} {body suite : List Stmt} {b₀ : Stmt} {np pos pos' : Pos} {m mh : S} {tbl : List (String × Bool)}
/-- what stands in a try block's body -/
theorem Fr.tr {X : Cx} {W W' : WX} (z : Fr X W) {pn : List (Addr × Obj)} {xe : Value → Shared → Prop} (tk : Takes (X.tr pn xe) W') (hp : PassesOwn (model X.prog X.w) X.A X.env xe) : Fr (X.tr pn xe) W' := ⟨z.hu, z.hc, tk, hp⟩
end
def excOf (ρ : Loc) (i : Nat) : Option (String × List (Str × D)) := match ρ[i]? with
  | some (.exc C fs) => some (C, fs)
  | _ => none
/-- e.f -/
def eXf (L : List String) (i : Nat) (f : Str) : E := fun ρ s => match excOf ρ i with
  | some (C, fs) => if C ∈ L then Res.of (fs.lookup f) s else .bad
  | none => .bad
/-- isinstance(e, T) -/
def eXis (L : KTab) (i : Nat) : E := fun ρ s => match excOf ρ i with
  | some (C, _) => Res.of ((L.lookup (true, C)).map .bl) s
  | none => .bad
def XfF (K : PySem.W.Frag) (L : List String) (f : Str) : Prop := ∀ C ∈ L, XfC K (He.ga K C) ∧ PySem.W.findIn K (.ref (He.ga K C)) f = some none
def XisF (K : PySem.W.Frag) (cv : Value) (L : KTab) : Prop := ∀ C b, ((true, C), b) ∈ L → PySem.W.kitOne K (.ref (He.ga K C)) cv = some b ∧ L2.ExcC K (He.ga K C)
section
variable {X : Cx} {W : WX} {i : Nat} {x f : Str} {p p1 q pos : Pos} {L : List String} {T : KTab}
theorem exc_at {pn : Pn} {K : PySem.W.Frag} {H : Hp} {μ : Mu} {F : Addr → Prop} {G : Own} {ρ : Loc} {σ : St} {st : Store} {C : String} {fs : List (Str × D)} (a : At pn K H μ F G ρ σ st) (h : excOf ρ i = some (C, fs)) : RSlot pn K H μ F G (.exc C fs) (σ[i]?.getD none) ∧ ∃ o, σ[i]? = some o := by
  unfold excOf at h
  split at h
  · rename_i C' fs' e
    cases h
    obtain ⟨o, e1, q⟩ := a.l.at_ i _ e
    rw [e1]
    exact ⟨q, o, rfl⟩
  · cases h
theorem se_xf (h : XfF X.K L f) (hN : X.N[i]? = some x := by rfl) (hv : Vis X.env.scope x := by first | exact Or.inl rfl | exact Or.inr (Or.inl rfl) | exact Or.inr (Or.inr rfl)) (hd : (x == ("__debug__" : Str)) = false := by decide)
    (hcd : (x == ("__classdict__" : Str)) = false := by decide) (hb : attributeBase (.Name x p1) f X.env (eval (.Name x p1) X.env) = eval (.Name x p1) X.env := by rfl) : SE X W (.Attribute (.Name x p1) f pos) (eXf L i f) := by
  refine ⟨fun pins s σ H Q I ⟨ρ, μ, F, G, st, a, hq⟩ => ?_⟩
  unfold eXf at hq
  split at hq
  · rename_i C fs he
    split at hq
    · rename_i hC
      obtain ⟨r, hr, hq⟩ := OkG.some hq
      obtain ⟨q, o, ho⟩ := exc_at a he
      rw [ho] at q
      obtain ⟨b, oe, d, xs, e1, hp, hz, hdd, h1, h2, h3, h4⟩ := q
      have e1 : o = some (.ref b) := e1
      subst e1
      obtain ⟨v, hl, rv⟩ := (h4.lookup (f := f)).1 r hr
      obtain ⟨c1, c2⟩ := h C hC
      refine attr_of hb (thn ((pe_var hN hv hd hcd).run pins s σ H (fun y H1 => y = .ref b ∧ H1 = H) I ⟨.ref b, ho, rfl, rfl⟩) fun u s1 ⟨y, H1, I1, rx, ey, eH⟩ => ?_)
      subst ey eH
      obtain rfl : u = Value.ref b := rx
      obtain ⟨ha, _⟩ := I1.pin (b, oe) (List.mem_append_left _ hp)
      obtain ⟨vs, hdat⟩ := hdd
      have hx : ObjOk X.prog X.w H1 s1.heap d (.xd xs) := I1.hok d _ h1
      obtain ⟨mA, hns, rel⟩ := hx
      obtain ⟨od, hod, hlk⟩ := lookIn_ns hns
      obtain ⟨w, hw, rw_⟩ := RelO.some_of (v := v) (o := mA f) (by rw [← hl]; exact rel f)
      have J : PySem.W.InstAt s1.heap b oe (He.ga X.K C) (some od) := ⟨ha, hz.1, by unfold PySem.W.notCls; rw [hdat] <;> rfl, by rw [hz.2]; exact hod⟩
      exact HandSPX.exc_get I1.kIn J c1.ga c1.gg c1.exC (PySem.W.findObj_own c1.hdC c2 rfl (by rw [hlk, hw])) (handed_of rw_) ⟨v, H1, I1.tok _, rw_, hq v H1 μ .refl a.s rv⟩
    · exact hq.elim
  · exact hq.elim
theorem xis_ok {c : V} {cv : Value} (h : XisF X.K cv T) (hc : ClsV c cv) : CallR X (.builtin "isinstance") fun xs H Q => ∃ ρ μ F G st σ0 b, At X.pn X.K H μ F G ρ σ0 st ∧ xs = [.ref b, c] ∧ σ0[i]? = some (some (.ref b)) ∧ OkE X.K W F σ0 H μ (eXis T i ρ st) Q := by
  intro pins s σ H xs us Q I r ⟨ρ, μ, F, G, st, σ0, b, a, e, hs, hq⟩
  subst e
  unfold eXis at hq
  split at hq
  · rename_i C fs he
    obtain ⟨r', hr, hq⟩ := OkG.some hq
    obtain ⟨bb, hb, e⟩ := Option.map_eq_some_iff.mp hr
    subst e
    obtain ⟨q, o, ho⟩ := exc_at a he
    rw [ho] at q
    rw [hs] at ho
    cases ho
    obtain ⟨b', oe, d, xs, e1, hp, hz, ⟨vs, hdat⟩, h1, h2, h3, h4⟩ := q
    cases e1
    obtain ⟨k1, k2⟩ := h C bb (lookup_memK hb)
    obtain ⟨u1, u2, rfl, r1, r2⟩ := vals2 r
    cases (show u1 = Value.ref b from r1)
    have e2 := hc.eq r2
    subst e2
    obtain ⟨ha, _⟩ := I.pin (b, oe) (List.mem_append_left _ hp)
    have hx : ObjOk X.prog X.w H s.heap d (.xd xs) := I.hok d _ h1
    obtain ⟨mA, hns, rel⟩ := hx
    obtain ⟨od, hod, hlk⟩ := lookIn_ns hns
    have J : PySem.W.InstAt s.heap b oe (He.ga X.K C) (some od) := ⟨ha, hz.1, by unfold PySem.W.notCls; rw [hdat] <;> rfl, by rw [hz.2]; exact hod⟩
    have hcl : (PySem.W.clsIn X.K (He.ga X.K C)).isSome = true := by
      obtain ⟨cd, hcd, _⟩ := PySem.W.any_some k2.hd
      rw [hcd]; rfl
    exact PySem.W.kia_one (PySem.W.kitx_exc hcl k2.hg k2.hk k2.hs k2.ha k2.hn k2.ht k2.hm) I.kIn J k1 (fun z => nomatch z) fun tk => ⟨.bl bb, H, I.tok tk, rfl, hq _ H μ .refl a.s (RV_bl bb)⟩
  · exact hq.elim
/-- isinstance(e, C) of a caught exception e, C an own class -/
theorem exc_args {cx : V} {te : TE} {e2 : Expr} {σ : St} {H : Hp} {Q : VK} (h : tG (fun F H μ d v => RV X.K H μ F d v) X.pn X.K W (eXis T i) σ H Q) :
    tCons (tVar i) (tCons (tC cx) tNil) σ H fun xs H => ∃ ρ μ F G st σ0 b, At X.pn X.K H μ F G ρ σ0 st ∧ xs = [.ref b, cx] ∧ σ0[i]? = some (some (.ref b)) ∧ OkE X.K W F σ0 H μ (eXis T i ρ st) Q := by
  obtain ⟨ρ, μ, F, G, st, a, hq⟩ := h
  have hq0 := hq
  unfold eXis at hq
  split at hq
  · rename_i C fs he
    obtain ⟨q, o, ho⟩ := exc_at a he
    rw [ho] at q
    obtain ⟨b, oe, d, xs, e1, _⟩ := q
    have e1 : o = some (.ref b) := e1
    subst e1
    exact ⟨.ref b, ho, ρ, μ, F, G, st, σ, b, a, rfl, ho, hq0⟩
  · exact hq.elim
theorem se_xisC {C : String} (hL : XisF X.K (.ref (He.ga X.K C)) T) (hg : Gl X "isinstance") (hm : X.mg "isinstance" = none) (hgT : Gl X C) (hmT : X.mg C = some (.ref (He.ga X.K C))) (hdT : ((C : Str) == ("__debug__" : Str)) = false := by decide)
    (hN : X.N[i]? = some x := by rfl) (hv : Vis X.env.scope x := by first | exact Or.inl rfl | exact Or.inr (Or.inl rfl) | exact Or.inr (Or.inr rfl)) (hd : (x == ("__debug__" : Str)) = false := by decide) (hcd : (x == ("__classdict__" : Str)) = false := by decide)
    (he : starEach [.Name x p1, .Name C q] X.env = (false, eval (.Name x p1) X.env) :: starEach [.Name C q] X.env := by rfl) (he2 : starEach [.Name C q] X.env = (false, eval (.Name C q) X.env) :: starEach [] X.env := by rfl)
    (hpl : (backTo pos (starEach [.Name C q] X.env)).any (·.1) = false := by rfl) : SE X W (.Call (.Name "isinstance" p) [.Name x p1, .Name C q] [] pos) (eXis T i) :=
  PE.of (pe_callB (xis_ok (W := W) (i := i) hL (.own (He.ga X.K C))) hg hm (by decide +kernel) (pa_cons (pe_var hN hv hd hcd) (pa_cons (pe_glob hgT hmT (show RelV (.ref (He.ga X.K C)) (.ref (He.ga X.K C)) from rfl) hdT) pa_nil he2) he) (he := he) (hpl := hpl)) fun σ H Q h => exc_args (te := tVar 0) (e2 := .Name x p1) h
end
end Dn
namespace Dn
open PySem PySem.Spec L2
open PyProof.Rows hiding St RelV
def strSigns (x : Str) : List D := x.cps.toList.map fun c => .str ⟨#[c]⟩
def strK (d : D) (s : Store) : Res (List D) := match d with
  | .str x => .ok (strSigns x) s
  | _ => .bad
def iStrD (e : E) : EI := fun ρ s => (e ρ s).bind strK
section
variable {X : Cx} {W : WX} {tg e : Expr} {me : E}
theorem walks_str {K : PySem.W.Frag} {F : Addr → Prop} {H0 : Hp} {μ0 : Mu} (x : Str) : Walks K F H0 μ0 (Its x) (strSigns x) := by
  refine ⟨fun i d H μ F2 st e f rs => ?_, fun i H μ F2 hl f => ?_⟩
  · unfold strSigns at e
    rw [List.getElem?_map] at e
    obtain ⟨c, e1, e2⟩ := Option.map_eq_some_iff.mp e
    subst e2
    have hc : x.cps[i]? = some c := by simpa using e1
    have hi : i < x.cps.size := (Array.getElem?_eq_some_iff.mp hc).1
    refine ⟨hi, fun y H2 hy => ?_⟩
    obtain ⟨rfl, c', h1, rfl⟩ := hy
    rw [hc] at h1
    cases h1
    exact ⟨rs, .refl, RV_str _⟩
  · unfold strSigns at hl
    rw [List.length_map] at hl
    show x.cps.size ≤ i
    simpa using hl
theorem si_str (he : SE X W e me) : SI X W tg e (iStrD me) := PI.of (pi_str he) fun σ H Q ⟨ρ, μ, F, G, st, a, h⟩ => by
  refine tG_at (k := strK) a h fun x H1 μ1 st1 d a1 f1 r1 h1 => ?_
  cases d with
  | str y =>
    unfold RV at r1
    exact ⟨y, r1, h1 _ H1 μ1 .refl a1.s (walks_str y)⟩
  | _ => exact h1.elim
end
def bools : List D → Option (List Bool)
  | [] => some []
  | .bl b :: r => (bools r).map fun bs => b :: bs
  | _ => none
def intsOf : List D → Option (List Int)
  | [] => some []
  | .int i :: r => (intsOf r).map fun bs => i :: bs
  | _ => none
def gAll : List D → Option D
  | [.lst ds] => (bools ds).map fun bs => .bl (bs.all id)
  | _ => none
section
variable {X : Cx} {K : PySem.W.Frag} {H : Hp} {μ : Mu} {F : Addr → Prop} {st : Store}
theorem bools_rel : ∀ {ds : List D} {bs : List Bool} {xs : List V}, bools ds = some bs → RVs K H μ F ds xs → xs = bs.map V.bl
  | [], bs, xs, e, r => by
    cases e
    unfold RVs at r
    exact r
  | d :: ds, bs, xs, e, r => by
    unfold RVs at r
    obtain ⟨y, ys, e1, r1, r2⟩ := r
    cases d with
    | bl b =>
      simp only [bools] at e
      obtain ⟨cs, e2, e3⟩ := Option.map_eq_some_iff.mp e
      subst e3
      unfold RV at r1
      rw [e1, r1, bools_rel e2 r2]
      rfl
    | _ => simp [bools] at e
theorem gAll_ok (hc : X.calm = true) : VB X (.builtin "all") gAll := by
  intro pins s σ H xs us Q I r h
  obtain ⟨μ, F, st, ds, rr, rs, rd, hg, q⟩ := h
  generalize hds : ds.map (der st) = cs at hg
  unfold gAll at hg
  split at hg
  · obtain ⟨bs, hb, e⟩ := Option.map_eq_some_iff.mp hg
    subst e
    obtain ⟨d, x, e1, e2, r1, e3⟩ := rd.one rs hds
    have r2 := r1.dr rs
    rw [e3] at r2
    obtain ⟨a, ys, e4, q1, q2⟩ := r2
    rw [e4] at e2
    exact cr_all hc pins s σ H xs us Q I r ⟨a, bs, e2, .inl (.inl (by rw [← bools_rel hb q2]; exact q1)), q _ H μ .refl rs (RV_bl _)⟩
  · cases hg
end
def tyOfD : D → String
  | .str _ => "str"
  | .lst _ => "list"
  | _ => ""
def VM (X : Cx) (id : String) (g : D → List D → Option D) : Prop := MtR X id fun x xs H Q => ∃ μ F st d ds r, RS X.K H μ F st ∧ RD X.K H μ F d x ∧ RDs X.K H μ F ds xs ∧ g (der st d) (ds.map (der st)) = some r ∧ ∀ v H' μ', Fut H μ H' μ' → RS X.K H' μ' F st → RV X.K H' μ' F r v → Q v H'
def eMt (T : String) (g : D → List D → Option D) (o : E) (a : EL) : E := fun ρ s => (o ρ s).bind fun x s => if T ≠ "" ∧ tyOfD (der s x) = T then (a ρ s).bind fun ds s => Res.of (g (der s x) (ds.map (der s))) s else .bad
section
variable {X : Cx} {W : WX} {o e : Expr} {es : List Expr} {mo : E} {ml : EL} {T id : String} {name : Str} {g : D → List D → Option D} {apos cpos : Pos}
theorem ty_ok {K : PySem.W.Frag} {H : Hp} {μ : Mu} {F : Addr → Prop} {d : D} {v : V} (h : DR K H μ F d v) (hT : T ≠ "" ∧ tyOfD d = T) : tyV K T v H := by
  cases d with
  | str x => cases (show v = _ from h); exact hT.2.symm
  | lst ds =>
    obtain ⟨a, xs, e, q, _⟩ := h
    subst e
    exact .inl ⟨hT.2.symm, xs, .inl (.inl q)⟩
  | _ => exact absurd hT.2.symm hT.1
theorem se_mt (pa : PlainAttrs T) (slot : PySem.Slot T name id) (hty : typeOf (.builtin id) = pure (.type "method_descriptor")) (hm : VM X id g) (ho : SR X W o mo) (ha : SAR X W (e :: es) ml)
    (hbase : attributeBase o name X.env (eval o X.env) = eval o X.env := by rfl)
    (hfew : ((backTo cpos (starEach (e :: es) X.env)).all (fun x => !x.1) && (backToKw cpos (keywordEach [] X.env)).all (fun x => x.1.isSome)
      && decide ((e :: es).length + ([] : List Keyword).length + (if ([] : List Keyword).isEmpty then 0 else 1) < 30)) = true := by rfl)
    (hline : (apos.endLine == cpos.line) = true := by rfl) (hs : starEach (e :: es) X.env = (false, eval e X.env) :: starEach es X.env := by rfl) (hplain : (backTo cpos (starEach es X.env)).any (·.1) = false := by rfl) :
    SE X W (.Call (.Attribute o name apos) (e :: es) [] cpos) (eMt T g mo ml) := PE.of (pe_bm pa slot hty hm ho ha hbase hfew hline hs hplain) fun σ H Q ⟨ρ, μ, F, G, st, a, h⟩ => by
  refine tG_at (k := fun x s => if T ≠ "" ∧ tyOfD (der s x) = T then (ml ρ s).bind fun ds s => Res.of (g (der s x) (ds.map (der s))) s else .bad) a h fun x H1 μ1 st1 d a1 f1 r1 h1 => ?_
  split at h1
  · rename_i hT
    refine ⟨ty_ok (r1.dr a1.s) hT, tG_at (k := fun ds s => Res.of (g (der s d) (ds.map (der s))) s) a1 h1 fun xs H2 μ2 st2 ds a2 f2 r2 h2 => ?_⟩
    obtain ⟨r, hr, hq⟩ := OkG.some h2
    exact ⟨μ2, F, st2, d, ds, r, a2.s, r1.fut a1.s f2, r2, hr, hq⟩
  · exact h1.elim
end
/-- sep.join(xs) -/
def strsOf : List D → Option (List Str)
  | [] => some []
  | .str i :: r => (strsOf r).map fun bs => i :: bs
  | _ => none
def gJoin (d : D) (ds : List D) : Option D := match d, ds with
  | .str a, [.lst xs] => (strsOf xs).bind fun ys => if (ys.map (·.length)).sum + ys.length * a.length ≤ line then some (.str (Txt.join a ys)) else none
  | _, _ => none
section
variable {X : Cx} {K : PySem.W.Frag} {H : Hp} {μ : Mu} {F : Addr → Prop} {st : Store}
theorem strs_rel : ∀ {ds : List D} {bs : List Str} {xs : List V}, strsOf ds = some bs → RVs K H μ F ds xs → xs = bs.map V.str
  | [], bs, xs, e, r => by
    cases e
    unfold RVs at r
    exact r
  | d :: ds, bs, xs, e, r => by
    unfold RVs at r
    obtain ⟨y, ys, e1, r1, r2⟩ := r
    cases d with
    | str b =>
      simp only [strsOf] at e
      obtain ⟨cs, e2, e3⟩ := Option.map_eq_some_iff.mp e
      subst e3
      unfold RV at r1
      rw [e1, r1, strs_rel e2 r2]
      rfl
    | _ => simp [strsOf] at e
theorem gJoin_ok : VM X "str.join" gJoin := by
  intro pins s σ H x xs v us Q I rx r h
  obtain ⟨μ, F, st, d, ds, rr, rs, rd, rds, hg, q⟩ := h
  generalize hds : ds.map (der st) = cs at hg
  generalize hd : der st d = c at hg
  unfold gJoin at hg
  split at hg
  · rename_i a xs'
    obtain ⟨ys, hy, hg⟩ := Option.bind_eq_some_iff.mp hg
    split at hg
    · rename_i hl
      cases hg
      have r0 := rd.dr rs
      rw [hd] at r0
      obtain ⟨d1, x1, e1, e2, r1, e3⟩ := rds.one rs hds
      have r2 := r1.dr rs
      rw [e3] at r2
      obtain ⟨p, zs, e4, q1, q2⟩ := r2
      rw [e4] at e2
      exact mt_join pins s σ H x xs v us Q I rx r ⟨a, p, ys, r0, e2, .inl (.inl (.inl (by rw [← strs_rel hy q2]; exact q1))), hl, q _ H μ .refl rs (RV_str _)⟩
    · cases hg
  · cases hg
end
end Dn
namespace Dn
open PySem PySem.Spec L2
open PyProof.Rows hiding St RelV
/-- the i-th statement of a class's body -/
def clsAt (s : Stmt) (i : Nat) : Stmt := match s with
  | .ClassDef _ _ _ b _ _ _ _ _ _ _ => b.getD i (.Pass ⟨0, 0, 0, 0⟩)
  | s => s
abbrev Chk := PySem.W.Frag → Bool
def allC (l : List Chk) (K : PySem.W.Frag) : Bool := l.all fun f => f K
theorem allC_at {l : List Chk} {K : PySem.W.Frag} (h : allC l K = true) (i : Nat) {f : Chk} (e : l[i]? = some f := by rfl) : f K = true := List.all_eq_true.mp h f (List.mem_of_getElem? e)
def b2 (a b : Bool) : Bool := a && b
theorem b2_ok {a b : Bool} (h : b2 a b = true) : a = true ∧ b = true := Bool.and_eq_true_iff.mp h
/-- a class of instances -/
def insB (C : String) (K : PySem.W.Frag) : Bool := b2 ((He.Fa.cls C).ok K) (b2 (decide (PySem.W.findIn K (.ref (He.ga K C)) "__class__" = some (some (.builtin "object.__class__")))) (b2 (decide (PySem.W.specialIn K (.builtin "object.__class__") "__get__" = some (some (.builtin "getset_descriptor.__get__"))))
  (b2 (decide (PySem.W.takesIn K (.builtin "object.__class__") = some true)) (decide (PySem.W.mroIn K (He.ga K C) (.type "object") = some true)))))
theorem insB_ok {C : String} {K : PySem.W.Frag} (h : insB C K = true) : InsF K C := by
  obtain ⟨h1, h⟩ := b2_ok h
  obtain ⟨h2, h⟩ := b2_ok h
  obtain ⟨h3, h⟩ := b2_ok h
  obtain ⟨h4, h5⟩ := b2_ok h
  exact ⟨He.cls_ok h1, of_decide_eq_true h2, of_decide_eq_true h3, of_decide_eq_true h4, of_decide_eq_true h5⟩
/-- a field read off instances of the classes L -/
def fldB (L : List String) (f : Str) (K : PySem.W.Frag) : Bool := L.all fun C => b2 ((He.Fa.cls C).ok K) ((He.Fa.noat C f).ok K)
theorem fldB_ok {L : List String} {f : Str} {K : PySem.W.Frag} (h : fldB L f K = true) : ClsF K L f := fun C hC => by
  obtain ⟨h1, h2⟩ := b2_ok (List.all_eq_true.mp h C hC)
  exact ⟨He.cls_ok h1, He.noat_ok h2⟩
/-- isinstance's table for a class -/
def isiB (cv : PySem.W.Frag → Value) (L : KTab) (K : PySem.W.Frag) : Bool := L.all fun kb => b2 (decide (PySem.W.kitOne K (tyV' K kb.1) (cv K) = some kb.2)) (!kb.1.1 || insB kb.1.2 K)
theorem isiB_ok {cv : PySem.W.Frag → Value} {L : KTab} {K : PySem.W.Frag} (h : isiB cv L K = true) : IsiF K (cv K) L := fun k b hk => by
  obtain ⟨h1, h2⟩ := b2_ok (List.all_eq_true.mp h (k, b) hk)
  refine ⟨of_decide_eq_true h1, fun e => insB_ok ?_⟩
  have h2 : (!k.1 || insB k.2 K) = true := h2
  rw [e] at h2
  exact h2
/-- .. of caught exceptions -/
def exB (C : String) (K : PySem.W.Frag) : Bool := b2 (decide (PySem.W.findIn K (.ref (He.ga K C)) "__getattribute__" = some (some (.builtin "BaseException.__getattribute__")))) (b2 (decide (PySem.W.findIn K (.ref (He.ga K C)) "__getattr__" = some none)) (b2 (decide (PySem.W.subIn K (.ref (He.ga K C)) (.type "BaseException") = some true))
  (b2 (PySem.W.hasDictIn K (He.ga K C)) (b2 (decide (PySem.W.findIn K (.ref (He.ga K C)) "__class__" = some (some (.builtin "object.__class__")))) (b2 (decide (PySem.W.specialIn K (.builtin "object.__class__") "__get__" = some (some (.builtin "getset_descriptor.__get__"))))
    (b2 (decide (PySem.W.takesIn K (.builtin "object.__class__") = some true)) (decide (PySem.W.mroIn K (He.ga K C) (.type "object") = some true))))))))
theorem exB_ok {C : String} {K : PySem.W.Frag} (h : exB C K = true) : L2.ExcC K (He.ga K C) := by
  obtain ⟨h1, h⟩ := b2_ok h
  obtain ⟨h2, h⟩ := b2_ok h
  obtain ⟨h3, h⟩ := b2_ok h
  obtain ⟨h4, h⟩ := b2_ok h
  obtain ⟨h5, h⟩ := b2_ok h
  obtain ⟨h6, h⟩ := b2_ok h
  obtain ⟨h7, h8⟩ := b2_ok h
  exact ⟨of_decide_eq_true h1, of_decide_eq_true h2, of_decide_eq_true h3, h4, of_decide_eq_true h5, of_decide_eq_true h6, of_decide_eq_true h7, of_decide_eq_true h8⟩
def xisB (cv : PySem.W.Frag → Value) (L : KTab) (K : PySem.W.Frag) : Bool := L.all fun kb => b2 (decide (PySem.W.kitOne K (.ref (He.ga K kb.1.2)) (cv K) = some kb.2)) (exB kb.1.2 K)
theorem xisB_ok {cv : PySem.W.Frag → Value} {L : KTab} {K : PySem.W.Frag} (h : xisB cv L K = true) : XisF K (cv K) L := fun C b hk => by
  obtain ⟨h1, h2⟩ := b2_ok (List.all_eq_true.mp h ((true, C), b) hk)
  exact ⟨of_decide_eq_true h1, exB_ok h2⟩
def xfdB (L : List String) (f : Str) (K : PySem.W.Frag) : Bool := L.all fun C => b2 (xfB K (He.ga K C)) ((He.Fa.noat C f).ok K)
theorem xfdB_ok {L : List String} {f : Str} {K : PySem.W.Frag} (h : xfdB L f K = true) : XfF K L f := fun C hC => by
  obtain ⟨h1, h2⟩ := b2_ok (List.all_eq_true.mp h C hC)
  exact ⟨xfB_ok h1, He.noat_ok h2⟩
/-- an exception class over ValueError, with its own __init__ -/
def oexB (C : String) (K : PySem.W.Frag) : Bool := b2 (match K.lookup (He.ga K C) with
    | some ⟨.type "type", _, .cls cd, sl⟩ => (match cd.mro, sl.toList with
      | .ref C' :: bm, [_, _, _, _, some (.builtin n), _] => b2 (decide (C' = He.ga K C)) (b2 (decide (n = "ValueError.__new__")) (b2 (!cd.hasDel) (b2 cd.hasDict (PySem.HandSPX.refsVE bm))))
      | _, _ => false)
    | _ => false) (b2 (decide (PySem.W.findIn K (.ref (He.ga K C)) "__setattr__" = some (some (.builtin "object.__setattr__")))) (b2 (decide (PySem.W.subIn K (.ref (He.ga K C)) (.type "BaseException") = some true)) (b2 (decide (PySem.W.typeIn K (.ref (He.ga K C)) = some (.type "type"))) (PySem.W.keepIn K (.ref (He.ga K C))))))
theorem oexB_ok {C : String} {K : PySem.W.Frag} (h : oexB C K = true) : OexC K (He.ga K C) := by
  obtain ⟨h1, h⟩ := b2_ok h
  obtain ⟨h2, h⟩ := b2_ok h
  obtain ⟨h3, h⟩ := b2_ok h
  obtain ⟨h4, h5⟩ := b2_ok h
  refine ⟨?_, of_decide_eq_true h2, of_decide_eq_true h3, of_decide_eq_true h4, h5⟩
  split at h1
  · rename_i dd cd sl ho
    split at h1
    · rename_i C' bm k0 k1 k2 k3 n k5 hm hs
      obtain ⟨g1, h1⟩ := b2_ok h1
      obtain ⟨g2, h1⟩ := b2_ok h1
      obtain ⟨g3, h1⟩ := b2_ok h1
      obtain ⟨g4, g5⟩ := b2_ok h1
      have g1 := of_decide_eq_true g1
      have g2 := of_decide_eq_true g2
      subst g1 g2
      obtain ⟨nm, bs, mro, ns, qn, hd, sn, sub, ab, col, del⟩ := cd
      dsimp only at hm g3 g4
      subst hm g4
      have g3 : del = false := by simpa using g3
      subst g3
      have hsl : sl = #[k0, k1, k2, k3, some (.builtin "ValueError.__new__"), k5] := by
        obtain ⟨l⟩ := sl
        have hs : l = [k0, k1, k2, k3, some (.builtin "ValueError.__new__"), k5] := hs
        rw [hs]
      subst hsl
      exact ⟨nm, qn, ns, bs, bm, sn, sub, ab, col, dd, k0, k1, k2, k3, k5, ho, g5⟩
    · cases h1
  · cases h1
/-- its __init__ -/
def oiB (C : String) (fs : List Str) (K : PySem.W.Frag) : Bool := b2 (decide (PySem.W.findIn K (.ref (He.ga K C)) "__init__" = some (some (.ref (He.ma K (He.ga K C) "__init__"))))) (b2 (decide (PySem.W.typeIn K (.ref (He.ma K (He.ga K C) "__init__")) = some (.type "function"))) (fs.all fun f => (He.Fa.noat C f).ok K))
theorem oiB_ok {C : String} {fs : List Str} {K : PySem.W.Frag} (h : oiB C fs K = true) : PySem.W.findIn K (.ref (He.ga K C)) "__init__" = some (some (.ref (He.ma K (He.ga K C) "__init__"))) ∧ PySem.W.typeIn K (.ref (He.ma K (He.ga K C) "__init__")) = some (.type "function") ∧ ∀ f ∈ fs, PySem.W.findIn K (.ref (He.ga K C)) f = some none := by
  obtain ⟨h1, h⟩ := b2_ok h
  obtain ⟨h2, h3⟩ := b2_ok h
  exact ⟨of_decide_eq_true h1, of_decide_eq_true h2, fun f hf => He.noat_ok (List.all_eq_true.mp h3 f hf)⟩
/-- which classes an except clause takes -/
def exmB (D : String) (L : List (String × Bool)) (K : PySem.W.Frag) : Bool := L.all fun cb => decide (PySem.W.exmOne K (.ref (He.ga K cb.1)) (.ref (He.ga K D)) = some cb.2)
theorem exmB_ok {D : String} {L : List (String × Bool)} {K : PySem.W.Frag} (h : exmB D L K = true) : ∀ C b, (C, b) ∈ L → PySem.W.exmOne K (.ref (He.ga K C)) (.ref (He.ga K D)) = some b := fun C b hk => of_decide_eq_true (List.all_eq_true.mp h (C, b) hk)
/-- a def that stands in the written part, with its keyword-only defaults -/
abbrev FuD (K : PySem.W.Frag) (d : He.DefD) (fd : FuncData) : Prop := FunD K d.name d.qual d.params d.body d.scope (d.dvs K) (d.kws K) (He.fAd K d.at_) fd
/-- a method keeps its promise -/
def MOk (P : Program) (w : World) (K : PySem.W.Frag) (mg : Str → Option Value) (base : Heap) (d : He.DefD) (k : Nat) (ps : List Str) (m : M) : Prop := ∃ fd, FuD K d fd ∧ FnOk P w K mg base (L2.CX P w) k (He.fAd K d.at_) fd ps (spOf K ps.length m)
/-- an __init__ keeps its promise -/
def IOk (P : Program) (w : World) (K : PySem.W.Frag) (mg : Str → Option Value) (base : Heap) (C : String) (d : He.DefD) (k : Nat) (ps : List Str) (m : M) : Prop := ∃ fd, FuD K d fd ∧ FnOk P w K mg base (L2.CX P w) k (He.ma K (He.ga K C) "__init__") fd ("self" :: ps) (spInit K C ps.length m)
section
variable {X : Cx} {W : WX} {k j np : Nat} {ps ks : List Str} {m : M} {perm : List Nat} {dfl : List D} {d : He.DefD} {C : String}
theorem MOk.calls (F : MOk X.prog X.w X.K X.mg X.base d k ps m) (hr : Room j X.A) (hj : k ≤ j) (tk : Takes X W) (np : Nat) (ks : List Str) (perm : List Nat) (dfl : List D) (hb : ∀ fd, FuD X.K d fd → KB X.K fd ps np ks perm dfl) (hp : perm.length = ps.length := by rfl) :
    CallsD X W (.ref (He.fAd X.K d.at_)) ks (argsM np ks.length perm dfl m) := by
  obtain ⟨fd, F1, F2⟩ := F
  exact fn_calls F2 (hr.mono hj) tk (hb fd F1) hp
theorem IOk.calls (F : IOk X.prog X.w X.K X.mg X.base C d k ps m) (M' : Mk X.K (He.ga X.K C) (He.ma X.K (He.ga X.K C) "__init__")) (hr : Room j X.A) (hj : k + 1 ≤ j) (tk : Takes X W) (np : Nat) (ks : List Str) (perm : List Nat) (dfl : List D)
    (hb : ∀ fd, FuD X.K d fd → KB X.K fd ("self" :: ps) (np + 1) ks (0 :: perm.map (· + 1)) dfl) (hp : perm.length = ps.length := by rfl) : CallsN X W (.ref (He.ga X.K C)) ks (argsM np ks.length perm dfl m) := by
  obtain ⟨fd, F1, F2⟩ := F
  exact mk_calls M' F2 (hr.mono hj) tk (hb fd F1) hp
end
end Dn
namespace Dn
open PySem PySem.Spec L2
open PyProof.Rows hiding St RelV
section
variable {X : Cx} {W : WX} {m : Str} {ks : List Str} {L : Disp} {C : String} {f : Addr} {g : M}
theorem MOk.keep {P : Program} {w : World} {K : PySem.W.Frag} {mg : Str → Option Value} {base : Heap} {d : He.DefD} {k : Nat} {ps : List Str} {m : M} (F : MOk P w K mg base d k ps m) : PySem.W.keepIn K (.ref (He.fAd K d.at_)) = true := let ⟨_, F1, _⟩ := F; F1.kp
end
section
variable {X : Cx} {W : WX} {k np : Nat} {ps ks : List Str} {m : M} {perm : List Nat} {dfl : List D} {d : He.DefD} {C : String} {P : Program} {w : World} {K : PySem.W.Frag} {mg : Str → Option Value} {base : Heap}
theorem MOk.callsX (F : MOk P w K mg base d k ps m) (j : Nat) (hj : k ≤ j) (np : Nat) (ks : List Str) (perm : List Nat) (dfl : List D) (hb : ∀ fd, FuD K d fd → KB K fd ps np ks perm dfl) (hp : perm.length = ps.length)
    (tk : Takes X W) (hr : Room j X.A) (hP : X.prog = P) (hw : X.w = w) (hK : X.K = K) (hmg : X.mg = mg) (hbs : X.base = base) : CallsD X W (.ref (He.fAd K d.at_)) ks (argsM np ks.length perm dfl m) := by
  subst hP hw hK hmg hbs
  exact F.calls hr hj tk np ks perm dfl hb hp
theorem IOk.callsX (F : IOk P w K mg base C d k ps m) (M' : Mk K (He.ga K C) (He.ma K (He.ga K C) "__init__")) (j : Nat) (hj : k + 1 ≤ j) (np : Nat) (ks : List Str) (perm : List Nat) (dfl : List D) (hb : ∀ fd, FuD K d fd → KB K fd ("self" :: ps) (np + 1) ks (0 :: perm.map (· + 1)) dfl) (hp : perm.length = ps.length)
    (tk : Takes X W) (hr : Room j X.A) (hP : X.prog = P) (hw : X.w = w) (hK : X.K = K) (hmg : X.mg = mg) (hbs : X.base = base) : CallsN X W (.ref (He.ga K C)) ks (argsM np ks.length perm dfl m) := by
  subst hP hw hK hmg hbs
  exact F.calls M' hr hj tk np ks perm dfl hb hp
end
def kPar3 (i j l : Nat) (ρ : Loc) (ds : List D) (s : Store) : SRes := match ds with
  | [d, e, f] => .nx (((ρ.set i (.pu d)).set j (.pu e)).set l (.pu f)) s
  | _ => .bad
def sPar3 (i j l : Nat) (es : EL) : S := fun ρ s => (es ρ s).to ρ (kPar3 i j l ρ)
end Dn
namespace Dn
open PySem PySem.Spec L2
open PyProof.Rows hiding St RelV
/-- r is a value of which P holds -/
def Wp {α : Type} (r : Res α) (P : α → Store → Prop) : Prop := match r with
  | .ok a s => P a s
  | _ => False
/-- the end of a statement: on, or a returned value -/
def Ws (r : SRes) (N : Loc → Store → Prop) (R : D → Store → Prop) : Prop := match r with
  | .nx ρ s => N ρ s
  | .rt d s => R d s
  | _ => False
section
variable {α β : Type} {r : Res α} {P P' : α → Store → Prop} {k : α → Store → Res β} {Q : β → Store → Prop} {N N' : Loc → Store → Prop} {R R' : D → Store → Prop} {ρ : Loc} {s : Store} {a : α}
theorem wp_bind : Wp (r.bind k) Q ↔ Wp r fun a s => Wp (k a s) Q := by cases r <;> exact Iff.rfl
theorem wp_mono (h : Wp r P) (i : ∀ a s, P a s → P' a s) : Wp r P' := by
  cases r with
  | ok a s => exact i a s h
  | ex C fs s => exact h
  | bad => exact h
theorem wp_to {kk : α → Store → SRes} (h : Wp r fun a s => Ws (kk a s) N R) : Ws (r.to ρ kk) N R := by
  cases r with
  | ok a s => exact h
  | ex C fs s => exact h.elim
  | bad => exact h.elim
theorem ws_mono {r : SRes} (h : Ws r N R) (i : ∀ ρ s, N ρ s → N' ρ s) (j : ∀ d s, R d s → R' d s) : Ws r N' R' := by
  cases r with
  | nx ρ s => exact i ρ s h
  | rt d s => exact j d s h
  | _ => exact h
theorem ws_seq {m k : S} (h : Ws (m ρ s) (fun ρ s => Ws (k ρ s) N R) R) : Ws (bCons m k ρ s) N R := by
  unfold bCons
  cases e : m ρ s with
  | nx ρ s => rw [e] at h; exact h
  | rt d s => rw [e] at h; exact h
  | bk ρ s => rw [e] at h; exact h
  | ct ρ s => rw [e] at h; exact h
  | ex C fs ρ s => rw [e] at h; exact h
  | bad => rw [e] at h; exact h
theorem ws_set {i : Nat} {e : E} (h : Wp (e ρ s) fun d s => N (ρ.set i (.pu d)) s) : Ws (sSet i e ρ s) N R := wp_to h
theorem ws_ret {e : E} (h : Wp (e ρ s) R) : Ws (sRet e ρ s) N R := wp_to h
theorem ws_if {c : ET} {m k : S} (h : Wp (c ρ s) fun b s => if b = true then Ws (m ρ s) N R else Ws (k ρ s) N R) : Ws (sIf c m k ρ s) N R := wp_to (wp_mono h fun b s q => by
  cases b with
  | true => simpa using q
  | false => simpa using q)
theorem ws_asg {t : Tgt} {e : E} (h : Wp (e ρ s) fun d s => ∃ ρ', setT t d ρ = some ρ' ∧ N ρ' s) : Ws (sAsg t e ρ s) N R := wp_to (wp_mono h fun d s ⟨ρ', e, q⟩ => by
  rw [e]; exact q)
theorem ws_par2 {i j : Nat} {es : EL} (h : Wp (es ρ s) fun ds s => ∃ d e, ds = [d, e] ∧ N ((ρ.set i (.pu d)).set j (.pu e)) s) : Ws (sPar2 i j es ρ s) N R := wp_to (wp_mono h fun ds s ⟨d, e, q, n⟩ => by
  subst q; exact n)
/-- a loop by an invariant over what is left -/
theorem ws_for {t : Tgt} {it : EI} {body : S} (h : Wp (it ρ s) fun ds s => ∃ I : List D → Loc → Store → Prop, I ds ρ s ∧ (∀ d ds ρ s, I (d :: ds) ρ s → ∃ ρ', setT t d ρ = some ρ' ∧ Ws (body ρ' s) (I ds) R) ∧ ∀ ρ s, I [] ρ s → N ρ s) : Ws (sFor t it body ρ s) N R := by
  refine wp_to (wp_mono h fun ds s ⟨I, h0, h1, h2⟩ => ?_)
  clear h
  induction ds generalizing ρ s with
  | nil => exact h2 ρ s h0
  | cons d ds ih =>
    obtain ⟨ρ', e, q⟩ := h1 d ds ρ s h0
    simp only [forM, e]
    cases hb : body ρ' s with
    | nx ρ s => rw [hb] at q; exact ih _ ⟨I, q, h1, h2⟩ q
    | rt d s => rw [hb] at q; exact q
    | bk ρ s => rw [hb] at q; exact q.elim
    | ct ρ s => rw [hb] at q; exact q.elim
    | ex C fs ρ s => rw [hb] at q; exact q.elim
    | bad => rw [hb] at q; exact q.elim
/-- a comprehension by an invariant -/
theorem wp_lcM {t : Tgt} {c : ET} {e : E} {ρ0 : Loc} (I : List D → List D → Store → Prop) (h1 : ∀ d ds acc s, I (d :: ds) acc s → ∃ ρ, setT t d ρ0 = some ρ ∧ Wp (c ρ s) fun b s => if b = true then Wp (e ρ s) fun x s => I ds (acc ++ [x]) s else I ds acc s) :
    ∀ (ds acc : List D) (s : Store), I ds acc s → ∃ xs s', lcM t c e ρ0 ds s = some (xs, s') ∧ I [] (acc ++ xs) s'
  | [], acc, s, h => ⟨[], s, rfl, by rw [List.append_nil]; exact h⟩
  | d :: ds, acc, s, h => by
    obtain ⟨ρ, e1, q⟩ := h1 d ds acc s h
    simp only [lcM, e1]
    cases hc : c ρ s with
    | bad => rw [hc] at q; exact q.elim
    | ex C fs s => rw [hc] at q; exact q.elim
    | ok b s1 =>
      rw [hc] at q
      cases b with
      | false =>
        have q : I ds acc s1 := by simpa [Wp] using q
        exact wp_lcM I h1 ds acc s1 q
      | true =>
        have q : Wp (e ρ s1) fun x s => I ds (acc ++ [x]) s := by simpa [Wp] using q
        cases he : e ρ s1 with
        | bad => rw [he] at q; exact q.elim
        | ex C fs s => rw [he] at q; exact q.elim
        | ok x s2 =>
          rw [he] at q
          obtain ⟨xs, s', e2, q2⟩ := wp_lcM I h1 ds (acc ++ [x]) s2 q
          refine ⟨x :: xs, s', ?_, by rw [List.append_assoc] at q2; exact q2⟩
          simp only [he, e2]
theorem wp_lc {t : Tgt} {it : EI} {c : ET} {e : E} {vs : List Nat} {P : D → Store → Prop} (h : Wp (it ρ s) fun ds s => ds.length ≤ line ∧ ∃ I : List D → List D → Store → Prop, I ds [] s ∧
    (∀ d ds acc s, I (d :: ds) acc s → ∃ ρ', setT t d (wipeL ρ vs) = some ρ' ∧ Wp (c ρ' s) fun b s => if b = true then Wp (e ρ' s) fun x s => I ds (acc ++ [x]) s else I ds acc s) ∧ ∀ xs s, I [] xs s → P (.lst xs) s) : Wp (eLc t it c e vs ρ s) P := by
  unfold eLc
  rw [wp_bind]
  refine wp_mono h fun ds s ⟨hl, I, h0, h1, h2⟩ => ?_
  obtain ⟨xs, s', e1, q⟩ := wp_lcM I h1 ds [] s h0
  unfold lcK
  rw [if_pos hl, e1]
  exact h2 xs s' q
end
def m_src1 : S := bCons (sSet 2 (eIf (eIs (eCmp .Lt (eRd 1) (eBt gLen (eCons (eRd 0) (eNil))))) (eIx (eRd 0) (eRd 1)) (eC (.int 0)))) <| bCons (sSet 3 (eIf (eIs (eCmp .GtE (eBt gAbs (eCons (eRd 2) (eNil))) (eBin .Pow (eC (.int 10)) (eC (.int 18))))) (eBt gAbs (eCons (eRd 2) (eNil))) (eC (.int 0)))) <|
  sRet (eNew (eLst (eCons (eLoc 3) (eCons (eBin .Add (eBin .Add (eBin .Mod (eBt gInt (eCons (eRd 2) (eNil))) (eC (.int 2305843009213693951))) (eBin .Mult (eC (.int 1299709)) (eRd 1))) (eC (.int 15485863))) (eCons (eC (.int 0)) (eNil))))))
def M_src1 : M := fnM 4 m_src1
def m_drw1 : S := bCons (sIf (eIs (eCmp .Gt (eIx (eRd 0) (eC (.int 0))) (eC (.int 0)))) (bCons (sSet 2 (eBin .Mod (eBt gInt (eCons (eIx (eRd 0) (eC (.int 0))) (eNil))) (eRd 1))) <| bCons (sPut (eBin .FloorDiv (eIx (eRd 0) (eC (.int 0))) (eRd 1)) (eLoc 0) (eC (.int 0))) <| sRet (eLoc 2)) (bNil)) <|
  bCons (sPut (eBin .Add (eIx (eRd 0) (eC (.int 2))) (eC (.int 1))) (eLoc 0) (eC (.int 2))) <|
  bCons (sPut (eBin .Mod (eBt gInt (eCons (eBin .Add (eBin .Add (eBin .Mult (eIx (eRd 0) (eC (.int 1))) (eC (.int 69621))) (eBin .Mult (eBin .Mult (eC (.int 32452843)) (eIx (eRd 0) (eC (.int 2)))) (eIx (eRd 0) (eC (.int 2))))) (eC (.int 40009))) (eNil))) (eC (.int 2305843009213693951))) (eLoc 0) (eC (.int 1))) <|
  sRet (eBin .Mod (eBt gInt (eCons (eBin .FloorDiv (eBin .Mod (eBt gInt (eCons (eBin .Add (eBin .Pow (eBin .FloorDiv (eIx (eRd 0) (eC (.int 1))) (eC (.int 256))) (eC (.int 2))) (eBin .Mult (eC (.int 17)) (eIx (eRd 0) (eC (.int 2))))) (eNil))) (eC (.int 2305843009213693921))) (eC (.int 4096))) (eNil))) (eRd 1))
def M_drw1 : M := fnM 3 m_drw1
/-- at n a source that was asked at most k times -/
def SrcAt (s : Store) (n k : Nat) : Prop := ∃ g m c : Int, 0 ≤ g ∧ 0 ≤ m ∧ m < 2305843009400000000 ∧ 0 ≤ c ∧ c ≤ k ∧ s[n]? = some (srcD g m c)
theorem SrcAt.mono {s : Store} {n k j : Nat} (h : SrcAt s n k) (i : k ≤ j) : SrcAt s n j := by
  obtain ⟨g, m, c, h1, h2, h3, h4, h5, h6⟩ := h
  exact ⟨g, m, c, h1, h2, h3, h4, by omega, h6⟩
end Dn
namespace Dn
open PySem PySem.Spec L2
open PyProof.Rows hiding St RelV
section
variable {P : D → Store → Prop} {PL : List D → Store → Prop} {ρ : Loc} {s : Store}
theorem wp_call {m : M} {a : EL} (h : Wp (a ρ s) fun ds s => Wp (m ds s) P) : Wp (eCall m a ρ s) P := by unfold eCall; rw [wp_bind]; exact h
theorem wp_nil (h : PL [] s) : Wp (eNil ρ s) PL := h
theorem wp_cons {a : E} {r : EL} (h : Wp (a ρ s) fun d s => Wp (r ρ s) fun ds s => PL (d :: ds) s) : Wp (eCons a r ρ s) PL := by
  unfold eCons
  rw [wp_bind]
  exact wp_mono h fun d s q => by rw [wp_bind]; exact q
theorem wp_tup {r : EL} (h : Wp (r ρ s) fun ds s => ds.length ≤ line ∧ P (.tup ds) s) : Wp (eTup r ρ s) P := by
  unfold eTup
  rw [wp_bind]
  exact wp_mono h fun ds s q => by rw [if_pos q.1]; exact q.2
theorem wp_lst {r : EL} (h : Wp (r ρ s) fun ds s => ds.length ≤ line ∧ P (.lst ds) s) : Wp (eLst r ρ s) P := by
  unfold eLst
  rw [wp_bind]
  exact wp_mono h fun ds s q => by rw [if_pos q.1]; exact q.2
theorem wp_if {c : ET} {a b : E} (h : Wp (c ρ s) fun x s => if x = true then Wp (a ρ s) P else Wp (b ρ s) P) : Wp (eIf c a b ρ s) P := by
  unfold eIf
  rw [wp_bind]
  exact wp_mono h fun x s q => by cases x <;> simpa using q
theorem wp_bin {op : Operator} {a b : E} (h : Wp (a ρ s) fun x s => Wp (b ρ s) fun y s => ∃ r, binop op (der s x) (der s y) = some r ∧ P r s) : Wp (eBin op a b ρ s) P := by
  unfold eBin
  rw [wp_bind]
  refine wp_mono h fun x s q => ?_
  rw [wp_bind]
  exact wp_mono q fun y s ⟨r, e, p⟩ => by rw [e]; exact p
theorem wp_cmp {op : CmpOp} {a b : E} (h : Wp (a ρ s) fun x s => Wp (b ρ s) fun y s => ∃ r, cmpD op (der s x) (der s y) = some r ∧ P r s) : Wp (eCmp op a b ρ s) P := by
  unfold eCmp
  rw [wp_bind]
  refine wp_mono h fun x s q => ?_
  rw [wp_bind]
  exact wp_mono q fun y s ⟨r, e, p⟩ => by rw [e]; exact p
theorem wp_ix {a b : E} (h : Wp (a ρ s) fun x s => Wp (b ρ s) fun y s => ∃ r, item (der s x) (der s y) = some r ∧ P r s) : Wp (eIx a b ρ s) P := by
  unfold eIx
  rw [wp_bind]
  refine wp_mono h fun x s q => ?_
  rw [wp_bind]
  exact wp_mono q fun y s ⟨r, e, p⟩ => by rw [e]; exact p
theorem wp_bt {g : List D → Option D} {a : EL} (h : Wp (a ρ s) fun ds s => ∃ r, g (ds.map (der s)) = some r ∧ P r s) : Wp (eBt g a ρ s) P := by
  unfold eBt
  rw [wp_bind]
  exact wp_mono h fun ds s ⟨r, e, p⟩ => by rw [e]; exact p
theorem wp_mt {T : String} {g : D → List D → Option D} {o : E} {a : EL} (h : Wp (o ρ s) fun x s => (T ≠ "" ∧ tyOfD (der s x) = T) ∧ Wp (a ρ s) fun ds s => ∃ r, g (der s x) (ds.map (der s)) = some r ∧ P r s) : Wp (eMt T g o a ρ s) P := by
  unfold eMt
  rw [wp_bind]
  refine wp_mono h fun x s ⟨c, q⟩ => ?_
  rw [if_pos c, wp_bind]
  exact wp_mono q fun ds s ⟨r, e, p⟩ => by rw [e]; exact p
variable {PB : Bool → Store → Prop}
theorem wp_is {a : E} (h : Wp (a ρ s) fun x s => ∃ b, x = .bl b ∧ PB b s) : Wp (eIs a ρ s) PB := by
  unfold eIs
  rw [wp_bind]
  exact wp_mono h fun x s ⟨b, e, p⟩ => by subst e; exact p
theorem wp_tru {a : E} (h : Wp (a ρ s) fun x s => ∃ b, truth (der s x) = some b ∧ PB b s) : Wp (eTru a ρ s) PB := by
  unfold eTru
  rw [wp_bind]
  exact wp_mono h fun x s ⟨b, e, p⟩ => by rw [e]; exact p
theorem wp_not {a : ET} (h : Wp (a ρ s) fun b s => PB (!b) s) : Wp (eNotT a ρ s) PB := by
  unfold eNotT
  rw [wp_bind]
  exact h
theorem wp_or {a b : ET} (h : Wp (a ρ s) fun x s => if x = true then PB true s else Wp (b ρ s) PB) : Wp (eOrT a b ρ s) PB := by
  unfold eOrT
  rw [wp_bind]
  exact wp_mono h fun x s q => by cases x <;> simpa [Wp] using q
theorem wp_and {a b : ET} (h : Wp (a ρ s) fun x s => if x = true then Wp (b ρ s) PB else PB false s) : Wp (eAndT a b ρ s) PB := by
  unfold eAndT
  rw [wp_bind]
  exact wp_mono h fun x s q => by cases x <;> simpa [Wp] using q
theorem wp_rng1 {es : EL} (h : Wp (es ρ s) fun ds s => ∃ j : Int, ds = [.int j] ∧ (-big ≤ j ∧ j < big) ∧ PL (intsD 0 j.toNat) s) : Wp (Dn.iRng1 es ρ s) PL := by
  unfold Dn.iRng1
  rw [wp_bind]
  refine wp_mono h fun ds s ⟨j, e, hb, p⟩ => ?_
  subst e
  show Wp (if _ then _ else _) PL
  rw [if_pos hb]
  exact p
/-- a def's body -/
theorem wp_fn {N : Nat} {b : S} {ds : List D} (h : Ws (b (ds.map .pu ++ List.replicate (N - ds.length) .no) s) (fun _ s => P .non s) P) : Wp (fnM N b ds s) P := by
  unfold fnM
  cases e : b (ds.map .pu ++ List.replicate (N - ds.length) .no) s with
  | nx ρ s => rw [e] at h; exact h
  | rt d s => rw [e] at h; exact h
  | bk ρ s => rw [e] at h; exact h.elim
  | ct ρ s => rw [e] at h; exact h.elim
  | ex C fs ρ s => rw [e] at h; exact h.elim
  | bad => rw [e] at h; exact h.elim
theorem wp_eq {α : Type} {r : Res α} {P : α → Store → Prop} {a : α} {s' : Store} (e : r = .ok a s') (h : P a s') : Wp r P := by rw [e]; exact h
end
theorem intsD_mem {lo : Int} {n : Nat} {d : D} (h : d ∈ intsD lo n) : ∃ i : Int, d = .int i ∧ lo ≤ i ∧ i < lo + n := by
  unfold intsD at h
  obtain ⟨k, hk, e⟩ := List.mem_map.mp h
  exact ⟨lo + k, e.symm, by omega, by have := List.mem_range.mp hk; omega⟩
theorem intsD_len (lo : Int) (n : Nat) : (intsD lo n).length = n := by unfold intsD; rw [List.length_map, List.length_range]
def lettersS : Str := "abcdefghijklmnopqrstuvwxyz"
def IsCs (cs : List Nat) : Prop := ∀ c ∈ cs, 97 ≤ c ∧ c ≤ 122
def strL (cs : List Nat) : Str := ⟨cs.toArray⟩
def Word (w : Str) : Prop := ∃ cs, w = strL cs ∧ 1 ≤ cs.length ∧ cs.length ≤ 8 ∧ IsCs cs
theorem letters_at (i : Int) (h0 : 0 ≤ i) (h1 : i < 26) : item (.str lettersS) (.int i) = some (.str (strL [97 + i.toNat])) := by
  have key : ∀ k : Nat, k < 26 → item (.str lettersS) (.int (k : Int)) = some (.str (strL [97 + k])) := by
    intro k hk
    match k, hk with
    | 0, _ => rfl
    | 1, _ => rfl
    | 2, _ => rfl
    | 3, _ => rfl
    | 4, _ => rfl
    | 5, _ => rfl
    | 6, _ => rfl
    | 7, _ => rfl
    | 8, _ => rfl
    | 9, _ => rfl
    | 10, _ => rfl
    | 11, _ => rfl
    | 12, _ => rfl
    | 13, _ => rfl
    | 14, _ => rfl
    | 15, _ => rfl
    | 16, _ => rfl
    | 17, _ => rfl
    | 18, _ => rfl
    | 19, _ => rfl
    | 20, _ => rfl
    | 21, _ => rfl
    | 22, _ => rfl
    | 23, _ => rfl
    | 24, _ => rfl
    | 25, _ => rfl
    | k + 26, h => omega
  have := key i.toNat (by omega)
  rw [Int.toNat_of_nonneg h0] at this
  exact this
theorem in_letters (c : Nat) (h0 : 97 ≤ c) (h1 : c ≤ 122) : cmpD .In (.str (strL [c])) (.str lettersS) = some (.bl true) := by
  have key : ∀ c : Nat, c < 123 → 97 ≤ c → lettersS.cps.toList.contains c = true := by decide +kernel
  show (strIn (strL [c]) lettersS).map (fun b => D.bl b) = _
  unfold strIn
  rw [if_pos (show (strL [c]).length = 1 from rfl)]
  show some (D.bl (lettersS.cps.toList.contains c)) = _
  rw [key c (by omega) h0]
theorem joinL_nil : ∀ cs : List Nat, TL.joinL [] (cs.map fun c => [c]) = cs
  | [] => rfl
  | [c] => rfl
  | c :: d :: r => by
    show [c] ++ ([] ++ TL.joinL [] ((d :: r).map fun c => [c])) = _
    rw [joinL_nil (d :: r)]
    rfl
theorem strsOf_map (cs : List Nat) : strsOf (cs.map fun c => D.str (strL [c])) = some (cs.map fun c => strL [c]) := by
  induction cs with
  | nil => rfl
  | cons c cs ih =>
    simp only [List.map_cons, strsOf, ih, Option.map_some]
theorem join_chars (cs : List Nat) : Txt.join "" (cs.map fun c => strL [c]) = strL cs := by
  have e : ∀ a b : Str, TL.tl a = TL.tl b → a = b := fun a b h => by
    obtain ⟨x⟩ := a
    obtain ⟨y⟩ := b
    have : x.toList = y.toList := h
    rw [Array.toList_inj.mp this]
  apply e
  rw [TL.join_eq, TL.tl_join]
  have h0 : TL.tl ("" : Str) = [] := by decide +kernel
  rw [h0, List.map_map]
  have h1 : (TL.tl ∘ fun c => strL [c]) = fun c : Nat => [c] := by
    funext c
    rfl
  rw [h1, joinL_nil]
  rfl
theorem gJoin_chars (cs : List Nat) (h : cs.length ≤ 8) : gJoin (.str "") [.lst (cs.map fun c => D.str (strL [c]))] = some (.str (strL cs)) := by
  show (strsOf _).bind _ = _
  rw [strsOf_map, Option.bind_some, join_chars, if_pos]
  have h1 : ((cs.map fun c => strL [c]).map (·.length)).sum = cs.length := by
    clear h
    induction cs with
    | nil => rfl
    | cons c cs ih =>
      rw [List.map_cons, List.map_cons, List.sum_cons, ih, List.length_cons]
      show 1 + _ = _
      omega
  have h2 : ("" : Str).length = 0 := by decide +kernel
  rw [h1, h2]
  unfold line
  omega
/-- the signs of a word -/
theorem strSigns_L (cs : List Nat) : strSigns (strL cs) = cs.map fun c => D.str (strL [c]) := by
  unfold strSigns strL
  simp
end Dn
namespace Dn
open PySem PySem.Spec L2
open PyProof.Rows hiding St RelV
section
variable {P : D → Store → Prop} {PL : List D → Store → Prop} {PB : Bool → Store → Prop} {ρ : Loc} {s : Store} {d : D} {i : Nat}
theorem wp_C (h : P d s) : Wp (eC d ρ s) P := h
theorem wp_loc (e : ρ[i]? = some (.pu d)) (h : P d s) : Wp (eLoc i ρ s) P := by unfold eLoc; rw [e]; exact h
theorem wp_rd (e : ρ[i]? = some (.pu d)) (h : P d s) : Wp (eRd i ρ s) P := by unfold eRd; rw [e]; exact h
theorem wp_args {np nk : Nat} {perm : List Nat} {dfl ds ds' : List D} {m : M} (h1 : ds.length = np + nk) (h2 : pick perm (ds ++ dfl) = ds') (h3 : ds'.length = perm.length) (h : Wp (m ds' s) P) : Wp (argsM np nk perm dfl m ds s) P := by
  unfold argsM
  rw [if_pos ⟨h1, by rw [h2]; exact h3⟩, h2]
  exact h
theorem wp_yes (h : PB true s) : Wp (eYes ρ s) PB := h
theorem wp_iLst {e : E} (h : Wp (e ρ s) fun d s => ∃ ds, d = .lst ds ∧ PL ds s) : Wp (iLst e ρ s) PL := by
  unfold iLst
  rw [wp_bind]
  exact wp_mono h fun d s ⟨ds, e, p⟩ => by subst e; exact p
theorem wp_neg {e : E} (h : Wp (e ρ s) fun d s => ∃ i : Int, d = .int i ∧ P (.int (-i)) s) : Wp (eNeg e ρ s) P := by
  unfold eNeg
  rw [wp_bind]
  exact wp_mono h fun d s ⟨i, e, p⟩ => by subst e; exact p
end
theorem ws_nil {ρ : Loc} {s : Store} {N : Loc → Store → Prop} {R : D → Store → Prop} (h : N ρ s) : Ws (bNil ρ s) N R := h
/-- isinstance -/
theorem wp_isi {L : KTab} {e : E} {ρ : Loc} {s : Store} {P : D → Store → Prop} (h : Wp (e ρ s) fun x s => ∃ r, isiOf L (der s x) = some r ∧ P r s) : Wp (eIsi L e ρ s) P := by
  unfold eIsi
  rw [wp_bind]
  exact wp_mono h fun x s ⟨r, e, p⟩ => by rw [e]; exact p
end Dn
namespace Dn
open PySem PySem.Spec PySem.W PyProof.Rows
section
variable {prog : Program} {w : World} {A : Around} {E : Value → Shared → Prop} {s : Shared} {K : Frag} {x C L f : Addr} {h₀ : Heap} {m : Str → Option Value} {ox : Obj} {od : Option Obj} {b tb : Value}
theorem ifBound_objNe {M : Model} {args : List Value} {Q : Option Value → Shared → Prop} (X : K.In s.heap) (I : InstAt s.heap x ox C od) (hs : findIn K (.ref C) "__ne__" = some (some (.builtin "object.__ne__")))
    (h : wpAny M A (call (.builtin "object.__ne__") (.ref x :: args)) (fun v => Q (some v)) E s) : wpAny M A (callSpecialIfBound? (.ref x) "__ne__" args) Q E s := by
  simp only [callSpecialIfBound?, bindSpecialIfBound?]
  refine wpAny_holding (wpAny_bind (wpAny_bind (wpAny_bind (I.type.here ((looks_findIn X hs).here ?_)))))
  refine wpAny_bind (wpAny_askSetting (wpAny_ite ?_))
  have fin : wpAny M A (call (.builtin "object.__ne__") ([.ref x] ++ args) >>= fun v => pure (some v)) Q E s := wpAny_bind (wpAny_mono h (fun v s' h' => wpAny_pure h') fun _ _ h' => h')
  split
  · exact wpAny_bind (wpAny_of_eq (F.cmp_object.ne.bind _) (wpAny_pure (by exact fin)))
  · exact wpAny_tryCatch (wpAny_bind (wpAny_of_eq (F.cmp_object.ne.bind _) (wpAny_pure (by exact fin))))
theorem objNe_entry {Q : Fin → Shared → Prop} (hu : A.units < cLine) (X : K.In s.heap) (I : InstAt s.heap x ox C od) (hs : findIn K (.ref C) "__eq__" = some (some (.ref f))) (hf : isFn K (.ref f) = true)
    (h : wpAny (model prog w) A (call (.ref f) [.ref x, b]) (fun v s' => ∃ r, v = .bool r ∧ Q (.done (.ret (.bool (!r)))) s') E s) : wpAny (model prog w) A (Builtin.«object.__ne__» ⟨[.ref x, b], []⟩) Q E s := by
  unfold Builtin.«object.__ne__»
  repeat (first
    | with_reducible refine wpAny_cRoomFor hu ?_
    | (refine wpAny_bind (m := callSpecialIfBound? (.ref x) (Str.ofString "__eq__") [b])
        (ifBound_K X I hs hf (wpAny_mono h (fun r s' hr => by
          obtain ⟨b, rfl, hq⟩ := hr
          repeat (first | exact hq | exact wpAny_pure hq | exact wpAny_truthy_bool hq | (refine wpAny_bind (m := truthy (.bool _)) (wpAny_truthy_bool ?_)) | wp_step)) fun _ _ e => e)))
    | wp_step)
theorem ne_K {Q : Value → Shared → Prop} (hu : A.units + 1 < cLine) (F₀ : PyProof.Rows.Fr h₀ L s.heap m) (X₀ : K.In h₀) (I : InstAt s.heap x ox C od) (hb : Looks (model prog w) s.heap (typeOf b) tb) (hn : notFirst K C tb = true)
    (hm : mroIn K C (.type "object") = some true) (hs : findIn K (.ref C) "__eq__" = some (some (.ref f))) (hne : findIn K (.ref C) "__ne__" = some (some (.builtin "object.__ne__"))) (hf : isFn K (.ref f) = true)
    (h : wpAny (model prog w) A.in1 (call (.ref f) [.ref x, b]) (fun v s' => ∃ r, v = .bool r ∧ Q (.bool (!r)) s') E s) : wpAny (model prog w) A (richCompare .NotEq (.ref x) b) Q E s := by
  have X := X₀.keeps F₀.keep
  have one : wpAny (model prog w) A (tryCompare (.ref x) "__ne__" b) (fun r s' => ∃ v, r = some v ∧ Q v s') E s := by
    unfold tryCompare
    refine wpAny_bind (ifBound_objNe X I hne (wpAny_call (codeAny_call_builtin F.cmp_object.ne.plain F.cmpEntry_ne (check_slot F.cmpKind_ne F.cmpSplit_ne (I.type.andThen (looks_mroIn X hm)) (F.cmpArgs_ne _ _) (objNe_entry (A := A.in1) hu X I hs hf (wpAny_mono h (fun v s' hv => ?_) fun _ _ e => e))))))
    obtain ⟨r, rfl, q⟩ := hv
    first | exact ⟨r, rfl, wpAny_pure ⟨_, rfl, q⟩⟩ | exact ⟨r, rfl, wpAny_pure (wpAny_pure ⟨_, rfl, q⟩)⟩ | exact ⟨r, rfl, ⟨_, rfl, q⟩⟩
  unfold richCompare
  simp only [oneThing_ref]
  refine wpAny_holding (wpAny_bind (wpAny_cRoomFor (Nat.lt_of_succ_lt hu) ?_))
  rw [cmpInfo_NotEq]
  dsimp only
  refine wpAny_bind (I.type.here (wpAny_bind (hb.here ?_)))
  split
  · rename_i q
    have e : subIn K tb (.ref C) = some false := by
      rcases Bool.or_eq_true_iff.mp hn with e | e
      · rw [beq_iff_eq.mp e] at q; simp at q
      · exact beq_iff_eq.mp e
    refine wpAny_bind ((looks_subIn X e).here ?_)
    simp only [Bool.false_eq_true, if_false]
    refine wpAny_bind (wpAny_mono one (fun r s' z => ?_) fun _ _ e => e)
    obtain ⟨v, rfl, hq⟩ := z
    exact wpAny_pure hq
  · refine wpAny_bind (wpAny_pure ?_)
    simp only [Bool.false_eq_true, if_false]
    refine wpAny_bind (wpAny_mono one (fun r s' z => ?_) fun _ _ e => e)
    obtain ⟨v, rfl, hq⟩ := z
    exact wpAny_pure hq
end
end Dn
namespace Dn
open PySem PySem.Spec L2
open PyProof.Rows hiding St RelV
section
variable {X : Cx} {W : WX} {k np : Nat} {f : Addr} {fd : FuncData} {ps : List Str} {perm : List Nat} {m : M} {A : Around}
/-- a def called at an around of its own -/
def CallsAt (X : Cx) (W : WX) (A : Around) (c : Value) (m : M) : Prop := ∀ (pins : List (Addr × Obj)) (s : Shared) (σ : St) (H : Hp) (us : List Value) (vs : List V) (Q : VK) (μ : Mu) (F : Addr → Prop) (st : Store) (ds : List D),
  Inv X pins σ H s → Vals vs us → RS X.K H μ F st → RVs X.K H μ F ds vs → OkE X.K W F σ H μ (m ds st) Q → wpAny (model X.prog X.w) A (call c us) (EP X pins σ Q) X.xe s
theorem fn_callsAt (Fn : FnOk X.prog X.w X.K X.mg X.base (L2.CX X.prog X.w) k f fd ps (spOf X.K ps.length m)) (hr : Room k A) (hA : A.frames = X.A.frames) (tk : Takes X W) (hb : KB X.K fd ps np [] perm []) (hp : perm.length = ps.length) : CallsAt X W A (.ref f) (argsM np 0 perm [] m) := by
  intro pins s σ H us vs Q μ F st ds I r rs rd h
  obtain ⟨its, dvs, rt, rdf, hb⟩ := hb
  unfold argsM at h
  split at h
  · rename_i hl
    have l1 := rd.length
    have l3 := r.length
    have hus : us.length = np := by omega
    have r2 : Vals (pick perm (vs ++ [] ++ dvs)) (pick perm (us ++ [] ++ its)) := Vals.pick ((r.append .nil).append rt) perm
    have r3 : RVs X.K H μ F (pick perm (ds ++ [] ++ [])) (pick perm (vs ++ [] ++ dvs)) := RVs.pick ((rd.append RVs.nil).append (rdf H μ F)) perm
    rw [List.append_nil ds] at r3
    have hq : spOf X.K ps.length m (pick perm (vs ++ [] ++ dvs)) H Q (WE W σ) := ⟨μ, F, st, _, rs, r3, by rw [hl.2, hp], h.at⟩
    have e0 : Env0 X.prog X.w X.K X.mg X.base A X.stack s H := by
      have e := I.env0
      exact ⟨by rw [hA]; exact e.frames, e.mod, e.bs, e.bsz, e.funs, e.frf, e.hok, e.bare⟩
    refine wpAny_call (codeAny_mono (Fn.run A X.stack s H ⟨us, []⟩ _ _ Q (WE W σ) hr e0 (hb s us [] I.kIn hus rfl) r2 hq) fun r s' hq => ?_)
    cases r with
    | error e => exact passAt tk σ pins H s e s' I hq
    | ok fl =>
      cases fl with
      | ret u => exact I.after hq
      | next => exact False.elim hq
      | brk => exact False.elim hq
      | cont => exact False.elim hq
  · exact h.elim
/-- what the class C says of == -/
structure OwnEqF (K : PySem.W.Frag) (C : String) (f : Addr) : Prop where
  eq : PySem.W.findIn K (.ref (He.ga K C)) "__eq__" = some (some (.ref f))
  ne : PySem.W.findIn K (.ref (He.ga K C)) "__ne__" = some (some (.builtin "object.__ne__"))
  fn : PySem.W.isFn K (.ref f) = true
  ob : PySem.W.mroIn K (He.ga K C) (.type "object") = some true
def EqOk (X : Cx) (W : WX) (C : String) (m : M) : Prop := ∃ f, OwnEqF X.K C f ∧ CallsAt X W X.A (.ref f) m ∧ CallsAt X W X.A.in1 (.ref f) m
def kEq (neg : Bool) (T : List (String × M)) (L : List (Bool × String)) (x y : D) (s : Store) : Res D := match der s x with
  | .obj C _ => (match T.lookup C, kindD (der s y) with
    | some m, some k => if L.contains k = true then (m [x, y] s).bind fun r s => (match r with
      | .bl b => .ok (.bl (b != neg)) s
      | _ => .bad) else .bad
    | _, _ => .bad)
  | _ => Res.of (cmpD (if neg = true then .NotEq else .Eq) (der s x) (der s y)) s
def eEqO (neg : Bool) (T : List (String × M)) (L : List (Bool × String)) (a b : E) : E := fun ρ s => (a ρ s).bind fun x s => (b ρ s).bind fun y s => kEq neg T L x y s
end
section
variable {X : Cx} {W : WX} {a b : Expr} {ma mb : E} {pos : Pos} {T : List (String × M)} {L : List (Bool × String)} {neg : Bool}
theorem ok_bool {K : PySem.W.Frag} {F : Addr → Prop} {σ : St} {H : Hp} {μ : Mu} {r : Res D} {Q : VK} (h : OkE K W F σ H μ (r.bind fun r s => (match r with
      | .bl b => .ok (.bl (b != neg)) s
      | _ => .bad)) Q) : OkE K W F σ H μ r fun v H' => ∃ b, v = .bl b ∧ Q (.bl (b != neg)) H' := by
  cases r with
  | bad => exact h
  | ex C fs s => exact h
  | ok d s =>
    cases d with
    | bl b =>
      intro v H' μ' f rs rv
      cases (show v = _ from rv)
      exact ⟨b, rfl, h _ H' μ' f rs (RV_bl _)⟩
    | _ => exact h.elim
theorem eqO_op {op : CmpOp} (hop : op = (if neg = true then .NotEq else .Eq)) (hT : ∀ C m, T.lookup C = some m → EqOk X W C m) (hL : ∀ C m k, T.lookup C = some m → L.contains k = true → PySem.W.notFirst X.K (He.ga X.K C) (tyV' X.K k) = true ∧ (k.1 = true → InsF X.K k.2))
    (hu : X.A.units + 64 < cLine) {pins : List (Addr × Obj)} {s2 : Shared} {σ : St} {H2 : Hp} {x y : V} {v u : Value} {Q : VK} (I2 : Inv X pins σ H2 s2) (rx : RelV x v) (ry : RelV y u)
    (q : ∃ μ F st d e, RS X.K H2 μ F st ∧ RV X.K H2 μ F d x ∧ RV X.K H2 μ F e y ∧ OkE X.K W F σ H2 μ (kEq neg T L d e st) Q) : wpAny (model X.prog X.w) X.A (compareOp op v u) (EP X pins σ Q) X.xe s2 := by
  obtain ⟨μ, F, st, d, e, rs, rd, re, q⟩ := q
  have oth : ∀ r, cmpD op (der st d) (der st e) = some r → (∀ v H' μ', Fut H2 μ H' μ' → RS X.K H' μ' F st → RV X.K H' μ' F r v → Q v H') → wpAny (model X.prog X.w) X.A (compareOp op v u) (EP X pins σ Q) X.xe s2 := fun r hr hq =>
    cmpD_ok hu op pins s2 σ H2 x y v u Q I2 rx ry ⟨μ, F, st, d, e, r, rs, .of rd, .of re, hr, hq⟩
  have dx := (RD.of rd).dr rs
  have dy := (RD.of re).dr rs
  unfold kEq at q
  split at q
  · rename_i C fs hd
    rw [hd] at dx
    split at q
    · rename_i m k hC hk
      split at q
      · rename_i hc
        obtain ⟨f, O, c1, c2⟩ := hT C m hC
        obtain ⟨nf, hi⟩ := hL C m k hC hc
        obtain ⟨ax, ddx, xs, e1, qx, _⟩ := dx
        subst e1
        cases rx
        have ty := kind_ty dy hk hi
        obtain ⟨P, KX, hP, _⟩ := kit_of I2 ry ty
        have lk := KX.ty (model X.prog X.w) s2.heap I2.kIn hP
        obtain ⟨mA, J, _⟩ := ins_get I2.hok qx
        obtain ⟨od, J, _⟩ := J.look
        obtain ⟨mf, hF⟩ := I2.fr
        have q2 := ok_bool q
        have rr : Vals [V.ref ax, y] [Value.ref ax, u] := .cons rfl (.cons ry .nil)
        cases neg with
        | false =>
          subst hop
          refine PySem.W.cmp_K (op := .Eq) (by omega) hF I2.ok.mod.kin J lk nf O.eq O.fn ?_
          refine wpAny_mono (c1 pins s2 σ H2 _ _ _ μ F st _ I2 rr rs (RVs.cons rd (RVs.cons re RVs.nil)) q2) (fun v s' z => ?_) fun _ _ z => z
          obtain ⟨w, H', I', rw', b, e2, hq⟩ := z
          subst e2
          cases rw'
          exact ⟨.bl b, H', I', rfl, by simpa using hq⟩
        | true =>
          subst hop
          refine ne_K (by omega) hF I2.ok.mod.kin J lk nf O.ob O.eq O.ne O.fn ?_
          refine wpAny_mono (c2 pins s2 σ H2 _ _ _ μ F st _ I2 rr rs (RVs.cons rd (RVs.cons re RVs.nil)) q2) (fun v s' z => ?_) fun _ _ z => z
          obtain ⟨w, H', I', rw', b, e2, hq⟩ := z
          subst e2
          cases rw'
          exact ⟨b, rfl, .bl (!b), H', I', rfl, by simpa using hq⟩
      · exact q.elim
    · exact q.elim
  · obtain ⟨r, hr, hq⟩ := OkG.some q
    rw [← hop] at hr
    exact oth r hr hq
theorem eqO_at {σ : St} {H : Hp} {Q : VK} (h : tG (fun F H μ d v => RV X.K H μ F d v) X.pn X.K W (eEqO neg T L ma mb) σ H Q) : tG (fun F H μ d v => RV X.K H μ F d v) X.pn X.K W ma σ H fun x H1 => tG (fun F H μ d v => RV X.K H μ F d v) X.pn X.K W mb σ H1 fun y H2 =>
      ∃ μ F st d e, RS X.K H2 μ F st ∧ RV X.K H2 μ F d x ∧ RV X.K H2 μ F e y ∧ OkE X.K W F σ H2 μ (kEq neg T L d e st) Q := by
  obtain ⟨ρ, μ, F, G, st, a, h⟩ := h
  refine tG_at (k := fun x s => (mb ρ s).bind fun y s => kEq neg T L x y s) a h fun x H1 μ1 st1 d a1 f1 r1 h1 => ?_
  refine tG_at (k := fun y s => kEq neg T L d y s) a1 h1 fun y H2 μ2 st2 e a2 f2 r2 h2 => ?_
  exact ⟨μ2, F, st2, d, e, a2.s, RV.kp f2.kp0 r1, r2, h2⟩
theorem st_eqO {op : CmpOp} (hop : op = (if neg = true then .NotEq else .Eq)) (hT : ∀ C m, T.lookup C = some m → EqOk X W C m) (hL : ∀ C m k, T.lookup C = some m → L.contains k = true → PySem.W.notFirst X.K (He.ga X.K C) (tyV' X.K k) = true ∧ (k.1 = true → InsF X.K k.2))
    (hu : X.A.units + 64 < cLine) (ha : SE X W a ma) (hb : SE X W b mb) (hm : behindInMarks op b = false := by first | exact nomark _ | rfl) : ST X W (.Compare a [op] [b] pos) (eIs (eEqO neg T L ma mb)) := by
  refine ⟨fun pins s σ H Q I h => ?_⟩
  have h2 := eqO_at (bool_at (fun _ _ _ _ _ h => by unfold RV at h; exact h) h)
  refine wpAny_isTrue_Compare1 (thn (ha.run pins s σ H _ I h2) fun v s1 ⟨x, H1, I1, r1, q1⟩ => thn (hb.run pins s1 σ H1 _ I1 q1) fun u s2 ⟨y, H2, I2, r2, q2⟩ =>
    thn (eqO_op hop hT hL hu I2 r1 r2 q2) fun c s3 ⟨z, H3, I3, r3, k, e, q3⟩ => ?_) hm
  subst e
  cases r3
  exact wpAny_truthy_bool ⟨H3, I3, q3⟩
end
end Dn
namespace Dn
open PySem PySem.Spec L2
open PyProof.Rows hiding St RelV
section
variable {X : Cx} {W : WX} {e : Expr} {te : TE} {me : E} {p apos cpos pos : Pos}
def keysD : D → Option D
  | .dic kvs => some (.lst (kvs.map (·.1)))
  | _ => none
def eKeys (a : E) : E := fun ρ s => (a ρ s).bind fun d s => Res.of (keysD (der s d)) s
end
end Dn
namespace Dn
open PySem PySem.Spec L2
open PyProof.Rows hiding St RelV
/-- the class C and the kinds L of what it is compared with -/
structure EqF (K : PySem.W.Frag) (C : String) (L : List (Bool × String)) : Prop where
  own : OwnEqF K C (He.ma K (He.ga K C) "__eq__")
  nf : ∀ k, L.contains k = true → PySem.W.notFirst K (He.ga K C) (tyV' K k) = true ∧ (k.1 = true → InsF K k.2)
def eqB (C : String) (L : List (Bool × String)) (K : PySem.W.Frag) : Bool :=
  b2 (decide (PySem.W.findIn K (.ref (He.ga K C)) "__eq__" = some (some (.ref (He.ma K (He.ga K C) "__eq__"))))) (b2 (decide (PySem.W.findIn K (.ref (He.ga K C)) "__ne__" = some (some (.builtin "object.__ne__"))))
    (b2 (PySem.W.isFn K (.ref (He.ma K (He.ga K C) "__eq__"))) (b2 (decide (PySem.W.mroIn K (He.ga K C) (.type "object") = some true))
      (L.all fun k => b2 (PySem.W.notFirst K (He.ga K C) (tyV' K k)) (!k.1 || insB k.2 K)))))
theorem eqB_ok {C : String} {L : List (Bool × String)} {K : PySem.W.Frag} (h : eqB C L K = true) : EqF K C L := by
  obtain ⟨h1, h⟩ := b2_ok h
  obtain ⟨h2, h⟩ := b2_ok h
  obtain ⟨h3, h⟩ := b2_ok h
  obtain ⟨h4, h5⟩ := b2_ok h
  refine ⟨⟨of_decide_eq_true h1, of_decide_eq_true h2, h3, of_decide_eq_true h4⟩, fun k hk => ?_⟩
  obtain ⟨q1, q2⟩ := b2_ok (List.all_eq_true.mp h5 k (List.contains_iff_mem.mp hk))
  refine ⟨q1, fun e => insB_ok ?_⟩
  have h2 : (!k.1 || insB k.2 K) = true := q2
  rw [e] at h2
  exact h2
def EqT (X : Cx) (W : WX) (L : List (Bool × String)) (T : List (String × M)) : Prop := ∀ C m, T.lookup C = some m → EqOk X W C m ∧ ∀ k, L.contains k = true → PySem.W.notFirst X.K (He.ga X.K C) (tyV' X.K k) = true ∧ (k.1 = true → InsF X.K k.2)
section
variable {X : Cx} {W : WX} {L : List (Bool × String)} {T : List (String × M)} {k : Nat} {ps : List Str} {m : M} {d : He.DefD} {C : String} {P : Program} {w : World} {K : PySem.W.Frag} {mg : Str → Option Value} {base : Heap}
theorem eqT_nil : EqT X W L [] := fun C m h => by cases h
theorem eqT_cons (F : MOk P w K mg base d k ps m) (E : EqF K C L) (hat : d.at_ = ((C : Str), some ("__eq__" : Str))) (j : Nat) (hj : k + 1 ≤ j) (hb : ∀ fd, FuD K d fd → KB K fd ps 2 [] [0, 1] []) (hp : [0, 1].length = ps.length)
    (tk : Takes X W) (hr : Room j X.A) (hP : X.prog = P) (hw : X.w = w) (hK : X.K = K) (hmg : X.mg = mg) (hbs : X.base = base) (t : EqT X W L T) : EqT X W L ((C, argsM 2 0 [0, 1] [] m) :: T) := by
  subst hP hw hK hmg hbs
  intro C' m' h
  rw [List.lookup_cons] at h
  split at h
  · rename_i e
    cases h
    have e : C' = C := by simpa using e
    subst e
    obtain ⟨fd, F1, F2⟩ := F
    have hf : He.fAd X.K d.at_ = He.ma X.K (He.ga X.K C') "__eq__" := by rw [hat]; rfl
    rw [hf] at F2
    exact ⟨⟨_, E.own, fn_callsAt F2 (hr.mono (by omega)) rfl tk (hb fd F1) hp, fn_callsAt F2 (Room.in1 (hr.mono hj)) rfl tk (hb fd F1) hp⟩, E.nf⟩
  · exact t C' m' h
variable {a b : Expr} {ma mb : E} {pos : Pos}
theorem st_neT (t : EqT X W L T) (hu : X.A.units + 64 < cLine) (ha : SE X W a ma) (hb : SE X W b mb) (hm : behindInMarks .NotEq b = false := by first | exact nomark _ | rfl) : ST X W (.Compare a [.NotEq] [b] pos) (eIs (eEqO true T L ma mb)) :=
  st_eqO rfl (fun C m h => (t C m h).1) (fun C m k h hk => (t C m h).2 k hk) hu ha hb hm
end
end Dn
namespace Dn
open PySem PySem.Spec L2
open PyProof.Rows hiding St RelV
/-- at n a source of the first kind that was asked at most k times -/
def SrcB (s : Store) (n k : Nat) : Prop := ∃ g m c : Int, 0 ≤ g ∧ 0 ≤ m ∧ m < 2305843009215000000 ∧ 0 ≤ c ∧ c ≤ k ∧ s[n]? = some (srcD g m c)
theorem SrcB.mono {s : Store} {n k j : Nat} (h : SrcB s n k) (i : k ≤ j) : SrcB s n j := by
  obtain ⟨g, m, c, h1, h2, h3, h4, h5, h6⟩ := h
  exact ⟨g, m, c, h1, h2, h3, h4, by omega, h6⟩
end Dn
namespace Dn
open PySem PySem.Spec L2
open PyProof.Rows hiding St RelV
def allo (f : D → D → Option Bool) : List (D × D) → Option Bool
  | [] => some true
  | (d, e) :: r => (f d e).bind fun x => (allo f r).map fun y => x && y
/-- the values of a's keys, in b -/
def hito (f : D → D → Option Bool) (b : List (D × D)) : List (D × D) → Option Bool
  | [] => some true
  | (k, v) :: r => match dkey k with
    | none => none
    | some q => match dgetK q b with
      | none => some false
      | some w => (f v w).bind fun x => (hito f b r).map fun y => x && y
def deqo : Nat → D → D → Option Bool
  | 0, d, e => if okq 0 d && okq 0 e then some (deq d e) else none
  | n + 1, d, e => if okq (n + 1) d && okq (n + 1) e then some (deq d e) else match d, e with
    | .tup ds, .tup es => (allo (deqo n) (ds.zip es)).map fun x => x && ds.length == es.length
    | .lst ds, .lst es => if ds.length = es.length then allo (deqo n) (ds.zip es) else some false
    | .dic a, .dic b => if a.length = b.length then hito (deqo n) b a else some false
    | _, _ => none
end Dn
namespace Dn
open PySem PySem.Spec L2
open PyProof.Rows hiding St RelV
/-- == with dicts -/
def deqD (d e : D) : Option D := (deqo 60 d e).map D.bl
def eEq2 (a b : E) : E := fun ρ s => (a ρ s).bind fun x s => (b ρ s).bind fun y s => Res.of (deqD (der s x) (der s y)) s
end Dn
namespace Dn
open PySem PySem.Spec L2
open PyProof.Rows hiding St RelV
section
variable {P : D → Store → Prop} {PL : List D → Store → Prop} {PB : Bool → Store → Prop} {N : Loc → Store → Prop} {R : D → Store → Prop} {ρ : Loc} {s : Store} {d : D} {i : Nat} {e : E}
theorem wp_rdo {b : Bool} (h0 : ρ[i]? = some (.ow b d)) (h : P d s) : Wp (eRd i ρ s) P := by unfold eRd; rw [h0]; exact h
theorem ws_own (h : Wp (e ρ s) fun d s => N (ρ.set i (.ow false d)) s) : Ws (sOwn i e ρ s) N R := wp_to h
theorem ws_app {b : Bool} {ds : List D} (h0 : ρ[i]? = some (.ow b (.lst ds))) (h : Wp (e ρ s) fun d s => ds.length < line ∧ N (ρ.set i (.ow b (.lst (ds ++ [d])))) s) : Ws (sApp i e ρ s) N R := by
  unfold sApp owOf
  rw [h0]
  refine wp_to (wp_mono h fun d s q => ?_)
  rw [if_pos q.1]
  exact q.2
theorem ws_frz {m : S} (h0 : ρ[i]? = some (.ow false d)) (h : Ws (m (ρ.set i (.pu d)) s) N R) : Ws (bFrz i m ρ s) N R := by
  unfold bFrz frzL
  rw [h0]
  exact h
theorem ws_frzp {m : S} (h0 : ρ[i]? = some (.pu d)) (h : Ws (m ρ s) N R) : Ws (bFrz i m ρ s) N R := by
  unfold bFrz frzL
  rw [h0]
  exact h
theorem ws_putO {b : Bool} {c : D} {k : E} (h0 : ρ[i]? = some (.ow b c)) (h : Wp (e ρ s) fun d s => Wp (k ρ s) fun j s => ∃ c', putIx c (der s j) d = some c' ∧ N (ρ.set i (.ow b c')) s) : Ws (sPutO i e k ρ s) N R := by
  unfold sPutO owOf
  rw [h0]
  refine wp_to (wp_mono h fun d s q => ?_)
  refine wp_to (wp_mono q fun j s ⟨c', e1, n⟩ => ?_)
  rw [e1]
  exact n
theorem ws_par3 {j l : Nat} {es : EL} (h : Wp (es ρ s) fun ds s => ∃ d e f, ds = [d, e, f] ∧ N (((ρ.set i (.pu d)).set j (.pu e)).set l (.pu f)) s) : Ws (sPar3 i j l es ρ s) N R := wp_to (wp_mono h fun ds s ⟨d, e, f, q, n⟩ => by
  subst q; exact n)
theorem wp_sl {l u : EP'} (h : Wp (e ρ s) fun x s => Wp (l ρ s) fun lo s => Wp (u ρ s) fun hi s => ∃ r, cutOf (der s x) lo hi = some r ∧ P r s) : Wp (eSl e l u ρ s) P := by
  unfold eSl
  rw [wp_bind]
  refine wp_mono h fun x s q => ?_
  rw [wp_bind]
  refine wp_mono q fun lo s q => ?_
  rw [wp_bind]
  exact wp_mono q fun hi s ⟨r, e, p⟩ => by rw [e]; exact p
theorem wp_noPart {PO : Option Int → Store → Prop} (h : PO none s) : Wp (eNoPart ρ s) PO := h
theorem wp_part {PO : Option Int → Store → Prop} (h : Wp (e ρ s) fun d s => ∃ i : Int, d = .int i ∧ PO (some i) s) : Wp (ePart e ρ s) PO := by
  unfold ePart
  rw [wp_bind]
  exact wp_mono h fun d s ⟨i, e, p⟩ => by subst e; exact p
theorem wp_rev (h : Wp (e ρ s) fun x s => ∃ r, revOf (der s x) = some r ∧ P r s) : Wp (eRev e ρ s) P := by
  unfold eRev
  rw [wp_bind]
  exact wp_mono h fun x s ⟨r, e, p⟩ => by rw [e]; exact p
theorem wp_keys (h : Wp (e ρ s) fun x s => ∃ r, keysD (der s x) = some r ∧ P r s) : Wp (eKeys e ρ s) P := by
  unfold eKeys
  rw [wp_bind]
  exact wp_mono h fun x s ⟨r, e, p⟩ => by rw [e]; exact p
theorem wp_eq2 {a b : E} (h : Wp (a ρ s) fun x s => Wp (b ρ s) fun y s => ∃ r, deqD (der s x) (der s y) = some r ∧ P r s) : Wp (eEq2 a b ρ s) P := by
  unfold eEq2
  rw [wp_bind]
  refine wp_mono h fun x s q => ?_
  rw [wp_bind]
  exact wp_mono q fun y s ⟨r, e, p⟩ => by rw [e]; exact p
theorem wp_iStrD (h : Wp (e ρ s) fun d s => ∃ z, d = .str z ∧ PL (strSigns z) s) : Wp (iStrD e ρ s) PL := by
  unfold iStrD
  rw [wp_bind]
  exact wp_mono h fun d s ⟨z, e, p⟩ => by subst e; exact p
theorem wp_dic0 (h : P (.dic []) s) : Wp (eDic0 ρ s) P := h
theorem wp_enum {es : EL} (h : Wp (es ρ s) fun ds s => ∃ xs, ds = [.lst xs] ∧ PL (enumD 0 xs) s) : Wp (iEnum es ρ s) PL := by
  unfold iEnum
  rw [wp_bind]
  exact wp_mono h fun ds s ⟨xs, e, p⟩ => by subst e; exact p
end
end Dn
set_option maxHeartbeats 4000000
namespace Dn
open PySem PySem.Spec L2
open PyProof.Rows hiding St RelV
theorem deq_str (x y : Str) : deq (.str x) (.str y) = decide (x = y) := by
  unfold deq
  by_cases h : x = y
  · subst h; simp
  · simp [h]
theorem in_strs (w : Str) (T : List Str) : cmpD .In (.str w) (.lst (T.map D.str)) = some (.bl (decide (w ∈ T))) := by
  have e1 : (T.map D.str).all (okq 60) = true := by simp [okq]
  have e2 : ((T.map D.str).any fun y => deq y (.str w)) = decide (w ∈ T) := by
    rw [List.any_map]
    by_cases h : w ∈ T
    · rw [decide_eq_true h, List.any_eq_true]
      exact ⟨w, h, by show deq (.str w) (.str w) = true; rw [deq_str]; simp⟩
    · rw [decide_eq_false h, List.any_eq_false]
      intro y hy
      show ¬ deq (.str y) (.str w) = true
      rw [deq_str]
      intro e
      exact h (by rw [← of_decide_eq_true e]; exact hy)
  show (if (okq 60 (.str w) && (T.map D.str).all (okq 60)) = true then _ else _) = _
  rw [e1, e2]
  rfl
theorem signs26 : strSigns "abcdefghijklmnopqrstuvwxyz" = (List.range 26).map fun i => D.str (strL [97 + i]) := by kernel_rfl
theorem strL_app (a b : List Nat) : strL a ++ strL b = strL (a ++ b) := by
  show (⟨a.toArray ++ b.toArray⟩ : Str) = ⟨(a ++ b).toArray⟩
  simp
theorem strL_len (a : List Nat) : (strL a).length = a.length := rfl
theorem strL_inj {a b : List Nat} (h : strL a = strL b) : a = b := by
  have : a.toArray = b.toArray := congrArg Str.cps h
  simpa using congrArg Array.toList this
theorem letters_count {cs : List Nat} : ∀ (n : Nat) (T : List Str), (∀ i, i < n → strL ((97 + i) :: cs) ∈ T) → n ≤ T.length
  | 0, T, _ => Nat.zero_le _
  | n + 1, T, h => by
    have h1 := h n (by omega)
    have := letters_count n (T.erase (strL ((97 + n) :: cs))) fun i hi => by
      refine (List.mem_erase_of_ne fun e => ?_).mpr (h i (by omega))
      have := strL_inj e
      simp at this
      omega
    rw [List.length_erase_of_mem h1] at this
    have : 0 < T.length := List.length_pos_of_mem h1
    omega
end Dn
namespace Dn
open PySem PySem.Spec L2
open PyProof.Rows hiding St RelV
def mvF (n i j : Nat) : Nat := if j = i ∧ i < n then n else if j < n then j else j + 1
theorem mvF_inj {n i j k : Nat} (h : mvF n i j = mvF n i k) : j = k := by
  unfold mvF at h
  split at h <;> split at h <;> (try split at h) <;> (try split at h) <;> omega
theorem mv_get {α : Type} (ρ T : List α) (t : α) (i j : Nat) : (ρ.set i t ++ T)[j]? = (ρ ++ t :: T)[mvF ρ.length i j]? := by
  unfold mvF
  by_cases h1 : j = i ∧ i < ρ.length
  · rw [if_pos h1, h1.1, List.getElem?_append_left (by rw [List.length_set]; exact h1.2), List.getElem?_set_self h1.2, List.getElem?_append_right (Nat.le_refl _), Nat.sub_self, List.getElem?_cons_zero]
  · rw [if_neg h1]
    by_cases h2 : j < ρ.length
    · rw [if_pos h2, List.getElem?_append_left (by rw [List.length_set]; exact h2), List.getElem?_append_left h2, List.getElem?_set_ne fun e => h1 ⟨e.symm, e ▸ h2⟩]
    · rw [if_neg h2, List.getElem?_append_right (by rw [List.length_set]; omega), List.getElem?_append_right (by omega), List.length_set, show j + 1 - ρ.length = (j - ρ.length) + 1 by omega, List.getElem?_cons_succ]
section
variable {pn : Pn} {K : PySem.W.Frag} {W : WX} {H H1 : Hp} {μ μ1 : Mu} {F : Addr → Prop} {G : Own} {st st1 s : Store} {ρ : Loc} {σ : St} {p : Addr} {d : D} {v : V} {i : Nat} {t : Slot} {o : Option V}
theorem At.mv {T : Loc} {U : St} (a : At pn K H μ F G (ρ ++ t :: T) (σ ++ o :: U) st) (hl : ρ.length = σ.length) : At pn K H μ F G (ρ.set i t ++ T) (σ.set i o ++ U) st := by
  have l := a.l.len
  refine ⟨⟨?_, fun j sl e => ?_, fun j k b c d e q h1 h2 h3 h4 => ?_⟩, a.s, a.gf⟩
  · simp only [List.length_append, List.length_cons, List.length_set] at l ⊢
    omega
  · rw [mv_get] at e ⊢
    obtain ⟨o', e1, q⟩ := a.l.at_ _ sl e
    exact ⟨o', by rw [← hl]; exact e1, q⟩
  · rw [mv_get] at h1 h2 h3 h4
    rw [← hl] at h3 h4
    exact mvF_inj (a.l.inj _ _ b c d e q h1 h2 h3 h4)
theorem At.pre {T : Loc} {U : St} (a : At pn K H μ F G (ρ ++ T) (σ ++ U) st) (hl : ρ.length = σ.length) : At pn K H μ F G ρ σ st := by
  have get : ∀ {j : Nat} {sl : Slot}, ρ[j]? = some sl → (ρ ++ T)[j]? = some sl ∧ (σ ++ U)[j]? = σ[j]? := fun {j sl} e => by
    have := (List.getElem?_eq_some_iff.mp e).1
    exact ⟨by rw [List.getElem?_append_left this]; exact e, List.getElem?_append_left (by omega)⟩
  refine ⟨⟨hl, fun j sl e => ?_, fun j k b c d e q h1 h2 h3 h4 => ?_⟩, a.s, a.gf⟩
  · obtain ⟨g1, g2⟩ := get e
    obtain ⟨o', e1, q⟩ := a.l.at_ _ sl g1
    exact ⟨o', by rw [← g2]; exact e1, q⟩
  · obtain ⟨g1, g2⟩ := get h1
    obtain ⟨g3, g4⟩ := get h2
    exact a.l.inj _ _ b c d e q g1 g3 (by rw [g2]; exact h3) (by rw [g4]; exact h4)
theorem At.push0 (a : At pn K H μ F G ρ σ st) : At pn K H μ F G (ρ ++ [.no]) (σ ++ [none]) st := by
  refine ⟨⟨by rw [List.length_append, List.length_append, a.l.len]; rfl, fun j sl e => ?_, fun j k b c d e q h1 h2 h3 h4 => ?_⟩, a.s, a.gf⟩
  · by_cases h : j < ρ.length
    · rw [List.getElem?_append_left h] at e
      rw [List.getElem?_append_left (by rw [← a.l.len]; exact h)]
      exact a.l.at_ j sl e
    · have hj : j = ρ.length := by
        have := (List.getElem?_eq_some_iff.mp e).1
        rw [List.length_append, List.length_singleton] at this
        omega
      subst hj
      rw [List.getElem?_append_right (Nat.le_refl _), Nat.sub_self] at e
      cases e
      exact ⟨none, by rw [a.l.len, List.getElem?_append_right (Nat.le_refl _), Nat.sub_self]; rfl, True.intro⟩
  · have get : ∀ {j : Nat} {b : Bool} {d : D}, (ρ ++ [Slot.no])[j]? = some (.ow b d) → ρ[j]? = some (.ow b d) ∧ (σ ++ [none])[j]? = σ[j]? := fun {j b d} e => by
      by_cases h : j < ρ.length
      · rw [List.getElem?_append_left h] at e
        exact ⟨e, List.getElem?_append_left (by rw [← a.l.len]; exact h)⟩
      · have hj : j = ρ.length := by
          have := (List.getElem?_eq_some_iff.mp e).1
          rw [List.length_append, List.length_singleton] at this
          omega
        subst hj
        rw [List.getElem?_append_right (Nat.le_refl _), Nat.sub_self] at e
        cases e
    obtain ⟨g1, g2⟩ := get h1
    obtain ⟨g3, g4⟩ := get h2
    exact a.l.inj _ _ b c d e q g1 g3 (by rw [← g2]; exact h3) (by rw [← g4]; exact h4)
theorem set_last {α : Type} (l : List α) (x y : α) : (l ++ [x]).set l.length y = l ++ [y] := by
  rw [List.set_append_right _ _ (Nat.le_refl _), Nat.sub_self]
  rfl
theorem At.pushP (a : At pn K H μ F G ρ σ st) (r : RV K H μ F d v) : At pn K H μ F G (ρ ++ [.pu d]) (σ ++ [some v]) st := by
  have q := (a.push0).setP (i := ρ.length) r
  rw [set_last, a.l.len, set_last] at q
  exact q
end
def slotO (b : Bool) (d : D) : Slot := if b = true then .ow false d else .pu d
def slotsO : List Bool → List D → List Slot
  | b :: bs, d :: ds => slotO b d :: slotsO bs ds
  | _, _ => []
abbrev sls (T : List (Slot × V)) : Loc := T.map (·.1)
abbrev vls (T : List (Slot × V)) : St := T.map fun t => some t.2
def OkO (pn : Pn) (K : PySem.W.Frag) (W : WX) (H : Hp) (μ : Mu) (F : Addr → Prop) (G : Own) (ρ : Loc) (σ : St) (T : List (Slot × V)) (bs : List Bool) (r : Res (List D)) (Q : List V → Hp → Prop) : Prop := match r with
  | .ok ds s => ∀ H' μ' F' G' T', Ev H μ F G H' μ' F' G' → sls T' = slotsO bs ds → At pn K H' μ' F' G' (ρ ++ sls (T ++ T')) (σ ++ vls (T ++ T')) s → Q (T'.map (·.2)) H'
  | .ex C fs s => ∀ d H' μ' F' G' xs, Ev H μ F G H' μ' F' G' → At pn K H' μ' F' G' ρ σ s → H' d = some (.xd xs) → d ∉ μ' → ¬ F' d → RVf K H' μ' F' fs xs → W (.ref (He.ga K C)) (some d) σ H'
  | .bad => False
def tO (pn : Pn) (K : PySem.W.Frag) (W : WX) (bs : List Bool) (m : EL) : TA := fun σ H Q => ∃ ρ μ F G st T, ρ.length = σ.length ∧ At pn K H μ F G (ρ ++ sls T) (σ ++ vls T) st ∧ OkO pn K W H μ F G ρ σ T bs (m ρ st) Q
def SOw (X : Cx) (W : WX) (es : List Expr) (bs : List Bool) (m : EL) : Prop := PA X es (tO X.pn X.K W bs m)
section
variable {X : Cx} {W : WX} {a : Expr} {es : List Expr} {ma : E} {ml : EL} {bs : List Bool}
theorem so_nil : SOw X W [] [] eNil := PA.of pa_nil fun σ H Q ⟨ρ, μ, F, G, st, T, hl, a, h⟩ => h H μ F G [] (a.ev .refl) rfl (by rw [List.append_nil]; exact a)
/-- what follows the first part -/
theorem OkO.tail {pn : Pn} {K : PySem.W.Frag} {H H1 : Hp} {μ μ1 : Mu} {F F1 : Addr → Prop} {G G1 : Own} {ρ : Loc} {σ : St} {T : List (Slot × V)} {b : Bool} {d : D} {v : V} {s : Store} {Q : List V → Hp → Prop} (e0 : Ev H μ F G H1 μ1 F1 G1)
    (h : OkO pn K W H μ F G ρ σ T (b :: bs) ((ml ρ s).bind fun ds s => .ok (d :: ds) s) Q) : OkO pn K W H1 μ1 F1 G1 ρ σ (T ++ [(slotO b d, v)]) bs (ml ρ s) fun xs H' => Q (v :: xs) H' := by
  cases e : ml ρ s with
  | ok ds s2 =>
    rw [e] at h
    intro H' μ' F' G' T' ev e1 a
    exact h H' μ' F' G' ((slotO b d, v) :: T') (e0.trans ev) (by show _ :: sls T' = _; rw [e1]; rfl) (by rw [List.append_assoc] at a; exact a)
  | ex C fs s2 =>
    rw [e] at h
    exact fun d H' μ' F' G' xs ev => h d H' μ' F' G' xs (e0.trans ev)
  | bad => rw [e] at h; exact h
theorem so_pure (ha : SE X W a ma) (hr : SOw X W es bs ml) (hs : starEach (a :: es) X.env = (false, eval a X.env) :: starEach es X.env := by rfl) : SOw X W (a :: es) (false :: bs) (eCons ma ml) := PA.of (pa_cons ha hr hs) fun σ H Q ⟨ρ, μ, F, G, st, T, hl, a, h⟩ => by
  refine ⟨ρ, μ, F, G, st, a.pre hl, ?_⟩
  have h : OkO X.pn X.K W H μ F G ρ σ T (false :: bs) ((ma ρ st).bind fun d s => (ml ρ s).bind fun ds s => .ok (d :: ds) s) Q := h
  cases e : ma ρ st with
  | ok d s =>
    rw [e] at h
    intro v H1 μ1 f rs rv
    refine ⟨ρ, μ1, F, G, s, T ++ [(.pu d, v)], hl, ?_, h.tail (d := d) (v := v) (a.ev f)⟩
    have q := (a.fut f rs).pushP rv
    rw [List.append_assoc, List.append_assoc] at q
    simpa [sls, vls] using q
  | ex C fs s =>
    rw [e] at h
    exact fun d H' μ' xs f rs e1 e2 e3 e4 => h d H' μ' F G xs (a.ev f) ((a.fut f rs).pre hl) e1 e2 e3 e4
  | bad => rw [e] at h; exact h
/-- i, j = .. with parts of one's own -/
def kParO (is : List Nat) (bs : List Bool) (ρ : Loc) (ds : List D) (s : Store) : SRes := if ds.length = is.length ∧ bs.length = is.length then .nx ((is.zip (slotsO bs ds)).foldl (fun ρ p => ρ.set p.1 p.2) ρ) s else .bad
def sParO (is : List Nat) (bs : List Bool) (es : EL) : S := fun ρ s => (es ρ s).to ρ (kParO is bs ρ)
variable {pos : Pos}
/-- .. as a whole -/
theorem tO_S {is : List Nat} {D1 : Ends} {σ : St} {H : Hp} {Q : List V → Hp → Prop} (h : tS X.pn X.K W (sParO is bs ml) D1 σ H)
    (hQ : ∀ (T : List (Slot × V)) (H1 : Hp) (N : St → Prop), T.length = is.length → (∀ ρ μ F G s, (∀ (ρ' : Loc) (σ' : St), At X.pn X.K H1 μ F G ρ' σ' s → ρ' = (is.zip (sls T)).foldl (fun ρ p => ρ.set p.1 p.2) ρ → D1.nx σ' H1) → ρ.length = σ.length → At X.pn X.K H1 μ F G (ρ ++ sls T) (σ ++ vls T) s → Q (T.map (·.2)) H1)) : tO X.pn X.K W bs ml σ H Q := by
  obtain ⟨ρ, μ, F, G, st, a, h⟩ := h
  refine ⟨ρ, μ, F, G, st, [], a.l.len, by simpa using a, ?_⟩
  have h : OkS X.pn X.K W H μ F G ((ml ρ st).to ρ (kParO is bs ρ)) D1 := h
  cases e : ml ρ st with
  | ok ds s =>
    rw [e] at h
    intro H' μ' F' G' T' ev e1 a'
    have h : OkS X.pn X.K W H μ F G (kParO is bs ρ ds s) D1 := h
    unfold kParO at h
    by_cases hc : ds.length = is.length ∧ bs.length = is.length
    · rw [if_pos hc] at h
      have len : ∀ (bs : List Bool) (ds : List D), bs.length = ds.length → (slotsO bs ds).length = ds.length := fun bs => by
        induction bs with
        | nil => intro ds e; cases ds with
          | nil => rfl
          | cons d ds => cases e
        | cons b bs ih => intro ds e; cases ds with
          | nil => cases e
          | cons d ds => simp only [slotsO, List.length_cons, ih ds (Nat.succ.inj e)]
      have hl : T'.length = is.length := by
        have := congrArg List.length e1
        rw [len bs ds (by omega), List.length_map] at this
        omega
      refine hQ T' H' (fun _ => True) hl ρ μ' F' G' s (fun ρ' σ' a2 e2 => ?_) a.l.len (by simpa using a')
      rw [e1] at e2
      subst e2
      exact h _ _ _ _ _ ev a2
    · rw [if_neg hc] at h; exact h.elim
  | ex C fs s =>
    rw [e] at h
    exact fun d H' μ' F' G' xs ev a' => h d σ H' μ' F' G' xs ev a'
  | bad => rw [e] at h; exact h
theorem ss_parO3 {i j l : Nat} {x y z : Str} {a b c : Expr} {px py pz pt : Pos} {kt k2 pt2} (hc : X.calm = true) (hN : X.N.Nodup) (ha : SOw X W [a, b, c] bs ml) (hi : X.N[i]? = some x := by rfl) (hj : X.N[j]? = some y := by rfl) (hl : X.N[l]? = some z := by rfl) (hij : i ≠ j := by decide) (hil : i ≠ l := by decide) (hjl : j ≠ l := by decide)
    (hx : X.env.scope.names.lookup x = some .local := by rfl) (hy : X.env.scope.names.lookup y = some .local := by rfl) (hz : X.env.scope.names.lookup z = some .local := by rfl)
    (hw : swappedStores [.Tuple [.Name x px, .Name y py, .Name z pz] kt pt] (.Tuple [a, b, c] k2 pt2) X.env = pure (some [x, y, z]) := by rfl)
    (hs : swapsWithSole [.Tuple [.Name x px, .Name y py, .Name z pz] kt pt] (.Tuple [a, b, c] k2 pt2) pos.line X.env = pure false := by rfl) :
    SS X W (.Assign [.Tuple [.Name x px, .Name y py, .Name z pz] kt pt] (.Tuple [a, b, c] k2 pt2) pos) (sParO [i, j, l] bs ml) :=
  PS.of (ps_par3 hc hN hi hj hl hij hil hjl hx hy hz ha hw hs) fun D σ H h => tO_S h fun T H1 _ hl ρ μ F G s k e a => by
    match T, hl, k, a with
    | [t, u, v], _, k, a =>
      have q := ((a.mv (i := i) e).mv (i := j) (by rw [List.length_set, List.length_set]; exact e)).mv (i := l) (T := []) (U := []) (by rw [List.length_set, List.length_set, List.length_set, List.length_set]; exact e)
      rw [List.append_nil, List.append_nil] at q
      exact ⟨t.2, u.2, v.2, rfl, k _ _ q rfl⟩
end
section
variable {ρ : Loc} {s : Store} {N : Loc → Store → Prop} {R : D → Store → Prop}
theorem ws_parO {is : List Nat} {bs : List Bool} {es : EL} (h : Wp (es ρ s) fun ds s => (ds.length = is.length ∧ bs.length = is.length) ∧ N ((is.zip (slotsO bs ds)).foldl (fun ρ p => ρ.set p.1 p.2) ρ) s) : Ws (sParO is bs es ρ s) N R := wp_to (wp_mono h fun ds s ⟨c, n⟩ => by
  unfold kParO
  rw [if_pos c]
  exact n)
end
end Dn
namespace Dn
open PySem PySem.Spec L2
open PyProof.Rows hiding St RelV
section
variable {P : D → Store → Prop} {ρ : Loc} {s : Store}
theorem wp_eand {a b : E} (h : Wp (a ρ s) fun x s => ∃ t : Bool, x = .bl t ∧ (if t = true then Wp (b ρ s) P else P (.bl false) s)) : Wp (eAnd a b ρ s) P := by
  unfold eAnd
  rw [wp_bind]
  exact wp_mono h fun x s ⟨t, e, q⟩ => by
    subst e
    cases t with
    | true => exact q
    | false => exact q
theorem wp_attr {L : List String} {f : Str} {a : E} (h : Wp (a ρ s) fun x s => ∃ r, attrOf L f (der s x) = some r ∧ P r s) : Wp (eAttr L f a ρ s) P := by
  unfold eAttr
  rw [wp_bind]
  exact wp_mono h fun x s ⟨r, e, p⟩ => by rw [e]; exact p
theorem wp_eqO {neg : Bool} {T : List (String × M)} {L : List (Bool × String)} {a b : E} (h : Wp (a ρ s) fun x s => Wp (b ρ s) fun y s => Wp (kEq neg T L x y s) P) : Wp (eEqO neg T L a b ρ s) P := by
  unfold eEqO
  rw [wp_bind]
  exact wp_mono h fun x s q => by rw [wp_bind]; exact q
theorem wp_get {r : Res D} {a : D} {s : Store} (h : Wp r fun d s' => d = a ∧ s' = s) : r = .ok a s := by
  cases r with
  | ok d s' => obtain ⟨h1, h2⟩ := h; rw [h1, h2]
  | ex C fs s => exact h.elim
  | bad => exact h.elim
end
theorem item_map {α : Type} (f : α → D) {qs : List α} {j : Nat} {q : α} (h : qs[j]? = some q) : item (.lst (qs.map f)) (.int (j : Int)) = some (f q) := by
  have hj := (List.getElem?_eq_some_iff.mp h).1
  show atI (qs.map f) (j : Int) = _
  unfold atI
  rw [ixN_at (by omega) (by simpa using hj)]
  simp [h]
/-- the last step: M_law answers True -/
theorem true_of {r : Res D} (key : Wp r fun d _ => d = .bl true) : ∃ s, r = .ok (.bl true) s := by
  cases e : r with
  | ok d s => rw [e] at key; exact ⟨s, by rw [show d = .bl true from key]⟩
  | ex C fs s => rw [e] at key; exact key.elim
  | bad => rw [e] at key; exact key.elim
end Dn
namespace Dn
open PySem PySem.Spec L2
open PyProof.Rows hiding St RelV
structure Deco where
  kind : String
  d : He.DefD
def Deco.own (K : PySem.W.Frag) (p : Deco) : Addr := He.ma K (He.ga K p.d.at_.1) (p.d.at_.2.getD "")
def Deco.ad (K : PySem.W.Frag) (p : Deco) : Addr := match PySem.W.recIn K (p.own K) p.kind with
  | some (.ref g :: _) => g
  | _ => 0
def fwA (K : PySem.W.Frag) (a : Addr) : He.FnW := match K.lookup a with
  | some o => (match o.data with
    | .func fd => some (fd.name, fd.qualname, fd.params, fd.body, fd.scope, fd.globals, fd.closure, fd.builtins)
    | _ => none)
  | none => none
def Deco.good (K : PySem.W.Frag) (p : Deco) : Bool := b2 (PySem.W.keepIn K (.ref (p.ad K))) (match K.lookup (p.ad K) with
  | some o => (match o.data with
    | .func fd => b2 (PySem.W.codeIn K fd.code p.d.qual) (b2 (He.dflB K fd.defaults (p.d.dvs K)) (He.kwdB K fd.kwdefaults (p.d.kws K)))
    | _ => false)
  | none => false)
abbrev FuA (K : PySem.W.Frag) (p : Deco) (fd : FuncData) : Prop := FunD K p.d.name p.d.qual p.d.params p.d.body p.d.scope (p.d.dvs K) (p.d.kws K) (p.ad K) fd
theorem Deco.fd {K : PySem.W.Frag} {p : Deco} (e : fwA K (p.ad K) = p.d.val) (c : p.good K = true) : ∃ fd, FuA K p fd := by
  obtain ⟨kp, c⟩ := b2_ok c
  unfold fwA at e
  generalize hq : K.lookup (p.ad K) = z at e c
  match z, e, c with
  | some ⟨oc, od, .func ⟨f1, f2, f3, f4, f5, f6, f7, f8, f9, f10, f11, f12, f13, f14, f15⟩, osl⟩, e, c =>
    obtain ⟨q1, c⟩ := b2_ok c
    obtain ⟨q2, q3⟩ := b2_ok c
    simp only [He.DefD.val, Option.some.injEq, Prod.mk.injEq] at e
    obtain ⟨e1, e2, e3, e4, e5, e6, e7, e8⟩ := e
    subst e1 e2 e3 e4 e5 e6 e7 e8
    exact ⟨_, ⟨oc, od, f8, f9, f10, f11, f12, f13, f14, osl, rfl, hq, q1, He.dflB_ok q2, He.kwdB_ok q3⟩, kp⟩
  | none, e, c => cases c
/-- the look at the end: defs, decorated defs, what is checked besides -/
abbrev AlW : Type := He.AlD × List He.FnW × Bool
def obsW (fn : List He.DefD) (ps : List Deco) (chk : PySem.W.Frag → Bool) (K : PySem.W.Frag) : AlW := (He.obsD [] fn K, ps.map (fun p => fwA K (p.ad K)), b2 (ps.all fun p => p.good K) (chk K))
def valW (fn : List He.DefD) (ps : List Deco) : AlW := (He.valD fn, ps.map (fun p => p.d.val), true)
def SaysW (fn : List He.DefD) (ps : List Deco) (chk : PySem.W.Frag → Bool) (K : PySem.W.Frag) : Prop := obsW fn ps chk K = valW fn ps
def obsWG (n : Nat) (fn : List He.DefD) (ps : List Deco) (chk : PySem.W.Frag → Bool) (g : Addr → Option Obj) : AlW := obsW fn ps chk (He.frG g (He.asD g n ++ [cStatics, sysModules]))
def hookW (n : Nat) (fn : List He.DefD) (ps : List Deco) (chk : PySem.W.Frag → Bool) : PySem.W.Hook where
  α := AlW
  obs := fun s => obsWG n fn ps chk s.heap.get?
  val := fun _ => valW fn ps
  says := fun _ h => ∃ K : PySem.W.Frag, K.In h ∧ SaysW fn ps chk K
  of := fun _ _ e => ⟨_, He.frG_in, e⟩
  keeps := fun _ _ _ ⟨K, hK, c⟩ k => ⟨K, PySem.W.Frag.In.keeps hK k, c⟩
theorem obsWG_eq {n : Nat} {fn : List He.DefD} {ps : List Deco} {chk : PySem.W.Frag → Bool} {g : Addr → Option Obj} {s : Shared} (h : ∀ a, g a = s.heap.get? a) : obsWG n fn ps chk g = (hookW n fn ps chk).obs s := congrArg (obsWG n fn ps chk) (funext h)
section
variable {fn : List He.DefD} {ps : List Deco} {chk : PySem.W.Frag → Bool} {K : PySem.W.Frag}
theorem SaysW.d (c : SaysW fn ps chk K) : He.SaysD [] fn K := congrArg (fun z : AlW => z.1) c
theorem SaysW.cc (c : SaysW fn ps chk K) : b2 (ps.all fun p => p.good K) (chk K) = true := congrArg (fun z : AlW => z.2.2) c
theorem SaysW.c (c : SaysW fn ps chk K) : chk K = true := (b2_ok c.cc).2
end
/-- such a def keeps its promise -/
def POk (P : Program) (w : World) (K : PySem.W.Frag) (mg : Str → Option Value) (base : Heap) (p : Deco) (k : Nat) (ps : List Str) (m : M) : Prop := ∃ fd, FuA K p fd ∧ FnOk P w K mg base (L2.CX P w) k (p.ad K) fd ps (spOf K ps.length m)
/-- an answer that is no exception -/
def noX {α : Type} (r : Res α) : Res α := match r with
  | .ex _ _ _ => .bad
  | r => r
def getOf (L : Disp) : D → Option M
  | .obj C _ => L.lookup C
  | _ => none
def eProp (L : Disp) (o : E) : E := fun ρ s => (o ρ s).bind fun x s => match getOf L (der s x) with
  | some g => noX (g [x] s)
  | none => .bad
def conOf (f : Str) (T : List (String × D)) : D → Option D
  | .obj C fs => if fs.lookup f = none then T.lookup C else none
  | _ => none
def eCon (f : Str) (T : List (String × D)) (o : E) : E := fun ρ s => (o ρ s).bind fun x s => Res.of (conOf f T (der s x)) s
end Dn
namespace Dn
open PySem PySem.Spec L2
open PyProof.Rows hiding St RelV
def leS (a b : Str) : Bool := !ltCps b.cps.toList a.cps.toList
def sortI (ns : List Int) : List Int := ns.mergeSort fun a b => decide (a ≤ b)
def sortS (ss : List Str) : List Str := ss.mergeSort leS
theorem sortI_pw (ns : List Int) : (sortI ns).Pairwise (· ≤ ·) := (List.pairwise_mergeSort (le := fun a b : Int => decide (a ≤ b)) (fun a b c h1 h2 => by simp at h1 h2 ⊢; omega) (fun a b => by simp; omega) ns).imp fun h => by simpa using h
theorem sortI_perm (ns : List Int) : (sortI ns).Perm ns := List.mergeSort_perm ns _
/-- what sorted answers -/
def sortOf (ds : List D) : Option D := match intsOf ds with
  | some ns => some (.lst ((sortI ns).map .int))
  | none => (strsOf ds).bind fun ss => if ss.length < 64 then some (.lst ((sortS ss).map .str)) else none
def gSort : List D → Option D
  | [.lst ds] => sortOf ds
  | [.scr ns] => some (.lst ((sortI ns).map .int))
  | _ => none
end Dn
namespace Dn
open PySem PySem.Spec L2
open PyProof.Rows hiding St RelV
section
variable {pn : Pn} {K : PySem.W.Frag} {W : WX} {H H' : Hp} {μ : Mu} {F : Addr → Prop} {G : Own} {st : Store} {ρ : Loc} {σ : St} {d : Addr} {u : HO}
/-- r, whose ends see d locked, if the ends of the statement see it unlocked -/
def noXS : SRes → SRes
  | .ex _ _ _ _ => .bad
  | r => r
theorem upd_upd {o1 o2 : HO} : upd (upd H d o1) d o2 = upd H d o2 := by
  funext b
  by_cases h : b = d
  · rw [h, upd_same, upd_same]
  · rw [upd_ne h, upd_ne h, upd_ne h]
end
def viewD : Nat → List (D × D) → List D
  | 0, kvs => kvs.map (·.1)
  | 1, kvs => kvs.map (·.2)
  | _, kvs => kvs.map fun p => .tup [p.1, p.2]
end Dn
namespace Dn
open PySem PySem.Spec L2
open PyProof.Rows hiding St RelV
/-- for .. in e (k = 0), e.values() (1), e.items() (2): e a dict that stays -/
def sForV (k : Nat) (t : Tgt) (e : E) (body : S) : S := fun ρ s => (e ρ s).to ρ fun d s => match d with
  | .dic kvs => noXS (forM t body (viewD k kvs) ρ s)
  | _ => .bad
section
variable {ρ : Loc} {s : Store} {N : Loc → Store → Prop} {R : D → Store → Prop}
theorem ws_noX {r : SRes} (h : Ws r N R) : Ws (noXS r) N R := by
  cases r <;> first | exact h | exact h.elim
theorem ws_forV {k : Nat} {t : Tgt} {e : E} {body : S} (h : Wp (e ρ s) fun d s => ∃ kvs, d = .dic kvs ∧ ∃ I : List D → Loc → Store → Prop, I (viewD k kvs) ρ s ∧ (∀ d ds ρ s, I (d :: ds) ρ s → ∃ ρ', setT t d ρ = some ρ' ∧ Ws (body ρ' s) (I ds) R) ∧ ∀ ρ s, I [] ρ s → N ρ s) : Ws (sForV k t e body ρ s) N R := wp_to (wp_mono h fun d s ⟨kvs, e, I, h0, h1, h2⟩ => by
  subst e
  exact ws_noX (ws_for (t := t) (it := fun _ s => .ok (viewD k kvs) s) (body := body) (ρ := ρ) (s := s) ⟨I, h0, h1, h2⟩))
end
end Dn
namespace Dn
open PySem PySem.Spec L2
open PyProof.Rows hiding St RelV
theorem RC.D {K : PySem.W.Frag} {H : Hp} {μ : Mu} {F : Addr → Prop} {p : Addr} {ds : List (D × D)} {xs : List (Key × V)} (hp : H p = none) (r : RVd K H μ F ds xs) : RC K (upd H p (.dK xs)) μ (plus F p) (.dic ds) p := ⟨xs, upd_same, RVd.kp (Fut.kpP hp .refl) r⟩
def ddrop (q : Key) (kvs : List (D × D)) : List (D × D) := kvs.filter fun kv => decide (dkey kv.1 ≠ some q)
theorem RVd.drop {K : PySem.W.Frag} {H : Hp} {μ : Mu} {F : Addr → Prop} {q : Key} : ∀ {kvs : List (D × D)} {xs : List (Key × V)}, RVd K H μ F kvs xs → RVd K H μ F (ddrop q kvs) (dropK xs q)
  | [], xs, h => by
    cases (show xs = [] from h)
    exact RVd.nil
  | (k, d) :: kvs, xs, h => by
    obtain ⟨q0, y, ys, e, h1, h2, h3⟩ := h
    subst e
    have ih := RVd.drop (q := q) h3
    have hk := RV_key h1
    unfold ddrop dropK at ih ⊢
    rw [List.filter_cons, List.filter_cons]
    by_cases hq : q0 = q
    · subst hq
      rw [if_neg (by simp [hk]), if_neg (by simp)]
      exact ih
    · rw [if_pos (by simp only [hk]; exact decide_eq_true fun z => hq (Option.some.inj z)), if_pos (by simpa using hq)]
      exact ⟨q0, y, _, rfl, h1, h2, ih⟩
def clrOf : D → Option D
  | .dic _ => some (.dic [])
  | _ => none
def dropOf (c k : D) : Option D := match c with
  | .dic kvs => (dkey k).bind fun q => if dhasK q kvs = true then some (.dic (ddrop q kvs)) else none
  | _ => none
/-- an object of number n becomes .. -/
def kMut (g : D → Option D) (ρ : Loc) (b : D) (s : Store) : SRes := match b with
  | .ref n => (match s[n]? with
    | some c => (match g c with
      | some c' => .nx ρ (s.set n c')
      | none => .bad)
    | none => .bad)
  | _ => .bad
def sClr (e : E) : S := fun ρ s => (e ρ s).to ρ (kMut clrOf ρ)
def sDel (e k : E) : S := fun ρ s => (e ρ s).to ρ fun b s => (k ρ s).to ρ fun j s => kMut (fun c => dropOf c (der s j)) ρ b s
def isDic : D → Bool
  | .dic _ => true
  | _ => false
def getD1 (c k : D) : Option D := match c with
  | .dic kvs => (dget kvs k).map fun o => o.getD .non
  | _ => none
def getD2 (c k x : D) : Option D := match c with
  | .dic kvs => (dget kvs k).map fun o => o.getD x
  | _ => none
def eGet1 (o k : E) : E := fun ρ s => (o ρ s).bind fun x s => if isDic (der s x) = true then (k ρ s).bind fun y s => Res.of (getD1 (der s x) (der s y)) s else .bad
def eGet2 (o k x : E) : E := fun ρ s => (o ρ s).bind fun b s => if isDic (der s b) = true then (k ρ s).bind fun y s => (x ρ s).bind fun z s => Res.of (getD2 (der s b) (der s y) z) s else .bad
section
variable {ρ : Loc} {s : Store} {N : Loc → Store → Prop} {R P : D → Store → Prop} {o k k2 : E}
theorem ws_clr {n : Nat} (h : Wp (o ρ s) fun b s => b = .ref n ∧ ∃ kvs, s[n]? = some (.dic kvs) ∧ N ρ (s.set n (.dic []))) : Ws (sClr o ρ s) N R := wp_to (wp_mono h fun b s ⟨e, kvs, e1, q⟩ => by
  subst e
  show Ws (match s[n]? with
    | some c => (match clrOf c with
      | some c' => .nx ρ (s.set n c')
      | none => .bad)
    | none => .bad) N R
  rw [e1]
  exact q)
theorem wp_get1 (h : Wp (o ρ s) fun x s => isDic (der s x) = true ∧ Wp (k ρ s) fun y s => ∃ r, getD1 (der s x) (der s y) = some r ∧ P r s) : Wp (eGet1 o k ρ s) P := by
  unfold eGet1
  rw [wp_bind]
  refine wp_mono h fun x s ⟨c, q⟩ => ?_
  rw [if_pos c, wp_bind]
  exact wp_mono q fun y s ⟨r, e, p⟩ => by rw [e]; exact p
theorem wp_get2 (h : Wp (o ρ s) fun x s => isDic (der s x) = true ∧ Wp (k ρ s) fun y s => Wp (k2 ρ s) fun z s => ∃ r, getD2 (der s x) (der s y) z = some r ∧ P r s) : Wp (eGet2 o k k2 ρ s) P := by
  unfold eGet2
  rw [wp_bind]
  refine wp_mono h fun x s ⟨c, q⟩ => ?_
  rw [if_pos c, wp_bind]
  refine wp_mono q fun y s q => ?_
  rw [wp_bind]
  exact wp_mono q fun z s ⟨r, e, p⟩ => by rw [e]; exact p
end
end Dn
namespace PySem.W
end PySem.W
namespace Dn
open PySem PySem.Spec L2
open PyProof.Rows hiding St RelV
def dneD (d e : D) : Option D := match d, e with
  | .dic a, .dic b => (deqo 60 (.dic a) (.dic b)).map fun x => .bl (!x)
  | d, e => cmpD .NotEq d e
def eNe2 (a b : E) : E := fun ρ s => (a ρ s).bind fun x s => (b ρ s).bind fun y s => Res.of (dneD (der s x) (der s y)) s
section
variable {ρ : Loc} {s : Store} {P : D → Store → Prop}
theorem wp_ne2 {a b : E} (h : Wp (a ρ s) fun x s => Wp (b ρ s) fun y s => ∃ r, dneD (der s x) (der s y) = some r ∧ P r s) : Wp (eNe2 a b ρ s) P := by
  unfold eNe2
  rw [wp_bind]
  refine wp_mono h fun x s q => ?_
  rw [wp_bind]
  exact wp_mono q fun y s ⟨r, e, p⟩ => by rw [e]; exact p
theorem wp_con {f : Str} {T : List (String × D)} {o : E} (h : Wp (o ρ s) fun x s => ∃ r, conOf f T (der s x) = some r ∧ P r s) : Wp (eCon f T o ρ s) P := by
  unfold eCon
  rw [wp_bind]
  exact wp_mono h fun x s ⟨r, e, p⟩ => by rw [e]; exact p
theorem wp_prop {L : Disp} {o : E} (h : Wp (o ρ s) fun x s => ∃ g, getOf L (der s x) = some g ∧ Wp (g [x] s) P) : Wp (eProp L o ρ s) P := by
  unfold eProp
  rw [wp_bind]
  refine wp_mono h fun x s ⟨g, e, q⟩ => ?_
  rw [e]
  show Wp (noX (g [x] s)) P
  cases hr : g [x] s with
  | ok d s => rw [hr] at q; exact q
  | ex C fs s => rw [hr] at q; exact q.elim
  | bad => rw [hr] at q; exact q.elim
end
end Dn
namespace Dn
open PySem PySem.Spec L2
open PyProof.Rows hiding St RelV
section
variable {P : D → Store → Prop} {N : Loc → Store → Prop} {R : D → Store → Prop} {ρ : Loc} {s : Store}
theorem wp_enot {a : E} (h : Wp (a ρ s) fun x s => ∃ b : Bool, x = .bl b ∧ P (.bl (!b)) s) : Wp (eNot a ρ s) P := by
  unfold eNot
  rw [wp_bind]
  exact wp_mono h fun x s ⟨b, e, p⟩ => by subst e; exact p
theorem ws_put {e o i : E} (h : Wp (e ρ s) fun d s => Wp (o ρ s) fun b s => Wp (i ρ s) fun j s => ∃ n c c', b = .ref n ∧ s[n]? = some c ∧ putIx c (der s j) d = some c' ∧ N ρ (s.set n c')) : Ws (sPut e o i ρ s) N R := by
  refine wp_to (wp_mono h fun d s q => wp_to (wp_mono q fun b s q1 => wp_to (wp_mono q1 fun j s ⟨n, c, c', e1, e2, e3, q2⟩ => ?_)))
  rw [e1]
  dsimp only
  rw [e2]
  dsimp only
  rw [e3]
  exact q2
theorem wp_new {m : E} (h : Wp (m ρ s) fun d s => P (.ref s.length) (s ++ [d])) : Wp (eNew m ρ s) P := by
  unfold eNew
  rw [wp_bind]
  exact h
theorem wp_callK {nk : Nat} {m : M} {a b : EL} (h : Wp (a ρ s) fun ds s => Wp (b ρ s) fun es s => es.length = nk ∧ Wp (m (ds ++ es) s) P) : Wp (eCallK nk m a b ρ s) P := by
  unfold eCallK
  rw [wp_bind]
  refine wp_mono h fun ds s q => ?_
  rw [wp_bind]
  exact wp_mono q fun es s ⟨e, q⟩ => by rw [if_pos e]; exact q
end
theorem SrcB.app {s t : Store} {n k : Nat} (h : SrcB s n k) : SrcB (s ++ t) n k := by
  obtain ⟨g, m, c, h1, h2, h3, h4, h5, h6⟩ := h
  exact ⟨g, m, c, h1, h2, h3, h4, h5, by rw [List.getElem?_append_left (List.getElem?_eq_some_iff.mp h6).1]; exact h6⟩
theorem SrcB.set {s : Store} {n k m : Nat} {d : D} (h : SrcB s n k) (ne : m ≠ n) : SrcB (s.set m d) n k := by
  obtain ⟨g, mm, c, h1, h2, h3, h4, h5, h6⟩ := h
  exact ⟨g, mm, c, h1, h2, h3, h4, h5, by rw [List.getElem?_set_ne ne]; exact h6⟩
theorem SrcB.lt {s : Store} {n k : Nat} (h : SrcB s n k) : n < s.length := by
  obtain ⟨g, m, c, h1, h2, h3, h4, h5, h6⟩ := h
  exact (List.getElem?_eq_some_iff.mp h6).1
def Val (d : D) : Prop := d = .non ∨ ∃ i : Int, d = .int i
abbrev sd (ps : List (Str × D)) : List (D × D) := ps.map fun p => (.str p.1, p.2)
/-- cells: distinct names, integers or None -/
structure Cells (ps : List (Str × D)) : Prop where
  nd : (ps.map (·.1)).Nodup
  val : ∀ p ∈ ps, Val p.2
theorem keys_sd (ps : List (Str × D)) : keysD (.dic (sd ps)) = some (.lst ((ps.map (·.1)).map .str)) := by
  show some (D.lst _) = _
  rw [List.map_map, List.map_map]
  rfl
theorem strs_okq (ss : List Str) (n : Nat) : (ss.map D.str).all (okq n) = true := by
  rw [List.all_map, List.all_eq_true]
  intro x _
  cases n <;> rfl
end Dn
namespace Dn
open PySem PySem.Spec L2
open PyProof.Rows hiding St RelV
def kOwn (T : List (String × M)) (x : D) (ds : List D) (s : Store) : Res D := match der s x with
  | .obj C _ => (match T.lookup C with
    | some m => m (x :: ds) s
    | none => .bad)
  | _ => .bad
def toBool (neg : Bool) (r : D) (s : Store) : Res D := match r with
  | .bl b => .ok (.bl (b != neg)) s
  | _ => .bad
def lenBack (r : D) (s : Store) : Res D := match r with
  | .int i => if 0 ≤ i ∧ i < 1000000000 then .ok (.int i) s else .bad
  | _ => .bad
def eInO (neg : Bool) (T : List (String × M)) (a b : E) : E := fun ρ s => (a ρ s).bind fun x s => (b ρ s).bind fun y s => (kOwn T y [x] s).bind (toBool neg)
def eIxO (T : List (String × M)) (a b : E) : E := fun ρ s => (a ρ s).bind fun x s => (b ρ s).bind fun y s => kOwn T x [y] s
def lenK (T : List (String × M)) (xs : List D) (s : Store) : Res D := match xs with
  | [x] => (kOwn T x [] s).bind lenBack
  | _ => .bad
def eLenO (T : List (String × M)) (a : E) : E := fun ρ s => (eCons a eNil ρ s).bind (lenK T)
end Dn
namespace Dn
open PySem PySem.Spec L2
open PyProof.Rows hiding St RelV
def sBad : S := fun _ _ => .bad
theorem ss_bad {X : Cx} {W : WX} {n : Stmt} : SS X W n sBad := ⟨fun pins s σ H Q I ⟨_, _, _, _, _, _, h⟩ => h.elim⟩
section
variable {X : Cx} {W : WX} {e o : Expr} {me mo : E} {f : Str} {L : List String} {pos pos' : Pos}
def sFldR (L : List String) (f : Str) (e o : E) : S := fun ρ s => (e ρ s).to ρ fun d s => (o ρ s).to ρ fun b s => match b with
  | .ref n => (match s[n]? with
    | some (.obj C fs) => if C ∈ L ∧ fs.length < 1000 then .nx ρ (s.set n (.obj C (putD f d fs))) else .bad
    | _ => .bad)
  | _ => .bad
end
def eMethK (nk : Nat) (L : Disp) (m : Str) (o : E) (a b : EL) : E := fun ρ s => (o ρ s).bind fun x s => match methOf L m (der s x) with
  | some g => (a ρ s).bind fun ds s => (b ρ s).bind fun es s => if es.length = nk then g (x :: ds ++ es) s else .bad
  | none => .bad
def zipD : List D → List D → List D
  | a :: as, b :: bs => .tup [a, b] :: zipD as bs
  | _, _ => []
theorem zipD_get : ∀ (as bs : List D) (i : Nat), (zipD as bs)[i]? = (as[i]?).bind fun a => (bs[i]?).map fun b => .tup [a, b]
  | [], bs, i => by simp [zipD]
  | a :: as, [], i => by cases h : (a :: as)[i]? <;> simp [zipD]
  | a :: as, b :: bs, 0 => by simp [zipD]
  | a :: as, b :: bs, i + 1 => by
    show (zipD as bs)[i]? = _
    rw [zipD_get as bs i]
    simp
theorem zipD_len : ∀ (as bs : List D), (zipD as bs).length ≤ as.length ∧ (zipD as bs).length ≤ bs.length ∧ (as.length ≤ (zipD as bs).length ∨ bs.length ≤ (zipD as bs).length)
  | [], bs => by simp [zipD]
  | a :: as, [] => by simp [zipD]
  | a :: as, b :: bs => by
    obtain ⟨h1, h2, h3⟩ := zipD_len as bs
    simp only [zipD, List.length_cons]
    omega
def zipK (ds : List D) (s : Store) : Res (List D) := match ds with
  | [.lst a, .lst b] => .ok (zipD a b) s
  | [.tup a, .tup b] => .ok (zipD a b) s
  | _ => .bad
def iZip (a : EL) : EI := fun ρ s => (a ρ s).bind zipK
section
variable {K : PySem.W.Frag} {F : Addr → Prop} {H0 : Hp} {μ0 : Mu} {a b : Addr} {ds es : List D}
theorem walks_zipL (h : ∀ H μ F2, Kp H0 μ0 F H μ F2 → ∃ xs, SqL K H a xs ∧ RVs K H μ F2 ds xs) (h' : ∀ H μ F2, Kp H0 μ0 F H μ F2 → ∃ xs, SqL K H b xs ∧ RVs K H μ F2 es xs) : Walks K F H0 μ0 (Itz K a b) (zipD ds es) where
  go := fun i d H μ F2 st e kp rs => by
    obtain ⟨xs, q, r⟩ := h H μ F2 kp
    obtain ⟨ys, q', r'⟩ := h' H μ F2 kp
    rw [zipD_get] at e
    obtain ⟨c, e1, e2⟩ := Option.bind_eq_some_iff.mp e
    obtain ⟨c', e3, e4⟩ := Option.map_eq_some_iff.mp e2
    subst e4
    obtain ⟨v, g1, rv⟩ := r.get e1
    obtain ⟨v', g2, rv'⟩ := r'.get e3
    refine ⟨⟨xs, ys, v, v', q, q', g1, g2⟩, fun x H2 hy => ?_⟩
    obtain ⟨T, y, y', rfl, hT, rfl, hy, hy'⟩ := hy
    have hy := hy xs q
    rw [g1] at hy; cases hy
    have hy' := hy' ys q'
    rw [g2] at hy'; cases hy'
    exact ⟨rs.new hT, .new hT, rs.newT hT (RVs.cons rv (RVs.cons rv' RVs.nil))⟩
  stop := fun i H μ F2 hl kp => by
    obtain ⟨xs, q, r⟩ := h H μ F2 kp
    obtain ⟨ys, q', r'⟩ := h' H μ F2 kp
    obtain ⟨z1, z2, z3⟩ := zipD_len ds es
    refine ⟨xs, ys, q, q', ?_⟩
    rw [r.length, r'.length]
    omega
theorem walks_zipT (h : ∀ H μ F2, Kp H0 μ0 F H μ F2 → ∃ xs, SqT K H a xs ∧ RVs K H μ F2 ds xs) (h' : ∀ H μ F2, Kp H0 μ0 F H μ F2 → ∃ xs, SqT K H b xs ∧ RVs K H μ F2 es xs) : Walks K F H0 μ0 (RZ.ItzT K a b) (zipD ds es) where
  go := fun i d H μ F2 st e kp rs => by
    obtain ⟨xs, q, r⟩ := h H μ F2 kp
    obtain ⟨ys, q', r'⟩ := h' H μ F2 kp
    rw [zipD_get] at e
    obtain ⟨c, e1, e2⟩ := Option.bind_eq_some_iff.mp e
    obtain ⟨c', e3, e4⟩ := Option.map_eq_some_iff.mp e2
    subst e4
    obtain ⟨v, g1, rv⟩ := r.get e1
    obtain ⟨v', g2, rv'⟩ := r'.get e3
    refine ⟨⟨xs, ys, v, v', q, q', g1, g2⟩, fun x H2 hy => ?_⟩
    obtain ⟨T, y, y', rfl, hT, rfl, hy, hy'⟩ := hy
    have hy := hy xs q
    rw [g1] at hy; cases hy
    have hy' := hy' ys q'
    rw [g2] at hy'; cases hy'
    exact ⟨rs.new hT, .new hT, rs.newT hT (RVs.cons rv (RVs.cons rv' RVs.nil))⟩
  stop := fun i H μ F2 hl kp => by
    obtain ⟨xs, q, r⟩ := h H μ F2 kp
    obtain ⟨ys, q', r'⟩ := h' H μ F2 kp
    obtain ⟨z1, z2, z3⟩ := zipD_len ds es
    refine ⟨xs, ys, q, q', ?_⟩
    rw [r.length, r'.length]
    omega
end
section
variable {X : Cx} {W : WX} {e e2 : Expr} {elts : List Expr} {kk : Nat} {tpos p pos : Pos} {ml : EL}
theorem si_zip (hg : Gl X "zip") (hm : X.mg "zip" = none) (ha : SA X W [e, e2] ml) (hs : starEach [e, e2] X.env = (false, eval e X.env) :: starEach [e2] X.env := by rfl) (hpl : (backTo pos (starEach [e2] X.env)).any (·.1) = false := by rfl) :
    SI X W (.Tuple elts kk tpos) (.Call (.Name "zip" p) [e, e2] [] pos) (Dn.iZip ml) := PI.of (RZ.pi_zipA hg hm ha hs hpl) fun σ H R ⟨ρ, μ, F, G, st, a, h⟩ => by
  refine tG_at (k := zipK) a h fun xs H1 μ1 st1 ds a1 f1 r1 h1 => ?_
  unfold zipK at h1
  have kp1 : Kp H1 μ1 F H1 μ1 F := ⟨fun _ _ h n nf => ⟨h, n, nf⟩, fun _ _ h => h⟩
  split at h1
  · rename_i as bs
    simp only [RVs] at r1
    obtain ⟨v, ys, e1, r1, w, zs, e2, r2, e3⟩ := r1
    subst e1 e2 e3
    unfold RV at r1 r2
    obtain ⟨b, xs, e2, q1, q2⟩ := r1
    obtain ⟨b', xs', e2', q1', q2'⟩ := r2
    subst e2 e2'
    have k1 : ∀ H μ F2, Kp H1 μ1 F H μ F2 → ∃ xs, SqL X.K H b xs ∧ RVs X.K H μ F2 as xs := fun H μ F2 kp => ⟨xs, .inl (.inl (kp.pure b _ q1.1 q1.2.1 q1.2.2).1), RVs.kp kp q2⟩
    have k2 : ∀ H μ F2, Kp H1 μ1 F H μ F2 → ∃ xs, SqL X.K H b' xs ∧ RVs X.K H μ F2 bs xs := fun H μ F2 kp => ⟨xs', .inl (.inl (kp.pure b' _ q1'.1 q1'.2.1 q1'.2.2).1), RVs.kp kp q2'⟩
    exact ⟨b, b', xs, xs', rfl, .inl ⟨.inl (.inl q1.1), .inl (.inl q1'.1), h1 _ H1 μ1 .refl a1.s (walks_zipL k1 k2)⟩⟩
  · rename_i as bs
    simp only [RVs] at r1
    obtain ⟨v, ys, e1, r1, w, zs, e2, r2, e3⟩ := r1
    subst e1 e2 e3
    unfold RV at r1 r2
    obtain ⟨b, xs, e2, q1, q2⟩ := r1
    obtain ⟨b', xs', e2', q1', q2'⟩ := r2
    subst e2 e2'
    have key : ∀ {c : Addr} {zs : List V}, ((H1 c = some (.tup zs) ∧ c ∉ μ1 ∧ ¬ F c) ∨ KTup X.K c zs) → ∀ H μ F2, Kp H1 μ1 F H μ F2 → SqT X.K H c zs := fun {c zs} h H μ F2 kp => by
      rcases h with ⟨h1, h2, h3⟩ | h
      · exact .inl (.inl (kp.pure c _ h1 h2 h3).1)
      · exact .inr h
    have k1 : ∀ H μ F2, Kp H1 μ1 F H μ F2 → ∃ xs, SqT X.K H b xs ∧ RVs X.K H μ F2 as xs := fun H μ F2 kp => ⟨xs, key q1 H μ F2 kp, RVs.kp kp q2⟩
    have k2 : ∀ H μ F2, Kp H1 μ1 F H μ F2 → ∃ xs, SqT X.K H b' xs ∧ RVs X.K H μ F2 bs xs := fun H μ F2 kp => ⟨xs', key q1' H μ F2 kp, RVs.kp kp q2'⟩
    exact ⟨b, b', xs, xs', rfl, .inr ⟨key q1 _ _ _ kp1, key q1' _ _ _ kp1, h1 _ H1 μ1 .refl a1.s (walks_zipT k1 k2)⟩⟩
  · exact h1.elim
end
end Dn
namespace Dn
open PySem PySem.Spec L2
open PyProof.Rows hiding St RelV
section
variable {P : D → Store → Prop} {PL : List D → Store → Prop} {N : Loc → Store → Prop} {R : D → Store → Prop} {ρ : Loc} {s : Store}
theorem wp_iTp {e : E} (h : Wp (e ρ s) fun d s => ∃ ds, d = .tup ds ∧ PL ds s) : Wp (iTp e ρ s) PL := by
  unfold iTp
  rw [wp_bind]
  exact wp_mono h fun d s ⟨ds, e, p⟩ => by subst e; exact p
theorem wp_iZip {a : EL} (h : Wp (a ρ s) fun ds s => ∃ as bs, (ds = [.lst as, .lst bs] ∨ ds = [.tup as, .tup bs]) ∧ PL (zipD as bs) s) : Wp (iZip a ρ s) PL := by
  unfold iZip
  rw [wp_bind]
  exact wp_mono h fun ds s ⟨as, bs, e, p⟩ => by rcases e with rfl | rfl <;> exact p
theorem ws_fldR {L : List String} {f : Str} {e o : E} (h : Wp (e ρ s) fun d s => Wp (o ρ s) fun b s => ∃ n C fs, b = .ref n ∧ s[n]? = some (.obj C fs) ∧ (C ∈ L ∧ fs.length < 1000) ∧ N ρ (s.set n (.obj C (putD f d fs)))) : Ws (sFldR L f e o ρ s) N R := by
  refine wp_to (wp_mono h fun d s q => wp_to (wp_mono q fun b s ⟨n, C, fs, e1, e2, e3, q⟩ => ?_))
  subst e1
  dsimp only
  rw [e2]
  dsimp only
  rw [if_pos e3]
  exact q
theorem ws_del {e k : E} (h : Wp (e ρ s) fun b s => Wp (k ρ s) fun j s => ∃ n c c', b = .ref n ∧ s[n]? = some c ∧ dropOf c (der s j) = some c' ∧ N ρ (s.set n c')) : Ws (sDel e k ρ s) N R := by
  refine wp_to (wp_mono h fun b s q => wp_to (wp_mono q fun j s ⟨n, c, c', e1, e2, e3, p⟩ => ?_))
  subst e1
  unfold kMut
  dsimp only
  rw [e2]
  dsimp only
  rw [e3]
  exact p
theorem wp_meth {L : Disp} {m : Str} {o : E} {a : EL} (h : Wp (o ρ s) fun x s => ∃ g, methOf L m (der s x) = some g ∧ Wp (a ρ s) fun ds s => Wp (g (x :: ds) s) P) : Wp (eMeth L m o a ρ s) P := by
  unfold eMeth
  rw [wp_bind]
  refine wp_mono h fun x s ⟨g, e, q⟩ => ?_
  rw [e]
  show Wp ((a ρ s).bind fun ds s => g (x :: ds) s) P
  rw [wp_bind]
  exact q
theorem wp_methK {nk : Nat} {L : Disp} {m : Str} {o : E} {a b : EL} (h : Wp (o ρ s) fun x s => ∃ g, methOf L m (der s x) = some g ∧ Wp (a ρ s) fun ds s => Wp (b ρ s) fun es s => es.length = nk ∧ Wp (g (x :: ds ++ es) s) P) : Wp (eMethK nk L m o a b ρ s) P := by
  unfold eMethK
  rw [wp_bind]
  refine wp_mono h fun x s ⟨g, e, q⟩ => ?_
  rw [e]
  show Wp ((a ρ s).bind fun ds s => (b ρ s).bind fun es s => if es.length = nk then g (x :: ds ++ es) s else .bad) P
  rw [wp_bind]
  refine wp_mono q fun ds s q => ?_
  rw [wp_bind]
  exact wp_mono q fun es s ⟨e, q⟩ => by rw [if_pos e]; exact q
theorem wp_inO {neg : Bool} {T : List (String × M)} {a b : E} (h : Wp (a ρ s) fun x s => Wp (b ρ s) fun y s => Wp (kOwn T y [x] s) fun r s => ∃ t : Bool, r = .bl t ∧ P (.bl (t != neg)) s) : Wp (eInO neg T a b ρ s) P := by
  unfold eInO
  rw [wp_bind]
  refine wp_mono h fun x s q => ?_
  rw [wp_bind]
  refine wp_mono q fun y s q => ?_
  rw [wp_bind]
  exact wp_mono q fun r s ⟨t, e, p⟩ => by subst e; exact p
theorem wp_ixO {T : List (String × M)} {a b : E} (h : Wp (a ρ s) fun x s => Wp (b ρ s) fun y s => Wp (kOwn T x [y] s) P) : Wp (eIxO T a b ρ s) P := by
  unfold eIxO
  rw [wp_bind]
  refine wp_mono h fun x s q => ?_
  rw [wp_bind]
  exact q
end
section
variable {α : Type} {enc : α → D}
abbrev ld (enc : α → D) (L : List (Int × α)) : List (D × D) := L.map fun x => (.int x.1, enc x.2)
def lput (k : Int) (a : α) (L : List (Int × α)) : List (Int × α) := if k ∈ L.map (·.1) then L.map (fun x => if x.1 = k then (x.1, a) else x) else L ++ [(k, a)]
def lget (k : Int) : List (Int × α) → Option α
  | [] => none
  | (j, a) :: r => if j = k then some a else lget k r
theorem ld_get (k : Int) : ∀ L : List (Int × α), dgetK (.inl k) (ld enc L) = (lget k L).map enc
  | [] => rfl
  | (j, a) :: r => by
    have ih := ld_get k r
    by_cases h : j = k
    · subst h
      simp [dgetK, dkey, lget]
    · show (if some (Sum.inl j : Key) = some (Sum.inl k) then some (enc a) else dgetK (.inl k) (ld enc r)) = Option.map enc (if j = k then some a else lget k r)
      rw [if_neg (fun e => h (by injection e with e; injection e)), if_neg h]
      exact ih
theorem lget_none {k : Int} : ∀ {L : List (Int × α)}, lget k L = none ↔ k ∉ L.map (·.1)
  | [] => by simp [lget]
  | (j, a) :: r => by
    have ih := lget_none (k := k) (L := r)
    by_cases h : j = k
    · subst h; simp [lget]
    · have h' : ¬ k = j := fun e => h e.symm
      simp only [lget, if_neg h, List.map_cons, List.mem_cons, not_or]
      rw [ih]
      exact ⟨fun z => ⟨h', z⟩, fun z => z.2⟩
theorem lget_some {k : Int} {L : List (Int × α)} (h : k ∈ L.map (·.1)) : ∃ a, lget k L = some a := by
  cases e : lget k L with
  | none => exact absurd h (lget_none.mp e)
  | some a => exact ⟨a, rfl⟩
theorem ld_in (k : Int) (L : List (Int × α)) : cmpD .In (.int k) (.dic (ld enc L)) = some (.bl (lget k L).isSome) := by
  show (dget (ld enc L) (.int k)).map (fun o => D.bl o.isSome) = _
  show some (D.bl (dgetK (.inl k) (ld enc L)).isSome) = _
  rw [ld_get, Option.isSome_map]
theorem ld_notin (k : Int) (L : List (Int × α)) : cmpD .NotIn (.int k) (.dic (ld enc L)) = some (.bl (!(lget k L).isSome)) := by
  show some (D.bl (!(dgetK (.inl k) (ld enc L)).isSome)) = _
  rw [ld_get, Option.isSome_map]
theorem lput_keys (k : Int) (a : α) (L : List (Int × α)) : (lput k a L).map (·.1) = if k ∈ L.map (·.1) then L.map (·.1) else L.map (·.1) ++ [k] := by
  unfold lput
  by_cases h : k ∈ L.map (·.1)
  · rw [if_pos h, if_pos h, List.map_map]
    apply List.map_congr_left
    intro x _
    simp only [Function.comp]
    split <;> rfl
  · rw [if_neg h, if_neg h, List.map_append]
    rfl
theorem lput_nodup {k : Int} {a : α} {L : List (Int × α)} (h : (L.map (·.1)).Nodup) : ((lput k a L).map (·.1)).Nodup := by
  rw [lput_keys]
  split
  · exact h
  · rename_i hk
    rw [List.nodup_append]
    exact ⟨h, by simp, fun x hx y hy e => hk (by rw [List.mem_singleton] at hy; rw [← hy, ← e]; exact hx)⟩
theorem lget_app (k : Int) (L M : List (Int × α)) : lget k (L ++ M) = (lget k L).or (lget k M) := by
  induction L with
  | nil => rfl
  | cons x r ih =>
    obtain ⟨j, b⟩ := x
    simp only [List.cons_append, lget]
    split
    · rfl
    · exact ih
theorem lget_lput (k j : Int) (a : α) (L : List (Int × α)) : lget j (lput k a L) = if j = k then some a else lget j L := by
  unfold lput
  by_cases h : k ∈ L.map (·.1)
  · rw [if_pos h]
    induction L with
    | nil => cases h
    | cons x r ih =>
      obtain ⟨i, b⟩ := x
      rw [List.map_cons]
      by_cases e : i = k
      · subst e
        simp only [if_true, lget]
        by_cases e2 : j = i
        · subst e2
          simp
        · have e3 : ¬ i = j := fun z => e2 z.symm
          rw [if_neg e3, if_neg e2, if_neg e3]
          by_cases h2 : i ∈ r.map (·.1)
          · rw [ih h2, if_neg e2]
          · have : r.map (fun x => if x.1 = i then (x.1, a) else x) = r := by
              conv => rhs; rw [← List.map_id r]
              apply List.map_congr_left
              intro x hx
              rw [if_neg (fun z => h2 (by rw [← z]; exact List.mem_map.mpr ⟨x, hx, rfl⟩))]
              rfl
            rw [this]
      · have h2 : k ∈ r.map (·.1) := by
          rw [List.map_cons, List.mem_cons] at h
          exact h.resolve_left fun z => e z.symm
        dsimp only
        rw [if_neg e]
        simp only [lget]
        by_cases e2 : i = j
        · subst e2
          rw [if_pos rfl, if_pos rfl, if_neg e]
        · rw [if_neg e2, if_neg e2]
          exact ih h2
  · rw [if_neg h, lget_app]
    by_cases e : j = k
    · subst e
      rw [if_pos rfl, lget_none.mpr h]
      simp [lget]
    · have e3 : ¬ k = j := fun z => e z.symm
      rw [if_neg e]
      show (lget j L).or (if k = j then some a else none) = _
      rw [if_neg e3, Option.or_none]
/-- the pairs sorted by their keys -/
def lsort (L : List (Int × α)) : List (Int × α) := (sortI (L.map (·.1))).filterMap fun k => (lget k L).map fun a => (k, a)
theorem lget_fm (f : Int → Option α) (x : Int) : ∀ ks : List Int, lget x (ks.filterMap fun k => (f k).map fun a => (k, a)) = if x ∈ ks then f x else none
  | [] => rfl
  | k :: r => by
    have ih := lget_fm f x r
    rw [List.filterMap_cons]
    cases e : f k with
    | none =>
      simp only [Option.map_none]
      rw [ih]
      by_cases h : x = k
      · subst h
        rw [if_pos List.mem_cons_self, e]
        split <;> first | rfl | exact e
      · have : x ∈ k :: r ↔ x ∈ r := by rw [List.mem_cons]; exact ⟨fun z => z.resolve_left h, .inr⟩
        by_cases h2 : x ∈ r
        · rw [if_pos h2, if_pos (this.mpr h2)]
        · rw [if_neg h2, if_neg (fun z => h2 (this.mp z))]
    | some a =>
      simp only [Option.map_some, lget]
      by_cases h : k = x
      · subst h
        rw [if_pos rfl, if_pos List.mem_cons_self, e]
      · rw [if_neg h, ih]
        have : x ∈ k :: r ↔ x ∈ r := by rw [List.mem_cons]; exact ⟨fun z => z.resolve_left fun w => h w.symm, .inr⟩
        by_cases h2 : x ∈ r
        · rw [if_pos h2, if_pos (this.mpr h2)]
        · rw [if_neg h2, if_neg (fun z => h2 (this.mp z))]
theorem lget_lsort (k : Int) (L : List (Int × α)) : lget k (lsort L) = lget k L := by
  unfold lsort
  rw [lget_fm]
  by_cases h : k ∈ sortI (L.map (·.1))
  · rw [if_pos h]
  · rw [if_neg h]
    exact (lget_none.mpr fun z => h ((sortI_perm _).mem_iff.mpr z)).symm
theorem fm_keys (f : Int → Option α) : ∀ ks : List Int, (∀ k ∈ ks, ∃ a, f k = some a) → (ks.filterMap fun k => (f k).map fun a => (k, a)).map (·.1) = ks
  | [], _ => rfl
  | k :: r, h => by
    obtain ⟨a, e⟩ := h k List.mem_cons_self
    rw [List.filterMap_cons, e]
    simp only [Option.map_some, List.map_cons]
    rw [fm_keys f r fun j hj => h j (List.mem_cons_of_mem _ hj)]
theorem lsort_keys (L : List (Int × α)) : (lsort L).map (·.1) = sortI (L.map (·.1)) := fm_keys _ _ fun k hk => lget_some ((sortI_perm _).mem_iff.mp hk)
theorem lsort_nodup {L : List (Int × α)} (h : (L.map (·.1)).Nodup) : ((lsort L).map (·.1)).Nodup := by
  rw [lsort_keys]
  exact (sortI_perm _).nodup_iff.mpr h
theorem lsort_len {L : List (Int × α)} : (lsort L).length = L.length := by
  have := congrArg List.length (lsort_keys L)
  rw [List.length_map, (sortI_perm _).length_eq, List.length_map] at this
  exact this
theorem keys_ld (L : List (Int × α)) : keysD (.dic (ld enc L)) = some (.lst ((L.map (·.1)).map .int)) := by
  show some (D.lst _) = _
  rw [List.map_map, List.map_map]
  rfl
theorem intsOf_ints (ns : List Int) : intsOf (ns.map .int) = some ns := by
  induction ns with
  | nil => rfl
  | cons x r ih => simp only [List.map_cons, intsOf, ih, Option.map_some]
theorem sort_ints (ns : List Int) : gSort [.lst (ns.map .int)] = some (.lst ((sortI ns).map .int)) := by
  show sortOf (ns.map .int) = _
  unfold sortOf
  rw [intsOf_ints]
/-- one key less -/
def ldel (k : Int) (L : List (Int × α)) : List (Int × α) := L.filter fun x => !decide (x.1 = k)
theorem ldel_nodup {k : Int} {L : List (Int × α)} (h : (L.map (·.1)).Nodup) : ((ldel k L).map (·.1)).Nodup := h.sublist (List.filter_sublist.map _)
theorem lget_ldel (k j : Int) (L : List (Int × α)) : lget j (ldel k L) = if j = k then none else lget j L := by
  induction L with
  | nil => simp [ldel, lget]
  | cons x r ih =>
    obtain ⟨i, b⟩ := x
    unfold ldel at ih ⊢
    rw [List.filter_cons]
    by_cases e : i = k
    · subst e
      simp only [decide_true, Bool.not_true, Bool.false_eq_true, if_false, lget]
      rw [ih]
      by_cases e2 : j = i
      · rw [if_pos e2, if_pos e2]
      · rw [if_neg e2, if_neg e2, if_neg (fun z => e2 z.symm)]
    · simp only [e, decide_false, Bool.not_false, if_true, lget]
      rw [ih]
      by_cases e2 : i = j
      · subst e2
        rw [if_pos rfl, if_neg e]
        simp
      · rw [if_neg e2]
        by_cases e3 : j = k
        · rw [if_pos e3, if_pos e3]
        · rw [if_neg e3, if_neg e3, if_neg e2]
end
end Dn
namespace Dn
open PySem PySem.Spec L2
open PyProof.Rows hiding St RelV
inductive Deed | put | change | take
deriving DecidableEq
def Deed.str : Deed → Str
  | .put => "put"
  | .change => "change"
  | .take => "take"
abbrev Cs := List (Str × D)
inductive Pre | stop | keep | replace | merge
deriving DecidableEq
inductive Lac | stop | skip | make
deriving DecidableEq
inductive Gon | stop | skip
deriving DecidableEq
inductive Sha | one | all
deriving DecidableEq
def Pre.str : Pre → Str
  | .stop => "stop" | .keep => "keep" | .replace => "replace" | .merge => "merge"
def Lac.str : Lac → Str
  | .stop => "stop" | .skip => "skip" | .make => "make"
def Gon.str : Gon → Str
  | .stop => "stop" | .skip => "skip"
def Sha.str : Sha → Str
  | .one => "one" | .all => "all"
structure Hb where
  p : Pre
  l : Lac
  g : Gon
  s : Sha
def Hb.d (h : Hb) : D := .obj "Habits" [("present", .str h.p.str), ("lacking", .str h.l.str), ("gone", .str h.g.str), ("shared", .str h.s.str)]
abbrev Pc := Cs × List Int
def pcD (p : Pc) : D := .tup [.dic (sd p.1), .tup (p.2.map .int)]
/-- a comprehension of some of the items; its parts leave the store -/
theorem wp_lcFil {α : Type} {as : List α} {emb f : α → D} {cond : α → Bool} {t : Tgt} {it : EI} {c : ET} {e : E} {vs : List Nat} {P : D → Store → Prop} {ρ : Loc} {s : Store}
    (h : Wp (it ρ s) fun ds s1 => s1 = s ∧ ds = as.map emb) (hl : as.length ≤ line)
    (hb : ∀ a ∈ as, ∃ ρ', setT t (emb a) (wipeL ρ vs) = some ρ' ∧ Wp (c ρ' s) fun b s1 => b = cond a ∧ s1 = s ∧ (cond a = true → Wp (e ρ' s1) fun x s2 => x = f a ∧ s2 = s))
    (hP : P (.lst ((as.filter cond).map f)) s) : Wp (eLc t it c e vs ρ s) P := by
  refine wp_lc (wp_mono h fun ds s1 ⟨e1, e2⟩ => ?_)
  subst e1 e2
  refine ⟨by rw [List.length_map]; exact hl, fun es acc s' => s' = s1 ∧ ∃ pre post, as = pre ++ post ∧ es = post.map emb ∧ acc = (pre.filter cond).map f, ⟨rfl, [], as, rfl, rfl, rfl⟩, ?_, ?_⟩
  · rintro d es acc s' ⟨rfl, pre, post, e1, e2, rfl⟩
    cases post with
    | nil => cases e2
    | cons a post =>
      rw [List.map_cons] at e2
      injection e2 with e3 e4
      subst e3 e4
      obtain ⟨ρ', q1, w⟩ := hb a (by rw [e1]; simp)
      refine ⟨ρ', q1, wp_mono w fun b s1 ⟨g1, g2, g3⟩ => ?_⟩
      subst g1 g2
      cases hc : cond a with
      | true =>
        rw [if_pos rfl]
        refine wp_mono (g3 hc) fun x s2 ⟨g4, g5⟩ => ⟨g5, pre ++ [a], post, by rw [e1]; simp, rfl, ?_⟩
        rw [g4, List.filter_append, List.map_append]
        simp [hc]
      | false =>
        rw [if_neg Bool.false_ne_true]
        exact ⟨rfl, pre ++ [a], post, by rw [e1]; simp, rfl, by rw [List.filter_append]; simp [hc]⟩
  · rintro xs s' ⟨rfl, pre, post, e1, e2, rfl⟩
    have : post = [] := by cases post with | nil => rfl | cons a r => cases e2
    subst this
    rw [List.append_nil] at e1
    subst e1
    exact hP
theorem eq_int (i j : Int) : cmpD .Eq (.int i) (.int j) = some (.bl (decide (i = j))) := by kernel_rfl
theorem ne_int (i j : Int) : cmpD .NotEq (.int i) (.int j) = some (.bl (!decide (i = j))) := by kernel_rfl
theorem any_ints (f : Int) (held : List Int) : ((held.map D.int).any fun y => deq y (.int f)) = decide (f ∈ held) := by
  rw [Bool.eq_iff_iff, List.any_map, List.any_eq_true, decide_eq_true_iff]
  constructor
  · rintro ⟨x, h1, h2⟩
    have : x = f := by simpa [deq] using h2
    rw [← this]; exact h1
  · intro h
    exact ⟨f, h, by simp [deq]⟩
theorem all_ints (held : List Int) : (held.map D.int).all (okq 60) = true := by
  rw [List.all_map, List.all_eq_true]
  intro x _
  rfl
theorem in_tups (f : Int) (held : List Int) : cmpD .In (.int f) (.tup (held.map .int)) = some (.bl (decide (f ∈ held))) := by
  show (if okq 60 (.int f) && (held.map D.int).all (okq 60) then some (D.bl ((held.map D.int).any fun y => deq y (.int f))) else none) = _
  rw [all_ints, any_ints]
  rfl
theorem notin_tups (f : Int) (held : List Int) : cmpD .NotIn (.int f) (.tup (held.map .int)) = some (.bl (!decide (f ∈ held))) := by
  show (if okq 60 (.int f) && (held.map D.int).all (okq 60) then some (D.bl (!(held.map D.int).any fun y => deq y (.int f))) else none) = _
  rw [all_ints, any_ints]
  rfl
theorem wp_getB {α : Type} {r : Res α} {a : α} {s : Store} (h : Wp r fun d s' => d = a ∧ s' = s) : r = .ok a s := by
  cases r with
  | ok d s' => obtain ⟨h1, h2⟩ := h; rw [h1, h2]
  | ex C fs s => exact h.elim
  | bad => exact h.elim
/-- a copy as it lies in the store -/
structure CopyAt (s : Store) (c p : Nat) (cols : List Str) (h : Hb) (L : List (Int × Pc)) : Prop where
  oc : s[c]? = some (.obj "Copy" [("columns", .tup (cols.map .str)), ("habits", h.d), ("places", .ref p)])
  op : s[p]? = some (.dic (ld pcD L))
  ne : c ≠ p
theorem CopyAt.fr {s s' : Store} {c p : Nat} {cols : List Str} {h : Hb} {L : List (Int × Pc)} (C : CopyAt s c p cols h L) (f : ∀ m, m < s.length → s'[m]? = s[m]?) : CopyAt s' c p cols h L :=
  ⟨(f c (List.getElem?_eq_some_iff.mp C.oc).1).trans C.oc, (f p (List.getElem?_eq_some_iff.mp C.op).1).trans C.op, C.ne⟩
/-- the places behind a message -/
def lset (k : Int) (q : Option Pc) (L : List (Int × Pc)) : List (Int × Pc) := match q with
  | some q => lsort (lput k q L)
  | none => if k ∈ L.map (·.1) then ldel k L else L
theorem lset_get (k j : Int) (q : Option Pc) (L : List (Int × Pc)) : lget j (lset k q L) = if j = k then q else lget j L := by
  unfold lset
  cases q with
  | some q => exact (lget_lsort _ _).trans (lget_lput _ _ _ _)
  | none =>
    dsimp only
    by_cases h : k ∈ L.map (·.1)
    · rw [if_pos h, lget_ldel]
    · rw [if_neg h]
      by_cases e : j = k
      · subst e
        rw [if_pos rfl, lget_none.mpr h]
      · rw [if_neg e]
theorem lset_nodup {k : Int} {q : Option Pc} {L : List (Int × Pc)} (h : (L.map (·.1)).Nodup) : ((lset k q L).map (·.1)).Nodup := by
  unfold lset
  cases q with
  | some q => exact lsort_nodup (lput_nodup h)
  | none =>
    dsimp only
    split
    · exact ldel_nodup h
    · exact h
theorem lput_len (k : Int) (q : Pc) (L : List (Int × Pc)) : (lput k q L).length ≤ L.length + 1 := by
  unfold lput
  split <;> simp
theorem lset_len (k : Int) (q : Option Pc) (L : List (Int × Pc)) : (lset k q L).length ≤ L.length + 1 := by
  unfold lset
  cases q with
  | some q =>
    dsimp only
    rw [lsort_len]
    exact lput_len k q L
  | none =>
    dsimp only
    split
    · exact Nat.le_trans (List.length_filter_le _ _) (Nat.le_succ _)
    · exact Nat.le_succ _
end Dn
namespace Dn
open PySem PySem.Spec L2
open PyProof.Rows hiding St RelV
def keysOfF (C : String) (F : Str) (s : Store) (x : D) : Option D := match der s x with
  | .obj C' fs => if C' = C then (fs.lookup F).bind fun p => keysD (der s p) else none
  | _ => none
def eListO (C : String) (F : Str) (a : E) : E := fun ρ s => (a ρ s).bind fun x s => Res.of (keysOfF C F s x) s
end Dn
namespace Dn
open PySem PySem.Spec L2
open PyProof.Rows hiding St RelV
section
variable {ρ : Loc} {s : Store} {N : Loc → Store → Prop} {R P : D → Store → Prop} {k e : E}
theorem wp_listO {C : String} {F : Str} (h : Wp (e ρ s) fun x s => ∃ r, keysOfF C F s x = some r ∧ P r s) : Wp (eListO C F e ρ s) P := by
  unfold eListO
  rw [wp_bind]
  exact wp_mono h fun x s ⟨r, e, p⟩ => by rw [e]; exact p
theorem wp_lenO {T : List (String × M)} (h : Wp (e ρ s) fun x s => Wp (kOwn T x [] s) fun r s => ∃ i : Int, r = .int i ∧ (0 ≤ i ∧ i < 1000000000) ∧ P (.int i) s) : Wp (eLenO T e ρ s) P := by
  unfold eLenO
  rw [wp_bind]
  refine wp_cons (wp_mono h fun x s q => ?_)
  refine wp_nil ?_
  show Wp ((kOwn T x [] s).bind lenBack) P
  rw [wp_bind]
  exact wp_mono q fun r s ⟨i, e, hi, p⟩ => by
    subst e
    show Wp (if 0 ≤ i ∧ i < 1000000000 then Res.ok (D.int i) s else .bad) P
    rw [if_pos hi]
    exact p
end
end Dn
namespace Dn
open PySem PySem.Spec L2
open PyProof.Rows hiding St RelV
def Wo {α : Type} (o : Option α) (P : α → Prop) : Prop := match o with
  | some a => P a
  | none => False
theorem wo_some {α : Type} {o : Option α} {a : α} {P : α → Prop} (e : o = some a) (h : P a) : Wo o P := by rw [e]; exact h
theorem wo_elim {α : Type} {o : Option α} {P : α → Prop} (h : Wo o P) : ∃ a, o = some a ∧ P a := by
  cases o with
  | none => exact h.elim
  | some a => exact ⟨a, rfl, h⟩
def Wb (d : D) (P : Bool → Prop) : Prop := match d with
  | .bl b => P b
  | _ => False
theorem wb_bl {b : Bool} {P : Bool → Prop} (h : P b) : Wb (.bl b) P := h
theorem wb_elim {d : D} {P : Bool → Prop} (h : Wb d P) : ∃ b, d = .bl b ∧ P b := by
  cases d with
  | bl b => exact ⟨b, rfl, h⟩
  | _ => exact h.elim
def Wl (d : D) (P : List D → Prop) : Prop := match d with
  | .lst ds => P ds
  | _ => False
theorem wl_lst {ds : List D} {P : List D → Prop} (h : P ds) : Wl (.lst ds) P := h
def Wt (d : D) (P : List D → Prop) : Prop := match d with
  | .tup ds => P ds
  | _ => False
theorem wt_tup {ds : List D} {P : List D → Prop} (h : P ds) : Wt (.tup ds) P := h
def Wi (d : D) (P : Int → Prop) : Prop := match d with
  | .int i => P i
  | _ => False
theorem wi_int {i : Int} {P : Int → Prop} (h : P i) : Wi (.int i) P := h
def Wstr (d : D) (P : Str → Prop) : Prop := match d with
  | .str z => P z
  | _ => False
theorem wstr {z : Str} {P : Str → Prop} (h : P z) : Wstr (.str z) P := h
/-- a length that is small -/
def Wn (n : Nat) (A : Prop) : Prop := n ≤ line ∧ A
theorem wn_of {n : Nat} {A : Prop} (h : n ≤ line) (a : A) : Wn n A := ⟨h, a⟩
/-- a condition that has to be shown -/
def Wc (c : Prop) (A : Prop) : Prop := c ∧ A
theorem wc_of {c A : Prop} (h : c) (a : A) : Wc c A := ⟨h, a⟩
section
variable {A B : Prop} {b : Bool} {p : Prop} [Decidable p]
theorem ifT (e : b = true) (h : A) : if b = true then A else B := by rw [if_pos e]; exact h
theorem ifF (e : b = false) (h : B) : if b = true then A else B := by rw [if_neg (by rw [e]; exact Bool.false_ne_true)]; exact h
theorem ifD (h1 : p → A) (h2 : ¬ p → B) : if decide p = true then A else B := by
  by_cases h : p
  · exact ifT (decide_eq_true h) (h1 h)
  · exact ifF (decide_eq_false h) (h2 h)
theorem ifND (h1 : ¬ p → A) (h2 : p → B) : if (!decide p) = true then A else B := by
  by_cases h : p
  · exact ifF (by rw [decide_eq_true h]; rfl) (h2 h)
  · exact ifT (by rw [decide_eq_false h]; rfl) (h1 h)
theorem ifDT (h : p) (a : A) : if decide p = true then A else B := ifT (decide_eq_true h) a
theorem ifDF (h : ¬ p) (a : B) : if decide p = true then A else B := ifF (decide_eq_false h) a
theorem ifNDT (h : ¬ p) (a : A) : if (!decide p) = true then A else B := ifT (by rw [decide_eq_false h]; rfl) a
theorem ifNDF (h : p) (a : B) : if (!decide p) = true then A else B := ifF (by rw [decide_eq_true h]; rfl) a
theorem ifNN (h : if b = true then A else B) : if (!(!b)) = true then A else B := by rw [Bool.not_not]; exact h
end
section
variable {P : D → Store → Prop} {PL : List D → Store → Prop} {PB : Bool → Store → Prop} {N : Loc → Store → Prop} {R : D → Store → Prop} {ρ : Loc} {s : Store}
theorem wq_tup {r : EL} (h : Wp (r ρ s) fun ds s => Wn ds.length (P (.tup ds) s)) : Wp (eTup r ρ s) P := wp_tup h
theorem wq_lst {r : EL} (h : Wp (r ρ s) fun ds s => Wn ds.length (P (.lst ds) s)) : Wp (eLst r ρ s) P := wp_lst h
theorem wq_bin {op : Operator} {a b : E} (h : Wp (a ρ s) fun x s => Wp (b ρ s) fun y s => Wo (binop op (der s x) (der s y)) fun r => P r s) : Wp (eBin op a b ρ s) P := wp_bin (wp_mono h fun _ _ q => wp_mono q fun _ _ w => wo_elim w)
theorem wq_cmp {op : CmpOp} {a b : E} (h : Wp (a ρ s) fun x s => Wp (b ρ s) fun y s => Wo (cmpD op (der s x) (der s y)) fun r => P r s) : Wp (eCmp op a b ρ s) P := wp_cmp (wp_mono h fun _ _ q => wp_mono q fun _ _ w => wo_elim w)
theorem wq_ix {a b : E} (h : Wp (a ρ s) fun x s => Wp (b ρ s) fun y s => Wo (item (der s x) (der s y)) fun r => P r s) : Wp (eIx a b ρ s) P := wp_ix (wp_mono h fun _ _ q => wp_mono q fun _ _ w => wo_elim w)
theorem wq_bt {g : List D → Option D} {a : EL} (h : Wp (a ρ s) fun ds s => Wo (g (ds.map (der s))) fun r => P r s) : Wp (eBt g a ρ s) P := wp_bt (wp_mono h fun _ _ w => wo_elim w)
theorem wq_mt {T : String} {g : D → List D → Option D} {o : E} {a : EL} (h : Wp (o ρ s) fun x s => Wc (T ≠ "" ∧ tyOfD (der s x) = T) (Wp (a ρ s) fun ds s => Wo (g (der s x) (ds.map (der s))) fun r => P r s)) : Wp (eMt T g o a ρ s) P := wp_mt (wp_mono h fun _ _ ⟨c, q⟩ => ⟨c, wp_mono q fun _ _ w => wo_elim w⟩)
theorem wq_is {a : E} (h : Wp (a ρ s) fun x s => Wb x fun b => PB b s) : Wp (eIs a ρ s) PB := wp_is (wp_mono h fun _ _ w => wb_elim w)
theorem wq_tru {a : E} (h : Wp (a ρ s) fun x s => Wo (truth (der s x)) fun b => PB b s) : Wp (eTru a ρ s) PB := wp_tru (wp_mono h fun _ _ w => wo_elim w)
theorem wq_attr {L : List String} {f : Str} {a : E} (h : Wp (a ρ s) fun x s => Wo (attrOf L f (der s x)) fun r => P r s) : Wp (eAttr L f a ρ s) P := wp_attr (wp_mono h fun _ _ w => wo_elim w)
theorem wq_con {f : Str} {T : List (String × D)} {o : E} (h : Wp (o ρ s) fun x s => Wo (conOf f T (der s x)) fun r => P r s) : Wp (eCon f T o ρ s) P := wp_con (wp_mono h fun _ _ w => wo_elim w)
theorem wq_keys {e : E} (h : Wp (e ρ s) fun x s => Wo (keysD (der s x)) fun r => P r s) : Wp (eKeys e ρ s) P := wp_keys (wp_mono h fun _ _ w => wo_elim w)
theorem wq_rev {e : E} (h : Wp (e ρ s) fun x s => Wo (revOf (der s x)) fun r => P r s) : Wp (eRev e ρ s) P := wp_rev (wp_mono h fun _ _ w => wo_elim w)
theorem wq_eq2 {a b : E} (h : Wp (a ρ s) fun x s => Wp (b ρ s) fun y s => Wo (deqD (der s x) (der s y)) fun r => P r s) : Wp (eEq2 a b ρ s) P := wp_eq2 (wp_mono h fun _ _ q => wp_mono q fun _ _ w => wo_elim w)
theorem wq_ne2 {a b : E} (h : Wp (a ρ s) fun x s => Wp (b ρ s) fun y s => Wo (dneD (der s x) (der s y)) fun r => P r s) : Wp (eNe2 a b ρ s) P := wp_ne2 (wp_mono h fun _ _ q => wp_mono q fun _ _ w => wo_elim w)
theorem wq_isi {L : KTab} {e : E} (h : Wp (e ρ s) fun x s => Wo (isiOf L (der s x)) fun r => P r s) : Wp (eIsi L e ρ s) P := wp_isi (wp_mono h fun _ _ w => wo_elim w)
theorem wq_sl {e : E} {l u : EP'} (h : Wp (e ρ s) fun x s => Wp (l ρ s) fun lo s => Wp (u ρ s) fun hi s => Wo (cutOf (der s x) lo hi) fun r => P r s) : Wp (eSl e l u ρ s) P := wp_sl (wp_mono h fun _ _ q => wp_mono q fun _ _ q => wp_mono q fun _ _ w => wo_elim w)
theorem wq_part {e : E} {PO : Option Int → Store → Prop} (h : Wp (e ρ s) fun d s => Wi d fun i => PO (some i) s) : Wp (ePart e ρ s) PO := wp_part (wp_mono h fun d s w => by
  cases d with
  | int i => exact ⟨i, rfl, w⟩
  | _ => exact w.elim)
theorem wq_listO {C : String} {F : Str} {e : E} (h : Wp (e ρ s) fun x s => Wo (keysOfF C F s x) fun r => P r s) : Wp (eListO C F e ρ s) P := wp_listO (wp_mono h fun _ _ w => wo_elim w)
theorem wq_iLst {e : E} (h : Wp (e ρ s) fun d s => Wl d fun ds => PL ds s) : Wp (iLst e ρ s) PL := wp_iLst (wp_mono h fun d s w => by
  cases d with
  | lst ds => exact ⟨ds, rfl, w⟩
  | _ => exact w.elim)
theorem wq_iTp {e : E} (h : Wp (e ρ s) fun d s => Wt d fun ds => PL ds s) : Wp (iTp e ρ s) PL := wp_iTp (wp_mono h fun d s w => by
  cases d with
  | tup ds => exact ⟨ds, rfl, w⟩
  | _ => exact w.elim)
theorem wq_iStrD {e : E} (h : Wp (e ρ s) fun d s => Wstr d fun z => PL (strSigns z) s) : Wp (iStrD e ρ s) PL := wp_iStrD (wp_mono h fun d s w => by
  cases d with
  | str ds => exact ⟨ds, rfl, w⟩
  | _ => exact w.elim)
theorem wq_rng1 {es : EL} (h : Wp (es ρ s) fun ds s => ∃ j : Int, ds = [.int j] ∧ (-big ≤ j ∧ j < big) ∧ PL (intsD 0 j.toNat) s) : Wp (Dn.iRng1 es ρ s) PL := wp_rng1 h
theorem wq_enot {a : E} (h : Wp (a ρ s) fun x s => Wb x fun b => P (.bl (!b)) s) : Wp (eNot a ρ s) P := wp_enot (wp_mono h fun _ _ w => wb_elim w)
theorem wq_eand {a b : E} (h : Wp (a ρ s) fun x s => Wb x fun t => if t = true then Wp (b ρ s) P else P (.bl false) s) : Wp (eAnd a b ρ s) P := wp_eand (wp_mono h fun _ _ w => wb_elim w)
theorem wq_neg {e : E} (h : Wp (e ρ s) fun d s => Wi d fun i => P (.int (-i)) s) : Wp (eNeg e ρ s) P := wp_neg (wp_mono h fun d s w => by
  cases d with
  | int i => exact ⟨i, rfl, w⟩
  | _ => exact w.elim)
theorem wq_get1 {o k : E} (h : Wp (o ρ s) fun x s => Wc (isDic (der s x) = true) (Wp (k ρ s) fun y s => Wo (getD1 (der s x) (der s y)) fun r => P r s)) : Wp (eGet1 o k ρ s) P := wp_get1 (wp_mono h fun _ _ ⟨c, q⟩ => ⟨c, wp_mono q fun _ _ w => wo_elim w⟩)
theorem wq_get2 {o k k2 : E} (h : Wp (o ρ s) fun x s => Wc (isDic (der s x) = true) (Wp (k ρ s) fun y s => Wp (k2 ρ s) fun z s => Wo (getD2 (der s x) (der s y) z) fun r => P r s)) : Wp (eGet2 o k k2 ρ s) P := wp_get2 (wp_mono h fun _ _ ⟨c, q⟩ => ⟨c, wp_mono q fun _ _ q => wp_mono q fun _ _ w => wo_elim w⟩)
theorem wq_prop {L : Disp} {o : E} (h : Wp (o ρ s) fun x s => Wo (getOf L (der s x)) fun g => Wp (g [x] s) P) : Wp (eProp L o ρ s) P := wp_prop (wp_mono h fun _ _ w => wo_elim w)
theorem wq_meth {L : Disp} {m : Str} {o : E} {a : EL} (h : Wp (o ρ s) fun x s => Wo (methOf L m (der s x)) fun g => Wp (a ρ s) fun ds s => Wp (g (x :: ds) s) P) : Wp (eMeth L m o a ρ s) P := wp_meth (wp_mono h fun _ _ w => wo_elim w)
theorem wq_methK {nk : Nat} {L : Disp} {m : Str} {o : E} {a b : EL} (h : Wp (o ρ s) fun x s => Wo (methOf L m (der s x)) fun g => Wp (a ρ s) fun ds s => Wp (b ρ s) fun es s => Wc (es.length = nk) (Wp (g (x :: ds ++ es) s) P)) : Wp (eMethK nk L m o a b ρ s) P := wp_methK (wp_mono h fun _ _ w => wo_elim w)
theorem wq_callK {nk : Nat} {m : M} {a b : EL} (h : Wp (a ρ s) fun ds s => Wp (b ρ s) fun es s => Wc (es.length = nk) (Wp (m (ds ++ es) s) P)) : Wp (eCallK nk m a b ρ s) P := wp_callK h
theorem wq_inO {neg : Bool} {T : List (String × M)} {a b : E} (h : Wp (a ρ s) fun x s => Wp (b ρ s) fun y s => Wp (kOwn T y [x] s) fun r s => Wb r fun t => P (.bl (t != neg)) s) : Wp (eInO neg T a b ρ s) P := wp_inO (wp_mono h fun _ _ q => wp_mono q fun _ _ q => wp_mono q fun _ _ w => wb_elim w)
theorem wq_lenO {T : List (String × M)} {e : E} (h : Wp (e ρ s) fun x s => Wp (kOwn T x [] s) fun r s => Wi r fun i => Wc (0 ≤ i ∧ i < 1000000000) (P (.int i) s)) : Wp (eLenO T e ρ s) P := wp_lenO (wp_mono h fun _ _ q => wp_mono q fun d s w => by
  cases d with
  | int i => exact ⟨i, rfl, w⟩
  | _ => exact w.elim)
theorem wq_asg {t : Tgt} {e : E} (h : Wp (e ρ s) fun d s => Wo (setT t d ρ) fun ρ' => N ρ' s) : Ws (sAsg t e ρ s) N R := ws_asg (wp_mono h fun _ _ w => wo_elim w)
theorem wq_app {i : Nat} {e : E} {b : Bool} {ds : List D} (h0 : ρ[i]? = some (.ow b (.lst ds))) (h : Wp (e ρ s) fun d s => Wn (ds.length + 1) (N (ρ.set i (.ow b (.lst (ds ++ [d])))) s)) : Ws (sApp i e ρ s) N R := ws_app h0 h
theorem wq_putO {i : Nat} {b : Bool} {c : D} {e k : E} (h0 : ρ[i]? = some (.ow b c)) (h : Wp (e ρ s) fun d s => Wp (k ρ s) fun j s => Wo (putIx c (der s j) d) fun c' => N (ρ.set i (.ow b c')) s) : Ws (sPutO i e k ρ s) N R := ws_putO h0 (wp_mono h fun _ _ q => wp_mono q fun _ _ w => wo_elim w)
theorem wq_parO {is : List Nat} {bs : List Bool} {es : EL} (h : Wp (es ρ s) fun ds s => Wc (ds.length = is.length ∧ bs.length = is.length) (N ((is.zip (slotsO bs ds)).foldl (fun ρ p => ρ.set p.1 p.2) ρ) s)) : Ws (sParO is bs es ρ s) N R := ws_parO h
theorem wq_kOwn {T : List (String × M)} {x : D} {ds : List D} (h : Wo (match der s x with | .obj C _ => T.lookup C | _ => none) fun m => Wp (m (x :: ds) s) P) : Wp (kOwn T x ds s) P := by
  obtain ⟨m, e, q⟩ := wo_elim h
  unfold kOwn
  cases hd : der s x with
  | obj C fs =>
    rw [hd] at e
    dsimp only at e ⊢
    rw [e]
    exact q
  | _ => rw [hd] at e; cases e
end
theorem wp_ifE {c : ET} {a b : E} {ρ : Loc} {s : Store} {P : D → Store → Prop} (h : Wp (c ρ s) fun x s => if x = true then Wp (a ρ s) P else Wp (b ρ s) P) : Wp (eIf c a b ρ s) P := wp_if h
def two : List D → Option (D × D)
  | [d, e] => some (d, e)
  | _ => none
theorem wq_par2 {i j : Nat} {es : EL} {ρ : Loc} {s : Store} {N : Loc → Store → Prop} {R : D → Store → Prop} (h : Wp (es ρ s) fun ds s => Wo (two ds) fun p => N ((ρ.set i (.pu p.1)).set j (.pu p.2)) s) : Ws (sPar2 i j es ρ s) N R := ws_par2 (wp_mono h fun ds s w => by
  match ds, w with
  | [d, e], w => exact ⟨d, e, rfl, w⟩
  | [], w => exact w.elim
  | [_], w => exact w.elim
  | _ :: _ :: _ :: _, w => exact w.elim)
def LcW (t : Tgt) (c : ET) (e : E) (ρ0 : Loc) : List D → List D → Store → (D → Store → Prop) → Prop
  | [], acc, s, P => P (.lst acc) s
  | d :: ds, acc, s, P => Wo (setT t d ρ0) fun ρ => Wp (c ρ s) fun b s => if b = true then Wp (e ρ s) fun x s => LcW t c e ρ0 ds (acc ++ [x]) s P else LcW t c e ρ0 ds acc s P
section
variable {t : Tgt} {c : ET} {e : E} {ρ0 ρ : Loc} {d : D} {ds acc : List D} {s : Store} {P : D → Store → Prop} {it : EI} {body : S} {N : Loc → Store → Prop} {R : D → Store → Prop}
theorem lcw_nil (h : P (.lst acc) s) : LcW t c e ρ0 [] acc s P := h
theorem lcw_cons (h : Wo (setT t d ρ0) fun ρ => Wp (c ρ s) fun b s => if b = true then Wp (e ρ s) fun x s => LcW t c e ρ0 ds (acc ++ [x]) s P else LcW t c e ρ0 ds acc s P) : LcW t c e ρ0 (d :: ds) acc s P := h
def FoW (t : Tgt) (body : S) : List D → Loc → Store → (Loc → Store → Prop) → (D → Store → Prop) → Prop
  | [], ρ, s, N, _ => N ρ s
  | d :: ds, ρ, s, N, R => Wo (setT t d ρ) fun ρ' => Ws (body ρ' s) (fun ρ s => FoW t body ds ρ s N R) R
theorem fow_nil (h : N ρ s) : FoW t body [] ρ s N R := h
theorem fow_cons (h : Wo (setT t d ρ) fun ρ' => Ws (body ρ' s) (fun ρ s => FoW t body ds ρ s N R) R) : FoW t body (d :: ds) ρ s N R := h
theorem ws_forRun (h : Wp (it ρ s) fun ds s => FoW t body ds ρ s N R) : Ws (sFor t it body ρ s) N R := by
  refine ws_for (wp_mono h fun ds s q => ⟨fun ds ρ s => FoW t body ds ρ s N R, q, fun d ds ρ s w => ?_, fun ρ s w => w⟩)
  obtain ⟨ρ', e1, w⟩ := wo_elim (show Wo (setT t d ρ) _ from w)
  exact ⟨ρ', e1, w⟩
end
theorem eq_str (x y : Str) : cmpD .Eq (.str x) (.str y) = some (.bl (decide (x = y))) := by
  show some (D.bl (deq (.str x) (.str y))) = _
  rw [deq_str]
theorem ne_str (x y : Str) : cmpD .NotEq (.str x) (.str y) = some (.bl (!decide (x = y))) := by
  show some (D.bl (!deq (.str x) (.str y))) = _
  rw [deq_str]
theorem in_ints (f : Int) (held : List Int) : cmpD .In (.int f) (.lst (held.map .int)) = some (.bl (decide (f ∈ held))) := by
  show (if okq 60 (.int f) && (held.map D.int).all (okq 60) then some (D.bl ((held.map D.int).any fun y => deq y (.int f))) else none) = _
  rw [all_ints, any_ints]
  rfl
theorem notin_ints (f : Int) (held : List Int) : cmpD .NotIn (.int f) (.lst (held.map .int)) = some (.bl (!decide (f ∈ held))) := by
  show (if okq 60 (.int f) && (held.map D.int).all (okq 60) then some (D.bl (!(held.map D.int).any fun y => deq y (.int f))) else none) = _
  rw [all_ints, any_ints]
  rfl
theorem deqs_ints : ∀ ns ks : List Int, deqs (ns.map .int) (ks.map .int) = decide (ns = ks)
  | [], [] => rfl
  | [], k :: ks => rfl
  | n :: ns, [] => rfl
  | n :: ns, k :: ks => by
    show ((n == k) && deqs (ns.map .int) (ks.map .int)) = _
    rw [deqs_ints ns ks, Bool.eq_iff_iff]
    simp
theorem eq_ints (ns ks : List Int) : cmpD .Eq (.lst (ns.map .int)) (.lst (ks.map .int)) = some (.bl (decide (ns = ks))) := by
  show (if (ns.map D.int).all (okq 59) && (ks.map D.int).all (okq 59) then some (D.bl (deqs (ns.map .int) (ks.map .int))) else none) = _
  have a : ∀ l : List Int, (l.map D.int).all (okq 59) = true := fun l => by
    rw [List.all_map, List.all_eq_true]
    intro x _
    rfl
  rw [a, a, deqs_ints]
  rfl
theorem ne_ints (ns ks : List Int) : cmpD .NotEq (.lst (ns.map .int)) (.lst (ks.map .int)) = some (.bl (!decide (ns = ks))) := by
  show (if (ns.map D.int).all (okq 59) && (ks.map D.int).all (okq 59) then some (D.bl (!deqs (ns.map .int) (ks.map .int))) else none) = _
  have a : ∀ l : List Int, (l.map D.int).all (okq 59) = true := fun l => by
    rw [List.all_map, List.all_eq_true]
    intro x _
    rfl
  rw [a, a, deqs_ints]
  rfl
theorem deqs_strs : ∀ ns ks : List Str, deqs (ns.map .str) (ks.map .str) = decide (ns = ks)
  | [], [] => rfl
  | [], k :: ks => rfl
  | n :: ns, [] => rfl
  | n :: ns, k :: ks => by
    show (deq (.str n) (.str k) && deqs (ns.map .str) (ks.map .str)) = _
    rw [deqs_strs ns ks, deq_str, Bool.eq_iff_iff]
    simp
theorem eq_strs (ns ks : List Str) : cmpD .Eq (.lst (ns.map .str)) (.lst (ks.map .str)) = some (.bl (decide (ns = ks))) := by
  show (if (ns.map D.str).all (okq 59) && (ks.map D.str).all (okq 59) then some (D.bl (deqs (ns.map .str) (ks.map .str))) else none) = _
  rw [strs_okq, strs_okq, deqs_strs]
  rfl
theorem eq_strsT (ns ks : List Str) : cmpD .Eq (.tup (ns.map .str)) (.tup (ks.map .str)) = some (.bl (decide (ns = ks))) := by
  show (if (ns.map D.str).all (okq 59) && (ks.map D.str).all (okq 59) then some (D.bl (deqs (ns.map .str) (ks.map .str))) else none) = _
  rw [strs_okq, strs_okq, deqs_strs]
  rfl
theorem ne_strsL (ns ks : List Str) : cmpD .NotEq (.lst (ns.map .str)) (.lst (ks.map .str)) = some (.bl (!decide (ns = ks))) := by
  show (if (ns.map D.str).all (okq 59) && (ks.map D.str).all (okq 59) then some (D.bl (!deqs (ns.map .str) (ks.map .str))) else none) = _
  rw [strs_okq, strs_okq, deqs_strs]
  rfl
abbrev Srt (ns : List Int) : Prop := ns.Pairwise (· ≤ ·)
end Dn
namespace Dn
open PySem PySem.Spec L2
open PyProof.Rows hiding St RelV
structure PFit (n : Nat) (cols : List Str) (q : Pc) : Prop where
  c : Cells q.1
  k : q.1.map (·.1) = cols
  l : q.2.length ≤ n
  s : Srt q.2
structure Fit (n : Nat) (cols : List Str) (L : List (Int × Pc)) : Prop where
  nd : (L.map (·.1)).Nodup
  srt : Srt (L.map (·.1))
  len : L.length ≤ n
  at_ : ∀ k q, lget k L = some q → PFit n cols q
theorem Fit.nil {n : Nat} {cols : List Str} : Fit n cols [] := ⟨List.nodup_nil, List.Pairwise.nil, Nat.zero_le _, fun _ _ h => nomatch h⟩
theorem PFit.mono {n m : Nat} {cols : List Str} {q : Pc} (h : PFit n cols q) (i : n ≤ m) : PFit m cols q := ⟨h.c, h.k, Nat.le_trans h.l i, h.s⟩
theorem Fit.mono {n m : Nat} {cols : List Str} {L : List (Int × Pc)} (h : Fit n cols L) (i : n ≤ m) : Fit m cols L := ⟨h.nd, h.srt, Nat.le_trans h.len i, fun k q e => (h.at_ k q e).mono i⟩
theorem lset_srt {k : Int} {q : Option Pc} {L : List (Int × Pc)} (h : Srt (L.map (·.1))) : Srt ((lset k q L).map (·.1)) := by
  unfold lset
  cases q with
  | some q =>
    dsimp only
    rw [lsort_keys]
    exact sortI_pw _
  | none =>
    dsimp only
    split
    · unfold ldel
      exact List.Pairwise.sublist (List.filter_sublist.map _) h
    · exact h
theorem Fit.set {n : Nat} {cols : List Str} {L : List (Int × Pc)} (F : Fit n cols L) {k : Int} {q : Option Pc} (hq : ∀ r, q = some r → PFit (n + 1) cols r) : Fit (n + 1) cols (lset k q L) :=
  ⟨lset_nodup F.nd, lset_srt F.srt, Nat.le_trans (lset_len k q L) (Nat.add_le_add_right F.len 1), fun j r e => by
    rw [lset_get] at e
    split at e
    · exact hq r e
    · exact (F.at_ j r e).mono (Nat.le_succ _)⟩
theorem CopyAt.set {s : Store} {c p m : Nat} {cols : List Str} {h : Hb} {L : List (Int × Pc)} (C : CopyAt s c p cols h L) (h1 : m ≠ c) (h2 : m ≠ p) (d : D) : CopyAt (s.set m d) c p cols h L :=
  ⟨(List.getElem?_set_ne h1).trans C.oc, (List.getElem?_set_ne h2).trans C.op, C.ne⟩
theorem get_lt {s : Store} {n : Nat} {d : D} (h : s[n]? = some d) : n < s.length := (List.getElem?_eq_some_iff.mp h).1
end Dn
namespace PySem.SeqAt
open AutoSeq1 (wpAny_loadPart')
open MeetsSeq MeetsSeq2 MeetsSeq3 SeqRoads2
end PySem.SeqAt
namespace Dn
open PySem PySem.Spec L2
open PyProof.Rows hiding St RelV
def dne3 (d e : D) : Option D := (deqo 60 d e).map fun x => .bl (!x)
def eNe3 (a b : E) : E := fun ρ s => (a ρ s).bind fun x s => (b ρ s).bind fun y s => Res.of (dne3 (der s x) (der s y)) s
theorem wq_ne3 {a b : E} {ρ : Loc} {s : Store} {P : D → Store → Prop} (h : Wp (a ρ s) fun x s => Wp (b ρ s) fun y s => Wo (dne3 (der s x) (der s y)) fun r => P r s) : Wp (eNe3 a b ρ s) P := by
  unfold eNe3
  rw [wp_bind]
  refine wp_mono h fun x s q => ?_
  rw [wp_bind]
  exact wp_mono q fun y s w => by
    obtain ⟨r, e, p⟩ := wo_elim w
    rw [e]
    exact p
end Dn
namespace Dn
open PySem PySem.Spec L2
open PyProof.Rows hiding St RelV
def putAll (kvs more : List (Key × V)) : List (Key × V) := more.foldl (fun acc kv => putK acc kv.1 kv.2) kvs
def dputAll : List (D × D) → List (D × D) → Option (List (D × D))
  | kvs, [] => some kvs
  | kvs, (k, v) :: more => match dkey k with
    | some q => dputAll (dputK k q v kvs) more
    | none => none
theorem RVd.all {K : PySem.W.Frag} {H : Hp} {μ : Mu} {F : Addr → Prop} : ∀ {more kvs c : List (D × D)} {ys xs : List (Key × V)}, RVd K H μ F more ys → RVd K H μ F kvs xs → dputAll kvs more = some c → RVd K H μ F c (putAll xs ys)
  | [], kvs, c, ys, xs, h, g, e => by
    cases (show ys = [] from h)
    cases e
    exact g
  | (k, v) :: more, kvs, c, ys, xs, h, g, e => by
    obtain ⟨q, y, ys', e1, r1, r2, r3⟩ := h
    subst e1
    have hk := RV_key r1
    unfold dputAll at e
    rw [hk] at e
    show RVd K H μ F c (putAll (putK xs q y) ys')
    exact RVd.all r3 (g.put r1 r2) e
end Dn
namespace Dn
open PySem PySem.Spec L2
open PyProof.Rows hiding St RelV
def isLs : D → Bool
  | .lst _ => true
  | _ => false
def appOf (d c : D) : Option D := match c with
  | .lst ds => if ds.length < line then some (.lst (ds ++ [d])) else none
  | _ => none
def sAppR (o e : E) : S := fun ρ s => (o ρ s).to ρ fun b s => if isLs (der s b) = true then (e ρ s).to ρ fun d s => kMut (appOf d) ρ b s else .bad
section
variable {X : Cx} {W : WX} {o e : Expr} {mo me : E} {pos apos cpos : Pos} {D : Ends} {σ : St} {H1 : Hp} {μ1 : Mu} {F : Addr → Prop} {G : Own} {ρ : Loc} {st1 : Store} {v : V}
theorem kMut_lst {d b : Dn.D} {w : V} (a1 : At X.pn X.K H1 μ1 F G ρ σ st1) (r1 : RV X.K H1 μ1 F b v) (rd : RV X.K H1 μ1 F d w) (h1 : OkS X.pn X.K W H1 μ1 F G (kMut (appOf d) ρ b st1) D) :
    ∃ p xs, v = .ref p ∧ H1 p = some (.lst xs) ∧ xs.length < line ∧ D.nx σ (upd H1 p (.lst (xs ++ [w]))) := by
  cases b with
  | ref n =>
    replace h1 : OkS X.pn X.K W H1 μ1 F G (match st1[n]? with
    | some c => (match appOf d c with
      | some c' => .nx ρ (st1.set n c')
      | none => .bad)
    | none => .bad) D := h1
    cases hc : st1[n]? with
    | none => rw [hc] at h1; exact h1.elim
    | some c =>
      rw [hc] at h1
      replace h1 : OkS X.pn X.K W H1 μ1 F G (match appOf d c with
      | some c' => .nx ρ (st1.set n c')
      | none => .bad) D := h1
      cases hg2 : appOf d c with
      | none => rw [hg2] at h1; exact h1.elim
      | some c' =>
        rw [hg2] at h1
        cases c with
        | lst ds =>
          unfold appOf at hg2
          dsimp only at hg2
          split at hg2
          · rename_i hl
            cases hg2
            obtain ⟨p, e1, e2⟩ := (show ∃ a, v = .ref a ∧ μ1[n]? = some a from by unfold RV at r1; exact r1)
            obtain ⟨q, e3, c⟩ := a1.s.at_ n _ hc
            rw [e2] at e3
            cases e3
            obtain ⟨xs, hx, rx⟩ := (show ∃ xs, H1 p = some (.lst xs) ∧ RVs X.K H1 μ1 F ds xs from c.c (fun z => nomatch z))
            refine ⟨p, xs, e1, hx, by rw [rx.length]; exact hl, ?_⟩
            have hm : p ∈ μ1 := List.mem_of_getElem? e2
            have f : Fut H1 μ1 (upd H1 p (.lst (xs ++ [w]))) μ1 := Fut.write hm
            have rs := a1.s.write (o := .lst (xs ++ [w])) (d := .lst (ds ++ [d])) e2 ⟨_, upd_same, RVs.kp f.kp0 (rx.append (RVs.cons rd RVs.nil))⟩
            exact h1 σ _ μ1 F G (a1.ev f) (a1.fut f rs)
          · cases hg2
        | _ => cases hg2
  | _ => exact h1.elim
theorem ss_appR (ho : SE X W o mo) (he : SE X W e me) (hbase : attributeBase o "append" X.env (eval o X.env) = eval o X.env := by rfl)
    (hfew : ((backTo cpos (starEach [e] X.env)).all (fun x => !x.1) && (backToKw cpos (keywordEach [] X.env)).all (fun x => x.1.isSome)
      && decide (([e] : List Expr).length + ([] : List Keyword).length + (if ([] : List Keyword).isEmpty then 0 else 1) < 30)) = true := by rfl)
    (hline : (apos.endLine == cpos.line) = true := by rfl) (hst : starEach [e] X.env = (false, eval e X.env) :: starEach [] X.env := by rfl) (hplain : (backTo cpos (starEach [] X.env)).any (·.1) = false := by rfl)
    (hs : swapsWith (.Call (.Attribute o "append" apos) [e] [] cpos) none pos.line X.env = pure false := by rfl) : SS X W (.Expr (.Call (.Attribute o "append" apos) [e] [] cpos) pos) (sAppR mo me) := by
  have ha : SA X W [e] (eCons me eNil) := sa_cons he sa_nil hst
  refine PS.of (ps_expr (pe_bm PySem.F.plainAttrs_list PySem.F.slot_list_append PySem.F.type_list_append mt_append ho ha hbase hfew hline hst hplain) hs) fun D σ H ⟨ρ, μ, F, G, st, a, h⟩ => ?_
  refine tS_e (k := fun b s => if isLs (der s b) = true then (me ρ s).to ρ fun d s => kMut (appOf d) ρ b s else .bad) a h fun x H1 μ1 st1 b a1 f1 r1 h1 => ?_
  by_cases hd : isLs (der st1 b) = true
  · rw [if_pos hd] at h1
    have rr := (RD.of r1).dr a1.s
    have hl : ∃ p xs, x = .ref p ∧ H1 p = some (.lst xs) := by
      generalize der st1 b = c at hd rr
      cases c with
      | lst ds =>
        obtain ⟨p, xs, e1, e2, _⟩ := rr
        exact ⟨p, xs, e1, e2⟩
      | _ => cases hd
    obtain ⟨p, xs, e1, e2⟩ := hl
    subst e1
    refine ⟨.inl ⟨rfl, xs, .inl (.inl e2)⟩, tS_1 a1 h1 fun y H2 μ2 st2 d a2 f2 r2 h2 => ?_⟩
    obtain ⟨p', xs', e3, e4, e5, q⟩ := kMut_lst a2 (RV.kp f2.kp0 r1) r2 h2
    cases e3
    exact ⟨p, xs', y, rfl, rfl, e4, by rw [line_eq]; exact e5, q⟩
  · rw [if_neg hd] at h1
    exact h1.elim
end
theorem wq_appR {o e : E} {ρ : Loc} {s : Store} {N : Loc → Store → Prop} {R : D → Store → Prop} (h : Wp (o ρ s) fun b s => Wc (isLs (der s b) = true) (Wp (e ρ s) fun d s => ∃ n ds, b = .ref n ∧ s[n]? = some (.lst ds) ∧ ds.length < line ∧ N ρ (s.set n (.lst (ds ++ [d]))))) : Ws (sAppR o e ρ s) N R := by
  refine wp_to (wp_mono h fun b s ⟨hd, q⟩ => ?_)
  rw [if_pos hd]
  refine wp_to (wp_mono q fun d s ⟨n, ds, e1, e2, e3, p⟩ => ?_)
  subst e1
  unfold kMut
  dsimp only
  rw [e2]
  unfold appOf
  dsimp only
  rw [if_pos e3]
  exact p
end Dn
namespace Dn
open PySem PySem.Spec L2
open PyProof.Rows hiding St RelV
theorem POk.callsX {P : Program} {w : World} {K : PySem.W.Frag} {mg : Str → Option Value} {base : Heap} {X : Cx} {W : WX} {p : Deco} {k : Nat} {ps : List Str} {m : M} (F : POk P w K mg base p k ps m) (j : Nat) (hj : k ≤ j) (np : Nat) (ks : List Str) (perm : List Nat) (dfl : List D)
    (hb : ∀ fd, FuA K p fd → KB K fd ps np ks perm dfl) (hp : perm.length = ps.length)
    (tk : Takes X W) (hr : Room j X.A) (hP : X.prog = P) (hw : X.w = w) (hK : X.K = K) (hmg : X.mg = mg) (hbs : X.base = base) : CallsD X W (.ref (p.ad K)) ks (argsM np ks.length perm dfl m) := by
  subst hP hw hK hmg hbs
  obtain ⟨fd, Fu, Fn⟩ := F
  exact fn_calls Fn (hr.mono hj) tk (hb fd Fu) hp
end Dn
namespace Dn
open PySem PySem.Spec L2
open PyProof.Rows hiding St RelV
def clsOfD : D → Option String
  | .obj C _ => some C
  | _ => none
def kOp2 (T : List (String × M)) (x y : D) (s : Store) : Res D := if (clsOfD (der s x)).isSome = true ∧ clsOfD (der s x) = clsOfD (der s y) then kOwn T x [y] s else .bad
def eOp2 (T : List (String × M)) (a b : E) : E := fun ρ s => (a ρ s).bind fun x s => (b ρ s).bind fun y s => kOp2 T x y s
def eOp1 (T : List (String × M)) (a : E) : E := fun ρ s => (a ρ s).bind fun x s => kOwn T x [] s
theorem wq_op2 {T : List (String × M)} {a b : E} {ρ : Loc} {s : Store} {P : D → Store → Prop} (h : Wp (a ρ s) fun x s => Wp (b ρ s) fun y s => Wc ((clsOfD (der s x)).isSome = true ∧ clsOfD (der s x) = clsOfD (der s y)) (Wp (kOwn T x [y] s) P)) : Wp (eOp2 T a b ρ s) P := by
  unfold eOp2
  rw [wp_bind]
  refine wp_mono h fun x s q => ?_
  rw [wp_bind]
  exact wp_mono q fun y s ⟨c, w⟩ => by
    unfold kOp2
    rw [if_pos c]
    exact w
theorem wq_op1 {T : List (String × M)} {a : E} {ρ : Loc} {s : Store} {P : D → Store → Prop} (h : Wp (a ρ s) fun x s => Wp (kOwn T x [] s) P) : Wp (eOp1 T a ρ s) P := by
  unfold eOp1
  rw [wp_bind]
  exact h
end Dn
namespace PySem.DnBs
open PySem PySem.Builtin PySem.Spec PyProof.Rows
def ib (a : Bool) : Int := if a = true then 1 else 0
end PySem.DnBs
namespace Dn
open PySem PySem.Spec L2
open PyProof.Rows hiding St RelV
def subB : D → D → Option D
  | .bl a, .bl b => some (.int (PySem.DnBs.ib a - PySem.DnBs.ib b))
  | _, _ => none
def eSubB (a b : E) : E := fun ρ s => (a ρ s).bind fun x s => (b ρ s).bind fun y s => Res.of (subB (der s x) (der s y)) s
theorem wq_subB {a b : E} {ρ : Loc} {s : Store} {P : D → Store → Prop} (h : Wp (a ρ s) fun x s => Wp (b ρ s) fun y s => Wo (subB (der s x) (der s y)) fun r => P r s) : Wp (eSubB a b ρ s) P := by
  unfold eSubB
  rw [wp_bind]
  refine wp_mono h fun x s q => ?_
  rw [wp_bind]
  exact wp_mono q fun y s w => by
    obtain ⟨r, e, p⟩ := wo_elim w
    rw [e]
    exact p
end Dn
namespace Dn
open PySem PySem.Spec L2
open PyProof.Rows hiding St RelV
theorem src1_fr (ns : List Int) (at_ : Int) (h0 : 0 ≤ at_) (h1 : at_ < 60) (s : Store) {P : D → Store → Prop} (h : ∀ s', s'.length = s.length + 1 → SrcAt s' s.length 0 → (∀ i, i < s.length → s'[i]? = s[i]?) → P (.ref s.length) s') : Wp (M_src1 [.scr ns, .int at_] s) P := by
  obtain ⟨cell, hc⟩ : ∃ cell : Int, eIf (eIs (eCmp .Lt (eRd 1) (eBt gLen (eCons (eRd 0) (eNil))))) (eIx (eRd 0) (eRd 1)) (eC (.int 0)) [.pu (.scr ns), .pu (.int at_), .no, .no] s = .ok (.int cell) s := by
    by_cases h : at_ < ns.length
    · refine ⟨ns[at_.toNat], ?_⟩
      have e : item (.scr ns) (.int at_) = some (.int ns[at_.toNat]) := by
        show ((ixN ns.length at_).bind fun j => ns[j]?).map D.int = _
        rw [ixN_at h0 h]
        simp [show at_.toNat < ns.length by omega]
      simp [eIf, eIs, eCmp, eRd, eBt, eCons, eNil, gLen, cmpD, cmpop, eIx, e, h]
    · refine ⟨0, ?_⟩
      simp [eIf, eIs, eCmp, eRd, eBt, eCons, eNil, gLen, cmpD, cmpop, eIx, h, eC]
  obtain ⟨g, g0, hg⟩ : ∃ g : Int, 0 ≤ g ∧ eIf (eIs (eCmp .GtE (eBt gAbs (eCons (eRd 2) (eNil))) (eBin .Pow (eC (.int 10)) (eC (.int 18))))) (eBt gAbs (eCons (eRd 2) (eNil))) (eC (.int 0)) [.pu (.scr ns), .pu (.int at_), .pu (.int cell), .no] s = .ok (.int g) s := by
    have e : binop .Pow (.int 10) (.int 18) = some (.int 1000000000000000000) := pow_ok 18 (by decide) (by decide)
    by_cases h : (1000000000000000000 : Int) ≤ if cell < 0 then -cell else cell
    · refine ⟨if cell < 0 then -cell else cell, by split <;> omega, ?_⟩
      simp [eIf, eIs, eCmp, eRd, eBt, eCons, eNil, gAbs, cmpD, cmpop, eBin, eC, e]
      intro _; omega
    · refine ⟨0, by omega, ?_⟩
      simp [eIf, eIs, eCmp, eRd, eBt, eCons, eNil, gAbs, cmpD, cmpop, eBin, eC, e]
      intro _; omega
  have hm := Int.emod_nonneg cell (b := 2305843009213693951) (by decide)
  have hm2 := Int.emod_lt_of_pos cell (b := 2305843009213693951) (by decide)
  have e1 : binop .Mult (.int 1299709) (.int at_) = some (.int (1299709 * at_)) := mul_ok (by decide) (by omega)
  have e2 : binop .Mod (.int cell) (.int 2305843009213693951) = some (.int (cell % 2305843009213693951)) := mod_ok (by decide)
  have key : M_src1 [.scr ns, .int at_] s = .ok (.ref s.length) (s ++ [srcD g (cell % 2305843009213693951 + 1299709 * at_ + 15485863) 0]) := by
    show (m_src1 [.pu (.scr ns), .pu (.int at_), .no, .no] s).fin = _
    unfold m_src1
    refine (congrArg SRes.fin (seq_nx (ρ1 := [.pu (.scr ns), .pu (.int at_), .pu (.int cell), .no]) (set_ok hc))).trans ?_
    refine (congrArg SRes.fin (seq_nx (ρ1 := [.pu (.scr ns), .pu (.int at_), .pu (.int cell), .pu (.int g)]) (set_ok hg))).trans ?_
    simp [sRet, eNew, eLst, eCons, eNil, eLoc, eC, eBin, eBt, gInt, eRd, e1, e2, SRes.fin, line, srcD]
    simp [binop]
  rw [key]
  refine h _ (by simp) ⟨g, cell % 2305843009213693951 + 1299709 * at_ + 15485863, 0, g0, by omega, by omega, by omega, by omega, ?_⟩ (fun i hi => List.getElem?_append_left hi)
  rw [List.getElem?_append_right (Nat.le_refl _), Nat.sub_self]
  rfl
theorem drw1_fr {s : Store} {n k : Nat} (S : SrcAt s n k) (hk : k < 100000000) {many : Int} (k0 : 0 < many) (k1 : many < 1000000000) {P : D → Store → Prop} (h : ∀ (d : Int) s', 0 ≤ d → d < many → s'.length = s.length → SrcAt s' n (k + 1) → (∀ m, m ≠ n → s'[m]? = s[m]?) → P (.int d) s') : Wp (M_drw1 [.ref n, .int many] s) P := by
  obtain ⟨g, m, c, S0, S1, S2, S3, S4, hs⟩ := S
  have hn : n < s.length := (List.getElem?_eq_some_iff.mp hs).1
  have i0 : ∀ (s : Store) (g m c : Int), s[n]? = some (srcD g m c) → item (der s (.ref n)) (.int 0) = some (.int g) := fun s g m c h => by
    show item (hid n ((s[n]?).getD (.ref n))) (.int 0) = _
    rw [h]; rfl
  have i1 : ∀ (s : Store) (g m c : Int), s[n]? = some (srcD g m c) → item (der s (.ref n)) (.int 1) = some (.int m) := fun s g m c h => by
    show item (hid n ((s[n]?).getD (.ref n))) (.int 1) = _
    rw [h]; rfl
  have i2 : ∀ (s : Store) (g m c : Int), s[n]? = some (srcD g m c) → item (der s (.ref n)) (.int 2) = some (.int c) := fun s g m c h => by
    show item (hid n ((s[n]?).getD (.ref n))) (.int 2) = _
    rw [h]; rfl
  by_cases hg : 0 < g
  · have e1 : binop .Mod (.int g) (.int many) = some (.int (g % many)) := mod_ok k0
    have e2 : binop .FloorDiv (.int g) (.int many) = some (.int (g / many)) := fdiv_ok k0 (by omega)
    have key : M_drw1 [.ref n, .int many] s = .ok (.int (g % many)) (s.set n (srcD (g / many) m c)) := by
      have hd := hs
      unfold srcD at hd
      unfold M_drw1
      rw [fnM_eq]
      unfold m_drw1
      simp [bCons, sIf, eIs, eCmp, eIx, eRd, eC, cmpD, cmpop, hd, srcD, item, atI, ixN, hg, sSet, eBin, eBt, eCons, eNil, gInt, e1, e2, sPut, eLoc, putIx, sRet, SRes.fin]
    rw [key]
    exact h _ _ (Int.emod_nonneg _ (by omega)) (Int.emod_lt_of_pos _ k0) (by simp) ⟨_, m, c, Int.ediv_nonneg S0 (by omega), S1, S2, S3, by omega, get_set hn⟩ fun j hj => List.getElem?_set_ne (Ne.symm hj)
  · have a0 : ∀ x y : Int, binop .Add (.int x) (.int y) = some (.int (x + y)) := fun x y => rfl
    have a1 : binop .Mult (.int m) (.int 69621) = some (.int (m * 69621)) := mul_ok (by omega) (by decide)
    have a2 : binop .Mult (.int 32452843) (.int (c + 1)) = some (.int (32452843 * (c + 1))) := mul_ok (by decide) (by omega)
    have a3 : binop .Mult (.int (32452843 * (c + 1))) (.int (c + 1)) = some (.int (32452843 * (c + 1) * (c + 1))) := mul_ok (by omega) (by omega)
    have a4 : ∀ x : Int, binop .Mod (.int x) (.int 2305843009213693951) = some (.int (x % 2305843009213693951)) := fun x => mod_ok (by decide)
    have b1 := Int.emod_nonneg (m * 69621 + 32452843 * (c + 1) * (c + 1) + 40009) (b := 2305843009213693951) (by decide)
    have b2 := Int.emod_lt_of_pos (m * 69621 + 32452843 * (c + 1) * (c + 1) + 40009) (b := 2305843009213693951) (by decide)
    generalize hx : (m * 69621 + 32452843 * (c + 1) * (c + 1) + 40009) % 2305843009213693951 = x at b1 b2
    have a5 : binop .FloorDiv (.int x) (.int 256) = some (.int (x / 256)) := fdiv_ok (by decide) (by decide)
    have a6 : binop .Pow (.int (x / 256)) (.int 2) = some (.int ((x / 256) ^ 2)) := pow_ok 2 (by decide) (by omega)
    have a7 : binop .Mult (.int 17) (.int (c + 1)) = some (.int (17 * (c + 1))) := mul_ok (by decide) (by omega)
    have a8 : ∀ x : Int, binop .Mod (.int x) (.int 2305843009213693921) = some (.int (x % 2305843009213693921)) := fun x => mod_ok (by decide)
    generalize hy : ((x / 256) ^ 2 + 17 * (c + 1)) % 2305843009213693921 = y
    have a9 : binop .FloorDiv (.int y) (.int 4096) = some (.int (y / 4096)) := fdiv_ok (by decide) (by decide)
    have a10 : binop .Mod (.int (y / 4096)) (.int many) = some (.int (y / 4096 % many)) := mod_ok k0
    have hs1 := get_set (a := srcD g m (c + 1)) hn
    have hn1 : n < (s.set n (srcD g m (c + 1))).length := by simpa using hn
    generalize hst : s.set n (srcD g m (c + 1)) = s1 at hs1 hn1
    have hs2 := get_set (a := srcD g x (c + 1)) hn1
    generalize hst2 : s1.set n (srcD g x (c + 1)) = s2 at hs2
    have k1 := i0 s g m c hs
    have k2 := i2 s g m c hs
    have k3 := i1 s1 g m (c + 1) hs1
    have k4 := i2 s1 g m (c + 1) hs1
    have k5 := i1 s2 g x (c + 1) hs2
    have k6 := i2 s2 g x (c + 1) hs2
    have w0 : cmpD .Gt (.int g) (.int 0) = some (.bl false) := by
      show some (D.bl (decide (0 < g))) = _
      rw [decide_eq_false hg]
    have key : M_drw1 [.ref n, .int many] s = .ok (.int (y / 4096 % many)) s2 := by
      show (m_drw1 [.pu (.ref n), .pu (.int many), .no] s).fin = _
      unfold m_drw1
      refine (congrArg SRes.fin (seq_nx (ρ1 := [.pu (.ref n), .pu (.int many), .no]) (s1 := s) ?_)).trans ?_
      · simp only [sIf, eIs, eCmp, eIx, eRd, eC, List.getElem?_cons_zero, Res.bind_ok, k1, Res.of_some, w0, der_int, Res.to_ok, bNil, Bool.false_eq_true, if_false, SRes.then_nx]
      refine (congrArg SRes.fin (seq_nx (ρ1 := [.pu (.ref n), .pu (.int many), .no]) (s1 := s1) ?_)).trans ?_
      · have p1 : putIx (srcD g m c) (.int 2) (.int (c + 1)) = some (srcD g m (c + 1)) := rfl
        simp only [sPut, eBin, eIx, eRd, eC, eLoc, List.getElem?_cons_zero, Res.bind_ok, k2, Res.of_some, Res.to_ok, a0, hs, der_int, p1, hst]
      refine (congrArg SRes.fin (seq_nx (ρ1 := [.pu (.ref n), .pu (.int many), .no]) (s1 := s2) ?_)).trans ?_
      · have p1 : putIx (srcD g m (c + 1)) (.int 1) (.int x) = some (srcD g x (c + 1)) := rfl
        simp only [sPut, eBin, eBt, eCons, eNil, gInt, eIx, eRd, eC, eLoc, List.getElem?_cons_zero, Res.bind_ok, k3, k4, Res.of_some, Res.to_ok, a0, a1, a2, a3, a4, hx, hs1, der_int, p1, hst2, List.map_cons, List.map_nil]
      simp only [sRet, eBin, eBt, eCons, eNil, eIx, eRd, eC, List.getElem?_cons_zero, List.getElem?_cons_succ, Res.bind_ok, Res.of_some, k5, k6, a0, a5, a6, a7, a8, a9, a10, hy, der_int, List.map_cons, List.map_nil, gInt, SRes.fin, Res.to_ok]
    rw [key]
    refine h _ _ (Int.emod_nonneg _ (by omega)) (Int.emod_lt_of_pos _ k0) ?_ ⟨g, x, c + 1, S0, b1, by omega, by omega, by omega, hs2⟩ fun j hj => by rw [← hst2, ← hst, List.getElem?_set_ne (Ne.symm hj), List.getElem?_set_ne (Ne.symm hj)]
    rw [← hst2, ← hst]
    simp
theorem SrcAt.lt {s : Store} {n k : Nat} (h : SrcAt s n k) : n < s.length := by
  obtain ⟨g, m, c, h1, h2, h3, h4, h5, h6⟩ := h
  exact (List.getElem?_eq_some_iff.mp h6).1
theorem SrcAt.app {s t : Store} {n k : Nat} (h : SrcAt s n k) : SrcAt (s ++ t) n k := by
  obtain ⟨g, m, c, h1, h2, h3, h4, h5, h6⟩ := h
  exact ⟨g, m, c, h1, h2, h3, h4, h5, by rw [List.getElem?_append_left (List.getElem?_eq_some_iff.mp h6).1]; exact h6⟩
theorem SrcAt.set {s : Store} {n k m : Nat} {d : D} (h : SrcAt s n k) (ne : m ≠ n) : SrcAt (s.set m d) n k := by
  obtain ⟨g, mm, c, h1, h2, h3, h4, h5, h6⟩ := h
  exact ⟨g, mm, c, h1, h2, h3, h4, h5, by rw [List.getElem?_set_ne ne]; exact h6⟩
end Dn
set_option maxHeartbeats 2000000
namespace Dn
open PySem PySem.Spec L2
open PyProof.Rows hiding St RelV
def kOf : Value → L2.Key
  | .int k _ => .inl k
  | .str x _ => .inr x
  | _ => .inl 0
theorem kOf_of {k : L2.Key} {u : Value} (h : keyIs k u = true) : kOf u = k := by
  rcases keyIs_shape h with ⟨i, t, rfl, rfl⟩ | ⟨x, t, rfl, rfl⟩ <;> rfl
def MemOk (w : World) (e : Int × Value) : Prop := keyIs (kOf e.2) e.2 = true ∧ e.1 = keyH w (kOf e.2)
/-- what the set holds, by its table: every entry of one key, none twice, S the keys, n of them -/
structure TabM (w : World) (es : Array (Int × Value)) (t : SetTable) (S : L2.Key → Bool) (n : Nat) : Prop where
  ok : ∀ e ∈ es.toList, MemOk w e
  nd : (es.toList.map fun e => kOf e.2).Nodup
  mem : ∀ k, S k = true ↔ k ∈ es.toList.map fun e => kOf e.2
  bd : es.size < scanBound
  fits : t.fits es.size = true
  size : es.size = n
  ris : Ris t.place.toList
  led : w.params.followText "set-order" = true ∨ t.led = true
def SetM (w : World) (h : Heap) (a : Addr) (S : L2.Key → Bool) (n : Nat) : Prop :=
  ∃ o es ep t, h.get? a = some o ∧ o.ExactSet ∧ o.data = .set es ep t ∧ TabM w es t S n
section
variable {P : Program} {w : World} {h h' : Heap} {a : Addr} {S : L2.Key → Bool} {n : Nat} {es es' : Array (Int × Value)} {t t' : SetTable}
theorem TabM.elems (T : TabM w es t S n) : ElemsOf (mixKind P w) es.toList := fun e he => by
  obtain ⟨h1, h2⟩ := T.ok e he
  refine ⟨⟨kOf e.2, h1, h2⟩, ?_⟩
  rcases keyIs_shape h1 with ⟨i, t, e1, e2⟩ | ⟨x, t, e1, e2⟩ <;> (rw [e2]; rfl)
theorem TabM.is_iff (T : TabM w es t S n) {e : Int × Value} (he : e ∈ es.toList) (k : L2.Key) : (mixKind P w).is k e.2 = true ↔ kOf e.2 = k :=
  ⟨fun h => kOf_of h, fun h => h ▸ (T.ok e he).1⟩
theorem TabM.mem_iff (T : TabM w es t S n) (k : L2.Key) : S k = true ↔ ∃ e ∈ es.toList, (mixKind P w).is k e.2 = true := by
  rw [T.mem, List.mem_map]
  exact ⟨fun ⟨e, he, q⟩ => ⟨e, he, (T.is_iff he k).2 q⟩, fun ⟨e, he, q⟩ => ⟨e, he, (T.is_iff he k).1 q⟩⟩
theorem SetM.keep (R : SetM w h a S n) (k : ∀ o, h.get? a = some o → h'.get? a = some o) : SetM w h' a S n :=
  let ⟨o, es, ep, t, ho, r⟩ := R
  ⟨o, es, ep, t, k o ho, r⟩
theorem SetM.of (R : SetM w h a S n) : h.SetOf (mixKind P w) a S n :=
  let ⟨o, es, ep, t, ho, hx, hd, T⟩ := R
  ⟨o, es, ep, t, ho, hx, hd, T.elems, T.mem_iff, T.bd, T.fits, T.size⟩
theorem SetM.fresh {h : Heap} (w : World) : SetM w (h.push { cls := .type "set", dict := none, data := .set #[] 0 (.fresh 0 0 (!w.params.followText "set-order")) }) h.objs.size (fun _ => false) 0 := by
  refine ⟨_, #[], 0, _, Heap.get?_push_size _ rfl, ⟨rfl, rfl, rfl⟩, rfl, ⟨fun e he => ?_, List.nodup_nil, fun k => ⟨fun z => absurd z Bool.false_ne_true, fun z => absurd z List.not_mem_nil⟩, by decide, rfl, rfl, List.Pairwise.nil, ?_⟩⟩
  · cases he
  · cases hw : w.params.followText "set-order"
    · exact .inr rfl
    · exact .inl rfl
end
end Dn
namespace Dn
open PySem PySem.Spec L2
open PyProof.Rows hiding St RelV
def sAugO (T : List (String × M)) (i : Nat) (e : E) : S := fun ρ s => match ρ[i]? with
  | some (.pu d) => (e ρ s).to ρ fun y s => match kOp2 T d y s with
    | .ok r s => .nx (ρ.set i (.pu r)) s
    | _ => .bad
  | _ => .bad
end Dn
namespace Dn
open PySem PySem.Spec L2
open PyProof.Rows hiding St RelV
def catD : D → D → Option D
  | .lst ds, .lst es => if ds.length + es.length ≤ line then some (.lst (ds ++ es)) else none
  | _, _ => none
def eCat (a b : E) : E := fun ρ s => (a ρ s).bind fun x s => (b ρ s).bind fun y s => Res.of (catD (der s x) (der s y)) s
theorem wq_cat {a b : E} {ρ : Loc} {s : Store} {P : D → Store → Prop} (h : Wp (a ρ s) fun x s => Wp (b ρ s) fun y s => Wo (catD (der s x) (der s y)) fun r => P r s) : Wp (eCat a b ρ s) P := by
  unfold eCat
  rw [wp_bind]
  refine wp_mono h fun x s q => ?_
  rw [wp_bind]
  exact wp_mono q fun y s w => by
    cases hr : catD (der s x) (der s y) with
    | none => rw [hr] at w; exact w.elim
    | some r => rw [hr] at w; exact w
theorem cat_lst {ds es : List D} (h : ds.length + es.length ≤ line) : catD (.lst ds) (.lst es) = some (.lst (ds ++ es)) := if_pos h
theorem wq_augO {T : List (String × M)} {i : Nat} {e : E} {ρ : Loc} {s : Store} {d : D} {N : Loc → Store → Prop} {R : D → Store → Prop} (hd : ρ[i]? = some (.pu d)) (h : Wp (e ρ s) fun y s => Wp (kOp2 T d y s) fun r s => N (ρ.set i (.pu r)) s) : Ws (sAugO T i e ρ s) N R := by
  unfold sAugO
  rw [hd]
  refine wp_to (wp_mono h fun y s1 h => ?_)
  cases e : kOp2 T d y s1 with
  | ok r s2 => rw [e] at h; exact h
  | ex C fs s2 => rw [e] at h; exact h.elim
  | bad => rw [e] at h; exact h.elim
theorem wq_kOp2 {T : List (String × M)} {x y : D} {s : Store} {P : D → Store → Prop} (h : Wc ((clsOfD (der s x)).isSome = true ∧ clsOfD (der s x) = clsOfD (der s y)) (Wp (kOwn T x [y] s) P)) : Wp (kOp2 T x y s) P := by
  unfold kOp2
  rw [if_pos h.1]
  exact h.2
end Dn
namespace Dn
open PySem PySem.Spec L2
open PyProof.Rows hiding St RelV
abbrev LSrc := Nat → Store → Option (Option D)
structure WalksL (K : PySem.W.Frag) (F : Addr → Prop) (H0 : Hp) (μ0 : Mu) (J : It) (src : LSrc) : Prop where
  go : ∀ (i : Nat) (d : D) (H : Hp) (μ : Mu) (F2 : Addr → Prop) (st : Store), src i st = some (some d) → Kp H0 μ0 F H μ F2 → RS K H μ F2 st →
    J.go i H ∧ ∀ x H2, J.yld i H x H2 → RS K H2 μ F2 st ∧ Fut H μ H2 μ ∧ RV K H2 μ F2 d x
  stop : ∀ (i : Nat) (H : Hp) (μ : Mu) (F2 : Addr → Prop) (st : Store), src i st = some none → Kp H0 μ0 F H μ F2 → RS K H μ F2 st → J.stop i H
abbrev EIL := Loc → Store → Res LSrc
def SIL (X : Cx) (W : WX) (tg e : Expr) (m : EIL) : Prop := PI X tg e (tG (fun F H μ src J => WalksL X.K F H μ J src) X.pn X.K W m)
/-- what is read of it -/
def liveOf (d : D) (s : Store) : Option (List D) := match der s d with
  | .lst ds => some ds
  | .scr ns => some (ns.map .int)
  | _ => none
theorem live_ok {K : PySem.W.Frag} {F : Addr → Prop} {H : Hp} {μ : Mu} {st : Store} {d : D} {v : V} {ds : List D} (rv : RV K H μ F d v) (rs : RS K H μ F st) (e : liveOf d st = some ds) : ∃ a xs, v = .ref a ∧ SqL K H a xs ∧ RVs K H μ F ds xs := by
  have r := (RD.of rv).dr rs
  unfold liveOf at e
  split at e
  · rename_i ds' h
    rw [h] at r
    cases e
    obtain ⟨a, xs, e1, q, r⟩ := r
    exact ⟨a, xs, e1, .inl (.inl q), r⟩
  · rename_i ns h
    rw [h] at r
    cases e
    obtain ⟨a, e1, q⟩ := r
    exact ⟨a, _, e1, q, RVs.ints ns⟩
  · cases e
theorem live_at {K : PySem.W.Frag} {F F2 : Addr → Prop} {H0 H : Hp} {μ0 μ : Mu} {st : Store} {d : D} {a : Addr} {ds : List D} (rv : RV K H0 μ0 F d (.ref a)) (kp : Kp H0 μ0 F H μ F2) (rs : RS K H μ F2 st) (e : liveOf d st = some ds) : ∃ xs, SqL K H a xs ∧ RVs K H μ F2 ds xs := by
  obtain ⟨b, xs, e1, q, r⟩ := live_ok (RV.kp kp rv) rs e
  cases e1
  exact ⟨xs, q, r⟩
def lsrcE (d : D) : LSrc := fun i s => (liveOf d s).map fun ds => ds[i]?.map fun x => .tup [.int (i : Int), x]
section
variable {K : PySem.W.Frag} {F : Addr → Prop} {H0 : Hp} {μ0 : Mu} {a b : Addr} {d e : D}
theorem walksL_enum (rv : RV K H0 μ0 F d (.ref a)) : WalksL K F H0 μ0 (Ite K a) (lsrcE d) where
  go := fun i x H μ F2 st e kp rs => by
    obtain ⟨ds, e1, e2⟩ := Option.map_eq_some_iff.mp e
    obtain ⟨z, e5, e4⟩ := Option.map_eq_some_iff.mp e2
    subst e4
    obtain ⟨xs, q, r⟩ := live_at rv kp rs e1
    obtain ⟨v, e3, rx⟩ := r.get e5
    refine ⟨⟨xs, v, q, e3⟩, fun y H2 hy => ?_⟩
    obtain ⟨T, y, rfl, hT, rfl, hy⟩ := hy
    have hy := hy xs q
    rw [e3] at hy; cases hy
    exact ⟨rs.new hT, .new hT, rs.newT hT (RVs.cons (RV_int _) (RVs.cons rx RVs.nil))⟩
  stop := fun i H μ F2 st e kp rs => by
    obtain ⟨ds, e1, e2⟩ := Option.map_eq_some_iff.mp e
    obtain ⟨xs, q, r⟩ := live_at rv kp rs e1
    have e3 : ds[i]? = none := by
      cases h : ds[i]? with
      | none => rfl
      | some z => rw [h] at e2; cases e2
    exact ⟨xs, q, by rw [r.length]; exact List.getElem?_eq_none_iff.mp e3⟩
end
def isLive (d : D) (s : Store) : Bool := (liveOf d s).isSome
def enumLK (ds : List D) (s : Store) : Res LSrc := match ds with
  | [d] => if isLive d s = true then .ok (lsrcE d) s else .bad
  | _ => .bad
def iEnumL (a : EL) : EIL := fun ρ s => (a ρ s).bind enumLK
section
variable {X : Cx} {W : WX} {tg e e2 : Expr} {elts : List Expr} {kk : Nat} {tpos p pos : Pos} {ml : EL} {me : E}
theorem live_some {d : D} {s : Store} (h : isLive d s = true) : ∃ ds, liveOf d s = some ds := Option.isSome_iff_exists.mp h
theorem sil_enum (hg : Gl X "enumerate") (hm : X.mg "enumerate" = none) (ha : SA X W [e] ml) (hs : starEach [e] X.env = [(false, eval e X.env)] := by rfl) : SIL X W (.Tuple elts kk tpos) (.Call (.Name "enumerate" p) [e] [] pos) (iEnumL ml) := PI.of (pi_enum hg hm ha hs) fun σ H R ⟨ρ, μ, F, G, st, a, h⟩ => by
  refine tG_at (k := enumLK) a h fun xs H1 μ1 st1 ds a1 f1 r1 h1 => ?_
  unfold enumLK at h1
  split at h1
  · rename_i d
    by_cases hl : isLive d st1 = true
    · rw [if_pos hl] at h1
      obtain ⟨ds, hd⟩ := live_some hl
      simp only [RVs] at r1
      obtain ⟨v, ys, e1, r1, e2⟩ := r1
      subst e2
      obtain ⟨b, xs, e2, q, r⟩ := live_ok r1 a1.s hd
      subst e2
      exact ⟨b, xs, e1, q, h1 _ H1 μ1 .refl a1.s (walksL_enum r1)⟩
    · rw [if_neg hl] at h1; exact h1.elim
  · exact h1.elim
end
def forL (t : Tgt) (body : S) (src : LSrc) : Nat → Nat → S
  | 0, _, _, _ => .bad
  | n + 1, i, ρ, s => match src i s with
    | none => .bad
    | some none => .nx ρ s
    | some (some d) => match setT t d ρ with
      | none => .bad
      | some ρ' => match body ρ' s with
        | .nx ρ s => forL t body src n (i + 1) ρ s
        | .ct ρ s => forL t body src n (i + 1) ρ s
        | .bk ρ s => .nx ρ s
        | r => r
def sForL (t : Tgt) (it : EIL) (body : S) : S := fun ρ s => (it ρ s).to ρ fun src s => forL t body src 1000000 0 ρ s
section
variable {X : Cx} {W : WX} {pos : Pos} {tg : Expr}
theorem ss_forL {iter : Expr} {body : List Stmt} {mi : EIL} {t : Tgt} {mb : S} (hp : PassesOwn (model X.prog X.w) X.A X.env X.xe) (hc : X.calm = true) (hi : SIL X W tg iter mi) (hg : SG X tg t) (hb : SB X W body mb)
    (hs : ∀ x, foldedSetIterable iter X.env x = pure x := by intro _; rfl) : SS X W (.For tg iter body [] pos) (sForL t mi mb) := PS.of (ps_for hp hc hi hg hb hs) fun D σ H ⟨ρ, μ, F, G, st, a, h⟩ => by
  refine tS_e (k := fun src s => forL t mb src 1000000 0 ρ s) a h fun J H1 μ1 st1 src a1 f1 wk h1 => ?_
  refine ⟨fun i m σ H => ∃ ρ μ F' G' st, Ev H1 μ1 F G H μ F' G' ∧ At X.pn X.K H μ F' G' ρ σ st ∧ OkS X.pn X.K W H μ F' G' (forL t mb src m i ρ st) D, ⟨1000000, ρ, μ1, F, G, st1, a1.ev .refl, a1, h1⟩, ?_⟩
  rintro i m σ2 H2 ⟨ρ2, μ2, F2, G2, st2, e2, a2, h2⟩
  have kp := e2.kp a1.gf
  cases m with
  | zero => exact h2.elim
  | succ m =>
    unfold forL at h2
    cases hsrc : src i st2 with
    | none => rw [hsrc] at h2; exact h2.elim
    | some o =>
      rw [hsrc] at h2
      cases o with
      | none => exact .inl ⟨wk.stop _ H2 μ2 F2 st2 hsrc kp a2.s, h2 σ2 H2 μ2 F2 G2 (a2.ev .refl) a2⟩
      | some d =>
        obtain ⟨g1, g2⟩ := wk.go i d H2 μ2 F2 st2 hsrc kp a2.s
        refine .inr ⟨g1, fun σ3 H3 => ∃ ρ μ F' G' st, Ev H1 μ1 F G H3 μ F' G' ∧ At X.pn X.K H3 μ F' G' ρ σ3 st ∧ OkS X.pn X.K W H3 μ F' G' (forL t mb src m (i + 1) ρ st) D, fun σ3 H3 h3 => ⟨m, Nat.lt_succ_self _, h3⟩, fun x H3 hy => ?_⟩
        obtain ⟨rs3, f3, rv3⟩ := g2 x H3 hy
        have a3 := a2.fut f3 rs3
        have e3 := e2.trans (a2.ev f3)
        have h3 := OkS.ev (a2.ev f3) h2
        dsimp only at h3
        cases hs : setT t d ρ2 with
        | none => rw [hs] at h3; exact h3.elim
        | some ρ3 =>
          rw [hs] at h3
          dsimp only at h3
          refine ⟨ρ2, μ2, F2, G2, st2, d, ρ3, a3, rv3, hs, fun σ4 a4 _ => ?_⟩
          refine ⟨ρ3, μ2, F2, G2, st2, a4, ?_⟩
          cases hm : mb ρ3 st2 with
          | nx ρ s => rw [hm] at h3; exact fun σ5 H5 μ5 F5 G5 e5 a5 => ⟨ρ, μ5, F5, G5, s, e3.trans e5, a5, OkS.ev e5 h3⟩
          | ct ρ s => rw [hm] at h3; exact fun σ5 H5 μ5 F5 G5 e5 a5 => ⟨ρ, μ5, F5, G5, s, e3.trans e5, a5, OkS.ev e5 h3⟩
          | bk ρ s => rw [hm] at h3; exact h3
          | rt d s => rw [hm] at h3; exact h3
          | ex C fs ρ s => rw [hm] at h3; exact h3
          | bad => rw [hm] at h3; exact h3
end
/-- the list stays as it is -/
theorem forL_stay {t : Tgt} {body : S} {src : LSrc} {N : Loc → Store → Prop} {R : D → Store → Prop} {ds : List D} (J : List D → Loc → Store → Prop) (h0 : ∀ r ρ s, J r ρ s → ∀ i, src i s = some ds[i]?) (h1 : ∀ d r ρ s, J (d :: r) ρ s → ∃ ρ', setT t d ρ = some ρ' ∧ Ws (body ρ' s) (J r) R) (h2 : ∀ ρ s, J [] ρ s → N ρ s) :
    ∀ (n i : Nat) (ρ : Loc) (s : Store), ds.length - i < n → i ≤ ds.length → J (ds.drop i) ρ s → Ws (forL t body src n i ρ s) N R
  | 0, i, ρ, s, h, _, _ => absurd h (Nat.not_lt_zero _)
  | n + 1, i, ρ, s, h, hi, q => by
    unfold forL
    rw [h0 _ ρ s q i]
    by_cases hl : i < ds.length
    · rw [List.getElem?_eq_getElem hl]
      rw [List.drop_eq_getElem_cons hl] at q
      obtain ⟨ρ', e, w⟩ := h1 _ _ ρ s q
      dsimp only
      rw [e]
      dsimp only
      cases hb : body ρ' s with
      | nx ρ s => rw [hb] at w; exact forL_stay J h0 h1 h2 n (i + 1) ρ s (by omega) hl w
      | rt d s => rw [hb] at w; exact w
      | bk ρ s => rw [hb] at w; exact w.elim
      | ct ρ s => rw [hb] at w; exact w.elim
      | ex C fs ρ s => rw [hb] at w; exact w.elim
      | bad => rw [hb] at w; exact w.elim
    · have e : i = ds.length := by omega
      subst e
      rw [List.drop_length] at q
      rw [List.getElem?_eq_none_iff.mpr (Nat.le_refl _)]
      exact h2 ρ s q
theorem ws_forL {t : Tgt} {it : EIL} {body : S} {ρ : Loc} {s : Store} {N : Loc → Store → Prop} {R : D → Store → Prop} (h : Wp (it ρ s) fun src s => ∃ (ds : List D) (J : List D → Loc → Store → Prop), ds.length < 1000000 ∧ J ds ρ s ∧ (∀ r ρ s, J r ρ s → ∀ i, src i s = some ds[i]?) ∧ (∀ d r ρ s, J (d :: r) ρ s → ∃ ρ', setT t d ρ = some ρ' ∧ Ws (body ρ' s) (J r) R) ∧ ∀ ρ s, J [] ρ s → N ρ s) : Ws (sForL t it body ρ s) N R :=
  wp_to (wp_mono h fun src s ⟨ds, J, hl, q, h0, h1, h2⟩ => forL_stay J h0 h1 h2 1000000 0 ρ s (by omega) (Nat.zero_le _) (by rw [List.drop_zero]; exact q))
theorem wq_iEnumL {a : EL} {ρ : Loc} {s : Store} {P : LSrc → Store → Prop} (h : Wp (a ρ s) fun ds s => ∃ d, ds = [d] ∧ isLive d s = true ∧ P (lsrcE d) s) : Wp (iEnumL a ρ s) P := by
  unfold iEnumL
  rw [wp_bind]
  exact wp_mono h fun ds s ⟨d, e1, c1, q⟩ => by subst e1; unfold enumLK; dsimp only; rw [if_pos c1]; exact q
theorem live_lst {d : D} {s : Store} {ds : List D} (h : der s d = .lst ds) : liveOf d s = some ds := by unfold liveOf; rw [h]
theorem isLive_lst {d : D} {s : Store} {ds : List D} (h : der s d = .lst ds) : isLive d s = true := by unfold isLive; rw [live_lst h]; rfl
theorem lsrcE_lst {d : D} {s : Store} {ds : List D} (h : der s d = .lst ds) (i : Nat) : lsrcE d i s = some (enumD 0 ds)[i]? := by
  unfold lsrcE; rw [live_lst h, enumD_get, Nat.zero_add]; rfl
end Dn
namespace Dn
open PySem PySem.Spec L2
open PyProof.Rows hiding St RelV
section
variable {ρ : Loc} {s : Store} {P : D → Store → Prop} {N : Loc → Store → Prop} {R : D → Store → Prop}
theorem wpp_nil {PP : List (D × D) → Store → Prop} (h : PP [] s) : Wp (dPairs [] ρ s) PP := h
theorem wpp_cons {k v : E} {r : List (E × E)} {PP : List (D × D) → Store → Prop} (h : Wp (k ρ s) fun x s => Wp (v ρ s) fun y s => Wp (dPairs r ρ s) fun ps s => PP ((x, y) :: ps) s) : Wp (dPairs ((k, v) :: r) ρ s) PP := by
  show Wp ((k ρ s).bind fun x s => (v ρ s).bind fun y s => (dPairs r ρ s).bind fun ps s => .ok ((x, y) :: ps) s) PP
  rw [wp_bind]
  refine wp_mono h fun x s h => ?_
  rw [wp_bind]
  refine wp_mono h fun y s h => ?_
  rw [wp_bind]
  exact h
theorem wq_dic {r : EPs} (h : Wp (r ρ s) fun ps s => Wc (ps.length ≤ 15) (Wo (dicOf [] ps) fun kvs => P (.dic kvs) s)) : Wp (eDic r ρ s) P := by
  unfold eDic
  rw [wp_bind]
  refine wp_mono h fun ps s ⟨c, w⟩ => ?_
  rw [if_pos c]
  obtain ⟨kvs, e, q⟩ := wo_elim w
  rw [e]
  exact q
/-- a list is made longer -/
theorem ws_appRn {o e : E} {n : Nat} {ds : List D} (h : Wp (o ρ s) fun b s => Wc (b = .ref n ∧ isLs (der s (.ref n)) = true) (Wp (e ρ s) fun d s => Wc (s[n]? = some (.lst ds) ∧ ds.length < line) (N ρ (s.set n (.lst (ds ++ [d])))))) : Ws (sAppR o e ρ s) N R :=
  wq_appR (wp_mono h fun b s ⟨⟨c1, c2⟩, w⟩ => by
    subst c1
    exact ⟨c2, wp_mono w fun d s ⟨⟨g1, g2⟩, q⟩ => ⟨n, ds, rfl, g1, g2, q⟩⟩)
end
end Dn
namespace Dn
open PySem PySem.Spec L2
open PyProof.Rows hiding St RelV
/-- what a method answers and what the list is behind it: of the list, the arguments, and how these read -/
abbrev LG := List D → List D → List D → Option (D × List D)
section
variable {X : Cx} {W : WX} {o e : Expr} {es : List Expr} {mo : E} {ml : EL} {id : String} {name : Str} {g : LG} {apos cpos : Pos}
theorem RVs.two {K : PySem.W.Frag} {H : Hp} {μ : Mu} {F : Addr → Prop} {d e : D} {xs : List V} (r : RVs K H μ F [d, e] xs) : ∃ v w, xs = [v, w] ∧ RV K H μ F d v ∧ RV K H μ F e w := RVs2 r
end
end Dn
namespace PySem.DnMg
open PySem PySem.Spec L2
open PyProof.Rows hiding St RelV
section
variable {prog : Program} {w : World} {A : Around} {E : Value → Shared → Prop} {s : Shared}
theorem wp_dictPut {d : Addr} {kvs : List (Key × Value)} {k : Key} {key v : Value} {Q : Unit → Shared → Prop} (hkey : (mixKind prog w).is k key = true) (hm : s.heap.DictOf (mixKind prog w) d kvs)
    (hQ : ∀ h', h'.DictOf (mixKind prog w) d (stored kvs k v) → Heap.SameBut d s.heap h' → Q () { s with heap := h' })
    (hsz : kvs.length ≤ sizeLine) :
    wpAny (model prog w) A (dictPut d ((mixKind prog w).hash k) key v) Q E s := by
  obtain ⟨o, es, ep, ho, hc, hd, hk, hp, hn⟩ := hm
  have hes : es.size ≤ sizeLine := by
    have e1 := hp.length
    have e2 : es.toList.length = es.size := by simp
    omega
  unfold dictPut
  refine wpAny_bind (wpAny_dictFind_of hkey ho hd hk ?_)
  have hidx : (es.findIdx? fun e => (mixKind prog w).is k e.key) = kvs.findIdx? fun kv => decide (kv.1 = k) := by
    rw [← hp.findIdx k]; obtain ⟨l⟩ := es; simp
  cases hi : es.findIdx? fun e => (mixKind prog w).is k e.key with
  | some i =>
    refine wpAny_updateDict ho hd (hQ _ ⟨_, _, ep, Heap.get?_update_self _ ho (Obj.isFreed_of_dict (Obj.data_mapDict hd _)), hc.mapDict _, Obj.data_mapDict hd _, hk.modify _ _, ?_, ?_⟩ (Heap.SameBut.update ..))
    · rw [stored, if_pos (any_of_findIdx_some (hidx ▸ hi))]
      have hl : (es.toList.findIdx? fun e => (mixKind prog w).is k e.key) = some i := by rw [← hi]; obtain ⟨l⟩ := es; simp
      have := hp.modify hn hl v
      obtain ⟨l⟩ := es
      simpa using this
    · rw [stored, if_pos (any_of_findIdx_some (hidx ▸ hi)), keys_map_store]; exact hn
  | none =>
    have hnot : k ∉ kvs.map (·.1) := not_mem_of_findIdx_none (hidx ▸ hi)
    have hany : ¬ (kvs.any fun kv => decide (kv.1 = k)) = true := by
      rw [List.any_eq_true]; rintro ⟨kv, hkv, he⟩
      exact hnot (List.mem_map.mpr ⟨kv, hkv, of_decide_eq_true he⟩)
    refine wpAny_updateDictKeys (hz := hes) ho hd (hQ _ ⟨_, _, ep + 1, Heap.get?_update_self _ ho (Obj.isFreed_of_dict (Obj.data_mapDictKeys hd _)),
      hc.mapDictKeys _, Obj.data_mapDictKeys hd _, hk.push hkey _, ?_, ?_⟩ (Heap.SameBut.update ..))
    · rw [stored, if_neg hany]
      have := hp.append hkey ((mixKind prog w).hash k) v
      obtain ⟨l⟩ := es
      simpa using this
    · rw [stored, if_neg hany, List.map_append, List.nodup_append]
      refine ⟨hn, by simp, ?_⟩
      intro a ha b hb
      simp only [List.map_cons, List.map_nil, List.mem_singleton] at hb
      subst hb
      exact fun e => hnot (e ▸ ha)
abbrev no : Value → Shared → Prop := fun _ _ => False
end
end PySem.DnMg
namespace Dn
open PySem PySem.Spec L2
open PyProof.Rows hiding St RelV
mutual
def toPy : D → PyData
  | .bl b => .bool b
  | .int i => .int i
  | .str x => .str x
  | .tup ds => .tuple (toPys ds)
  | .lst ds => .list (toPys ds)
  | .dic kvs => .dict (toPyd kvs)
  | _ => .none
def toPys : List D → List PyData
  | [] => []
  | d :: ds => toPy d :: toPys ds
def toPyd : List (D × D) → List (PyData × PyData)
  | [] => []
  | (k, d) :: r => (toPy k, toPy d) :: toPyd r
end
/-- the text -/
def rp (d : D) : Str := (toPy d).shown
end Dn
namespace Dn
open PySem PySem.Spec L2
open PyProof.Rows hiding St RelV
section
variable {X : Cx} {W : WX} {e : Expr} {me : E} {te : TE} {p apos cpos pos : Pos}
def itemsD : D → Option D
  | .dic kvs => some (.lst (kvs.map fun p => .tup [p.1, p.2]))
  | _ => none
def eItems (a : E) : E := fun ρ s => (a ρ s).bind fun x s => Res.of (itemsD (der s x)) s
theorem wq_items {a : E} {ρ : Loc} {s : Store} {P : D → Store → Prop} (h : Wp (a ρ s) fun x s => Wo (itemsD (der s x)) fun r => P r s) : Wp (eItems a ρ s) P := by
  unfold eItems
  rw [wp_bind]
  refine wp_mono h fun x s w => ?_
  obtain ⟨r, e, q⟩ := wo_elim w
  rw [e]
  exact q
end
end Dn
namespace Dn
open PySem PySem.Spec L2
open PyProof.Rows hiding St RelV
structure NiOk (P : Program) (w : World) (K : PySem.W.Frag) (mg : Str → Option Value) (base : Heap) (k : Nat) (f : Addr) (fd : FuncData) (ps : List Str) (t : List D → Store → Res Bool) : Prop where
  run : ∀ (A : Around) (fs : List Env) (s : Shared) (H : Hp) (ar : Args) (us : List Value) (xs : List V) (μ : Mu) (F : Addr → Prop) (st st' : Store) (ds : List D), Room k A → Env0 P w K mg base A fs s H → BindsTo s fd ar (ps.zip us) → Vals xs us → RS K H μ F st → RVs K H μ F ds xs → ds.length = ps.length → t ds st = .ok true st' →
    codeAny (model P w) A (.call (.ref f) ar) (fun r s' => r = .ok (.ret .notImplemented) ∧ s'.os = s.os ∧ AllBare s'.gens ∧ ∃ H' μ', Un (frs fs) [] H H' s.heap s'.heap ∧ HOk P w H' s'.heap ∧ Fut H μ H' μ' ∧ RS K H' μ' F st') s
/-- the kinds that decline as well -/
def bkind : D → Bool
  | .non => true
  | .str _ => true
  | .tup _ => true
  | .lst _ => true
  | _ => false
def isC (C : String) : D → Bool
  | .obj C' _ => decide (C' = C)
  | _ => false
abbrev NiT : Type := List (String × (List D → Store → Res Bool))
def kEqN (T : List (String × M)) (N : NiT) (L : List (Bool × String)) (x y : D) (s : Store) : Res D := match der s x with
  | .obj C _ => (match N.lookup C with
    | some t => (match t [x, y] s with
      | .ok true s' => if (bkind (der s y) && (bkind (der s' y) && isC C (der s' x))) = true then .ok (.bl false) s' else .bad
      | .ok false s' => kEq false T L x y s
      | _ => .bad)
    | none => kEq false T L x y s)
  | _ => kEq false T L x y s
def eEqN (T : List (String × M)) (N : NiT) (L : List (Bool × String)) (a b : E) : E := fun ρ s => (a ρ s).bind fun x s => (b ρ s).bind fun y s => kEqN T N L x y s
/-- the call of C's __eq__ at the around of X -/
def NiAt (X : Cx) (f : Addr) (t : List D → Store → Res Bool) : Prop := ∀ (pins : List (Addr × Obj)) (s : Shared) (σ : St) (H : Hp) (us : List Value) (xs : List V) (μ : Mu) (F : Addr → Prop) (st st' : Store) (ds : List D) (E : Value → Shared → Prop) (Q : Value → Shared → Prop),
  Inv X pins σ H s → Vals xs us → us.length = 2 → RS X.K H μ F st → RVs X.K H μ F ds xs → ds.length = 2 → t ds st = .ok true st' → (∀ s' H' μ', Inv X pins σ H' s' → Fut H μ H' μ' → RS X.K H' μ' F st' → Q .notImplemented s') → wpAny (model X.prog X.w) X.A (call (.ref f) us) Q E s
section
variable {X : Cx} {W : WX}
theorem NiOk.at_ {k : Nat} {f : Addr} {fd : FuncData} {ps : List Str} {t : List D → Store → Res Bool} (N : NiOk X.prog X.w X.K X.mg X.base k f fd ps t) (hr : Room k X.A) (hb : KB X.K fd ps 2 [] [0, 1] []) (hp : ps.length = 2) : NiAt X f t := by
  intro pins s σ H us xs μ F st st' ds E Q I rel hl rs rv hd ht q
  obtain ⟨its, dvs, rt, _, hb⟩ := hb
  have b := hb s us [] I.kIn hl rfl
  have e : pick [0, 1] (us ++ [] ++ its) = us := by
    match us, hl with
    | [u, v], _ => rfl
  rw [e] at b
  refine wpAny_call (codeAny_mono (N.run X.A X.stack s H ⟨us, []⟩ us xs μ F st st' ds hr I.env0 b rel rs rv (by rw [hd, hp]) ht) fun r s' h => ?_)
  obtain ⟨rfl, os, bare, H', μ', un, ok, fu, r1⟩ := h
  exact q s' H' μ' (I.call' (ch := []) os un ok bare fun b z => absurd z (by simp)) fu r1
end
section
variable {X : Cx} {W : WX} {a b : Expr} {ma mb : E} {pos : Pos} {T : List (String × M)} {N : NiT} {L : List (Bool × String)} {P : Program} {w : World} {K : PySem.W.Frag} {mg : Str → Option Value} {base : Heap} {k : Nat} {ps : List Str} {d : He.DefD} {C : String} {t : List D → Store → Res Bool}
variable {ρ : Loc} {s : Store} {R : D → Store → Prop}
theorem wq_eqN (h : Wp (ma ρ s) fun x s => Wp (mb ρ s) fun y s => Wp (kEqN T N L x y s) R) : Wp (eEqN T N L ma mb ρ s) R := by
  unfold eEqN
  rw [wp_bind]
  refine wp_mono h fun x s h => ?_
  rw [wp_bind]
  exact h
end
end Dn
namespace Dn
open PySem PySem.Spec L2
open PyProof.Rows hiding St RelV
def spStar (K : PySem.W.Frag) (m : M) : Sp := fun vs H Q E => ∃ μ F st d ds, RS K H μ F st ∧ RVs K H μ F (d :: ds) vs ∧ ds.length ≤ sizeLine ∧ OkE K (fun c d _ H => E c d H) F [] H μ (m [d, .tup ds] st) Q
/-- what such a def promises -/
def StOk (P : Program) (w : World) (K : PySem.W.Frag) (mg : Str → Option Value) (base : Heap) (k : Nat) (f : Addr) (m : M) : Prop :=
  ∀ (A : Around) (fs : List Env) (s : Shared) (H : Hp) (us : List Value) (xs : List V) (Q : VK) (E : XK), Room k A → Env0 P w K mg base A fs s H → Vals xs us → spStar K m xs H Q E →
    codeAny (model P w) A (.call (.ref f) ⟨us, []⟩) (CR (L2.CX P w) fs P w H s Q E) s
section
variable {P : Program} {w : World} {K : PySem.W.Frag} {mg : Str → Option Value} {base : Heap} {k : Nat} {f : Addr} {fd : FuncData}
theorem StOk.mono {j : Nat} {m : M} (F : StOk P w K mg base j f m) (h : j ≤ k) : StOk P w K mg base k f m := fun A fs s H us xs Q E i => F A fs s H us xs Q E (i.mono h)
end
end Dn
namespace Dn
open PySem PySem.Spec L2
open PyProof.Rows hiding St RelV
abbrev noXK : XK := fun _ _ _ => False
/-- what a quiet def promises, wherever it is called -/
def FnQ (P : Program) (w : World) (K : PySem.W.Frag) (mg : Str → Option Value) (base : Heap) (k : Nat) (f : Addr) (fd : FuncData) (ps : List Str) (m : M) : Prop :=
  ∀ (A : Around) (fs : List Env) (s : Shared) (H : Hp) (ar : Args) (us : List Value) (xs : List V) (Q : VK) (p : Addr × Obj), L2H.RoomH k A → L2H.PinOk fs H s p → Env0 P w K mg base A fs s H → BindsTo s fd ar (ps.zip us) → Vals xs us → spOf K ps.length m xs H Q noXK →
    codeAny (model P w) A (.call (.ref f) ar) (CR (L2.CX P w) fs P w H s Q noXK) s
section
variable {P : Program} {w : World} {K : PySem.W.Frag} {mg : Str → Option Value} {base : Heap} {k : Nat} {f : Addr} {fd : FuncData}
theorem quiet_ok {x qual : Str} {params : Arguments} {body : List Stmt} {scope : Scope} {dvs : List V} {kws : List (Str × V)} {N ps : List Str} {mb : S} (Fu : FunD K x qual params body scope dvs kws f fd) (S : FnScope N ps scope)
    (hb : ∀ (cdv : Value) (A : Around) (outer : List Env) (s : Shared) (H : Hp) (p : Addr × Obj), L2H.RoomH k (A.deeper (envOfC qual scope s.heap.objs.size f cdv)) →
      SB (L2H.cxH (L2.CX P w) P w K mg base N qual scope f cdv A outer s H noXK p) W0 body mb) : FnQ P w K mg base (k + 1) f fd ps (fnM N.length mb) := by
  obtain ⟨c0, d0, v0, v1, v2, v3, a0, cdv, v4, sl, rfl, look, hcode, _, _⟩ := Fu.ex
  intro A fs s H ar us xs Q p room hpin e0 bd rel hsp
  obtain ⟨μ, F, st, ds, rs, r, hl, h⟩ := hsp
  have n0 : xs.length = ps.length := by rw [r.length]; exact hl
  have kin : K.In s.heap := e0.mod.kin.keeps fun b o z => (e0.bs b o z).1
  have nolim : s.heap.NoLimit := e0.mod.nolimit.keeps fun b o z => (e0.bs b o z).1
  have kinds : ∀ y ∈ ps.zip us, scope.names.lookup y.1 = some .local ∨ (scope.names.lookup y.1 = some .cell ∧ ((cellsFrom (s.heap.objs.size + 1) scope.names []).lookup y.1).isSome = true) := by
    rintro ⟨nm, v⟩ hy
    rcases S.par nm (List.of_mem_zip hy).1 with z | z
    · exact .inl z
    · exact .inr ⟨z, PySem.W.cellsFrom_some _ _ _ (.inl z)⟩
  refine codeAny_call_function room.depth (kin _ _ look) rfl S.co S.gen rfl (PySem.W.codeRec_of kin hcode) (bd _ _ _ _ ?_)
  refine wpAny_newFunctionEnv_cells S.kind kinds fun env he s1 inCall => ?_
  subst he
  refine ⟨nolim.keeps inCall.toInCall.keep, codeAny_func ?_⟩
  have I : Inv (L2H.cxH (L2.CX P w) P w K mg base N qual scope f cdv A fs s H noXK p) [] (start N xs) H s1 := L2H.inv_startH S hpin e0 n0 rel inCall
  have bk : ∀ {H' : Hp} {μ' : Mu} {F' : Addr → Prop} {G' : Own}, Ev H μ F ownNo H' μ' F' G' → ∀ a, F a → F' a := fun e a z => (e.sub a z).elim id fun z => False.elim z
  have goal : OkS [p] K W0 H μ F ownNo (mb (ds.map .pu ++ List.replicate (N.length - ds.length) .no) st) { nx := fun _ H1 => Q .non H1, rt := Q } := by
    unfold fnM at h
    cases e : mb (ds.map .pu ++ List.replicate (N.length - ds.length) .no) st with
    | nx ρ s => rw [e] at h; exact fun σ H' μ' F' G' e' a' => h .non H' μ' e'.fut (a'.s.weak (bk e')) RV_non
    | rt d s => rw [e] at h; exact fun v H' μ' F' G' e' a' rv => h v H' μ' e'.fut (a'.weak (bk e')) (RV.weak (bk e') rv)
    | ex C fs ρ s => rw [e] at h; exact fun d σ H' μ' F' G' xs e' a' q1 q2 q3 q4 => h d H' μ' xs e'.fut (a'.s.weak (bk e')) q1 q2 (fun z => q3 (bk e' d z)) (RVf.kp ⟨fun a o h n nF => ⟨h, n, fun z => nF (bk e' a z)⟩, fun _ _ h => h⟩ q4)
    | bk ρ s => rw [e] at h; exact h.elim
    | ct ρ s => rw [e] at h; exact h.elim
    | bad => rw [e] at h; exact h.elim
  refine wpAny_mono ((hb cdv A fs s H p (room.deeper _)).run [] s1 _ _ _ I ⟨_, μ, F, ownNo, st, ⟨RL.start r N, rs, fun _ z => False.elim z⟩, goal⟩) (fun fl s2 hs => ?_) fun e s2 hs => hs
  cases fl with
  | ret u =>
    obtain ⟨v, σ2, H2, J, rv, q⟩ := hs
    exact ⟨v, H2, J.os, J.bare, J.base, J.hok, rv, q⟩
  | next =>
    obtain ⟨σ2, H2, J, q⟩ := hs
    exact ⟨.non, H2, J.os, J.bare, J.base, J.hok, rfl, q⟩
  | brk =>
    obtain ⟨_, _, _, q⟩ := hs
    exact False.elim q
  | cont =>
    obtain ⟨_, _, _, q⟩ := hs
    exact False.elim q
end
section
variable {X : Cx} {k np : Nat} {f : Addr} {fd : FuncData} {ps ks : List Str} {perm : List Nat} {dfl : List D} {m : M}
theorem quiet_calls (Fn : FnQ X.prog X.w X.K X.mg X.base k f fd ps m) (hr : L2H.RoomH k X.A) {p : Addr × Obj} (hp0 : p ∈ X.pn) (hb : KB X.K fd ps np ks perm dfl) (hp : perm.length = ps.length) : CallsD X W0 (.ref f) ks (argsM np ks.length perm dfl m) := by
  intro pins s σ H us ws vs zs Q μ F st ds es I r rz lz rs rd re h
  obtain ⟨its, dvs, rt, rdf, hb⟩ := hb
  unfold argsM at h
  split at h
  · rename_i hl
    have l1 := rd.length
    have l2 := re.length
    have l3 := r.length
    have l4 := rz.length
    rw [List.length_append] at hl
    have hus : us.length = np := by omega
    have r2 : Vals (pick perm (vs ++ zs ++ dvs)) (pick perm (us ++ ws ++ its)) := Vals.pick ((r.append rz).append rt) perm
    have r3 : RVs X.K H μ F (pick perm (ds ++ es ++ dfl)) (pick perm (vs ++ zs ++ dvs)) := RVs.pick ((rd.append re).append (rdf H μ F)) perm
    have hq : spOf X.K ps.length m (pick perm (vs ++ zs ++ dvs)) H Q noXK := ⟨μ, F, st, _, rs, r3, by rw [hl.2, hp], h.at⟩
    have P1 := I.pin p (List.mem_append_left _ hp0)
    have hpin : L2H.PinOk X.stack H s p := ⟨P1.1, P1.2.1, fun z => (List.mem_cons.mp (I.stkSub p.1 z)).elim P1.2.2.1 P1.2.2.2.1, P1.2.2.2.2⟩
    refine wpAny_call (codeAny_mono (Fn X.A X.stack s H ⟨us, ks.zip ws⟩ _ _ Q p hr hpin I.env0 (hb s us ws I.kIn hus lz) r2 hq) fun r s' hq => ?_)
    cases r with
    | error e => exact passAt takes_w0 σ pins H s e s' I hq
    | ok fl =>
      cases fl with
      | ret u => exact I.after hq
      | next => exact False.elim hq
      | brk => exact False.elim hq
      | cont => exact False.elim hq
  · exact h.elim
end
/-- such a def of the text -/
def QOk (P : Program) (w : World) (K : PySem.W.Frag) (mg : Str → Option Value) (base : Heap) (d : He.DefD) (k : Nat) (ps : List Str) (m : M) : Prop := ∃ fd, FuD K d fd ∧ FnQ P w K mg base k (He.fAd K d.at_) fd ps m
section
variable {X : Cx} {k : Nat} {ps : List Str} {m : M} {d : He.DefD} {P : Program} {w : World} {K : PySem.W.Frag} {mg : Str → Option Value} {base : Heap}
theorem QOk.keep (F : QOk P w K mg base d k ps m) : PySem.W.keepIn K (.ref (He.fAd K d.at_)) = true := let ⟨_, F1, _⟩ := F; F1.kp
theorem QOk.callsQ (F : QOk P w K mg base d k ps m) (j : Nat) (hj : k ≤ j) (np : Nat) (ks : List Str) (perm : List Nat) (dfl : List D) (hb : ∀ fd, FuD K d fd → KB K fd ps np ks perm dfl) (hp : perm.length = ps.length)
    (hr : L2H.RoomH j X.A) {p : Addr × Obj} (hp0 : p ∈ X.pn) (hP : X.prog = P) (hw : X.w = w) (hK : X.K = K) (hmg : X.mg = mg) (hbs : X.base = base) : CallsD X W0 (.ref (He.fAd K d.at_)) ks (argsM np ks.length perm dfl m) := by
  subst hP hw hK hmg hbs
  obtain ⟨fd, F1, F2⟩ := F
  exact quiet_calls F2 (hr.mono hj) hp0 (hb fd F1) hp
end
end Dn
namespace PySem.DnMg
open PySem PySem.Spec L2
open PyProof.Rows hiding St RelV
section
variable {prog : Program} {w : World} {A : Around} {E : Value → Shared → Prop} {s : Shared}
theorem stored_new {kvs : List (Key × Value)} {k : Key} {v : Value} (h : k ∉ kvs.map (·.1)) : stored kvs k v = kvs ++ [(k, v)] := by
  rw [stored, if_neg]
  rw [List.any_eq_true]
  rintro ⟨kv, hkv, he⟩
  exact h (List.mem_map.mpr ⟨kv, hkv, of_decide_eq_true he⟩)
/-- the keywords' dict, filled from one dict -/
theorem wp_mergeU {d o : Addr} {more : List (Key × Value)} {Q : Unit → Shared → Prop} (hdo : d ≠ o) (hoS : (o == sysModules) = false)
    (hd : s.heap.DictOf (mixKind prog w) d []) (ho : s.heap.DictOf (mixKind prog w) o more)
    (hQ : ∀ h', h'.DictOf (mixKind prog w) d more → h'.DictOf (mixKind prog w) o more → Heap.SameBut d s.heap h' → Q () { s with heap := h' })
    (hsz : more.length ≤ sizeLine) :
    wpAny (model prog w) A (mergeMapping d (.ref o) true) Q E s := by
  obtain ⟨od, esd, epd, hod, hcd, hdd, hkd, hpd, hnd⟩ := id hd
  obtain ⟨oo, eso, epo, hoo, hco, hdo', hko, hpo, hno⟩ := id ho
  have hlen : more.length = eso.size := by rw [← hpo.length]; simp
  have e1 : (some (Value.builtin "dict.__iter__") == some (Value.builtin "dict.__iter__")) = true := by decide
  have hall : ∀ (L : Sem PUnit) (n : Nat), (forIn eso PUnit.unit fun e (_ : PUnit) => (match e.key with
      | Value.ref a => do
        let l ← specialOf e.key (Str.ofString "__eq__")
        if (l != some (Value.builtin "object.__eq__")) = true then
            if (Array.filter (fun x => x.hash == e.hash) eso).size > n then do
              L
              pure (ForInStep.yield PUnit.unit)
            else pure (ForInStep.yield PUnit.unit)
          else pure (ForInStep.yield PUnit.unit)
      | x => pure (ForInStep.yield PUnit.unit) : Sem (ForInStep PUnit))) = pure PUnit.unit := fun L n => by
    rw [← Array.forIn_toList]
    refine forIn_yield_id _ fun e he c => ?_
    obtain ⟨k, hkey, _⟩ := hko e (Array.mem_toList_iff.mp he)
    rcases keyIs_shape hkey with ⟨i, t, _, e2⟩ | ⟨x, t, _, e2⟩ <;> rw [e2]
  have loop : wpAny (model prog w) A (do
      let l ← dictEntries o
      let epoch ← dictEpoch o
      forIn (List.range l.size) PUnit.unit fun i (_ : PUnit) => (do
          let l' ← dictEntries o
          match l'[i]? with
            | some e => do
              holding [e.key, e.val] (if true = true then do
                  let g ← dictFind d e.key e.hash
                  if g.isSome = true then do
                      rule "dict.merge.duplicate-key"
                      let x ← newExc (Value.type "KeyError") [e.key]
                      (raiseNew x : Sem PUnit)
                      dictPut d e.hash e.key e.val
                    else dictPut d e.hash e.key e.val
                else dictPut d e.hash e.key e.val)
              let ep' ← dictEpoch o
              if (ep' != epoch) = true then do
                  (unsupported "dict.changed-during-merge" : Sem PUnit)
                  pure (ForInStep.yield PUnit.unit)
                else pure (ForInStep.yield PUnit.unit)
            | x => do
              (unsupported "dict.changed-during-merge" : Sem PUnit)
              pure (ForInStep.yield PUnit.unit) : Sem (ForInStep PUnit))
      pure ()) Q E s := by
    refine wpAny_bind (wpAny_dictEntries hoo hdo' ?_)
    refine wpAny_bind (wpAny_dictEpoch hoo hdo' ?_)
    refine wpAny_bind ?_
    rw [List.range_eq_range']
    refine wpAny_forIn_list _
      (fun rest _ s' => ∃ h' i, s' = { s with heap := h' } ∧ rest = List.range' i (eso.size - i) ∧ i ≤ eso.size ∧ h'.DictOf (mixKind prog w) d (more.take i) ∧ h'.get? o = some oo ∧ Heap.SameBut d s.heap h')
      _ ?_ ?_ _ _ ⟨s.heap, 0, rfl, by simp, Nat.zero_le _, by simpa using hd, hoo, Heap.SameBut.refl _ _⟩
    · rintro x rest b s' ⟨h', i, rfl, hr, hi, hd', hoo', hs'⟩
      have hlt : i < eso.size := by
        rcases Nat.lt_or_ge i eso.size with h | h
        · exact h
        · rw [Nat.sub_eq_zero_of_le h] at hr; simp at hr
      obtain ⟨rfl, hrest⟩ : x = i ∧ rest = List.range' (i + 1) (eso.size - (i + 1)) := by
        have e : eso.size - i = (eso.size - (i + 1)) + 1 := by omega
        rw [e, List.range'_succ] at hr
        injection hr with h1 h2
        exact ⟨h1, h2⟩
      refine wpAny_bind (wpAny_dictEntries hoo' hdo' ?_)
      rw [Array.getElem?_eq_getElem hlt]
      have hxm : x < more.length := by rw [hlen]; exact hlt
      obtain ⟨kv, hkv⟩ : ∃ kv, more[x]? = some kv := ⟨more[x]'hxm, List.getElem?_eq_getElem _⟩
      obtain ⟨k, v⟩ := kv
      obtain ⟨hkey, hval⟩ := hpo.get? (e := eso[x]) (by simp [hlt]) hkv
      obtain ⟨k', hkey', hhash⟩ := hko eso[x] (Array.getElem_mem hlt)
      obtain rfl : k' = k := (mixKind prog w).inj _ _ _ hkey' hkey
      have hnk : k' ∉ (more.take x).map (·.1) := fun z => by
        have e : more.map (·.1) = (more.take x).map (·.1) ++ (more.drop x).map (·.1) := by rw [← List.map_append, List.take_append_drop]
        rw [e, List.nodup_append] at hno
        refine hno.2.2 k' z k' ?_ rfl
        rw [List.drop_eq_getElem_cons hxm, List.map_cons]
        have : more[x] = (k', v) := by
          have := List.getElem?_eq_getElem hxm
          rw [hkv] at this
          exact (Option.some.inj this).symm
        rw [this]
        exact List.mem_cons_self
      obtain ⟨od2, esd2, epd2, hod2, hcd2, hdd2, hkd2, hpd2, hnd2⟩ := id hd'
      have hidx : (esd2.findIdx? fun e => (mixKind prog w).is k' e.key) = none := by
        have q : (esd2.findIdx? fun e => (mixKind prog w).is k' e.key) = (more.take x).findIdx? fun kv => decide (kv.1 = k') := by
          rw [← hpd2.findIdx k']; obtain ⟨l⟩ := esd2; simp
        rw [q, List.findIdx?_eq_none_iff]
        intro kv hkv
        exact decide_eq_false fun z => hnk (by rw [← z]; exact List.mem_map_of_mem hkv)
      have hmx : (more.take x).length ≤ sizeLine := by rw [List.length_take]; omega
      show wpAny _ _ (holding [eso[x].key, eso[x].val] _ >>= _) _ _ _
      rw [hhash, hval]
      refine wpAny_bind (wpAny_holding ?_)
      rw [if_pos rfl]
      refine wpAny_bind (wpAny_dictFind_of hkey hod2 hdd2 hkd2 ?_)
      rw [hidx]
      show wpAny _ _ (dictPut d _ _ _) _ _ _
      refine wp_dictPut hkey hd' (fun h'' hd'' hs'' => ?_) hmx
      have hoo'' : h''.get? o = some oo := (hs''.2 o (Ne.symm hdo)).trans hoo'
      refine wpAny_bind (wpAny_dictEpoch hoo'' hdo' ?_)
      rw [if_neg (by simp)]
      rw [stored_new hnk] at hd''
      have et : more.take x ++ [(k', v)] = more.take (x + 1) := by rw [List.take_succ, hkv]; rfl
      rw [et] at hd''
      exact wpAny_pure ⟨h'', x + 1, rfl, hrest, hlt, hd'', hoo'', hs'.trans hs''⟩
    · rintro b s' ⟨h', i, rfl, hr, hi, hd', hoo', hs'⟩
      have hin : i = eso.size := by
        rcases Nat.lt_or_ge i eso.size with h | h
        · have e : eso.size - i = (eso.size - (i + 1)) + 1 := by omega
          rw [e, List.range'_succ] at hr; exact nomatch hr
        · exact Nat.le_antisymm hi h
      refine wpAny_pure (hQ h' ?_ ⟨oo, eso, epo, hoo', hco, hdo', hko, hpo, hno⟩ hs')
      rw [hin, ← hlen, List.take_length] at hd'; exact hd'
  unfold mergeMapping
  refine wpAny_bind (wpAny_isInstance ho.typeIs isSubtype_dict_dict ?_)
  rw [if_pos rfl]
  refine wpAny_bind (wpAny_specialOf ho.typeIs PySem.F.slot_dict_iter.lookup ?_)
  rw [e1]
  refine wpAny_bind (wpAny_pure ?_)
  dsimp only
  rw [if_neg (by rw [hoS]; exact Bool.false_ne_true)]
  refine wpAny_bind (wpAny_dictEntries hod hdd ?_)
  split
  · refine wpAny_bind (wpAny_dictEntries hoo hdo' ?_)
    exact wpAny_bind (wpAny_of_eq (hall _ _) loop)
  · exact loop
/-- f's keywords from one dict -/
theorem wp_mergedKw {f : Value} {va : Sem Value} {Q : Addr → Shared → Prop}
    (h : wpAny (model prog w) A va (fun x s1 => wpAny (model prog w) A (mergeMapping s.heap.objs.size x true) (fun _ s2 => Q s.heap.objs.size s2) no s1) no { s with heap := s.heap.push { cls := .type "dict", data := .dict #[] } }) :
    wpAny (model prog w) A (mergedKeywords f [(none, va)]) Q E s := by
  unfold mergedKeywords
  refine wpAny_bind (wpAny_alloc ?_)
  refine wpAny_bind (wpAny_holding ?_)
  refine wpAny_bind ?_
  refine wpAny_forIn_list _ (fun rest b s' => (rest = [(none, va)] ∧ b = [] ∧ s' = { s with heap := s.heap.push { cls := .type "dict", data := .dict #[] } }) ∨ (rest = [] ∧ b = [] ∧ Q s.heap.objs.size s')) _ ?_ ?_ _ _ (.inl ⟨rfl, rfl, rfl⟩)
  · rintro ⟨nm, x⟩ rest b s' (⟨hr, rfl, rfl⟩ | ⟨hr, _⟩)
    · injection hr with h1 h2
      injection h1 with h1 h3
      subst h1 h2 h3
      dsimp only
      refine wpAny_bind (wpAny_ite_split (fun _ => wpAny_pure ?_) (fun z => absurd rfl z))
      refine wpAny_bind (wpAny_mono h (fun v s1 h1 => ?_) fun _ _ z => z.elim)
      refine wpAny_bind (wpAny_onRaise (wpAny_holding (wpAny_tryCatch (wpAny_onRaise (wpAny_mono h1 (fun _ s2 q => ?_) fun _ _ z => z.elim)))))
      exact wpAny_pure (.inr ⟨rfl, rfl, q⟩)
    · cases hr
  · rintro b s' (⟨hr, _⟩ | ⟨_, rfl, hq⟩)
    · cases hr
    · dsimp only
      refine wpAny_ite_split (fun _ => wpAny_pure ?_) (fun z => absurd rfl z)
      exact wpAny_pure hq
/-- its entries as keywords -/
theorem wp_kwIn {f : Value} {d : Addr} {more : List (Str × Value)} {Q : List (Str × Value) → Shared → Prop} (hd : s.heap.DictOf (mixKind prog w) d (more.map fun p => (Sum.inr p.1, p.2))) (h : Q more s) :
    wpAny (model prog w) A (keywordsIn f d) Q E s := by
  obtain ⟨od, esd, epd, hod, hcd, hdd, hkd, hpd, hnd⟩ := id hd
  unfold keywordsIn
  refine wpAny_bind (wpAny_dictEntries hod hdd ?_)
  refine wpAny_bind ?_
  rw [← Array.forIn_toList]
  refine wpAny_forIn_list _ (fun rest b s' => s' = s ∧ ∃ i, rest = esd.toList.drop i ∧ i ≤ esd.size ∧ b = more.take i) _ ?_ ?_ _ _ ⟨rfl, 0, rfl, Nat.zero_le _, rfl⟩
  · rintro e rest b s' ⟨rfl, i, hr, hi, rfl⟩
    have hlt : i < esd.size := by
      rcases Nat.lt_or_ge i esd.toList.length with z | z
      · simpa using z
      · rw [List.drop_of_length_le z] at hr; cases hr
    rw [List.drop_eq_getElem_cons (by simpa using hlt)] at hr
    injection hr with he hrest
    have hlen : more.length = esd.size := by have := hpd.length; rw [List.length_map] at this; simpa using this.symm
    have hxm : i < more.length := by rw [hlen]; exact hlt
    obtain ⟨hkey, hval⟩ := hpd.get? (e := e) (i := i) (by rw [he]; simp [hlt]) (show (more.map fun p => ((Sum.inr p.1 : Key), p.2))[i]? = some (Sum.inr more[i].1, more[i].2) from by rw [List.getElem?_map, List.getElem?_eq_getElem hxm]; rfl)
    obtain ⟨t, ek⟩ : ∃ t, e.key = Value.str more[i].1 t := by
      have hk2 : ∀ k : Key, k = Sum.inr more[i].1 → (mixKind prog w).is k e.key = true := fun k hk => by rw [hk]; exact hkey
      generalize hk : (Sum.inr more[i].1 : Key) = k at hk2
      rcases keyIs_shape (hk2 k rfl) with ⟨j, t, e1, _⟩ | ⟨x, t, e1, e2⟩
      · rw [e1] at hk; cases hk
      · rw [e1] at hk
        injection hk with hk
        rw [hk]
        exact ⟨t, e2⟩
    dsimp only
    rw [ek]
    dsimp only
    refine wpAny_pure ⟨rfl, i + 1, hrest, hlt, ?_⟩
    rw [hval, List.take_succ, List.getElem?_eq_getElem hxm]
    rfl
  · rintro b s' ⟨rfl, i, hr, hi, rfl⟩
    have hlen : more.length = esd.size := by have := hpd.length; rw [List.length_map] at this; simpa using this.symm
    have hge : more.length ≤ i := by
      rcases Nat.lt_or_ge i esd.toList.length with z | z
      · rw [List.drop_eq_getElem_cons z] at hr; cases hr
      · rw [hlen]; simpa using z
    rw [List.take_of_length_le hge]
    exact wpAny_pure h
/-- f(**x), f a class of the text -/
theorem callWith_KD {K : PySem.W.Frag} {f : Value} {pos : Pos} {va : Sem Value} {Q : Value → Shared → Prop} (hk : PySem.W.keepIn K f = true)
    (h : wpAny (model prog w) A va (fun x s1 => wpAny (model prog w) A (mergeMapping s.heap.objs.size x true) (fun _ s2 => wpAny (model prog w) A (keywordsIn f s.heap.objs.size) (fun kw s3 => K.In s3.heap ∧ wpAny (model prog w) A (call f [] kw) Q E s3) E s2) no s1) no { s with heap := s.heap.push { cls := .type "dict", data := .dict #[] } }) :
    wpAny (model prog w) A (callWith pos f [] [] [(none, va)]) Q E s := by
  unfold callWith
  have ev : wpAny (model prog w) A (evalArgs f true [] [(none, va)]) (fun a s1 => K.In s1.heap ∧ wpAny (model prog w) A (call f ([] ++ a.pos) a.kw) Q E s1) E s := by
    unfold evalArgs
    dsimp only
    refine wpAny_bind (Calls.spliced_nil ?_)
    refine wpAny_bind (wpAny_pure ?_)
    dsimp only
    refine wpAny_holding ?_
    rw [if_neg (by simp)]
    refine wpAny_bind (wp_mergedKw (wpAny_mono h (fun x s1 h1 => wpAny_mono h1 (fun _ s2 h2 => ?_) fun _ _ z => z) fun _ _ z => z))
    refine wpAny_bind (wpAny_pure ?_)
    exact wpAny_bind (wpAny_holding (wpAny_mono h2 (fun kw s3 h3 => wpAny_pure h3) fun _ _ z => z))
  refine wpAny_bind (wpAny_holding (wpAny_mono ev (fun a s1 h1 => wpAny_bind (wpAny_standAt ?_)) fun _ _ z => z))
  obtain ⟨k, hk', L⟩ := PySem.W.keeps_K hk _ h1.1
  have end_ : ∀ {t : Sem Value}, wpAny (model prog w) A t Q E s1 → wpAny (model prog w) A (t >>= fun r => holding [r] point >>= fun _ => pure r) Q E s1 :=
    fun ht => wpAny_bind (wpAny_mono ht (fun r s2 hr => wpAny_bind (wpAny_holding (wpAny_point (wpAny_pure hr)))) fun _ _ z => z)
  have mk (m : Value) : wpAny (model prog w) A (callMarked m f ([] ++ a.pos) a.kw) Q E s1 := by unfold callMarked; exact Calls.wpAny_keep h1.2
  refine wpAny_bind (L.here ?_)
  rcases hk' with rfl | rfl | rfl <;> dsimp only <;> first | exact end_ (mk _) | exact end_ (wpAny_operating h1.2)
end
end PySem.DnMg
namespace Dn
open PySem PySem.Spec L2
open PyProof.Rows hiding St RelV
/-- the keys of a dict that has strings alone -/
def strKs : List (D × D) → Option (List Str)
  | [] => some []
  | (.str k, _) :: r => (strKs r).map (k :: ·)
  | _ => none
/-- C(**v), v a variable: tbl tells what C makes of which keywords -/
def eCallKD (tbl : List (List Str × M)) (i : Nat) : E := fun ρ s => match ρ[i]? with
  | some (.pu (.dic kvs)) => (match strKs kvs with
    | some ks => (match tbl.lookup ks with
      | some m => m (kvs.map (·.2)) s
      | none => .bad)
    | none => .bad)
  | _ => .bad
section
variable {X : Cx} {pins : List (Addr × Obj)} {σ : St} {H : Hp} {s : Shared} {A : Around} {E : Value → Shared → Prop}
theorem str_split {K : PySem.W.Frag} {μ : Mu} {F : Addr → Prop} : ∀ {kvs : List (D × D)} {ks : List Str} {xs : List (Key × V)} {ws : List (Key × Value)}, strKs kvs = some ks → RVd K H μ F kvs xs → KV xs ws →
    ∃ us ys, ws = (ks.zip us).map (fun p => ((Sum.inr p.1 : Key), p.2)) ∧ Vals ys us ∧ RVs K H μ F (kvs.map (·.2)) ys ∧ us.length = ks.length
  | [], ks, xs, ws, h, r, k => by
    cases h
    unfold RVd at r
    subst r
    cases k
    exact ⟨[], [], rfl, .nil, RVs.nil, rfl⟩
  | (d, e) :: kvs, ks, xs, ws, h, r, k => by
    unfold RVd at r
    obtain ⟨q, y, ys, rfl, r1, r2, r3⟩ := r
    cases k with
    | @cons _ w _ ws' kq kr =>
    cases d with
    | str x =>
      have h : (strKs kvs).map (x :: ·) = some ks := h
      obtain ⟨ks', h', rfl⟩ := Option.map_eq_some_iff.mp h
      obtain ⟨us, vs, e1, e2, e3, e4⟩ := str_split h' r3 kr
      obtain ⟨wk, wv⟩ := w
      obtain ⟨k1, k2⟩ := kq
      have k1 : q = wk := k1
      subst k1
      unfold RV at r1
      have eq : q = Sum.inr x := by
        rcases q with i | z
        · cases r1
        · have r1 : V.str z = V.str x := r1
          injection r1 with r1
          rw [r1]
      subst eq
      exact ⟨wv :: us, y :: vs, by rw [e1]; rfl, .cons k2 e2, RVs.cons r2 e3, by rw [List.length_cons, List.length_cons, e4]⟩
    | _ => cases h
theorem d_mergeU {a b : Addr} {more : List (Key × V)} {Q : Unit → Shared → Prop} (I : Inv X pins σ H s) (e : H a = some (.dK [])) (e2 : Rd H b (.dK more)) (hab : a ≠ b)
    (h : ∀ s' ws, Inv X pins σ (upd H a (.dK more)) s' → KV more ws → s'.heap.DictOf (mixKind X.prog X.w) a ws → Q () s') : wpAny (model X.prog X.w) A (mergeMapping a (.ref b) true) Q E s := by
  obtain ⟨z, hd, vs, rel, dd⟩ := dk_of I.hok e
  cases rel
  obtain ⟨z2, hd2, ws, rel2, dd2⟩ := dk_rd I.hok e2
  refine PySem.DnMg.wp_mergeU hab hd2 dd dd2 (fun h' dd' _ hs => h _ ws ?_ rel2 dd') (by rw [← Paired.length rel2]; exact z2)
  have he : ∃ q, h'.get? a = some q := let ⟨q, _, _, hq, _⟩ := dd'; ⟨q, hq⟩
  exact d_write I (t' := s.toks) (by rw [e]; exact True.intro) hs he (dk_new z2 hd rel2 dd')
end
section
variable {X : Cx} {W : WX} {x y : Str} {p p1 kp pos : Pos} {c : Value} {tbl : List (List Str × M)}
theorem sn_callKD (hT : ∀ ks m, tbl.lookup ks = some m → CallsN X W c ks m) (hg : Gl X x) (hm : X.mg x = some c) (hk : PySem.W.keepIn X.K c = true) (i : Nat) (hN : X.N[i]? = some y := by rfl) (hv : Vis X.env.scope y := by first | exact Or.inl rfl | exact Or.inr (Or.inl rfl) | exact Or.inr (Or.inr rfl))
    (hd : (y == ("__debug__" : Str)) = false := by decide) (hcd : (y == ("__classdict__" : Str)) = false := by decide) (hdb : (x == ("__debug__" : Str)) = false := by decide) : SN X W (.Call (.Name x p) [] [⟨none, .Name y p1, kp⟩] pos) (eCallKD tbl i) := by
  refine ⟨fun pins s σ H Q I ⟨ρ, μ, F, G, st, a, h⟩ => ?_⟩
  unfold eCallKD at h
  split at h
  · rename_i kvs hi
    split at h
    · rename_i ks hks
      split at h
      · rename_i m hm2
        obtain ⟨o, e1, v, e2, rv⟩ := a.l.at_ i _ hi
        subst e2
        unfold RV at rv
        obtain ⟨b, xs, rfl, ⟨hb, nb, nF⟩, rd⟩ := rv
        refine wpAny_Call_Name_kw (ld_glob I hg hm ?_ hdb)
        have hn := I.hok.fresh (Nat.le_refl s.heap.objs.size)
        have I1 := I.laid (a := s.heap.objs.size) (o := .dK []) (h' := s.heap.push { cls := .type "dict", data := .dict #[] }) (t' := s.toks) (fun _ _ q => Heap.get?_push_of_some _ q) (Nat.le_refl _) (dk_empty s.heap I.big)
        have hne : s.heap.objs.size ≠ b := by
          rintro rfl
          rcases hb with hb | ⟨_, hb⟩ <;> rw [hn] at hb <;> cases hb
        have hb1 : Rd (upd H s.heap.objs.size (.dK [])) b (.dK xs) := by
          rcases hb with hb | ⟨o, hb⟩
          · exact .inl (by rw [upd_ne (Ne.symm hne)]; exact hb)
          · exact .inr ⟨o, by rw [upd_ne (Ne.symm hne)]; exact hb⟩
        show wpAny _ _ (callWith pos c [] [] [(none, do let v ← eval (.Name y p1) X.env; standAt pos; pure v)]) _ _ s
        refine PySem.DnMg.callWith_KD hk ?_
        refine wpAny_bind (wpAny_mono ((pe_var (X := X.wish PySem.DnMg.no) (pos := p1) hN hv hd hcd).run pins _ σ _ (fun v H1 => v = .ref b ∧ H1 = upd H s.heap.objs.size (.dK [])) (I1.wish _) ⟨_, e1, rfl, rfl⟩) (fun u s1 ⟨v, H1, I2, r1, q1⟩ => wpAny_bind (wpAny_standAt (wpAny_pure ?_))) fun _ _ z => z)
        obtain ⟨rfl, rfl⟩ := q1
        obtain rfl : u = Value.ref b := r1
        refine d_mergeU I2.unwish upd_same hb1 hne fun s2 ws I3 kv dd => ?_
        rw [upd_upd] at I3
        obtain ⟨us, ys, ew, r2, r3, l4⟩ := str_split hks rd kv
        subst ew
        refine PySem.DnMg.wp_kwIn dd ⟨I3.kIn, ?_⟩
        have fu : Fut H μ (upd H s.heap.objs.size (.dK xs)) μ := Fut.new hn
        exact hT ks m hm2 pins s2 σ _ [] us [] ys Q μ F st [] (kvs.map (·.2)) I3 .nil r2 l4 (a.s.new hn) RVs.nil (RVs.kp fu.kp0 r3) (by rw [List.nil_append]; exact OkN.fut fu h)
      · exact h.elim
    · exact h.elim
  · exact h.elim
end
end Dn
namespace PySem.DnMg
open PySem PySem.Spec L2
open PySem.Sem
open PyProof.Rows hiding St RelV
theorem wp_nsSetK {prog : Program} {w : World} {A : Around} {E : Value → Shared → Prop} {s : Shared} {a : Addr} {kvs : List (Key × Value)} {name : Str} {v : Value} {Q : Unit → Shared → Prop} (hd0 : s.heap.DictOf (mixKind prog w) a kvs) (hn0 : (Sum.inr name : Key) ∉ kvs.map (·.1))
    (hQ : ∀ h', h'.DictOf (mixKind prog w) a (kvs ++ [(Sum.inr name, v)]) → Heap.SameBut a s.heap h' → Q () { s with heap := h', toks := s.toks + 1 }) : wpAny (model prog w) A (nsSet a name v) Q E s := by
  intro Γ p hΓ
  obtain ⟨o, es, ep, ho, hc, hd, hk, hp, hn⟩ := hd0
  simp only [nsSet, strHash, wp_bind', wp_cmd_ask, wp_pure', wp_cmd_mkText]
  rw [wp_loadPart_of (model prog w) Γ _ p { s with toks := s.toks + 1 } (o := o) _ ho]
  have hany : es.any (·.refKey) = false := by
    rw [Array.any_eq_false']
    intro e he
    obtain ⟨k, hkey, _⟩ := hk e he
    rcases keyIs_shape hkey with ⟨i, t, _, e2⟩ | ⟨x, t, _, e2⟩ <;> simp [DictEntry.refKey, e2]
  have hi : es.findIdx? (fun e => e.key.isStr name) = none := by
    have q : (es.findIdx? fun e => (mixKind prog w).is (Sum.inr name) e.key) = kvs.findIdx? fun kv => decide (kv.1 = Sum.inr name) := by
      rw [← hp.findIdx (Sum.inr name)]; obtain ⟨l⟩ := es; simp
    have q2 : (kvs.findIdx? fun kv => decide (kv.1 = (Sum.inr name : Key))) = none := by
      rw [List.findIdx?_eq_none_iff]
      intro kv hkv
      exact decide_eq_false fun z => hn0 (by rw [← z]; exact List.mem_map_of_mem hkv)
    have q3 : (fun e : DictEntry => e.key.isStr name) = fun e => (mixKind prog w).is (Sum.inr name) e.key := by
      funext e
      show e.key.isStr name = Value.isStrOf name e.key
      cases e.key <;> rfl
    rw [q3]
    exact q.trans q2
  simp only [hd, aRefKeyMayBeTheName_eq, aRefKeyMayBeTheNameByArray, hany, Bool.and_false, Bool.false_eq_true, if_false, wp_cmd_updatePart]
  refine ⟨by rw [ho]; rfl, hQ _ ?_ (Heap.SameBut.update ..)⟩
  have hkey : (mixKind prog w).is (Sum.inr name) (Value.str name s.toks) = true := by
    show Value.isStrOf name (Value.str name s.toks) = true
    simp [Value.isStrOf]
  obtain ⟨c, d, dt, sl⟩ := o
  obtain rfl : dt = .dict es ep := hd
  refine ⟨⟨c, d, .dict (es.push ⟨(mixKind prog w).hash (Sum.inr name), Value.str name s.toks, v⟩) (ep + 1), sl⟩, es.push ⟨(mixKind prog w).hash (Sum.inr name), Value.str name s.toks, v⟩, ep + 1, ?_, ?_, rfl, hk.push hkey _, ?_, ?_⟩
  · have e : Obj.putName name (if name.cps.isEmpty = true then 0 else reduceHash ((model prog w).w.params.strHash name.cps)) (Value.str name s.toks) v ⟨c, d, .dict es ep, sl⟩ = ⟨c, d, .dict (es.push ⟨(mixKind prog w).hash (Sum.inr name), Value.str name s.toks, v⟩) (ep + 1), sl⟩ := by
      simp only [Obj.putName_eq, Obj.putNameByArray, hi]
      rfl
    have z := Heap.get?_update_self (Obj.putName name (if name.cps.isEmpty = true then 0 else reduceHash ((model prog w).w.params.strHash name.cps)) (Value.str name s.toks) v) ho (by rw [e]; rfl)
    rw [e] at z
    exact z
  · exact hc
  · have := hp.append hkey ((mixKind prog w).hash (Sum.inr name)) v
    obtain ⟨l⟩ := es
    simpa using this
  · rw [List.map_append, List.nodup_append]
    refine ⟨hn, by simp, ?_⟩
    intro x hx y hy
    simp only [List.map_cons, List.map_nil, List.mem_singleton] at hy
    subst hy
    exact fun e => hn0 (e ▸ hx)
theorem wp_nsLoop {prog : Program} {w : World} {A : Around} {E : Value → Shared → Prop} {s : Shared} {a : Addr} {kw : List (Str × Value)} {Q : PUnit → Shared → Prop} (hd : s.heap.DictOf (mixKind prog w) a []) (hn : (kw.map (·.1)).Nodup)
    (hQ : ∀ h' t', h'.DictOf (mixKind prog w) a (kw.map fun p => ((Sum.inr p.1 : Key), p.2)) → Heap.SameBut a s.heap h' → Q PUnit.unit { s with heap := h', toks := t' }) :
    wpAny (model prog w) A (forIn kw PUnit.unit fun (x : Str × Value) (_ : PUnit) => (do nsSet a x.fst x.snd; Pure.pure (ForInStep.yield PUnit.unit) : Sem (ForInStep PUnit))) Q E s := by
  refine wpAny_forIn_list _ (fun rest _ s' => ∃ h' t' pre, s' = { s with heap := h', toks := t' } ∧ kw = pre ++ rest ∧ h'.DictOf (mixKind prog w) a (pre.map fun p => ((Sum.inr p.1 : Key), p.2)) ∧ Heap.SameBut a s.heap h') _ ?_ ?_ _ _ ⟨s.heap, s.toks, [], rfl, rfl, hd, Heap.SameBut.refl _ _⟩
  · rintro ⟨k, v⟩ rest b s' ⟨h', t', pre, rfl, e1, hd', hs'⟩
    have hk : (Sum.inr k : Key) ∉ (pre.map fun p => ((Sum.inr p.1 : Key), p.2)).map (·.1) := fun z => by
      rw [List.map_map] at z
      obtain ⟨q, hq, e⟩ := List.mem_map.mp z
      have e : (Sum.inr q.1 : Key) = Sum.inr k := e
      injection e with e
      rw [e1, List.map_append, List.nodup_append] at hn
      exact hn.2.2 q.1 (List.mem_map_of_mem hq) k (by simp) e
    refine wpAny_bind (wp_nsSetK hd' hk fun h2 hd2 hs2 => ?_)
    exact wpAny_pure ⟨h2, _, pre ++ [(k, v)], rfl, by rw [e1]; simp, by rw [List.map_append]; exact hd2, hs'.trans hs2⟩
  · rintro b s' ⟨h', t', pre, rfl, e1, hd', hs'⟩
    rw [List.append_nil] at e1
    subst e1
    exact hQ h' t' hd' hs'
end PySem.DnMg
namespace Dn
open PySem PySem.Spec L2
open PyProof.Rows hiding St RelV
section
variable {P : Program} {w : World} {A : Around} {E : Value → Shared → Prop} {s : Shared}
theorem bind_kw3 {fd : FuncData} {p0 p1 p2 pd : Str} {a b c : Value} {kw : List (Str × Value)} {Q : List (Str × Value) → Shared → Prop}
    (hp : fd.params.posonlyargs = []) (hn : fd.params.args.map (·.arg) = [p0, p1, p2]) (hv : fd.params.vararg = none) (hk : fd.params.kwonlyargs = []) (hd : fd.defaults = .none) (hkw : ∃ an, fd.params.kwarg = some an ∧ an.arg = pd)
    (hnd : [p0, p1, p2].Nodup) (hks : ∀ q ∈ kw, q.1 ∉ [p0, p1, p2]) (hl : kw.length ≤ sizeLine)
    (h : wpAny (model P w) A (do
      let d ← (alloc { cls := .type "dict", data := .dict #[] } : Sem Addr)
      for (k, v) in kw do nsSet d k v
      pure ([(p0, a), (p1, b), (p2, c), (pd, Value.ref d)] : List (Str × Value))) Q E s) :
    wpAny (model P w) A (bindArgs fd ⟨[a, b, c], kw⟩) Q E s := by
  unfold bindArgs
  dsimp only
  rw [hp, hn, hv, hk, hd]
  obtain ⟨an, ha, hpd⟩ := hkw
  refine wpAny_bind (wpAny_forIn_list _ (fun rest r s' => s' = s ∧ ∃ pre, kw = pre ++ rest ∧ r = ([(p0, a), (p1, b), (p2, c)], pre)) _ ?_ ?_ _ _ ⟨rfl, [], rfl, rfl⟩)
  · rintro ⟨k, v⟩ rest r s' ⟨rfl, pre, e1, rfl⟩
    have hq : k ∉ [p0, p1, p2] := hks (k, v) (by rw [e1]; simp)
    dsimp only
    rw [if_neg (by simpa using hq), if_pos (by rw [ha]; rfl)]
    exact wpAny_pure ⟨rfl, pre ++ [(k, v)], by rw [e1]; simp, rfl⟩
  · rintro r s' ⟨rfl, pre, e1, rfl⟩
    rw [List.append_nil] at e1
    subst e1
    have n10 : ¬ p1 = p0 := fun z => by rw [z] at hnd; simp at hnd
    have n20 : ¬ p2 = p0 := fun z => by rw [z] at hnd; simp at hnd
    have n21 : ¬ p2 = p1 := fun z => by rw [z] at hnd; simp at hnd
    have k0 : List.lookup p0 [(p0, a), (p1, b), (p2, c)] = some a := by simp [List.lookup]
    have k1 : List.lookup p1 [(p0, a), (p1, b), (p2, c)] = some b := by
      have : (p1 == p0) = false := by simpa using n10
      simp [List.lookup, this]
    have k2 : List.lookup p2 [(p0, a), (p1, b), (p2, c)] = some c := by
      have h1 : (p2 == p0) = false := by simpa using n20
      have h2 : (p2 == p1) = false := by simpa using n21
      simp [List.lookup, h1, h2]
    dsimp only
    refine wpAny_bind (show wpAny (model P w) A (pure none) _ _ _ from wpAny_pure ?_)
    rw [if_neg (by simp)]
    rw [if_neg (by simp [k0, k1, k2])]
    refine wpAny_bind (show wpAny (model P w) A (pure [(p0, a), (p1, b), (p2, c)]) _ _ _ from wpAny_pure ?_)
    refine wpAny_bind (show wpAny (model P w) A (pure ([(p0, a), (p1, b), (p2, c)], [])) _ _ _ from wpAny_pure ?_)
    dsimp only
    rw [if_neg (by simp), ha]
    dsimp only
    rw [if_neg (by omega)]
    have hf : (List.filterMap (fun n => Option.map (fun x => (n, x)) (List.lookup n [(p0, a), (p1, b), (p2, c)])) (List.map (fun x : Arg => x.arg) [] ++ [p0, p1, p2] ++ List.map (fun x : Arg => x.arg) [])) = [(p0, a), (p1, b), (p2, c)] := by simp [k0, k1, k2]
    rw [hf, hpd]
    exact h
/-- what such a def binds -/
theorem bind_kwD {fd : FuncData} {p0 p1 p2 pd : Str} {a b c : Value} {kw : List (Str × Value)} {Q : List (Str × Value) → Shared → Prop}
    (hp : fd.params.posonlyargs = []) (hn : fd.params.args.map (·.arg) = [p0, p1, p2]) (hv : fd.params.vararg = none) (hk : fd.params.kwonlyargs = []) (hd : fd.defaults = .none) (hkw : ∃ an, fd.params.kwarg = some an ∧ an.arg = pd)
    (hnd : [p0, p1, p2].Nodup) (hks : ∀ q ∈ kw, q.1 ∉ [p0, p1, p2]) (hl : kw.length ≤ sizeLine) (hnk : (kw.map (·.1)).Nodup)
    (h : ∀ h' t', h'.DictOf (mixKind P w) s.heap.objs.size (kw.map fun p => ((Sum.inr p.1 : Key), p.2)) → (∀ b o, s.heap.get? b = some o → h'.get? b = some o) → s.heap.objs.size ≤ h'.objs.size → Q [(p0, a), (p1, b), (p2, c), (pd, Value.ref s.heap.objs.size)] { s with heap := h', toks := t' }) :
    wpAny (model P w) A (bindArgs fd ⟨[a, b, c], kw⟩) Q E s := by
  refine bind_kw3 hp hn hv hk hd hkw hnd hks hl ?_
  refine wpAny_bind (wpAny_alloc ?_)
  refine wpAny_bind (PySem.DnMg.wp_nsLoop (a := s.heap.objs.size) (s := { s with heap := s.heap.push { cls := .type "dict", data := .dict #[] } }) (Heap.DictOf.new s.heap) hnk fun h' t' hd' hs' => ?_)
  refine wpAny_pure (h h' t' hd' (fun b o e => ?_) ?_)
  · rw [hs'.2 b (Nat.ne_of_lt (Heap.lt_size e))]
    exact Heap.get?_push_of_some _ e
  · have z : (s.heap.push { cls := .type "dict", data := .dict #[] } : Heap).objs.size ≤ h'.objs.size := Nat.le_of_eq hs'.1.symm
    rw [Heap.size_push] at z
    exact Nat.le_of_succ_le z
/-- a promise of a def f(a, b, c, **d) -/
def FnKw (P : Program) (w : World) (K : PySem.W.Frag) (mg : Str → Option Value) (base : Heap) (k : Nat) (f : Addr) (nrm : List Str) (sp : Sp) : Prop :=
  ∀ (A : Around) (fs : List Env) (s : Shared) (H : Hp) (us ws : List Value) (ks : List Str) (xs ys : List V) (Q : VK) (E : XK), Room k A → Env0 P w K mg base A fs s H → Vals xs us → Vals ys ws → us.length = nrm.length → ws.length = ks.length → ks.Nodup → (∀ q ∈ ks, q ∉ nrm) → ks.length ≤ 1000 →
    (∀ p, H p = none → sp (xs ++ [V.ref p]) (upd H p (.dK ((ks.map Sum.inr).zip ys))) Q E) → codeAny (model P w) A (.call (.ref f) ⟨us, ks.zip ws⟩) (CR (L2.CX P w) fs P w H s Q E) s
variable {K : PySem.W.Frag} {mg : Str → Option Value} {base : Heap} {k : Nat} {f : Addr} {fd : FuncData}
theorem KV_of : ∀ {ks : List Str} {ys : List V} {ws : List Value}, Vals ys ws → KV ((ks.map (Sum.inr : Str → Key)).zip ys) ((ks.zip ws).map fun p => ((Sum.inr p.1 : Key), p.2))
  | [], _, _, _ => .nil
  | _ :: _, _, _, .nil => .nil
  | k :: ks, _, _, .cons r rs => .cons ⟨rfl, r⟩ (KV_of rs)
theorem kw_ok {x qual : Str} {params : Arguments} {body : List Stmt} {scope : Scope} {kws : List (Str × V)} {N : List Str} {p0 p1 p2 pd : Str} {sp : Sp} (Fu : FunD K x qual params body scope [] kws f fd) (S : FnScope N [p0, p1, p2, pd] scope)
    (hp : params.posonlyargs = []) (hn : params.args.map (·.arg) = [p0, p1, p2]) (hv : params.vararg = none) (hk : params.kwonlyargs = []) (hkw : ∃ an, params.kwarg = some an ∧ an.arg = pd) (hnd : [p0, p1, p2].Nodup)
    (hbody : ∀ (cdv : Value) (A : Around) (fs : List Env) (s : Shared) (H : Hp) (xs : List V) (Q : VK) (E : XK), Room k (A.deeper (envOfC qual scope s.heap.objs.size f cdv)) → xs.length = 4 → sp xs H Q E →
      ∃ t, PSs (cxOf (L2.CX P w) P w K mg base N qual scope f cdv A fs s H E) body t ∧ t { nx := fun _ H1 => Q .non H1, rt := Q } (start N xs) H) : FnKw P w K mg base (k + 1) f [p0, p1, p2] sp := by
  intro A fs s H us ws ks xs ys Q E room e0 rel rely lu lw hks hkn hkl hsp
  obtain ⟨oc, od, v0, v1, v2, v3, a0, cdv, v4, sl, rfl, look, hcode, hD, _⟩ := Fu.ex
  rcases hD with ⟨_, rfl⟩ | ⟨hD, _⟩
  rotate_left
  · exact absurd rfl hD
  match us, lu, rel with
  | [u0, u1, u2], _, rel =>
  have lx : xs.length = 3 := rel.length
  have ly : ys.length = ks.length := by rw [rely.length]; exact lw
  have kin : K.In s.heap := e0.mod.kin.keeps fun b o z => (e0.bs b o z).1
  refine codeAny_call_function room.depth (kin _ _ look) rfl S.co S.gen rfl (PySem.W.codeRec_of kin hcode) ?_
  have lz : (ks.zip ws).length = ks.length := by rw [List.length_zip, lw, Nat.min_self]
  have mz : (ks.zip ws).map (·.1) = ks := by rw [List.map_fst_zip (by omega)]
  refine bind_kwD (pd := pd) hp hn hv hk rfl hkw hnd (fun q hq => hkn q.1 (by rw [← mz]; exact List.mem_map_of_mem hq)) (by rw [lz]; unfold sizeLine; omega) (by rw [mz]; exact hks) fun h' t' hd' kp hsz => ?_
  have hfr : H s.heap.objs.size = none := e0.hok.fresh (Nat.le_refl _)
  have hsys : (s.heap.objs.size == sysModules) = false := beq_eq_false_iff_ne.mpr (Ne.symm (Nat.ne_of_lt (StX.env0_big e0)))
  have new : ObjOk P w (upd H s.heap.objs.size (.dK ((ks.map Sum.inr).zip ys))) h' s.heap.objs.size (.dK ((ks.map Sum.inr).zip ys)) := dk_new (by rw [List.length_zip, List.length_map]; unfold sizeLine; omega) hsys (KV_of rely) hd'
  have un : Un (frs fs) [] H (upd H s.heap.objs.size (.dK ((ks.map Sum.inr).zip ys))) s.heap h' := Un.laid kp (Nat.le_refl _) hfr
  have e2 : Env0 P w K mg base A fs { s with heap := h', toks := t' } (upd H s.heap.objs.size (.dK ((ks.map Sum.inr).zip ys))) := by
    refine ⟨e0.frames, e0.mod, fun b x e => ⟨kp b x (e0.bs b x e).1, ?_⟩, Nat.le_trans e0.bsz hsz, Heap.FunFrames.of_keeps (fun b x e _ => ⟨x, kp b x e, rfl⟩) e0.funs, fun b hb => ?_, e0.hok.laid kp (Nat.le_refl _) new, e0.bare⟩
    · rw [upd_ne (Nat.ne_of_lt (Heap.lt_size (e0.bs b x e).1))]
      exact (e0.bs b x e).2
    · obtain ⟨_, x, hx, _⟩ := e0.funs.mem hb
      rw [upd_ne (Nat.ne_of_lt (Heap.lt_size hx))]
      exact e0.frf b hb
  have nolim := e2.mod.nolimit.keeps fun b o z => (e2.bs b o z).1
  have kinds : ∀ y ∈ [p0, p1, p2, pd].zip [u0, u1, u2, Value.ref s.heap.objs.size], scope.names.lookup y.1 = some .local ∨ (scope.names.lookup y.1 = some .cell ∧ ((cellsFrom (h'.objs.size + 1) scope.names []).lookup y.1).isSome = true) := by
    rintro ⟨nm, v⟩ hy
    rcases S.par nm (List.of_mem_zip hy).1 with z | z
    · exact .inl z
    · exact .inr ⟨z, PySem.W.cellsFrom_some _ _ _ (.inl z)⟩
  refine wpAny_newFunctionEnv_cells (s := { s with heap := h', toks := t' }) S.kind kinds fun env he s1 inCall => ?_
  subst he
  refine ⟨nolim.keeps inCall.toInCall.keep, codeAny_func ?_⟩
  have rel2 : Vals (xs ++ [V.ref s.heap.objs.size]) ([u0, u1, u2] ++ [Value.ref s.heap.objs.size]) := rel.append (.cons rfl .nil)
  have l4 : (xs ++ [V.ref s.heap.objs.size]).length = [p0, p1, p2, pd].length := by rw [List.length_append, lx]; rfl
  have I : Inv (cxOf (L2.CX P w) P w K mg base N qual scope f cdv A fs { s with heap := h', toks := t' } (upd H s.heap.objs.size (.dK ((ks.map Sum.inr).zip ys))) E) [] (start N (xs ++ [V.ref s.heap.objs.size])) (upd H s.heap.objs.size (.dK ((ks.map Sum.inr).zip ys))) s1 := inv_start S room.hd e2 l4 rel2 inCall
  obtain ⟨tt, ht, hq⟩ := hbody cdv A fs { s with heap := h', toks := t' } _ _ Q E (room.deeper _) l4 (hsp _ hfr)
  refine wpAny_mono (ht.run [] s1 _ _ _ I hq) (fun fl s' hs => ?_) fun e s' hs => ?_
  · cases fl with
    | ret u' =>
      obtain ⟨v', σ', H', J, rv', q⟩ := hs
      exact ⟨v', H', J.os.trans rfl, J.bare, un.trans J.base, J.hok, rv', q⟩
    | next =>
      obtain ⟨σ', H', J, q⟩ := hs
      exact ⟨V.non, H', J.os.trans rfl, J.bare, un.trans J.base, J.hok, rfl, q⟩
    | brk =>
      obtain ⟨_, _, _, q⟩ := hs
      exact False.elim q
    | cont =>
      obtain ⟨_, _, _, q⟩ := hs
      exact False.elim q
  · have up := fun e s' => StX.cxUp (P := P) (w := w) fs s H { s with heap := h', toks := t' } (upd H s.heap.objs.size (.dK ((ks.map Sum.inr).zip ys))) E e s' un kp rfl
    exact wpAny_mono hs (fun _ s'' z => up _ s'' z) fun e' s'' z => up e' s'' z
end
end Dn
namespace Dn
open PySem PySem.Spec L2
open PyProof.Rows hiding St RelV
theorem init_body {P : Program} {w : World} {K : PySem.W.Frag} {mg : Str → Option Value} {base : Heap} {qual : Str} {body : List Stmt} {scope : Scope} {f : Addr} {N : List Str} {k n : Nat} {mb : S} (C : String)
    (hb : ∀ (cdv : Value) (A : Around) (outer : List Env) (s : Shared) (H : Hp) (E : XK), Room k (A.deeper (envOfC qual scope s.heap.objs.size f cdv)) →
      SB (cxOf (L2.CX P w) P w K mg base N qual scope f cdv A outer s H E) (fun c d _ H => E c d H) body mb)
    (cdv : Value) (A : Around) (outer : List Env) (s : Shared) (H : Hp) (vs : List V) (Q : VK) (E : XK) (hr : Room k (A.deeper (envOfC qual scope s.heap.objs.size f cdv))) (h : spInit K C n (initM C N.length mb) vs H Q E) (hN : n < N.length) :
    ∃ t, PSs (cxOf (L2.CX P w) P w K mg base N qual scope f cdv A outer s H E) body t ∧ t { nx := fun _ H1 => Q .non H1, rt := Q } (start N vs) H := by
  obtain ⟨μ, F, st, ds, x, dx, rest, Hc, rfl, rfl, hx, hdx, hne, rs, r, hl, h⟩ := h
  have hx1 : (upd Hc dx (.own x)) x = none := by rw [upd_ne (Ne.symm hne)]; exact hx
  have rs1 : RS K (upd Hc dx (.own x)) μ F st := rs.new hdx
  have rs2 : RS K (upd (upd Hc dx (.own x)) x (.ins (He.ga K C) dx [])) μ (plus F x) st := rs1.plus hx1
  have kp0 : Kp Hc μ F (upd Hc dx (.own x)) μ F := (Fut.new (μ := μ) hdx).kp0
  have kp1 : Kp (upd Hc dx (.own x)) μ F (upd (upd Hc dx (.own x)) x (.ins (He.ga K C) dx [])) μ (plus F x) := Fut.kpP hx1 .refl
  have hst : start N (.ref x :: rest) = some (.ref x) :: (rest.map some ++ List.replicate (N.length - (rest.length + 1)) none) := by
    unfold L2.start
    rw [List.map_cons, List.cons_append, List.length_cons]
  have lr := r.length
  have l0 : RL [] K (upd Hc dx (.own x)) μ F ownNo (ds.map .pu ++ List.replicate (N.length - (ds.length + 1)) .no) (rest.map some ++ List.replicate (N.length - (rest.length + 1)) none) := by
    have q := RL.start (pn := []) (RVs.kp kp0 r) (N.tail)
    unfold L2.start at q
    rw [List.length_tail] at q
    rw [show N.length - (ds.length + 1) = N.length - 1 - ds.length by omega, show N.length - (rest.length + 1) = N.length - 1 - rest.length by omega]
    exact q
  have at0 : At [] K (upd (upd Hc dx (.own x)) x (.ins (He.ga K C) dx [])) μ (plus F x) ⟨(· = x), some x⟩ (.ow true (.obj C []) :: (ds.map .pu ++ List.replicate (N.length - (ds.length + 1)) .no)) (start N (.ref x :: rest)) st := by
    rw [hst]
    refine ⟨l0.slot0 kp1 hx1 rfl rfl (.inr rfl) ⟨dx, [], upd_same, RVf.nil⟩ (fun sl h b d => ?_), rs2, fun a h => .inr h⟩
    rcases List.mem_append.mp h with h | h
    · obtain ⟨c, _, e⟩ := List.mem_map.mp h
      subst e
      exact fun z => by cases z
    · rw [(List.mem_replicate.mp h).2]
      exact fun z => by cases z
  have key : ∀ {H' : Hp} {μ' : Mu} {F' : Addr → Prop} {G' : Own}, Ev (upd (upd Hc dx (.own x)) x (.ins (He.ga K C) dx [])) μ (plus F x) ⟨(· = x), some x⟩ H' μ' F' G' → Fut Hc μ H' μ' ∧ ∀ a, F a → F' a := fun {H' μ' F' G'} e => by
    have back : ∀ {b : Addr}, (upd (upd Hc dx (.own x)) x (.ins (He.ga K C) dx [])) b = none → Hc b = none := fun {b} z => by
      by_cases h1 : b = x
      · rw [h1, upd_same] at z; cases z
      · rw [upd_ne h1] at z
        by_cases h2 : b = dx
        · rw [h2]; exact hdx
        · rw [upd_ne h2] at z; exact z
    have fwd : ∀ {b : Addr} {o : HO}, Hc b = some o → (upd (upd Hc dx (.own x)) x (.ins (He.ga K C) dx [])) b = some o := fun {b o} z => by
      rw [upd_ne (ne_of_none z hx), upd_ne (ne_of_none z hdx)]; exact z
    obtain ⟨l, el, ql⟩ := id e.ext
    refine ⟨⟨⟨l, el, fun a h => back (ql a h)⟩, fun a o n h => e.keep a o n (fun z => by rw [show a = x from z, hx] at h; cases h) (fwd h), fun a o h => e.there a o (fwd h)⟩, fun a h => (e.sub a (.inl h)).elim id fun z => ?_⟩
    obtain ⟨o, q⟩ := rs.fd a h
    rw [show a = x from z, hx] at q
    cases q
  refine ⟨_, hb cdv A outer s _ E hr, _, μ, plus F x, ⟨(· = x), some x⟩, st, at0, ?_⟩
  unfold initM at h
  show OkS [] K (fun c d _ H => E c d H) _ μ (plus F x) _ (mb _ st) _
  cases e : mb (.ow true (.obj C []) :: (ds.map .pu ++ List.replicate (N.length - (ds.length + 1)) .no)) st with
  | nx ρ s =>
    rw [e] at h
    intro σ' H' μ' F' G' ev a'
    obtain ⟨fu, fs⟩ := key ev
    have h : OkN K (fun c d _ H => E c d H) F [] Hc μ (match (ρ[0]? : Option Slot) with
      | some (.ow true (.obj C fs)) => .ok (.obj C fs) s
      | _ => .bad) (fun v H' => v = .ref x → Q .non H') := h
    split at h
    · rename_i C' fs' h0
      obtain ⟨v, e3, p, e4, g0, g1, g2⟩ := a'.l.at_ 0 _ h0
      have ex : p = x := by
        have := g0.2 rfl
        rw [ev.sf] at this
        exact (Option.some.inj this).symm
      subst ex
      have wk : ∀ a, plus F p a → F' a := fun a z => z.elim (fs a) fun w => by rw [w]; exact g1
      exact h H' μ' p fu (a'.s.weak wk) hx (fun z => (rs.fresh hx).2 z) (g2.kp ⟨fun a o h n nF => ⟨h, n, fun z => nF (wk a z)⟩, fun _ _ h => h⟩ rfl) rfl
    · exact h.elim
  | ex C' fs' ρ s =>
    rw [e] at h
    intro d σ' H' μ' F' G' xs ev a' q1 q2 q3 q4
    obtain ⟨fu, fs⟩ := key ev
    exact h d H' μ' xs fu (a'.s.weak fs) q1 q2 (fun z => q3 (fs d z)) (RVf.kp ⟨fun a o h n nF => ⟨h, n, fun z => nF (fs a z)⟩, fun _ _ h => h⟩ q4)
  | rt d s => rw [e] at h; exact h.elim
  | bk ρ s => rw [e] at h; exact h.elim
  | ct ρ s => rw [e] at h; exact h.elim
  | bad => rw [e] at h; exact h.elim
/-- a promise of an __init__ with **d -/
def IkOk (P : Program) (w : World) (K : PySem.W.Frag) (mg : Str → Option Value) (base : Heap) (k : Nat) (C : String) (f : Addr) (nrm : List Str) (m : M) : Prop :=
  FnKw P w K mg base k f nrm (spInit K C nrm.length m)
theorem ik_ok {P : Program} {w : World} {K : PySem.W.Frag} {mg : Str → Option Value} {base : Heap} {x qual : Str} {params : Arguments} {body : List Stmt} {scope : Scope} {kws : List (Str × V)} {f : Addr} {fd : FuncData} {N : List Str} {p0 p1 p2 pd : Str} {k : Nat} {mb : S} (C : String)
    (Fu : FunD K x qual params body scope [] kws f fd) (S : FnScope N [p0, p1, p2, pd] scope)
    (hb : ∀ (cdv : Value) (A : Around) (outer : List Env) (s : Shared) (H : Hp) (E : XK), Room k (A.deeper (envOfC qual scope s.heap.objs.size f cdv)) →
      SB (cxOf (L2.CX P w) P w K mg base N qual scope f cdv A outer s H E) (fun c d _ H => E c d H) body mb)
    (hN : 3 < N.length := by decide)
    (hp : params.posonlyargs = [] := by rfl) (hn : params.args.map (·.arg) = [p0, p1, p2] := by rfl) (hv : params.vararg = none := by rfl) (hk : params.kwonlyargs = [] := by rfl) (hkw : ∃ an, params.kwarg = some an ∧ an.arg = pd := by exact ⟨_, rfl, rfl⟩) (hnd : [p0, p1, p2].Nodup := by decide) :
    IkOk P w K mg base (k + 1) C f [p0, p1, p2] (initM C N.length mb) :=
  kw_ok Fu S hp hn hv hk hkw hnd fun cdv A outer s H vs Q E hr _ h => init_body C hb cdv A outer s H vs Q E hr h hN
/-- what C makes, given np places and the keywords ks -/
def kwM (np : Nat) (ks : List Str) (m : M) : M := fun ds s => if ds.length = np + ks.length then m (ds.take np ++ [.dic ((ks.map .str).zip (ds.drop np))]) s else .bad
theorem RVd_zip {K : PySem.W.Frag} {H : Hp} {μ : Mu} {F : Addr → Prop} : ∀ {ks : List Str} {es : List D} {zs : List V}, RVs K H μ F es zs → RVd K H μ F ((ks.map D.str).zip es) ((ks.map (Sum.inr : Str → Key)).zip zs)
  | [], es, zs, _ => by simp only [List.map_nil, List.zip_nil_left]; unfold RVd; rfl
  | k :: ks, [], zs, r => by
    unfold RVs at r
    subst r
    simp only [List.zip_nil_right]
    unfold RVd
    rfl
  | k :: ks, e :: es, zs, r => by
    unfold RVs at r
    obtain ⟨v, vs, rfl, r1, r2⟩ := r
    simp only [List.map_cons, List.zip_cons_cons]
    unfold RVd
    exact ⟨_, v, _, rfl, by unfold RV; rfl, r1, RVd_zip r2⟩
theorem upd_comm {H : Hp} {a b : Addr} {o q : HO} (h : a ≠ b) : upd (upd H a o) b q = upd (upd H b q) a o := by
  funext c
  by_cases h1 : c = b
  · subst h1
    rw [upd_same, upd_ne (Ne.symm h), upd_same]
  · by_cases h2 : c = a
    · subst h2
      rw [upd_ne h1, upd_same, upd_same]
    · rw [upd_ne h1, upd_ne h2, upd_ne h2, upd_ne h1]
section
variable {X : Cx} {W : WX} {k : Nat} {f : Addr} {p0 p1 p2 : Str} {ks : List Str} {m : M} {Cn : String}
theorem mk_callsK (Mk' : Mk X.K (He.ga X.K Cn) f) (Fn : IkOk X.prog X.w X.K X.mg X.base k Cn f [p0, p1, p2] m) (hr : Room (k + 1) X.A) (tk : Takes X W) (hks : ks.Nodup) (hnm : ∀ q ∈ ks, q ∉ [p0, p1, p2]) (hlen : ks.length ≤ 1000) :
    CallsN X W (.ref (He.ga X.K Cn)) ks (kwM 2 ks m) := by
  intro pins s σ H us ws vs zs Q μ F st ds es I r rz lz rs rd re h
  unfold kwM at h
  split at h
  case isFalse => exact h.elim
  case isTrue hl =>
    have l1 := rd.length
    have l2 := re.length
    have l3 := r.length
    have l4 := rz.length
    rw [List.length_append] at hl
    have hus : us.length = 2 := by omega
    have hds : ds.length = 2 := by omega
    rw [← hds, List.take_left, List.drop_left] at h
    have I2 := Inv.made (C := He.ga X.K Cn) I
    have rv : Vals (V.ref (s.heap.objs.size + 1) :: vs) (Value.ref (s.heap.objs.size + 1) :: us) := .cons rfl r
    have hq : ∀ p, (upd (upd H s.heap.objs.size (.own (s.heap.objs.size + 1))) (s.heap.objs.size + 1) (.ins (He.ga X.K Cn) s.heap.objs.size [])) p = none →
        spInit X.K Cn 3 m ((V.ref (s.heap.objs.size + 1) :: vs) ++ [V.ref p]) (upd (upd (upd H s.heap.objs.size (.own (s.heap.objs.size + 1))) (s.heap.objs.size + 1) (.ins (He.ga X.K Cn) s.heap.objs.size [])) p (.dK ((ks.map Sum.inr).zip zs)))
        (fun v H2 => v = .non ∧ Q (.ref (s.heap.objs.size + 1)) H2) (WE W σ) := fun p hp => by
      have n1 : p ≠ s.heap.objs.size + 1 := by rintro rfl; rw [upd_same] at hp; cases hp
      rw [upd_ne n1] at hp
      have n2 : p ≠ s.heap.objs.size := by rintro rfl; rw [upd_same] at hp; cases hp
      rw [upd_ne n2] at hp
      have fu : Fut H μ (upd H p (.dK ((ks.map Sum.inr).zip zs))) μ := Fut.new hp
      refine ⟨μ, F, st, ds ++ [.dic ((ks.map .str).zip es)], _, _, vs ++ [V.ref p], upd H p (.dK ((ks.map Sum.inr).zip zs)), rfl, ?_, ?_, ?_, Nat.ne_of_lt (Nat.lt_succ_self _), rs.new hp, ?_, by rw [List.length_append, hds]; rfl, ?_⟩
      · rw [upd_comm (Ne.symm n1), upd_comm (Ne.symm n2)]
      · rw [upd_ne (Ne.symm n1)]; exact I.hok.fresh (Nat.le_succ _)
      · rw [upd_ne (Ne.symm n2)]; exact I.hok.fresh (Nat.le_refl _)
      · exact RVs.append (RVs.kp fu.kp0 rd) (RVs.cons (rs.newD hp (RVd_zip re)) RVs.nil)
      · refine OkN.fut fu ?_
        cases e : m (ds ++ [.dic ((ks.map .str).zip es)]) st with
        | ok d s' => rw [e] at h; exact fun H' μ' p f rs hp nF c z => ⟨rfl, by rw [← z]; exact h H' μ' p f rs hp nF c⟩
        | ex C fs s' => rw [e] at h; exact h
        | bad => rw [e] at h; exact h
    refine wpAny_call (make_map (f := f) I.kIn Mk'.makes Mk'.init (beq_iff_eq.mp Mk'.fn) (codeAny_mono (Fn _ _ _ _ (Value.ref (s.heap.objs.size + 1) :: us) ws ks _ zs _ (WE W σ) (hr.make _ us (ks.zip ws)) (I2.env0.make _ us (ks.zip ws)) rv rz (by rw [List.length_cons, hus]; rfl) lz hks hnm hlen hq) fun r s' hq' => ?_))
    cases r with
    | error e => exact passAt tk σ pins _ _ e s' I2 hq'
    | ok fl =>
      cases fl with
      | ret u =>
        obtain ⟨v, H', I3, rv3, ev, q3⟩ := I2.after hq'
        subst ev
        exact ⟨rv3, ⟨V.ref (s.heap.objs.size + 1), H', I3, rfl, q3⟩⟩
      | next => exact False.elim hq'
      | brk => exact False.elim hq'
      | cont => exact False.elim hq'
end
section
variable {P : Program} {w : World} {K : PySem.W.Frag} {mg : Str → Option Value} {base : Heap} {X : Cx} {W : WX} {k : Nat} {ks : List Str} {p0 p1 p2 : Str} {m : M} {C : String}
theorem IkOk.callsX (F : IkOk P w K mg base k C (He.ma K (He.ga K C) "__init__") [p0, p1, p2] m) (M' : Mk K (He.ga K C) (He.ma K (He.ga K C) "__init__")) (j : Nat) (hj : k + 1 ≤ j) (hks : ks.Nodup) (hnm : ∀ q ∈ ks, q ∉ [p0, p1, p2]) (hlen : ks.length ≤ 1000)
    (tk : Takes X W) (hr : Room j X.A) (hP : X.prog = P) (hw : X.w = w) (hK : X.K = K) (hmg : X.mg = mg) (hbs : X.base = base) : CallsN X W (.ref (He.ga K C)) ks (kwM 2 ks m) := by
  subst hP hw hK hmg hbs
  exact mk_callsK M' F (hr.mono hj) tk hks hnm hlen
/-- what a class makes of each list of keywords -/
def HT (X : Cx) (W : WX) (c : Value) (tbl : List (List Str × M)) : Prop := ∀ ks m, tbl.lookup ks = some m → CallsN X W c ks m
theorem ht_nil {c : Value} : HT X W c [] := fun _ _ h => by cases h
theorem ht_cons {c : Value} {tbl : List (List Str × M)} (h : CallsN X W c ks m) (r : HT X W c tbl) : HT X W c ((ks, m) :: tbl) := fun ks' m' e => by
  simp only [List.lookup] at e
  split at e
  · rename_i z
    cases e
    rw [eq_of_beq z]
    exact h
  · exact r ks' m' e
end
end Dn
namespace L2
open PySem PySem.Spec PyProof.Rows
/-- what the clauses wish of an exception of the body, one after the other; each binds its name -/
def wManyN (K : PySem.W.Frag) (Wout : WX) (D : Ends) : List (Value × Nat × (Addr → Value → Option Addr → TS)) → WX
  | [] => Wout
  | (c, i, ts) :: r => fun cls d σ H => ∃ b, PySem.W.exmOne K cls c = some b ∧
    (b = true → ∀ a, H a = none → ts a cls d { nx := fun σ' H' => D.nx (σ'.set i none) H', rt := D.rt, bk := fun σ' H' => D.bk (σ'.set i none) H', ct := fun σ' H' => D.ct (σ'.set i none) H' } (σ.set i (some (.ref a))) H) ∧ (b = false → wManyN K Wout D r cls d σ H)
inductive HdsN (X : Cx) : List ExceptHandler → List (Value × Nat × (Addr → Value → Option Addr → TS)) → Prop
  | nil : HdsN X [] []
  | cons {x n : Str} {c : Value} {i : Nat} {ts : Addr → Value → Option Addr → TS} {b₀ : Stmt} {suite : List Stmt} {np pos' : Pos} {hds : List ExceptHandler} {l : List (Value × Nat × (Addr → Value → Option Addr → TS))} (hN : X.N.Nodup) (hi : X.N[i]? = some n) (hln : X.env.kindOf n = some .local) (hc : Names X x c)
      (hsu : ∀ (a : Addr) (oe : Obj) (cls : Value) (d : Option Addr) (pn : List (Addr × Obj)), Zc cls d oe → (∃ vs, oe.data = .fields vs) → PSs (X.suite a ((a, oe) :: pn)) (b₀ :: suite) (ts a cls d)) (r : HdsN X hds l) :
      HdsN X (.ExceptHandler (some (.Name x np)) (some n) (b₀ :: suite) pos' :: hds) ((c, i, ts) :: l)
section
variable {X : Cx} {body : List Stmt} {h₀ : ExceptHandler} {hds : List ExceptHandler} {l : List (Value × Nat × (Addr → Value → Option Addr → TS))} {pos : Pos} {tb : WX → TS} {Wout : WX}
theorem ps_try_manyN (hs : X.stack = X.env :: X.outer) (hf : X.env.frame = some X.env.locals) (tk : Takes X Wout)
    (hb : ∀ (W : WX) (pn : List (Addr × Obj)) (xe : Value → Shared → Prop), Takes (X.tr pn xe) W → PassesOwn (model X.prog X.w) X.A X.env xe → PSs (X.tr pn xe) body (tb W))
    (hh : HdsN X (h₀ :: hds) l) : PS X (.Try body (h₀ :: hds) [] [] pos) (fun D σ H => tb (wManyN X.K Wout D l) D σ H) := by
  refine ⟨fun pins s σ H D I h => ?_⟩
  have ok := I.ok
  have hfr : X.A.frames = some (X.env :: X.outer) := by rw [ok.frames, hs]
  refine wpAny_Try_except ?_
  refine wpAny_mono ((hb (wManyN X.K Wout D l) (X.pn ++ pins) (fun e s₁ => wpAny (model X.prog X.w) X.A (noteFrame e X.env) (fun _ s₂ => wpAny (model X.prog X.w) X.A (setFlight e none) (fun _ s₃ =>
    wpAny (model X.prog X.w) X.A (handleBy e X.env (h₀ :: hds)) (SP X pins D) X.xe s₃) X.xe s₂) X.xe s₁) (fun u s' xx => ?_) PassesOwn.looking).run [] s σ H D (I.toTry _) h) (fun f s1 hsp => ?_) (fun e s1 he => he)
  · -- the catch
    obtain ⟨a, B, sI, pins', σ', H', cls, d, rfl, J', nb, up, sky, na, os, ag, w⟩ := xx
    have J : Inv X pins σ' H' sI := J'.ofTry ok
    have sky' : Sky B (X.env :: X.outer) a (Zc cls d) X.env.locals s'.heap := by rw [← hs]; exact sky
    show wpAny (model X.prog X.w) X.A (noteFrame (.ref a) X.env) _ _ _
    refine Sky.land Zc.steady hfr hf sky' fun h3 fl3 up3 => ?_
    have J3 : Inv X pins σ' H' { s' with heap := h3 } := J.landed nb fl3.1 (up.trans up3) os ag
    obtain ⟨oe3, vs3, he3, hz3, hd3⟩ := fl3.there
    have notFr : ∀ {h : Heap} {o : Obj} {vs : Array Value}, h.FunFrames B (X.env :: X.outer) → h.get? a = some o → o.data = .fields vs → a ∉ frs (X.env :: X.outer) := fun {h o vs} ff e dd hm => by
      obtain ⟨_, o', e', hnf⟩ := ff.mem hm
      rw [e] at e'; cases e'
      exact hnf _ dd
    have nfr := notFr fl3.2.2.1 he3 hd3
    have nL : a ≠ X.env.locals := fun z => nfr (List.mem_filterMap.mpr ⟨X.env, List.mem_cons_self, by rw [hf, z]⟩)
    have nF : a ∉ X.fs := fun hm => by
      obtain ⟨e, he, q⟩ := List.mem_filterMap.mp hm
      exact nfr (List.mem_filterMap.mpr ⟨e, List.mem_cons_of_mem _ he, q⟩)
    have S3 := J3.suite he3 hd3 na nL nF
    have go : ∀ {hds' : List ExceptHandler} {l' : List (Value × Nat × (Addr → Value → Option Addr → TS))}, HdsN X hds' l' → wManyN X.K Wout D l' cls d σ' H' →
        wpAny (model X.prog X.w) X.A (handleBy (.ref a) X.env hds') (SP X pins D) X.xe { s' with heap := h3 } := by
      intro hds' l' hk
      induction hk with
      | nil =>
        intro w
        refine wpAny_handleBy_nil ?_
        obtain ⟨k1, k2, k3, oe, vs, T, oT, ts', he, hz, hd, h1, hr⟩ := id fl3
        unfold PySem.passOn
        refine wpAny_bind (wpAny_field he hd h1 ?_)
        rw [if_neg (show ¬ ((Value.ref T == Value.none) = true) from by simp)]
        have fin : wpAny (model X.prog X.w) X.A (setFlight (.ref a) X.env.frame) (fun _ s4 => wpAny (model X.prog X.w) X.A (throw (.ref a) : Sem Flow) (SP X pins D) X.xe s4) X.xe { s' with heap := h3 } := by
          rw [hf]
          refine HandSPX.setFlight_upZ fl3 fun h4 hh4 up4 => wpAny_throw (tk _ _ ?_)
          exact ⟨a, B, sI, pins, σ', H', cls, d, rfl, J, nb, (up.trans up3).trans up4, .inr (.inr (by rw [hs]; exact hh4)), na, os, ag, w⟩
        first
          | exact wpAny_bind (wpAny_pure (wpAny_bind fin))
          | exact wpAny_bind fin
      | @cons x n c i ts b₀ suite np pos' hds2 l2 hN hi hln hc hsu r ih =>
        intro w
        have hloc : Loc X.env.scope n := .inl hln
        obtain ⟨b, hb1, hyes, hno⟩ := w
        refine wpAny_handleBy_cons (codeAny_handlers_test ?_) (by intro q; cases q)
        have LT : PySem.W.Looks (model X.prog X.w) h3 (typeOf (.ref a)) cls := fun A Q E s k q => wpAny_typeOf_ref (k _ _ he3) (by rw [hz3.1]; exact q)
        have LM := PySem.W.exm_one (M := model X.prog X.w) (J3.kIn) LT hb1
        have test : ∀ {Q : Value → Shared → Prop} {E : Value → Shared → Prop}, Q c { s' with heap := h3 } → wpAny (model X.prog X.w) (X.A.mark (some (.ref a))) (eval (.Name x np) X.env) Q E { s' with heap := h3 } := fun {Q E} q => by
          obtain ⟨hg, hdbg, hm | ⟨hm, hv, hnn⟩⟩ := hc
          · exact ld_glob (X := X.suite a ((a, oe3) :: (X.pn ++ pins))) S3 hg hm q hdbg
          · exact ld_blt (X := X.suite a ((a, oe3) :: (X.pn ++ pins))) S3 hg hm hv q hnn hdbg
        refine test (LM.here ?_)
        cases b with
        | true =>
          refine codeAny_handlers_suite_as ?_
          refine HandSPX.lands_againZ fl3 fun h4 fl4 up4 => ?_
          have J4 : Inv X pins σ' H' { s' with heap := h4 } := J.landed nb fl4.1 ((up.trans up3).trans up4) os ag
          obtain ⟨oe4, vs4, he4, hz4, hd4⟩ := fl4.there
          have S4 := J4.suite he4 hd4 na nL nF
          refine store_ok (X := X.suite a ((a, oe4) :: (X.pn ++ pins))) (v := .ref a) S4 hN hi hloc rfl (fun s5 S5 => ?_) (.inr hln)
          refine wpAny_mono ((hsu a oe4 cls d (X.pn ++ pins) hz4 ⟨_, hd4⟩).run [] s5 _ H' _ S5 (hyes rfl a na)) (fun f s6 hsp => ?_) (fun _ _ z => False.elim z)
          have end_ : ∀ {σ6 : St} {H6 : Hp} {Q : Shared → Prop}, Inv (X.suite a ((a, oe4) :: (X.pn ++ pins))) [] σ6 H6 s6 → (∀ s7, Inv X pins (σ6.set i none) H6 s7 → Q s7) →
              wpAny (model X.prog X.w) X.A (do bindName X.env n .none; unbindBehindTheSuite X.env n pos') (fun _ s7 => Q s7) X.xe s6 := fun {σ6 H6 Q} S6 hq => gone_ok (S6.unsuite ok) hN hi hln hq
          cases f with
          | next =>
            obtain ⟨σ6, H6, S6, q6⟩ := hsp
            exact end_ S6 fun s7 J7 => ⟨_, _, J7, q6⟩
          | brk =>
            obtain ⟨σ6, H6, S6, q6⟩ := hsp
            exact end_ S6 fun s7 J7 => ⟨_, _, J7, q6⟩
          | cont =>
            obtain ⟨σ6, H6, S6, q6⟩ := hsp
            exact end_ S6 fun s7 J7 => ⟨_, _, J7, q6⟩
          | ret u =>
            obtain ⟨v6, σ6, H6, S6, r6, q6⟩ := hsp
            exact end_ S6 fun s7 J7 => ⟨_, _, _, J7, r6, q6⟩
        | false =>
          show wpAny _ X.A (handleBy (.ref a) X.env hds2) _ _ _
          exact ih (hno rfl)
    exact go hh w
  · cases f with
    | next =>
      obtain ⟨σ', H', J', q⟩ := hsp
      exact wpAny_execs_nil ⟨σ', H', J'.ofTry ok, q⟩
    | brk =>
      obtain ⟨σ', H', J', q⟩ := hsp
      exact ⟨σ', H', J'.ofTry ok, q⟩
    | cont =>
      obtain ⟨σ', H', J', q⟩ := hsp
      exact ⟨σ', H', J'.ofTry ok, q⟩
    | ret u =>
      obtain ⟨v, σ', H', J', r, q⟩ := hsp
      exact ⟨v, σ', H', J'.ofTry ok, r, q⟩
end
end L2
namespace Dn
open PySem PySem.Spec L2
open PyProof.Rows hiding St RelV
/-- the clauses, one after the other: slot, table of classes, suite -/
def catchN : List (Nat × List (String × Bool) × S) → String → List (Str × D) → S
  | [], C, fs, ρ, s => .ex C fs ρ s
  | (i, tbl, mh) :: r, C, fs, ρ, s => match tbl.lookup C with
    | some true => (mh (ρ.set i (.exc C fs)) s).unname i
    | some false => catchN r C fs ρ s
    | none => .bad
def sTryN (L : List (Nat × List (String × Bool) × S)) (m : S) : S := fun ρ s => match (m (ρ.map Slot.drop) s).dropX with
  | .ex C fs ρ' s' => catchN L C fs ρ' s'
  | r => r
inductive HdD (X : Cx) : List ExceptHandler → List (Nat × List (String × Bool) × S) → Prop
  | nil : HdD X [] []
  | cons {x n : Str} {c : Value} {i : Nat} {tbl : List (String × Bool)} {mh : S} {b₀ : Stmt} {suite : List Stmt} {np pos' : Pos} {hds : List ExceptHandler} {l : List (Nat × List (String × Bool) × S)} (hN : X.N.Nodup) (hi : X.N[i]? = some n) (hln : X.env.kindOf n = some .local) (hc : Names X x c)
      (hsu : ∀ (a : Addr) (oe : Obj) (pn : List (Addr × Obj)), SB (X.suite a ((a, oe) :: pn)) W0 (b₀ :: suite) mh) (ht : ∀ C b, (C, b) ∈ tbl → PySem.W.exmOne X.K (.ref (He.ga X.K C)) c = some b) (r : HdD X hds l) :
      HdD X (.ExceptHandler (some (.Name x np)) (some n) (b₀ :: suite) pos' :: hds) ((i, tbl, mh) :: l)
section
variable {X : Cx} {W : WX}
theorem HdD.get {hds : List ExceptHandler} {L : List (Nat × List (String × Bool) × S)} (h : HdD X hds L) : ∃ l, HdsN X hds l ∧
    ∀ {H : Hp} {μ : Mu} {F : Addr → Prop} {G : Own} {D : Ends} {C : String} {fs : List (Str × Dn.D)} {ρ' : Loc} {s' : Store} {d : Addr} {σ' : St} {H' : Hp} {μ' : Mu} {F' : Addr → Prop} {G' : Own} {xs : List (Str × V)},
      OkS X.pn X.K W H μ F G (catchN L C fs ρ' s') D → Ev H μ F G H' μ' F' G' → At [] X.K H' μ' F' G' ρ' σ' s' → H' d = some (.xd xs) → d ∉ μ' → ¬ F' d → RVf X.K H' μ' F' fs xs → wManyN X.K W D l (.ref (He.ga X.K C)) (some d) σ' H' := by
  induction h with
  | nil => exact ⟨[], .nil, fun {H μ F G D C fs ρ' s' d σ' H' μ' F' G' xs} h ev a' e1 e2 e3 e4 => h d σ' H' μ' F' G' xs ev a'.up e1 e2 e3 e4⟩
  | @cons x n c i tbl mh b₀ suite np pos' hds l hN hi hln hc hsu ht r ih =>
    obtain ⟨l', hl', link⟩ := ih
    refine ⟨(c, i, fun a cls d D σ H => ∀ oe pn, Zc cls d oe → (∃ vs, oe.data = .fields vs) → tS ((a, oe) :: pn) X.K W0 mh D σ H) :: l', .cons hN hi hln hc (fun a oe cls d pn hz hd => PSs.of (hsu a oe pn) fun D σ H h => h oe pn hz hd) hl', ?_⟩
    intro H μ F G D C fs ρ' s' d σ' H' μ' F' G' xs h ev a' e1 e2 e3 e4
    unfold catchN at h
    cases hl : tbl.lookup C with
    | none => rw [hl] at h; exact h.elim
    | some b =>
      rw [hl] at h
      refine ⟨b, ht C b (lookup_mem hl), fun hb' b0 hb0 oe pn hz hd => ?_, fun hb' => ?_⟩
      · subst hb'
        replace h := OkS.ev ev (show OkS X.pn X.K W H μ F G ((mh (ρ'.set i (.exc C fs)) s').unname i) D from h)
        have a2 : At ((b0, oe) :: pn) X.K H' μ' F' G' (ρ'.set i (.exc C fs)) (σ'.set i (some (.ref b0))) s' :=
          ⟨a'.up.l.setS ⟨b0, oe, d, xs, rfl, List.mem_cons_self, hz, hd, e1, e2, e3, e4⟩ (fun _ _ z => by cases z), a'.s, a'.gf⟩
        refine ⟨_, μ', F', G', s', a2, ?_⟩
        cases e5 : mh (ρ'.set i (.exc C fs)) s' with
        | nx ρ s => rw [e5] at h; exact fun σ H μ F G ev a => h _ H μ F G ev (a.dropX.up.unset i none)
        | rt d s => rw [e5] at h; exact h
        | bk ρ s => rw [e5] at h; exact fun σ H μ F G ev a => h _ H μ F G ev (a.dropX.up.unset i none)
        | ct ρ s => rw [e5] at h; exact fun σ H μ F G ev a => h _ H μ F G ev (a.dropX.up.unset i none)
        | ex C fs ρ s => rw [e5] at h; exact h.elim
        | bad => rw [e5] at h; exact h.elim
      · subst hb'
        exact link h ev a' e1 e2 e3 e4
variable {body : List Stmt} {h₀ : ExceptHandler} {hds : List ExceptHandler} {pos : Pos} {m : S} {L : List (Nat × List (String × Bool) × S)}
theorem ss_tryN (hs : X.stack = X.env :: X.outer) (hf : X.env.frame = some X.env.locals) (tk : Takes X W)
    (hb : ∀ (W' : WX) (pn : List (Addr × Obj)) (xe : Value → Shared → Prop), Takes (X.tr pn xe) W' → PassesOwn (model X.prog X.w) X.A X.env xe → SB (X.tr pn xe) W' body m)
    (hh : HdD X (h₀ :: hds) L) : SS X W (.Try body (h₀ :: hds) [] [] pos) (sTryN L m) := by
  obtain ⟨l, hl, link⟩ := hh.get (W := W)
  refine PS.of (ps_try_manyN (tb := fun W' => tS [] X.K W' fun ρ s => (m ρ s).dropX) hs hf tk (fun W' pn xe tk' hp' => ?_) hl) fun D σ H ⟨ρ, μ, F, G, st, a, h⟩ => ?_
  · refine PSs.of (hb W' pn xe tk' hp') fun D σ H ⟨ρ, μ, F, G, st, a, h⟩ => ⟨ρ, μ, F, G, st, a.up, ?_⟩
    have h : OkS [] X.K W' H μ F G ((m ρ st).dropX) D := h
    show OkS pn X.K W' H μ F G (m ρ st) D
    cases e : m ρ st with
    | nx ρ s => rw [e] at h; exact fun σ H μ F G ev a => h σ H μ F G ev a.dropX
    | rt d s => rw [e] at h; exact h
    | bk ρ s => rw [e] at h; exact fun σ H μ F G ev a => h σ H μ F G ev a.dropX
    | ct ρ s => rw [e] at h; exact fun σ H μ F G ev a => h σ H μ F G ev a.dropX
    | ex C fs ρ s => rw [e] at h; exact fun d σ H μ F G xs ev a => h d σ H μ F G xs ev a.dropX
    | bad => rw [e] at h; exact h
  · refine ⟨ρ.map Slot.drop, μ, F, G, st, a.dropX, ?_⟩
    have h : OkS X.pn X.K W H μ F G (match (m (ρ.map Slot.drop) st).dropX with
      | .ex C fs ρ' s' => catchN L C fs ρ' s'
      | r => r) D := h
    show OkS [] X.K _ H μ F G ((m (ρ.map Slot.drop) st).dropX) D
    cases e : (m (ρ.map Slot.drop) st).dropX with
    | nx ρ s => rw [e] at h; exact fun σ H μ F G ev a => h σ H μ F G ev a.up
    | rt d s => rw [e] at h; exact h
    | bk ρ s => rw [e] at h; exact fun σ H μ F G ev a => h σ H μ F G ev a.up
    | ct ρ s => rw [e] at h; exact fun σ H μ F G ev a => h σ H μ F G ev a.up
    | bad => rw [e] at h; exact h
    | ex C fs ρ' s' =>
      rw [e] at h
      exact fun d σ' H' μ' F' G' xs ev a' e1 e2 e3 e4 => link h ev a' e1 e2 e3 e4
end
end Dn
namespace Dn
open PySem PySem.Spec L2
open PyProof.Rows hiding St RelV
def XisF2 (K : PySem.W.Frag) (c1 c2 : Addr) (L : KTab) : Prop := ∀ C b, ((true, C), b) ∈ L → PySem.W.kitAny K (.ref (He.ga K C)) [.ref c1, .ref c2] = some b ∧ L2.ExcC K (He.ga K C)
def xis2B (C1 C2 : String) (L : KTab) (K : PySem.W.Frag) : Bool := L.all fun kb => b2 (decide (PySem.W.kitAny K (.ref (He.ga K kb.1.2)) [.ref (He.ga K C1), .ref (He.ga K C2)] = some kb.2)) (exB kb.1.2 K)
theorem xis2B_ok {C1 C2 : String} {L : KTab} {K : PySem.W.Frag} (h : xis2B C1 C2 L K = true) : XisF2 K (He.ga K C1) (He.ga K C2) L := fun C b hk => by
  obtain ⟨h1, h2⟩ := b2_ok (List.all_eq_true.mp h ((true, C), b) hk)
  exact ⟨of_decide_eq_true h1, exB_ok h2⟩
section
variable {X : Cx} {W : WX} {i : Nat} {x f : Str} {p p1 q q1 q2 pos : Pos} {L : List String} {T : KTab} {c1 c2 : Addr}
theorem xis_ok2 (h : XisF2 X.K c1 c2 T) : CallR X (.builtin "isinstance") fun xs H Q => ∃ ρ μ F G st σ0 b t, At X.pn X.K H μ F G ρ σ0 st ∧ xs = [.ref b, .ref t] ∧ H t = some (.tup [.ref c1, .ref c2]) ∧ σ0[i]? = some (some (.ref b)) ∧ OkE X.K W F σ0 H μ (eXis T i ρ st) Q := by
  intro pins s σ H xs us Q I r ⟨ρ, μ, F, G, st, σ0, b, t, a, e, ht, hs, hq⟩
  subst e
  unfold eXis at hq
  split at hq
  · rename_i C fs he
    obtain ⟨r', hr, hq⟩ := OkG.some hq
    obtain ⟨bb, hb, e⟩ := Option.map_eq_some_iff.mp hr
    subst e
    obtain ⟨q, o, ho⟩ := exc_at a he
    rw [ho] at q
    rw [hs] at ho
    cases ho
    obtain ⟨b', oe, d, xs, e1, hp, hz, ⟨vs, hdat⟩, h1, h2, h3, h4⟩ := q
    cases e1
    obtain ⟨k1, k2⟩ := h C bb (lookup_memK hb)
    obtain ⟨u1, u2, rfl, r1, r2⟩ := vals2 r
    cases (show u1 = Value.ref b from r1)
    cases (show u2 = Value.ref t from r2)
    obtain ⟨ha, _⟩ := I.pin (b, oe) (List.mem_append_left _ hp)
    have hx : ObjOk X.prog X.w H s.heap d (.xd xs) := I.hok d _ h1
    obtain ⟨mA, hns, rel⟩ := hx
    obtain ⟨od, hod, hlk⟩ := lookIn_ns hns
    have J : PySem.W.InstAt s.heap b oe (He.ga X.K C) (some od) := ⟨ha, hz.1, by unfold PySem.W.notCls; rw [hdat] <;> rfl, by rw [hz.2]; exact hod⟩
    have hcl : (PySem.W.clsIn X.K (He.ga X.K C)).isSome = true := by
      obtain ⟨cd, hcd, _⟩ := PySem.W.any_some k2.hd
      rw [hcd]; rfl
    have hT : ObjOk X.prog X.w H s.heap t (.tup [.ref c1, .ref c2]) := I.hok t _ ht
    obtain ⟨_, its, rv, ⟨⟨oc, odd, oda, osl⟩, hto, htc, n, htd⟩⟩ := hT
    obtain ⟨w1, w2, rfl, rw1, rw2⟩ := vals2 rv
    cases (show w1 = Value.ref c1 from rw1)
    cases (show w2 = Value.ref c2 from rw2)
    obtain rfl : oc = .type "tuple" := htc
    obtain rfl : oda = .seq [Value.ref c1, Value.ref c2].toArray n := htd
    exact PySem.W.kia_tup (PySem.W.kitx_exc hcl k2.hg k2.hk k2.hs k2.ha k2.hn k2.ht k2.hm) I.kIn J hto k1 (fun z => nomatch z) fun tk => ⟨.bl bb, H, I.tok tk, rfl, hq _ H μ .refl a.s (RV_bl bb)⟩
  · exact hq.elim
theorem exc_args2 {σ : St} {H : Hp} {Q : VK} (h : tG (fun F H μ d v => RV X.K H μ F d v) X.pn X.K W (eXis T i) σ H Q) :
    tCons (tVar i) (tCons (tTup (tCons (tC (.ref c1)) (tCons (tC (.ref c2)) tNil))) tNil) σ H fun xs H => ∃ ρ μ F G st σ0 b t, At X.pn X.K H μ F G ρ σ0 st ∧ xs = [.ref b, .ref t] ∧ H t = some (.tup [.ref c1, .ref c2]) ∧ σ0[i]? = some (some (.ref b)) ∧ OkE X.K W F σ0 H μ (eXis T i ρ st) Q := by
  obtain ⟨ρ, μ, F, G, st, a, hq⟩ := h
  have hq0 := hq
  unfold eXis at hq
  split at hq
  · rename_i C fs he
    obtain ⟨q, o, ho⟩ := exc_at a he
    rw [ho] at q
    obtain ⟨b, oe, d, xs, e1, _⟩ := q
    have e1 : o = some (.ref b) := e1
    subst e1
    refine ⟨.ref b, ho, show 2 ≤ sizeLine by decide, fun t ht => ?_⟩
    have fu : Fut H μ (upd H t (.tup [.ref c1, .ref c2])) μ := Fut.new ht
    exact ⟨ρ, μ, F, G, st, σ, b, t, a.fut fu (a.s.new ht), rfl, upd_same, ho, OkG.fut fu hq0⟩
  · exact hq.elim
theorem se_xisC2 {C1 C2 : String} {x1} (hL : XisF2 X.K (He.ga X.K C1) (He.ga X.K C2) T) (hg : Gl X "isinstance") (hm : X.mg "isinstance" = none) (hg1 : Gl X C1) (hm1 : X.mg C1 = some (.ref (He.ga X.K C1))) (hg2 : Gl X C2) (hm2 : X.mg C2 = some (.ref (He.ga X.K C2)))
    (hd1 : ((C1 : Str) == ("__debug__" : Str)) = false := by decide) (hd2 : ((C2 : Str) == ("__debug__" : Str)) = false := by decide)
    (hN : X.N[i]? = some x := by rfl) (hv : Vis X.env.scope x := by first | exact Or.inl rfl | exact Or.inr (Or.inl rfl) | exact Or.inr (Or.inr rfl)) (hd : (x == ("__debug__" : Str)) = false := by decide) (hcd : (x == ("__classdict__" : Str)) = false := by decide)
    (he : starEach [.Name x p1, .Tuple [.Name C1 q1, .Name C2 q2] x1 q] X.env = (false, eval (.Name x p1) X.env) :: starEach [.Tuple [.Name C1 q1, .Name C2 q2] x1 q] X.env := by rfl) (he2 : starEach [.Tuple [.Name C1 q1, .Name C2 q2] x1 q] X.env = (false, eval (.Tuple [.Name C1 q1, .Name C2 q2] x1 q) X.env) :: starEach [] X.env := by rfl)
    (he3 : starEach [.Name C1 q1, .Name C2 q2] X.env = (false, eval (.Name C1 q1) X.env) :: starEach [.Name C2 q2] X.env := by rfl) (he4 : starEach [.Name C2 q2] X.env = (false, eval (.Name C2 q2) X.env) :: starEach [] X.env := by rfl)
    (hpl : (backTo pos (starEach [.Tuple [.Name C1 q1, .Name C2 q2] x1 q] X.env)).any (·.1) = false := by rfl) : SE X W (.Call (.Name "isinstance" p) [.Name x p1, .Tuple [.Name C1 q1, .Name C2 q2] x1 q] [] pos) (eXis T i) :=
  PE.of (pe_callB (xis_ok2 (W := W) (i := i) hL) hg hm (by decide +kernel) (pa_cons (pe_var hN hv hd hcd) (pa_cons (pe_tup (pa_cons (pe_glob hg1 hm1 (show RelV (.ref (He.ga X.K C1)) (.ref (He.ga X.K C1)) from rfl) hd1) (pa_cons (pe_glob hg2 hm2 (show RelV (.ref (He.ga X.K C2)) (.ref (He.ga X.K C2)) from rfl) hd2) pa_nil he4) he3)) pa_nil he2) he) (he := he) (hpl := hpl)) fun σ H Q h => exc_args2 h
end
end Dn
namespace Dn
open PySem PySem.Spec L2
open PyProof.Rows hiding St RelV
def isRefAt (i : Nat) (ρ : Loc) : Bool := match ρ[i]? with
  | some (.pu (.ref _)) => true
  | _ => false
def sOr (i : Nat) (m1 m2 : S) : S := fun ρ s => if isRefAt i ρ = true then m1 ρ s else m2 ρ s
theorem ss_or {X : Cx} {W : WX} {st : Stmt} {m1 m2 : S} (i : Nat) (h1 : SS X W st m1) (h2 : SS X W st m2) : SS X W st (sOr i m1 m2) := by
  refine ⟨fun pins s σ H D I ⟨ρ, μ, F, G, sto, a, q⟩ => ?_⟩
  unfold sOr at q
  by_cases h : isRefAt i ρ = true
  · rw [if_pos h] at q
    exact h1.run pins s σ H D I ⟨ρ, μ, F, G, sto, a, q⟩
  · rw [if_neg h] at q
    exact h2.run pins s σ H D I ⟨ρ, μ, F, G, sto, a, q⟩
end Dn
namespace PySem
open Sem (wp)
open AutoSeq1 (wpAny_loadPart')
section
variable {prog : Program} {w : World} {A : Around} {E : Value → Shared → Prop} {s : Shared}
theorem et_next_item {e it l : Addr} {i : Nat} {items : Array Value} {x old : Value} {Q : Value → Shared → Prop}
    (he : IsEnum s.heap e it i old) (hit : s.heap.IsTupleIter it l i) (hl : s.heap.IsTuple l items) (hx : items[i]? = some x) (hne : e ≠ it)
    (hQ : ∀ h', IsEnumOut h' e it ((i : Int) + 1) x s.heap.objs.size → h'.IsTupleIter it l (i + 1) →
      h'.get? s.heap.objs.size = some { cls := .type "tuple", data := .seq #[.int i s.toks, x] } → h'.objs.size = s.heap.objs.size + 1 →
      (∀ b o, b ≠ e → b ≠ it → s.heap.get? b = some o → h'.get? b = some o) → Q (.ref s.heap.objs.size) { s with heap := h', toks := s.toks + 1 }) :
    wpAny (model prog w) A (Builtin.«enumerate.__next__» ⟨[.ref e], []⟩) (fun fin s' => ∃ v, fin = .done (.ret v) ∧ Q v s') E s := by
  obtain ⟨hp, g, d, tk, os⟩ := s
  show wpAny _ _ (field (.ref e) 2 >>= _) _ _ _
  refine wpAny_bind (wpAny_field he rfl (x := .ref it) rfl ?_)
  refine wpAny_bind (RZ.nextOf_tuple_item hit hl hx fun h₁ hit₁ hs₁ => ?_)
  replace hs₁ : Heap.SameBut it hp h₁ := hs₁
  have he₁ : IsEnum h₁ e it i old := (hs₁.2 e hne).trans he
  show wpAny _ _ (field (.ref e) 3 >>= _) _ _ ⟨h₁, g, d, tk, os⟩
  refine wpAny_bind (wpAny_field he₁ rfl (x := rawInt i) rfl ?_)
  show wpAny _ _ (field (.ref e) 4 >>= _) _ _ ⟨h₁, g, d, tk, os⟩
  refine wpAny_bind (wpAny_field he₁ rfl (x := .none) rfl ?_)
  show wpAny _ _ (mkInt i >>= _) _ _ ⟨h₁, g, d, tk, os⟩
  refine wpAny_bind (wpAny_mkInt ?_)
  show wpAny _ _ (setField (.ref e) 3 (rawInt ((i : Int) + 1)) >>= _) _ _ ⟨h₁, g, d, tk + 1, os⟩
  refine wpAny_bind (wpAny_setField_rec he₁ (by simp) fun h₂ he₂ hs₂ => ?_)
  replace hs₂ : Heap.SameBut e h₁ h₂ := hs₂
  replace he₂ : IsEnum h₂ e it ((i : Int) + 1) old := he₂
  show wpAny _ _ (setField (.ref e) 4 .none >>= _) _ _ ⟨h₂, g, d, tk + 1, os⟩
  refine wpAny_bind (wpAny_setField_rec he₂ (by simp) fun h₃ he₃ hs₃ => ?_)
  replace hs₃ : Heap.SameBut e h₂ h₃ := hs₃
  replace he₃ : IsEnum h₃ e it ((i : Int) + 1) old := he₃
  show wpAny _ _ (newTuple [.int i tk, x] >>= _) _ _ ⟨h₃, g, d, tk + 1, os⟩
  refine wpAny_bind (wpAny_newTuple ?_)
  have he₄ : IsEnum (h₃.push { cls := .type "tuple", data := .seq #[.int i tk, x] }) e it ((i : Int) + 1) old := Heap.get?_push_of_some _ he₃
  generalize hh₄ : h₃.push { cls := .type "tuple", data := .seq #[.int i tk, x] } = h₄ at he₄
  have hsz : h₃.objs.size = hp.objs.size := by rw [hs₃.1, hs₂.1, hs₁.1]
  have hel : e < hp.objs.size := Heap.lt_size he
  have ht₄ : h₄.get? hp.objs.size = some { cls := .type "tuple", data := .seq #[.int i tk, x] } := by rw [← hh₄, ← hsz]; exact Heap.get?_push_size _ rfl
  have hz₄ : h₄.objs.size = hp.objs.size + 1 := by rw [← hh₄, Heap.size_push, hsz]
  have hk₄ : ∀ b o, b ≠ e → b ≠ it → hp.get? b = some o → h₄.get? b = some o := fun b o hbe hbi hb => by
    rw [← hh₄]; exact Heap.get?_push_of_some _ (hs₃.extBut b o hbe (hs₂.extBut b o hbe (hs₁.extBut b o hbi hb)))
  have hit₄ : h₄.IsTupleIter it l (i + 1) := by
    rw [← hh₄]; obtain ⟨o, ho, r⟩ := (hit₁.extBut hs₂.extBut (Ne.symm hne)).extBut hs₃.extBut (Ne.symm hne); exact ⟨o, Heap.get?_push_of_some _ ho, r⟩
  show wpAny _ _ (Builtin.SmallTypes.ownedTupleIsFree (.ref e) >>= _) _ _ ⟨h₄, g, d, tk + 1, os⟩
  rw [hsz]
  clear hh₄ he₃ hs₃ he₂ hs₂ he₁ hs₁ hit₁ hsz h₃ h₂ h₁
  refine wpAny_bind ?_
  · unfold Builtin.SmallTypes.ownedTupleIsFree
    refine wpAny_bind (wpAny_field he₄ rfl (x := .none) rfl (wpAny_pure ?_))
    simp only [if_true]
    refine wpAny_bind (wpAny_rule ?_)
    refine wpAny_bind (wpAny_field he₄ rfl (x := old) rfl ?_)
    refine wpAny_bind (wpAny_setField_rec he₄ (by simp) fun h₅ he₅ hs₅ => ?_)
    replace hs₅ : Heap.SameBut e h₄ h₅ := hs₅
    replace he₅ : IsEnum h₅ e it ((i : Int) + 1) x := he₅
    show wpAny _ _ (Builtin.SmallTypes.ownedTupleHandOut (.ref e) (.ref hp.objs.size) >>= _) _ _ ⟨h₅, g, d, tk + 1, os⟩
    refine wpAny_bind ?_
    · unfold Builtin.SmallTypes.ownedTupleHandOut
      refine wpAny_bind (wpAny_setField_rec he₅ (by simp) fun h₆ he₆ hs₆ => ?_)
      replace hs₆ : Heap.SameBut e h₅ h₆ := hs₆
      replace he₆ : IsEnumOut h₆ e it ((i : Int) + 1) x hp.objs.size := he₆
      refine wpAny_setField_rec he₆ (by simp) fun h₇ he₇ hs₇ => ?_
      replace hs₇ : Heap.SameBut e h₆ h₇ := hs₇
      replace he₇ : IsEnumOut h₇ e it ((i : Int) + 1) x hp.objs.size := he₇
      refine wpAny_bind (wpAny_letGo (wpAny_pure ⟨_, rfl, hQ h₇ he₇ ?_ ?_ ?_ ?_⟩))
      · exact ((hit₄.extBut hs₅.extBut (Ne.symm hne)).extBut hs₆.extBut (Ne.symm hne)).extBut hs₇.extBut (Ne.symm hne)
      · exact hs₇.extBut _ _ (Nat.ne_of_gt hel) (hs₆.extBut _ _ (Nat.ne_of_gt hel) (hs₅.extBut _ _ (Nat.ne_of_gt hel) ht₄))
      · rw [hs₇.1, hs₆.1, hs₅.1, hz₄]
      · exact fun b o hbe hbi hb => hs₇.extBut b o hbe (hs₆.extBut b o hbe (hs₅.extBut b o hbe (hk₄ b o hbe hbi hb)))
theorem et_pyNext_item {e it l : Addr} {i : Nat} {items : Array Value} {x old : Value} {Q : Option Value → Shared → Prop}
    (he : IsEnum s.heap e it i old) (hit : s.heap.IsTupleIter it l i) (hl : s.heap.IsTuple l items) (hx : items[i]? = some x) (hne : e ≠ it)
    (hQ : ∀ h', IsEnumOut h' e it ((i : Int) + 1) x s.heap.objs.size → h'.IsTupleIter it l (i + 1) →
      h'.get? s.heap.objs.size = some { cls := .type "tuple", data := .seq #[.int i s.toks, x] } → h'.objs.size = s.heap.objs.size + 1 →
      (∀ b o, b ≠ e → b ≠ it → s.heap.get? b = some o → h'.get? b = some o) → Q (some (.ref s.heap.objs.size)) { s with heap := h', toks := s.toks + 1 }) :
    wpAny (model prog w) A (pyNext (.ref e)) Q E s := by
  have hT : s.TypeIs (.ref e) "enumerate" := ⟨_, he, rfl⟩
  unfold pyNext
  exact wpAny_bind (wpAny_attempt (wpAny_callSpecial?_slot (name := Str.ofString "__next__") hT F.slot_enumerate_next
    (wpAny_call_entry F.slot_enumerate_next hT F.entry_enumerate_next
      (et_next_item he hit hl hx hne fun h' a b c d k => wpAny_pure (hQ h' a b c d k)) (F.args_enumerate_next_1 _))))
theorem et_pyNext_end {e it l : Addr} {i : Nat} {items : Array Value} {old : Value} {Q : Option Value → Shared → Prop} (hh : A.handled = none)
    (he : IsEnum s.heap e it i old) (hit : s.heap.IsTupleIter it l i) (hl : s.heap.IsTuple l items) (hx : items[i]? = none)
    (hQ : ∀ h', Heap.ExtBut it s.heap h' → Q none { s with heap := h' }) : wpAny (model prog w) A (pyNext (.ref e)) Q E s := by
  have hT : s.TypeIs (.ref e) "enumerate" := ⟨_, he, rfl⟩
  unfold pyNext
  refine wpAny_bind (wpAny_attempt (wpAny_callSpecial?_slot (name := Str.ofString "__next__") hT F.slot_enumerate_next
    (wpAny_call_entry F.slot_enumerate_next hT F.entry_enumerate_next ?_ (F.args_enumerate_next_1 _))))
  show wpAny _ _ (field (.ref e) 2 >>= _) _ _ _
  refine wpAny_bind (wpAny_field he rfl (x := .ref it) rfl ?_)
  refine wpAny_bind (RZ.nextOf_tuple_end hh hit hl hx fun h' x he' hx' => ?_)
  obtain ⟨o, ho, hc⟩ := hx'
  refine wpAny_bind (wpAny_isInstance (T := "StopIteration") (b := true) ⟨o, ho, hc⟩ isSubtype_stop ?_)
  exact wpAny_pure (hQ _ he')
end
theorem et_meets_new (l : Addr) (items : Array Value) (n : Nat) (dct : Option Addr) (sl : Array (Option Value)) :
    Meets (Builtin.«enumerate.__new__» ⟨[.type "enumerate", .ref l], []⟩) (fun _ R s => s.heap.get? l = some { cls := .type "tuple", dict := dct, data := .seq items n, slots := sl } ∧
      R (.ok (.ret (.ref (s.heap.push { cls := .type "tuple_iterator", data := .fields #[.ref l, .int 0 0] }).objs.size)))
        { s with heap := (s.heap.push { cls := .type "tuple_iterator", data := .fields #[.ref l, .int 0 0] }).push { cls := .type "enumerate", data := .fields #[.none, .bool false, .ref s.heap.objs.size, rawInt 0, .none, .none] } }) :=
  .of_wp fun prog w A R s h => by
    obtain ⟨hp, g, d, tk, os⟩ := s; obtain ⟨hl, h⟩ := h
    have hsub := sub_enumerate
    have hL : Heap.IsTuple (Shared.heap ⟨hp, g, d, tk, os⟩) l items := ⟨_, hl, rfl, n, rfl⟩
    wp_walk using wpAny_loadPart' hl
    refine wpAny_stack_any fun st => wpAny_pure ?_
    split
    · rename_i c _ _ _ _ _
      cases (c == Value.type "enumerate")
      · wp_walk using wpAny_loadPart' hl, wpAny_pyIter_tuple hL
        exact ⟨_, rfl, h⟩
      · wp_walk using wpAny_loadPart' hl, wpAny_pyIter_tuple hL
        exact ⟨_, rfl, h⟩
    · wp_walk using wpAny_loadPart' hl, wpAny_pyIter_tuple hL
      exact ⟨_, rfl, h⟩
section
variable {prog : Program} {w : World} {A : Around} {E : Value → Shared → Prop} {s : Shared}
theorem et_call {l : Addr} {items : Array Value} {Q : Value → Shared → Prop} (hL : s.heap.IsTuple l items)
    (h : ∀ h', IsEnum h' (s.heap.objs.size + 1) s.heap.objs.size 0 .none → h'.IsTupleIter s.heap.objs.size l 0 → h'.objs.size = s.heap.objs.size + 2 →
      (∀ b o, s.heap.get? b = some o → h'.get? b = some o) → Q (.ref (s.heap.objs.size + 1)) { s with heap := h' }) :
    wpAny (model prog w) A (call (.type "enumerate") [.ref l]) Q E s := by
  obtain ⟨⟨c, dct, dt, sl⟩, hl, hc, n, hd⟩ := hL
  replace hc : c = .type "tuple" := hc
  replace hd : dt = .seq items n := hd
  subst hc hd
  refine callType_new F.called_enumerate (by decide) (F.typeCall_enumerate_1 _) (F.newCall_enumerate_1 _) (fun obj => F.args_object_init_2 obj _) F.entry_enumerate_new
    (et_meets_new l items n dct sl) ⟨hl, ?_⟩
  have hz : (s.heap.push { cls := .type "tuple_iterator", data := .fields #[.ref l, .int 0 0] }).objs.size = s.heap.objs.size + 1 := Heap.size_push ..
  show _ ∧ _
  rw [hz]
  have he : IsEnum ((s.heap.push { cls := .type "tuple_iterator", data := .fields #[.ref l, .int 0 0] }).push
      { cls := .type "enumerate", data := .fields #[.none, .bool false, .ref s.heap.objs.size, rawInt 0, .none, .none] }) (s.heap.objs.size + 1) s.heap.objs.size 0 .none := by
    have := Heap.get?_push_size (s.heap.push { cls := .type "tuple_iterator", data := .fields #[.ref l, .int 0 0] })
      (o := { cls := .type "enumerate", data := .fields #[.none, .bool false, .ref s.heap.objs.size, rawInt 0, .none, .none] }) rfl
    rw [hz] at this; exact this
  refine ⟨⟨_, he, rfl⟩, h _ he ⟨_, Heap.get?_push_of_some _ (Heap.get?_push_size _ rfl), rfl, rfl⟩ (by rw [Heap.size_push, hz]) fun b o x => Heap.get?_push_of_some _ (Heap.get?_push_of_some _ x)⟩
end
end PySem
namespace L2
open PySem PySem.Spec PyProof.Rows
def IteT (K : PySem.W.Frag) (a : Addr) : It :=
  ⟨fun i H => ∃ (xs : List V) (x : V), SqT K H a xs ∧ xs[i]? = some x, fun i H v H' => ∃ T x, v = .ref T ∧ H T = none ∧ H' = upd H T (.tup [.int (i : Nat), x]) ∧ ∀ xs, SqT K H a xs → xs[i]? = some x, fun i H => ∃ xs : List V, SqT K H a xs ∧ xs.length ≤ i⟩
theorem turn_enumT {P : Program} {w : World} {K : PySem.W.Frag} {elts : List Expr} {kk : Nat} {tpos : Pos} (a e it : Addr) :
    Turn P w K (.Tuple elts kk tpos) (IteT K a) [e, it] e (fun i h => (∃ old, IsEnum h e it ((i : Nat) : Int) old) ∧ h.IsTupleIter it a i ∧ e ≠ it) where
  mem := by simp
  obj := fun i h st b hb => by
    obtain ⟨⟨old, he⟩, ⟨o, ho, hc, hd⟩, _⟩ := st
    have e' : b = e ∨ b = it := by simpa using hb
    rcases e' with z | z
    · rw [z]; exact ⟨_, he, fun v q => nomatch q⟩
    · rw [z]; exact ⟨o, ho, fun v q => by rw [hd] at q; cases q⟩
  keep := fun i h h' st k => let ⟨⟨old, he⟩, hi, hne⟩ := st; ⟨⟨old, k e (by simp) _ he⟩, hi.at fun o q => k it (by simp) o q, hne⟩
  item := by
    intro X hP hw hK hc i pins s σ H E I hf st hg
    subst hP hw hK
    obtain ⟨⟨old, he⟩, hit, hne⟩ := st
    obtain ⟨xs, x, hq, hx⟩ := hg
    obtain ⟨its, rv, p, hz⟩ := I.tuple hq
    obtain ⟨u, hu, ru⟩ := rv.get hx
    have hel : e < s.heap.objs.size := Heap.lt_size he
    have hil : it < s.heap.objs.size := by obtain ⟨_, q, _⟩ := hit; exact Heap.lt_size q
    refine PySem.et_pyNext_item he hit p (x := u) (by simpa using hu) hne fun h' ho hit' hT hsz hk => ?_
    refine ⟨_, rfl, wpAny_letOwnedTupleGo_enum (s := { s with heap := h', toks := s.toks + 1 }) ho fun h'' he' sb => ?_⟩
    have hT2 : h''.get? s.heap.objs.size = some { cls := .type "tuple", data := .seq #[.int i s.toks, u] } := (sb.2 _ (Nat.ne_of_gt hel)).trans hT
    have new : ObjOk X.prog X.w (upd H s.heap.objs.size (.tup [.int (i : Nat), x])) h'' s.heap.objs.size (.tup [.int (i : Nat), x]) :=
      ⟨by show 2 ≤ sizeLine; decide, [.int i s.toks, u], .cons ⟨_, rfl⟩ (.cons ru .nil), ⟨_, hT2, rfl, _, rfl⟩⟩
    have I1 : Inv X pins σ (upd H s.heap.objs.size (.tup [.int (i : Nat), x])) { s with heap := h'', toks := s.toks + 1 } :=
      I.turnedNew (ch := [e, it]) (fun b ob hb q => (sb.2 b (fun z => hb (by simp [z]))).trans (hk b ob (fun z => hb (by simp [z])) (fun z => hb (by simp [z])) q)) hf (Nat.le_refl _) new
    refine ⟨.ref s.heap.objs.size, _, I1, rfl, ⟨_, x, rfl, I.hok.fresh (Nat.le_refl _), rfl, fun ys hy => by rw [I.tuple_inj hy hq]; exact hx⟩, ⟨⟨u, ?_⟩, hit'.at fun o q => (sb.2 it (Ne.symm hne)).trans q, hne⟩, fun b hb => ?_⟩
    · have e1 : ((i + 1 : Nat) : Int) = (i : Int) + 1 := by omega
      rw [e1]; exact he'
    · have hb' : b < s.heap.objs.size := by
        have e' : b = e ∨ b = it := by simpa using hb
        rcases e' with z | z
        · rw [z]; exact hel
        · rw [z]; exact hil
      rw [upd_ne (Nat.ne_of_lt hb')]
      exact (hf b hb).1
  done := by
    intro X hP hw hK hc i pins s σ H E I hf st hg
    subst hP hw hK
    obtain ⟨⟨old, he⟩, hit, hne⟩ := st
    obtain ⟨xs, hq, hx⟩ := hg
    obtain ⟨its, rv, p, hz⟩ := I.tuple hq
    obtain ⟨f0, f1, f2, f3, f4, f5⟩ := hf it (by simp)
    have hl := rv.length
    exact PySem.et_pyNext_end (I.ok.hd hc) he hit p (by simp; omega) fun h' eb => ⟨rfl, I.turned (t' := s.toks) (fun b o hb q => eb b o hb q) f0 f1 f3 f4 f5⟩
  self := fun A i s Q E st h => let ⟨⟨_, he⟩, _⟩ := st; wpAny_pyIter_enum he h
/-- enumerate of a list or of a tuple -/
def iEnumA (K : PySem.W.Frag) (ta : TA) : TI := fun σ H R => ta σ H fun vs H1 => ∃ a xs, vs = [.ref a] ∧ ((SqL K H1 a xs ∧ R (Ite K a) H1) ∨ (SqT K H1 a xs ∧ R (IteT K a) H1))
theorem pi_enumA {X : Cx} {e : Expr} {ta : TA} {p pos tpos : Pos} {elts : List Expr} {kk : Nat} (hg : Gl X "enumerate") (hm : X.mg "enumerate" = none) (ha : PA X [e] ta) (hs : starEach [e] X.env = [(false, eval e X.env)] := by rfl) :
    PI X (.Tuple elts kk tpos) (.Call (.Name "enumerate" p) [e] [] pos) (iEnumA X.K ta) := by
  refine ⟨fun pins s σ H R I h => ?_⟩
  refine Call_ (ld_blt I hg hm boot_enumerate (PyProof.Rows.callWith_type1 (thn (ha.run pos pins s σ H _ I h) fun us s1 ⟨vs, H1, I1, r1, q1⟩ => ?_) hs rfl))
  obtain ⟨a, xs, ex, q1⟩ := q1
  subst ex
  cases r1 with
  | cons r rr =>
    cases rr
    cases r
    rcases q1 with ⟨hq, q⟩ | ⟨hq, q⟩
    · obtain ⟨its, rv, p', hz⟩ := I1.list hq
      refine call_enumerate_list p'.isList fun h' he hit hsz hk => wpAny_pyIter_enum he ?_
      have I2 : Inv X pins σ H1 { s1 with heap := h' } := I1.kept (t' := s1.toks) hk
      refine ⟨s1.heap.objs.size + 1, [s1.heap.objs.size + 1, s1.heap.objs.size], _, _, H1, rfl, I2, turn_enum a (s1.heap.objs.size + 1) s1.heap.objs.size, ⟨⟨.none, he⟩, hit, Nat.succ_ne_self _⟩, fun b hb => ?_, q⟩
      have e' : b = s1.heap.objs.size + 1 ∨ b = s1.heap.objs.size := by simpa using hb
      have hle : s1.heap.objs.size ≤ b := by
        rcases e' with z | z
        · rw [z]; exact Nat.le_add_right _ _
        · rw [z]; exact Nat.le_refl _
      exact I1.fpOk hle (I1.hok.fresh hle)
    · obtain ⟨its, rv, p', hz⟩ := I1.tuple hq
      refine et_call p' fun h' he hit hsz hk => wpAny_pyIter_enum he ?_
      have I2 : Inv X pins σ H1 { s1 with heap := h' } := I1.kept (t' := s1.toks) hk
      refine ⟨s1.heap.objs.size + 1, [s1.heap.objs.size + 1, s1.heap.objs.size], _, _, H1, rfl, I2, turn_enumT a (s1.heap.objs.size + 1) s1.heap.objs.size, ⟨⟨.none, he⟩, hit, Nat.succ_ne_self _⟩, fun b hb => ?_, q⟩
      have e' : b = s1.heap.objs.size + 1 ∨ b = s1.heap.objs.size := by simpa using hb
      have hle : s1.heap.objs.size ≤ b := by
        rcases e' with z | z
        · rw [z]; exact Nat.le_add_right _ _
        · rw [z]; exact Nat.le_refl _
      exact I1.fpOk hle (I1.hok.fresh hle)
end L2
namespace Dn
open PySem PySem.Spec L2
open PyProof.Rows hiding St RelV
def enumAK (ds : List D) (s : Store) : Res (List D) := match ds with
  | [d] => (match d with
    | .lst xs => .ok (enumD 0 xs) s
    | .scr ns => .ok (enumD 0 (ns.map .int)) s
    | .tup xs => .ok (enumD 0 xs) s
    | _ => .bad)
  | _ => .bad
def iEnumA (a : EL) : EI := fun ρ s => (a ρ s).bind enumAK
theorem walks_enumT {K : PySem.W.Frag} {F : Addr → Prop} {H0 : Hp} {μ0 : Mu} {a : Addr} {ds : List D} (h : ∀ H μ F2, Kp H0 μ0 F H μ F2 → ∃ xs, SqT K H a xs ∧ RVs K H μ F2 ds xs) : Walks K F H0 μ0 (IteT K a) (enumD 0 ds) where
  go := fun i d H μ F2 st e kp rs => by
    obtain ⟨xs, q, r⟩ := h H μ F2 kp
    rw [enumD_get] at e
    obtain ⟨c, e1, e2⟩ := Option.map_eq_some_iff.mp e
    subst e2
    obtain ⟨v, e3, rv⟩ := r.get e1
    refine ⟨⟨xs, v, q, e3⟩, fun x H2 hy => ?_⟩
    obtain ⟨T, y, rfl, hT, rfl, hy⟩ := hy
    have hy := hy xs q
    rw [e3] at hy; cases hy
    refine ⟨rs.new hT, .new hT, ?_⟩
    rw [Nat.zero_add]
    exact rs.newT hT (RVs.cons (RV_int _) (RVs.cons rv RVs.nil))
  stop := fun i H μ F2 hl kp => by
    obtain ⟨xs, q, r⟩ := h H μ F2 kp
    exact ⟨xs, q, by rw [r.length]; rw [enumD_len] at hl; exact hl⟩
section
variable {X : Cx} {W : WX} {e : Expr} {elts : List Expr} {kk : Nat} {tpos p pos : Pos} {ml : EL}
theorem si_enumA (hg : Gl X "enumerate") (hm : X.mg "enumerate" = none) (ha : SA X W [e] ml) (hs : starEach [e] X.env = [(false, eval e X.env)] := by rfl) : SI X W (.Tuple elts kk tpos) (.Call (.Name "enumerate" p) [e] [] pos) (Dn.iEnumA ml) := by
  refine ⟨fun pins s σ H R I h => ?_⟩
  refine (pi_enumA hg hm ha hs).run pins s σ H R I ?_
  obtain ⟨ρ, μ, F, G, st, a, h⟩ := h
  refine tG_at (k := enumAK) a h fun xs H1 μ1 st1 ds a1 f1 r1 h1 => ?_
  unfold enumAK at h1
  split at h1
  · split at h1
    · rename_i ds
      simp only [RVs] at r1
      obtain ⟨v, ys, e1, r1, e2⟩ := r1
      subst e2
      unfold RV at r1
      obtain ⟨b, xs, e2, q1, q2⟩ := r1
      subst e2
      refine ⟨b, xs, e1, .inl ⟨.inl (.inl q1.1), h1 _ H1 μ1 .refl a1.s (walks_enum fun H μ F2 kp => ⟨xs, .inl (.inl (kp.pure b _ q1.1 q1.2.1 q1.2.2).1), RVs.kp kp q2⟩)⟩⟩
    · rename_i ns
      simp only [RVs] at r1
      obtain ⟨v, ys, e1, r1, e2⟩ := r1
      subst e2
      unfold RV at r1
      obtain ⟨b, e2, q1⟩ := r1
      subst e2
      have key : ∀ H μ F2, Kp H1 μ1 F H μ F2 → SqL X.K H b (ns.map V.int) := fun H μ F2 f => by
        rcases q1 with ⟨o, h1, h2, h3⟩ | q1
        · exact .inl (.inr ⟨o, (f.pure b _ h1 h2 h3).1⟩)
        · exact .inr q1
      exact ⟨b, _, e1, .inl ⟨key H1 μ1 F ⟨fun _ _ h n nf => ⟨h, n, nf⟩, fun _ _ h => h⟩, h1 _ H1 μ1 .refl a1.s (walks_enum fun H μ F2 kp => ⟨_, key H μ F2 kp, RVs.ints ns⟩)⟩⟩
    · rename_i ds
      simp only [RVs] at r1
      obtain ⟨v, ys, e1, r1, e2⟩ := r1
      subst e2
      have key : ∀ H μ F2, Kp H1 μ1 F H μ F2 → ∃ b xs, v = .ref b ∧ SqT X.K H b xs ∧ RVs X.K H μ F2 ds xs := fun H μ F2 kp => by
        have r2 := RV.kp kp r1
        unfold RV at r2
        obtain ⟨b, xs, e2, q1, q2⟩ := r2
        exact ⟨b, xs, e2, q1.elim (fun z => .inl (.inl z.1)) .inr, q2⟩
      have r0 := key H1 μ1 F ⟨fun _ _ h n nf => ⟨h, n, nf⟩, fun _ _ h => h⟩
      obtain ⟨b, xs, e2, q1, q2⟩ := r0
      subst e2
      refine ⟨b, xs, e1, .inr ⟨q1, h1 _ H1 μ1 .refl a1.s (walks_enumT fun H μ F2 kp => ?_)⟩⟩
      obtain ⟨b', xs', e3, q3, q4⟩ := key H μ F2 kp
      cases e3
      exact ⟨xs', q3, q4⟩
    · exact h1.elim
  · exact h1.elim
end
end Dn
set_option maxHeartbeats 0
namespace Dn
open PySem PySem.Spec L2
open PyProof.Rows hiding St RelV
abbrev Rw : PySem.W.OpenLaw := PySem.Challenge.rw_filteredcopies_k15_targets
def top (i : Nat) : Stmt := PySem.Challenge.pw_filteredcopies_k15_targets.main.body.getD i (.Pass ⟨0, 0, 0, 0⟩)
abbrev s_BadHabit___init__ : Stmt := clsAt (top 3) 0
abbrev s_BadTarget___init__ : Stmt := clsAt (top 4) 0
abbrev s_Habits___eq__ : Stmt := clsAt (top 8) 2
abbrev s_is_word : Stmt := top 11
abbrev s__law_source : Stmt := top 15
abbrev s__law_draw : Stmt := top 16
abbrev s__law_integer : Stmt := top 18
abbrev s__law_due : Stmt := top 22
abbrev s__law_of : Stmt := top 17
abbrev s__law_word : Stmt := top 19
abbrev s_Habits___init__ : Stmt := clsAt (top 8) 0
abbrev s__law_odd : Stmt := top 20
abbrev s_Target___init__ : Stmt := clsAt (top 13) 0
abbrev s__law_told : Stmt := top 21
abbrev s_law : Stmt := top 23
def k_HABITS : D := .tup [(.tup [(.str "present"), (.tup [(.str "stop"), (.str "keep"), (.str "replace"), (.str "merge")])]), (.tup [(.str "lacking"), (.tup [(.str "stop"), (.str "skip"), (.str "make")])]), (.tup [(.str "gone"), (.tup [(.str "stop"), (.str "skip")])]), (.tup [(.str "shared"), (.tup [(.str "one"), (.str "all")])])]
def k_LETTERS : D := .str "abcdefghijklmnopqrstuvwxyz"
def t_Habits : KTab := [((false, "NoneType"), false), ((false, "bool"), false), ((false, "int"), false), ((false, "str"), false), ((false, "tuple"), false), ((false, "list"), false), ((false, "dict"), false), ((true, "Habits"), true), ((true, "Target"), false)]
def t_tuple : KTab := [((false, "NoneType"), false), ((false, "bool"), false), ((false, "int"), false), ((false, "str"), false), ((false, "tuple"), true), ((false, "list"), false), ((false, "dict"), false), ((true, "Habits"), false), ((true, "Target"), false)]
def t_str : KTab := [((false, "NoneType"), false), ((false, "bool"), false), ((false, "int"), false), ((false, "str"), true), ((false, "tuple"), false), ((false, "list"), false), ((false, "dict"), false), ((true, "Habits"), false), ((true, "Target"), false)]
def t_int : KTab := [((false, "NoneType"), false), ((false, "bool"), true), ((false, "int"), true), ((false, "str"), false), ((false, "tuple"), false), ((false, "list"), false), ((false, "dict"), false), ((true, "Habits"), false), ((true, "Target"), false)]
def t_bool : KTab := [((false, "NoneType"), false), ((false, "bool"), true), ((false, "int"), false), ((false, "str"), false), ((false, "tuple"), false), ((false, "list"), false), ((false, "dict"), false), ((true, "Habits"), false), ((true, "Target"), false)]
def q_kinds : List (Bool × String) := [(false, "NoneType"), (false, "bool"), (false, "int"), (false, "str"), (false, "tuple"), (false, "list"), (false, "dict"), (true, "Habits"), (true, "Target")]
def n_BadHabit___init__ : List Str := ["self", "habit"]
def n_BadTarget___init__ : List Str := ["self", "at"]
def n_Habits___eq__ : List Str := ["self", "other"]
def p_Habits___eq___0 : S := sIf (eNotT (eTru (eIsi t_Habits (eRd 1)))) (sBad) (bNil)
def p_Habits___eq___1 : S := sIf (eOrT (eIs (eCmp .NotEq (eAttr ["Habits"] "present" (eRd 0)) (eAttr ["Habits"] "present" (eRd 1)))) (eIs (eCmp .NotEq (eAttr ["Habits"] "lacking" (eRd 0)) (eAttr ["Habits"] "lacking" (eRd 1))))) (sRet (eC (.bl false))) (bNil)
def p_Habits___eq___2 : S := sRet (eAnd (eCmp .Eq (eAttr ["Habits"] "gone" (eRd 0)) (eAttr ["Habits"] "gone" (eRd 1))) (eCmp .Eq (eAttr ["Habits"] "shared" (eRd 0)) (eAttr ["Habits"] "shared" (eRd 1))))
def m_Habits___eq__ : S := bCons (p_Habits___eq___0) <| bCons (p_Habits___eq___1) <| p_Habits___eq___2
def M_Habits___eq__ : M := fnM 2 m_Habits___eq__
def n_is_word : List Str := ["value", "letter"]
def p_is_word_0 : S := sIf (eOrT (eNotT (eTru (eIsi t_str (eRd 0)))) (eNotT (eIs (eChain .LtE .LtE (eC (.int 1)) (eBt gLen (eCons (eRd 0) (eNil))) (eC (.int 8)))))) (sRet (eC (.bl false))) (bNil)
def p_is_word_1 : S := sRet (eBt gAll (eCons (eLc (.nm 1) (iStrD (eLoc 0)) (eYes) (eCmp .In (eRd 1) (eC k_LETTERS)) [1]) (eNil)))
def m_is_word : S := bCons (p_is_word_0) <| p_is_word_1
def M_is_word : M := fnM 2 m_is_word
def n__law_source : List Str := ["script", "place", "cell", "digits"]
def p__law_source_0 : S := sSet 2 (eIf (eIs (eCmp .Lt (eRd 1) (eBt gLen (eCons (eRd 0) (eNil))))) (eIx (eRd 0) (eRd 1)) (eC (.int 0)))
def p__law_source_1 : S := sSet 3 (eIf (eIs (eCmp .GtE (eBt gAbs (eCons (eRd 2) (eNil))) (eBin .Pow (eC (.int 10)) (eC (.int 18))))) (eBt gAbs (eCons (eRd 2) (eNil))) (eC (.int 0)))
def p__law_source_2 : S := sRet (eNew (eLst (eCons (eLoc 3) (eCons (eBin .Add (eBin .Add (eBin .Mod (eBt gInt (eCons (eRd 2) (eNil))) (eC (.int 2305843009213693951))) (eBin .Mult (eC (.int 1299709)) (eRd 1))) (eC (.int 15485863))) (eCons (eC (.int 0)) (eNil))))))
def m__law_source : S := bCons (p__law_source_0) <| bCons (p__law_source_1) <| p__law_source_2
def M__law_source : M := fnM 4 m__law_source
def n__law_draw : List Str := ["source", "many", "digit"]
def p__law_draw_0t0 : S := sSet 2 (eBin .Mod (eBt gInt (eCons (eIx (eRd 0) (eC (.int 0))) (eNil))) (eRd 1))
def p__law_draw_0t1 : S := sPut (eBin .FloorDiv (eIx (eRd 0) (eC (.int 0))) (eRd 1)) (eLoc 0) (eC (.int 0))
def p__law_draw_0 : S := sIf (eIs (eCmp .Gt (eIx (eRd 0) (eC (.int 0))) (eC (.int 0)))) (bCons (p__law_draw_0t0) <| bCons (p__law_draw_0t1) <| sRet (eLoc 2)) (bNil)
def p__law_draw_1 : S := sPut (eBin .Add (eIx (eRd 0) (eC (.int 2))) (eC (.int 1))) (eLoc 0) (eC (.int 2))
def p__law_draw_2 : S := sPut (eBin .Mod (eBt gInt (eCons (eBin .Add (eBin .Add (eBin .Mult (eIx (eRd 0) (eC (.int 1))) (eC (.int 69621))) (eBin .Mult (eBin .Mult (eC (.int 32452843)) (eIx (eRd 0) (eC (.int 2)))) (eIx (eRd 0) (eC (.int 2))))) (eC (.int 40009))) (eNil))) (eC (.int 2305843009213693951))) (eLoc 0) (eC (.int 1))
def p__law_draw_3 : S := sRet (eBin .Mod (eBt gInt (eCons (eBin .FloorDiv (eBin .Mod (eBt gInt (eCons (eBin .Add (eBin .Pow (eBin .FloorDiv (eIx (eRd 0) (eC (.int 1))) (eC (.int 256))) (eC (.int 2))) (eBin .Mult (eC (.int 17)) (eIx (eRd 0) (eC (.int 2))))) (eNil))) (eC (.int 2305843009213693921))) (eC (.int 4096))) (eNil))) (eRd 1))
def m__law_draw : S := bCons (p__law_draw_0) <| bCons (p__law_draw_1) <| bCons (p__law_draw_2) <| p__law_draw_3
def M__law_draw : M := fnM 3 m__law_draw
def n__law_integer : List Str := ["value"]
def p__law_integer_0 : S := sRet (eAnd (eIsi t_int (eRd 0)) (eNot (eIsi t_bool (eRd 0))))
def m__law_integer : S := p__law_integer_0
def M__law_integer : M := fnM 1 m__law_integer
def n__law_due : List Str := ["name", "columns", "wrong", "habits", "at", "column", "allowed", "word"]
def p__law_due_0t0 : S := sRet (eTup (eCons (eC (.str "target")) (eCons (eNeg (eC (.int 1))) (eNil))))
def p__law_due_0 : S := sIf (eIs (eCmp .Is (eRd 0) (eC .non))) (p__law_due_0t0) (bNil)
def p__law_due_1b0t0 : S := sRet (eTup (eCons (eC (.str "target")) (eCons (eLoc 4) (eNil))))
def p__law_due_1b0 : S := sIf (eOrT (eTru (eIx (eRd 2) (eRd 4))) (eIs (eCmp .In (eRd 5) (eSl (eRd 1) (eNoPart) (ePart (eLoc 4)))))) (p__law_due_1b0t0) (bNil)
def p__law_due_1 : S := sForL (.tup [.nm 4, .nm 5]) (iEnumL (eCons (eLoc 1) (eNil))) (p__law_due_1b0)
def p__law_due_2 : S := sSet 6 (eLst (eCons (eTup (eCons (eC (.str "stop")) (eCons (eC (.str "keep")) (eCons (eC (.str "replace")) (eCons (eC (.str "merge")) (eNil)))))) (eCons (eTup (eCons (eC (.str "stop")) (eCons (eC (.str "skip")) (eCons (eC (.str "make")) (eNil))))) (eCons (eTup (eCons (eC (.str "stop")) (eCons (eC (.str "skip")) (eNil)))) (eCons (eTup (eCons (eC (.str "one")) (eCons (eC (.str "all")) (eNil)))) (eNil))))))
def p__law_due_3b0t0 : S := sRet (eTup (eCons (eC (.str "habit")) (eCons (eLoc 7) (eNil))))
def p__law_due_3b0 : S := sIf (eOrT (eNotT (eTru (eIsi t_str (eIx (eRd 3) (eRd 4))))) (eIs (eCmp .NotIn (eIx (eRd 3) (eRd 4)) (eIx (eRd 6) (eRd 4))))) (p__law_due_3b0t0) (bNil)
def p__law_due_3 : S := sFor (.tup [.nm 4, .nm 7]) (iEnum (eCons (eLst (eCons (eC (.str "present")) (eCons (eC (.str "lacking")) (eCons (eC (.str "gone")) (eCons (eC (.str "shared")) (eNil)))))) (eNil))) (p__law_due_3b0)
def m__law_due : S := bCons (p__law_due_0) <| bCons (p__law_due_1) <| bCons (p__law_due_2) <| bCons (p__law_due_3) <| sRet (eBt gTuple (eCons (eRd 3) (eNil)))
def M__law_due : M := fnM 8 m__law_due
def n__law_of : List Str := ["source", "some"]
def p__law_of_0 : S := sRet (eIx (eRd 1) (eCall (argsM 2 0 [0, 1] [] M__law_draw) (eCons (eLoc 0) (eCons (eBt gLen (eCons (eRd 1) (eNil))) (eNil)))))
def m__law_of : S := p__law_of_0
def M__law_of : M := fnM 2 m__law_of
def n__law_word : List Str := ["source", "taken", "letters", "word", "free", "letter", "turn"]
def p__law_word_0 : S := sSet 2 (eC (.str "abcdefghijklmnopqrstuvwxyz"))
def p__law_word_1 : S := sSet 3 (eMt "str" gJoin (eC (.str "")) (eCons (eLc (.nm 6) (iRng1 (eCons (eBin .Add (eC (.int 1)) (eCall (argsM 2 0 [0, 1] [] M__law_draw) (eCons (eLoc 0) (eCons (eC (.int 8)) (eNil))))) (eNil))) (eYes) (eIx (eRd 2) (eCall (argsM 2 0 [0, 1] [] M__law_draw) (eCons (eLoc 0) (eCons (eC (.int 26)) (eNil))))) [6]) (eNil)))
def p__law_word_2 : S := sIf (eIs (eCmp .NotIn (eRd 3) (eRd 1))) (sRet (eLoc 3)) (bNil)
def p__law_word_3 : S := sSet 4 (eLc (.nm 5) (iStrD (eLoc 2)) (eIs (eCmp .NotIn (eSl (eBin .Add (eRd 5) (eRd 3)) (eNoPart) (ePart (eC (.int 8)))) (eRd 1))) (eLoc 5) [5])
def p__law_word_4 : S := sRet (eSl (eBin .Add (eIx (eRd 4) (eC (.int 0))) (eRd 3)) (eNoPart) (ePart (eC (.int 8))))
def m__law_word : S := bCons (p__law_word_0) <| bCons (p__law_word_1) <| bCons (p__law_word_2) <| bCons (p__law_word_3) <| p__law_word_4
def M__law_word : M := fnM 7 m__law_word
def n_Habits___init__ : List Str := ["self", "present", "lacking", "gone", "shared", "habit", "allowed", "value"]
def p_Habits___init___0b0t0 : S := sRaise "BadHabit" 1 [("habit", 0)] (eCons (eLoc 5) (eNil))
def p_Habits___init___0b0 : S := sIf (eOrT (eNotT (eTru (eIsi t_str (eRd 7)))) (eIs (eCmp .NotIn (eRd 7) (eRd 6)))) (p_Habits___init___0b0t0) (bNil)
def p_Habits___init___0 : S := sFor (.tup [.tup [.nm 5, .nm 6], .nm 7]) (iZip (eCons (eC k_HABITS) (eCons (eTup (eCons (eLoc 1) (eCons (eLoc 2) (eCons (eLoc 3) (eCons (eLoc 4) (eNil)))))) (eNil)))) (p_Habits___init___0b0)
def m_Habits___init__ : S := bCons (p_Habits___init___0) <| bCons (sFldO ["Habits"] 0 "present" (eLoc 1)) <| bCons (sFldO ["Habits"] 0 "lacking" (eLoc 2)) <| bCons (sFldO ["Habits"] 0 "gone" (eLoc 3)) <| sFldO ["Habits"] 0 "shared" (eLoc 4)
def M_Habits___init__ : M := initM "Habits" 8 m_Habits___init__
def n__law_odd : List Str := ["source"]
def p__law_odd_0 : S := sRet (eCall (argsM 2 0 [0, 1] [] M__law_of) (eCons (eLoc 0) (eCons (eLst (eCons (eC (.str "")) (eCons (eC (.str "abcdefghi")) (eCons (eC (.str "A")) (eCons (eC (.str "aB")) (eCons (eC (.str "a1")) (eCons (eC (.str "a b")) (eCons (eC (.str " a")) (eCons (eC (.str "a_")) (eCons (eC (.str "-")) (eCons (eC .non) (eCons (eC (.int 0)) (eCons (eC (.int 1)) (eCons (eC (.bl true)) (eCons (eC (.bl false)) (eCons (eNeg (eC (.int 7))) (eCons (eBin .Pow (eC (.int 10)) (eC (.int 30))) (eCons (eTup (eCons (eC (.str "a")) (eNil))) (eCons (eLst (eCons (eC (.str "a")) (eNil))) (eCons (eDic (dPairs [(eC (.str "a"), eC (.str "b"))])) (eCons (eTup (eNil)) (eCons (eLst (eNil)) (eNil))))))))))))))))))))))) (eNil))))
def m__law_odd : S := p__law_odd_0
def M__law_odd : M := fnM 1 m__law_odd
def n_Target___init__ : List Str := ["self", "name", "columns", "habits", "seen", "at", "column"]
def p_Target___init___0t0 : S := sRaise "BadTarget" 1 [("at", 0)] (eCons (eNeg (eC (.int 1))) (eNil))
def p_Target___init___0 : S := sIf (eOrT (eNotT (eTru (eCall (argsM 1 0 [0] [] M_is_word) (eCons (eLoc 1) (eNil))))) (eIs (eCmp .In (eRd 1) (eTup (eCons (eC (.str "table")) (eCons (eC (.str "key")) (eNil))))))) (p_Target___init___0t0) (bNil)
def p_Target___init___2b0t0 : S := sRaise "BadTarget" 1 [("at", 0)] (eCons (eLoc 5) (eNil))
def p_Target___init___2b0 : S := sIf (eOrT (eNotT (eTru (eCall (argsM 1 0 [0] [] M_is_word) (eCons (eLoc 6) (eNil))))) (eOrT (eIs (eCmp .Eq (eRd 6) (eC (.str "key")))) (eIs (eCmp .In (eRd 6) (eRd 4))))) (p_Target___init___2b0t0) (bNil)
def p_Target___init___2 : S := sOr 2 (sForL (.tup [.nm 5, .nm 6]) (iEnumL (eCons (eLoc 2) (eNil))) (bCons (p_Target___init___2b0) <| sApp 4 (eLoc 6))) (sFor (.tup [.nm 5, .nm 6]) (iEnumA (eCons (eLoc 2) (eNil))) (bCons (p_Target___init___2b0) <| sApp 4 (eLoc 6)))
def p_Target___init___4 : S := sFldO ["Target"] 0 "columns" (eBt gTuple (eCons (eRd 2) (eNil)))
def p_Target___init___5 : S := sFldO ["Target"] 0 "habits" (eCallKD [(["present", "lacking", "gone", "shared"], argsM 0 4 [0, 1, 2, 3] [] M_Habits___init__), ([], argsM 0 0 [0, 1, 2, 3] [.str "stop", .str "stop", .str "stop", .str "one"] M_Habits___init__), (["gone", "present"], argsM 0 2 [1, 2, 0, 3] [.str "stop", .str "one"] M_Habits___init__)] 3)
def m_Target___init__ : S := bCons (p_Target___init___0) <| bCons (sOwn 4 (eLst (eNil))) <| bCons (p_Target___init___2) <| bCons (sFldO ["Target"] 0 "name" (eLoc 1)) <| bCons (p_Target___init___4) <| p_Target___init___5
def M_Target___init__ : M := initM "Target" 7 m_Target___init__
def n__law_told : List Str := ["name", "columns", "habits", "target", "e"]
def p__law_told_0y0 : S := sSet 3 (eCallK 4 (kwM 2 ["present", "lacking", "gone", "shared"] M_Target___init__) (eCons (eLoc 0) (eCons (eLoc 1) (eNil))) (eCons (eIx (eRd 2) (eC (.int 0))) (eCons (eIx (eRd 2) (eC (.int 1))) (eCons (eIx (eRd 2) (eC (.int 2))) (eCons (eIx (eRd 2) (eC (.int 3))) (eNil))))))
def p__law_told_0h0x0 : S := sIf (eOrT (eTru (eXis [((true, "BadTarget"), false)] 4)) (eOrT (eNotT (eTru (eXis [((true, "BadTarget"), true)] 4))) (eNotT (eTru (eCall (argsM 1 0 [0] [] M__law_integer) (eCons (eXf ["BadTarget"] 4 "at") (eNil))))))) (sRet (eC (.str "wrong"))) (bNil)
def p__law_told_0h0x1 : S := sRet (eTup (eCons (eC (.str "target")) (eCons (eXf ["BadTarget"] 4 "at") (eNil))))
def p__law_told_0h1x0 : S := sRet (eTup (eCons (eC (.str "habit")) (eCons (eXf ["BadHabit"] 4 "habit") (eNil))))
def p__law_told_0 : S := sTryN [(4, [("BadHabit", false), ("BadTarget", true)], bCons (p__law_told_0h0x0) <| p__law_told_0h0x1), (4, [("BadHabit", true)], p__law_told_0h1x0)] (p__law_told_0y0)
def p__law_told_1 : S := sSet 2 (eAttr ["Target"] "habits" (eRd 3))
def p__law_told_2 : S := sIf (eOrT (eIs (eCmp .NotEq (eAttr ["Target"] "name" (eRd 3)) (eRd 0))) (eOrT (eNotT (eTru (eIsi t_tuple (eAttr ["Target"] "columns" (eRd 3))))) (eIs (eCmp .NotEq (eBt gList (eCons (eAttr ["Target"] "columns" (eRd 3)) (eNil))) (eBt gList (eCons (eRd 1) (eNil))))))) (sRet (eC (.str "wrong"))) (bNil)
def p__law_told_3 : S := sRet (eTup (eCons (eAttr ["Habits"] "present" (eRd 2)) (eCons (eAttr ["Habits"] "lacking" (eRd 2)) (eCons (eAttr ["Habits"] "gone" (eRd 2)) (eCons (eAttr ["Habits"] "shared" (eRd 2)) (eNil))))))
def m__law_told : S := bCons (p__law_told_0) <| bCons (p__law_told_1) <| bCons (p__law_told_2) <| p__law_told_3
def M__law_told : M := fnM 5 m__law_told
def n_law : List Str := ["script", "place", "source", "name", "columns", "wrong", "turn", "habits", "right", "passed", "odd", "one", "two", "mine", "plain", "part"]
def p_law_0b0 : S := sSet 2 (eCall (argsM 2 0 [0, 1] [] M__law_source) (eCons (eLoc 0) (eCons (eLoc 1) (eNil))))
def p_law_0b1 : S := sParO [3, 4, 5] [false, false, false] (eCons (eCall (argsM 2 0 [0, 1] [] M__law_word) (eCons (eLoc 2) (eCons (eLst (eCons (eC (.str "table")) (eCons (eC (.str "key")) (eNil)))) (eNil)))) (eCons (eNew (eLst (eNil))) (eCons (eNew (eLst (eNil))) (eNil))))
def p_law_0b2b0 : S := sAppR (eLoc 5) (eCmp .Eq (eCall (argsM 2 0 [0, 1] [] M__law_draw) (eCons (eLoc 2) (eCons (eC (.int 6)) (eNil)))) (eC (.int 0)))
def p_law_0b2b1 : S := sAppR (eLoc 4) (eCall (argsM 2 0 [0, 1] [] M__law_word) (eCons (eLoc 2) (eCons (eLst (eCons (eC (.str "key")) (eNil))) (eNil))))
def p_law_0b2b2t0 : S := sPut (eCall (argsM 2 0 [0, 1] [] M__law_of) (eCons (eLoc 2) (eCons (eLst (eCons (eCall (argsM 1 0 [0] [] M__law_odd) (eCons (eLoc 2) (eNil))) (eCons (eC (.str "key")) (eNil)))) (eNil)))) (eLoc 4) (eRd 6)
def p_law_0b2b2e0t0 : S := sPut (eIx (eRd 4) (eCall (argsM 2 0 [0, 1] [] M__law_draw) (eCons (eLoc 2) (eCons (eLoc 6) (eNil))))) (eLoc 4) (eRd 6)
def p_law_0b2b2e0 : S := sIf (eAndT (eIs (eCmp .Gt (eRd 6) (eC (.int 0)))) (eIs (eCmp .Eq (eCall (argsM 2 0 [0, 1] [] M__law_draw) (eCons (eLoc 2) (eCons (eC (.int 3)) (eNil)))) (eC (.int 0))))) (p_law_0b2b2e0t0) (bNil)
def p_law_0b2b2 : S := sIf (eTru (eIx (eRd 5) (eRd 6))) (p_law_0b2b2t0) (p_law_0b2b2e0)
def p_law_0b2 : S := sFor (.nm 6) (iRng1 (eCons (eCall (argsM 2 0 [0, 1] [] M__law_draw) (eCons (eLoc 2) (eCons (eC (.int 4)) (eNil)))) (eNil))) (bCons (p_law_0b2b0) <| bCons (p_law_0b2b1) <| p_law_0b2b2)
def p_law_0b3 : S := sSet 7 (eNew (eLst (eCons (eCall (argsM 2 0 [0, 1] [] M__law_of) (eCons (eLoc 2) (eCons (eLst (eCons (eC (.str "stop")) (eCons (eC (.str "stop")) (eCons (eC (.str "keep")) (eCons (eC (.str "replace")) (eCons (eC (.str "merge")) (eNil))))))) (eNil)))) (eCons (eCall (argsM 2 0 [0, 1] [] M__law_of) (eCons (eLoc 2) (eCons (eLst (eCons (eC (.str "stop")) (eCons (eC (.str "skip")) (eCons (eC (.str "make")) (eNil))))) (eNil)))) (eCons (eCall (argsM 2 0 [0, 1] [] M__law_of) (eCons (eLoc 2) (eCons (eLst (eCons (eC (.str "stop")) (eCons (eC (.str "skip")) (eNil)))) (eNil)))) (eCons (eCall (argsM 2 0 [0, 1] [] M__law_of) (eCons (eLoc 2) (eCons (eLst (eCons (eC (.str "one")) (eCons (eC (.str "all")) (eNil)))) (eNil)))) (eNil)))))))
def p_law_0b4 : S := sSet 8 (eBt gList (eCons (eRd 7) (eNil)))
def p_law_0b5b0 : S := sSet 10 (eCall (argsM 2 0 [0, 1] [] M__law_of) (eCons (eLoc 2) (eCons (eLst (eCons (eC (.str "")) (eCons (eC (.str "stop ")) (eCons (eC (.str "make")) (eCons (eC (.str "skip")) (eCons (eC (.str "all")) (eCons (eC (.str "one")) (eCons (eC (.str "merge")) (eCons (eC (.str "keep")) (eCons (eC .non) (eCons (eC (.int 0)) (eCons (eC (.bl true)) (eCons (eTup (eCons (eC (.str "stop")) (eNil))) (eCons (eLst (eNil)) (eNil))))))))))))))) (eNil))))
def p_law_0b5b1 : S := sPut (eLoc 10) (eLoc 7) (eCall (argsM 2 0 [0, 1] [] M__law_draw) (eCons (eLoc 2) (eCons (eC (.int 4)) (eNil))))
def p_law_0b5 : S := sFor (.nm 6) (iRng1 (eCons (eCall (argsM 2 0 [0, 1] [] M__law_draw) (eCons (eLoc 2) (eCons (eC (.int 3)) (eNil)))) (eNil))) (bCons (p_law_0b5b0) <| p_law_0b5b1)
def p_law_0b6 : S := sSet 9 (eIf (eIs (eCmp .Eq (eCall (argsM 2 0 [0, 1] [] M__law_draw) (eCons (eLoc 2) (eCons (eC (.int 2)) (eNil)))) (eC (.int 0)))) (eBt gList (eCons (eRd 4) (eNil))) (eBt gTuple (eCons (eRd 4) (eNil))))
def p_law_0b7 : S := sIf (eIs (eCmp .NotEq (eCall (argsM 3 0 [0, 1, 2] [] M__law_told) (eCons (eLoc 3) (eCons (eLoc 9) (eCons (eLoc 7) (eNil))))) (eCall (argsM 4 0 [0, 1, 2, 3] [] M__law_due) (eCons (eLoc 3) (eCons (eLoc 4) (eCons (eLoc 5) (eCons (eLoc 7) (eNil)))))))) (sRet (eC (.bl false))) (bNil)
def p_law_0b8 : S := sSet 10 (eCall (argsM 2 0 [0, 1] [] M__law_of) (eCons (eLoc 2) (eCons (eLst (eCons (eCall (argsM 1 0 [0] [] M__law_odd) (eCons (eLoc 2) (eNil))) (eCons (eC (.str "table")) (eCons (eC (.str "key")) (eNil))))) (eNil))))
def p_law_0b9 : S := sIf (eOrT (eIs (eCmp .NotEq (eCall (argsM 3 0 [0, 1, 2] [] M__law_told) (eCons (eLoc 10) (eCons (eLoc 9) (eCons (eLoc 7) (eNil))))) (eTup (eCons (eC (.str "target")) (eCons (eNeg (eC (.int 1))) (eNil)))))) (eIs (eCmp .NotEq (eCall (argsM 3 0 [0, 1, 2] [] M__law_told) (eCons (eLoc 3) (eCons (eLst (eNil)) (eCons (eLoc 7) (eNil))))) (eCall (argsM 4 0 [0, 1, 2, 3] [] M__law_due) (eCons (eLoc 3) (eCons (eLst (eNil)) (eCons (eLst (eNil)) (eCons (eLoc 7) (eNil))))))))) (sRet (eC (.bl false))) (bNil)
def p_law_0b10 : S := sPar2 11 12 (eCons (eCall (argsM 2 0 [0, 1] [] M__law_word) (eCons (eLoc 2) (eCons (eLst (eCons (eC (.str "key")) (eNil))) (eNil)))) (eCons (eCall (argsM 2 0 [0, 1] [] M__law_word) (eCons (eLoc 2) (eCons (eLst (eCons (eC (.str "key")) (eNil))) (eNil)))) (eNil)))
def p_law_0b11 : S := sSet 12 (eIf (eIs (eCmp .Eq (eCall (argsM 2 0 [0, 1] [] M__law_draw) (eCons (eLoc 2) (eCons (eC (.int 4)) (eNil)))) (eC (.int 0)))) (eLoc 11) (eLoc 12))
def p_law_0b12 : S := sIf (eIs (eCmp .NotEq (eCall (argsM 3 0 [0, 1, 2] [] M__law_told) (eCons (eLoc 3) (eCons (eLst (eCons (eLoc 11) (eCons (eLoc 12) (eNil)))) (eCons (eLoc 8) (eNil))))) (eIf (eIs (eCmp .Eq (eRd 11) (eRd 12))) (eTup (eCons (eC (.str "target")) (eCons (eC (.int 1)) (eNil)))) (eBt gTuple (eCons (eRd 8) (eNil)))))) (sRet (eC (.bl false))) (bNil)
def p_law_0b13 : S := sSet 13 (eNew (eLst (eCons (eLoc 11) (eNil))))
def p_law_0b14 : S := sPar2 14 15 (eCons (eCall (kwM 2 [] M_Target___init__) (eCons (eLoc 3) (eCons (eLoc 13) (eNil)))) (eCons (eCallK 2 (kwM 2 ["gone", "present"] M_Target___init__) (eCons (eLoc 3) (eCons (eLst (eCons (eLoc 11) (eNil))) (eNil))) (eCons (eIx (eRd 8) (eC (.int 2))) (eCons (eIx (eRd 8) (eC (.int 0))) (eNil)))) (eNil)))
def p_law_0b16 : S := sIf (eOrT (eIs (eCmp .NotEq (eAttr ["Target"] "columns" (eRd 14)) (eTup (eCons (eLoc 11) (eNil))))) (eOrT (eIs (eEqO true [("Habits", argsM 2 0 [0, 1] [] M_Habits___eq__)] q_kinds (eAttr ["Target"] "habits" (eRd 14)) (eCall (argsM 0 0 [0, 1, 2, 3] [.str "stop", .str "stop", .str "stop", .str "one"] M_Habits___init__) eNil))) (eNotT (eTru (eIsi t_Habits (eAttr ["Target"] "habits" (eRd 14))))))) (sRet (eC (.bl false))) (bNil)
def p_law_0b17 : S := sIf (eOrT (eIs (eEqO true [("Habits", argsM 2 0 [0, 1] [] M_Habits___eq__)] q_kinds (eAttr ["Target"] "habits" (eRd 15)) (eCallK 2 (argsM 0 2 [0, 2, 1, 3] [.str "stop", .str "one"] M_Habits___init__) eNil (eCons (eIx (eRd 8) (eC (.int 0))) (eCons (eIx (eRd 8) (eC (.int 2))) (eNil)))))) (eIs (eCmp .NotEq (eAttr ["Habits"] "shared" (eAttr ["Target"] "habits" (eRd 15))) (eC (.str "one"))))) (sRet (eC (.bl false))) (bNil)
def p_law_0b18 : S := sIf (eOrT (eIs (eCmp .NotEq (eAttr ["Habits"] "lacking" (eAttr ["Target"] "habits" (eRd 14))) (eC (.str "stop")))) (eOrT (eIs (eCmp .NotEq (eAttr ["Habits"] "present" (eAttr ["Target"] "habits" (eRd 14))) (eC (.str "stop")))) (eIs (eCmp .NotEq (eAttr ["Habits"] "gone" (eAttr ["Target"] "habits" (eRd 14))) (eC (.str "stop")))))) (sRet (eC (.bl false))) (bNil)
def p_law_0 : S := sFor (.nm 1) (iRng1 (eCons (eBt gMax2 (eCons (eC (.int 1)) (eCons (eBt gMin2 (eCons (eC (.int 30)) (eCons (eBt gLen (eCons (eRd 0) (eNil))) (eNil)))) (eNil)))) (eNil))) (bCons (p_law_0b0) <| bCons (p_law_0b1) <| bCons (p_law_0b2) <| bCons (p_law_0b3) <| bCons (p_law_0b4) <| bCons (p_law_0b5) <| bCons (p_law_0b6) <| bCons (p_law_0b7) <| bCons (p_law_0b8) <| bCons (p_law_0b9) <| bCons (p_law_0b10) <| bCons (p_law_0b11) <| bCons (p_law_0b12) <| bCons (p_law_0b13) <| bCons (p_law_0b14) <| bCons (sAppR (eLoc 13) (eLoc 12)) <| bCons (p_law_0b16) <| bCons (p_law_0b17) <| p_law_0b18)
def m_law : S := bCons (p_law_0) <| sRet (eC (.bl true))
def M_law : M := fnM 16 m_law
def dd_BadHabit___init__ : He.DefD := ⟨("BadHabit", some "__init__"), "__init__", "BadHabit.__init__", defArgs s_BadHabit___init__, defBody s_BadHabit___init__, defScope s_BadHabit___init__, [], []⟩
def dd_BadTarget___init__ : He.DefD := ⟨("BadTarget", some "__init__"), "__init__", "BadTarget.__init__", defArgs s_BadTarget___init__, defBody s_BadTarget___init__, defScope s_BadTarget___init__, [], []⟩
def dd_Habits___eq__ : He.DefD := ⟨("Habits", some "__eq__"), "__eq__", "Habits.__eq__", defArgs s_Habits___eq__, defBody s_Habits___eq__, defScope s_Habits___eq__, [], []⟩
def dd_is_word : He.DefD := ⟨("is_word", none), "is_word", "is_word", defArgs s_is_word, defBody s_is_word, defScope s_is_word, [], []⟩
def dd__law_source : He.DefD := ⟨("_law_source", none), "_law_source", "_law_source", defArgs s__law_source, defBody s__law_source, defScope s__law_source, [], []⟩
def dd__law_draw : He.DefD := ⟨("_law_draw", none), "_law_draw", "_law_draw", defArgs s__law_draw, defBody s__law_draw, defScope s__law_draw, [], []⟩
def dd__law_integer : He.DefD := ⟨("_law_integer", none), "_law_integer", "_law_integer", defArgs s__law_integer, defBody s__law_integer, defScope s__law_integer, [], []⟩
def dd__law_due : He.DefD := ⟨("_law_due", none), "_law_due", "_law_due", defArgs s__law_due, defBody s__law_due, defScope s__law_due, [], []⟩
def dd__law_of : He.DefD := ⟨("_law_of", none), "_law_of", "_law_of", defArgs s__law_of, defBody s__law_of, defScope s__law_of, [], []⟩
def dd__law_word : He.DefD := ⟨("_law_word", none), "_law_word", "_law_word", defArgs s__law_word, defBody s__law_word, defScope s__law_word, [], []⟩
def dd_Habits___init__ : He.DefD := ⟨("Habits", some "__init__"), "__init__", "Habits.__init__", defArgs s_Habits___init__, defBody s_Habits___init__, defScope s_Habits___init__, [], [("present", .str "stop"), ("lacking", .str "stop"), ("gone", .str "stop"), ("shared", .str "one")]⟩
def dd__law_odd : He.DefD := ⟨("_law_odd", none), "_law_odd", "_law_odd", defArgs s__law_odd, defBody s__law_odd, defScope s__law_odd, [], []⟩
def dd_Target___init__ : He.DefD := ⟨("Target", some "__init__"), "__init__", "Target.__init__", defArgs s_Target___init__, defBody s_Target___init__, defScope s_Target___init__, [], []⟩
def dd__law_told : He.DefD := ⟨("_law_told", none), "_law_told", "_law_told", defArgs s__law_told, defBody s__law_told, defScope s__law_told, [], []⟩
def dd_law : He.DefD := ⟨("law", none), "law", "law", defArgs s_law, defBody s_law, defScope s_law, [], []⟩
structure Fs (K : PySem.W.Frag) (mg : Str → Option Value) : Prop where
  f_BadHabit___init__ : ∃ fd, FuD K dd_BadHabit___init__ fd
  f_BadTarget___init__ : ∃ fd, FuD K dd_BadTarget___init__ fd
  f_Habits___eq__ : ∃ fd, FuD K dd_Habits___eq__ fd
  f_is_word : ∃ fd, FuD K dd_is_word fd
  f__law_source : ∃ fd, FuD K dd__law_source fd
  f__law_draw : ∃ fd, FuD K dd__law_draw fd
  f__law_integer : ∃ fd, FuD K dd__law_integer fd
  f__law_due : ∃ fd, FuD K dd__law_due fd
  f__law_of : ∃ fd, FuD K dd__law_of fd
  f__law_word : ∃ fd, FuD K dd__law_word fd
  f_Habits___init__ : ∃ fd, FuD K dd_Habits___init__ fd
  f__law_odd : ∃ fd, FuD K dd__law_odd fd
  f_Target___init__ : ∃ fd, FuD K dd_Target___init__ fd
  f__law_told : ∃ fd, FuD K dd__law_told fd
  f_law : ∃ fd, FuD K dd_law fd
  n_range : mg "range" = none
  n_max : mg "max" = none
  n_min : mg "min" = none
  n_len : mg "len" = none
  g__law_source : mg "_law_source" = some (.ref (He.ga K "_law_source"))
  g__law_word : mg "_law_word" = some (.ref (He.ga K "_law_word"))
  g__law_draw : mg "_law_draw" = some (.ref (He.ga K "_law_draw"))
  g__law_of : mg "_law_of" = some (.ref (He.ga K "_law_of"))
  g__law_odd : mg "_law_odd" = some (.ref (He.ga K "_law_odd"))
  n_list : mg "list" = none
  n_tuple : mg "tuple" = none
  g__law_told : mg "_law_told" = some (.ref (He.ga K "_law_told"))
  g__law_due : mg "_law_due" = some (.ref (He.ga K "_law_due"))
  g_Target : mg "Target" = some (.ref (He.ga K "Target"))
  mk_Target : Mk K (He.ga K "Target") (He.ma K (He.ga K "Target") "__init__")
  fd_columns : ClsF K ["Target"] "columns"
  fd_habits : ClsF K ["Target"] "habits"
  g_Habits : mg "Habits" = some (.ref (He.ga K "Habits"))
  mk_Habits : Mk K (He.ga K "Habits") (He.ma K (He.ga K "Habits") "__init__")
  eq_Habits : EqF K "Habits" q_kinds
  n_isinstance : mg "isinstance" = none
  is_Habits : IsiF K (.ref (He.ga K "Habits")) t_Habits
  fd_shared : ClsF K ["Habits"] "shared"
  fd_lacking : ClsF K ["Habits"] "lacking"
  fd_present : ClsF K ["Habits"] "present"
  fd_gone : ClsF K ["Habits"] "gone"
  n_abs : mg "abs" = none
  n_int : mg "int" = none
  em_BadTarget_BadHabit_BadTarget : ∀ C b, (C, b) ∈ ([("BadHabit", false), ("BadTarget", true)] : List (String × Bool)) → PySem.W.exmOne K (.ref (He.ga K C)) (.ref (He.ga K "BadTarget")) = some b
  xi2_BadHabit_BadNetwork_BadTarget : XisF2 K (He.ga K "BadHabit") (He.ga K "BadNetwork") [((true, "BadTarget"), false)]
  g_BadHabit : mg "BadHabit" = some (.ref (He.ga K "BadHabit"))
  g_BadNetwork : mg "BadNetwork" = some (.ref (He.ga K "BadNetwork"))
  xi_CopiesError_BadTarget : XisF K (.ref (He.ga K "CopiesError")) [((true, "BadTarget"), true)]
  g_CopiesError : mg "CopiesError" = some (.ref (He.ga K "CopiesError"))
  g__law_integer : mg "_law_integer" = some (.ref (He.ga K "_law_integer"))
  xf_at_BadTarget : XfF K ["BadTarget"] "at"
  g_BadTarget : mg "BadTarget" = some (.ref (He.ga K "BadTarget"))
  em_BadHabit_BadHabit : ∀ C b, (C, b) ∈ ([("BadHabit", true)] : List (String × Bool)) → PySem.W.exmOne K (.ref (He.ga K C)) (.ref (He.ga K "BadHabit")) = some b
  xf_habit_BadHabit : XfF K ["BadHabit"] "habit"
  fd_name : ClsF K ["Target"] "name"
  is_tuple : IsiF K (.type "tuple") t_tuple
  n_enumerate : mg "enumerate" = none
  is_str : IsiF K (.type "str") t_str
  n_str : mg "str" = none
  g_is_word : mg "is_word" = some (.ref (He.ga K "is_word"))
  ox_BadTarget : OexC K (He.ga K "BadTarget")
  oi_BadTarget : PySem.W.findIn K (.ref (He.ga K "BadTarget")) "__init__" = some (some (.ref (He.ma K (He.ga K "BadTarget") "__init__"))) ∧ PySem.W.typeIn K (.ref (He.ma K (He.ga K "BadTarget") "__init__")) = some (.type "function") ∧ ∀ f ∈ (["at"] : List Str), PySem.W.findIn K (.ref (He.ga K "BadTarget")) f = some none
  fs_Target_name : ClsF K ["Target"] "name"
  fs_Target_columns : ClsF K ["Target"] "columns"
  fs_Target_habits : ClsF K ["Target"] "habits"
  n_zip : mg "zip" = none
  v_HABITS : Gv K mg "HABITS" k_HABITS
  ox_BadHabit : OexC K (He.ga K "BadHabit")
  oi_BadHabit : PySem.W.findIn K (.ref (He.ga K "BadHabit")) "__init__" = some (some (.ref (He.ma K (He.ga K "BadHabit") "__init__"))) ∧ PySem.W.typeIn K (.ref (He.ma K (He.ga K "BadHabit") "__init__")) = some (.type "function") ∧ ∀ f ∈ (["habit"] : List Str), PySem.W.findIn K (.ref (He.ga K "BadHabit")) f = some none
  fs_Habits_present : ClsF K ["Habits"] "present"
  fs_Habits_lacking : ClsF K ["Habits"] "lacking"
  fs_Habits_gone : ClsF K ["Habits"] "gone"
  fs_Habits_shared : ClsF K ["Habits"] "shared"
  is_int : IsiF K (.type "int") t_int
  is_bool : IsiF K (.type "bool") t_bool
  n_bool : mg "bool" = none
  n_all : mg "all" = none
  v_LETTERS : Gv K mg "LETTERS" k_LETTERS
  g_law : mg "law" = some (.ref (He.ga K "law"))
section
variable {P : Program} {w : World} {K : PySem.W.Frag} {mg : Str → Option Value} {base : Heap}
theorem nd_BadHabit___init__ : n_BadHabit___init__.Nodup := by decide +kernel
theorem ok_BadHabit___init__ (Z : Fs K mg) : ∃ fd, FuD K dd_BadHabit___init__ fd ∧ L2.FnOk P w K mg base (L2.CX P w) 1 (He.ma K (He.ga K "BadHabit") "__init__") fd ["self", "habit"] (spX K "BadHabit" 1 [("habit", 0)]) := by
  obtain ⟨fd, F⟩ := Z.f_BadHabit___init__
  exact ⟨fd, F, x_init (ps := ["habit"]) Z.ox_BadHabit F ⟨rfl, rfl, rfl, nd_BadHabit___init__, rfl, by decide +kernel, by decide +kernel⟩ (fun p hp => Z.oi_BadHabit.2.2 p.1 (by simp only [List.mem_cons, List.not_mem_nil, or_false] at hp; rcases hp with rfl <;> simp)) (by decide) fun cdv A outer s H E => (pss_cons (ps_ost (pe_var (i := 0) (by rfl) (by first | exact Or.inl rfl | exact Or.inr (Or.inl rfl))) (pe_var (i := 1) (by rfl) (by first | exact Or.inl rfl | exact Or.inr (Or.inl rfl)))) pss_nil)⟩
theorem nd_BadTarget___init__ : n_BadTarget___init__.Nodup := by decide +kernel
theorem ok_BadTarget___init__ (Z : Fs K mg) : ∃ fd, FuD K dd_BadTarget___init__ fd ∧ L2.FnOk P w K mg base (L2.CX P w) 1 (He.ma K (He.ga K "BadTarget") "__init__") fd ["self", "at"] (spX K "BadTarget" 1 [("at", 0)]) := by
  obtain ⟨fd, F⟩ := Z.f_BadTarget___init__
  exact ⟨fd, F, x_init (ps := ["at"]) Z.ox_BadTarget F ⟨rfl, rfl, rfl, nd_BadTarget___init__, rfl, by decide +kernel, by decide +kernel⟩ (fun p hp => Z.oi_BadTarget.2.2 p.1 (by simp only [List.mem_cons, List.not_mem_nil, or_false] at hp; rcases hp with rfl <;> simp)) (by decide) fun cdv A outer s H E => (pss_cons (ps_ost (pe_var (i := 0) (by rfl) (by first | exact Or.inl rfl | exact Or.inr (Or.inl rfl))) (pe_var (i := 1) (by rfl) (by first | exact Or.inl rfl | exact Or.inr (Or.inl rfl)))) pss_nil)⟩
theorem nd_Habits___eq__ : n_Habits___eq__.Nodup := by decide +kernel
theorem d_Habits___eq__ (Z : Fs K mg) {f : Addr} {cdv : Value} {A : Around} {outer : List Env} {s : Shared} {H : Hp} {E : XK} (hr : Room 0 (A.deeper (envOfC "Habits.__eq__" (defScope s_Habits___eq__) s.heap.objs.size f cdv))) : SB (cxOf (L2.CX P w) P w K mg base n_Habits___eq__ "Habits.__eq__" (defScope s_Habits___eq__) f cdv A outer s H E) (fun c d _ H => E c d H) (defBody s_Habits___eq__) m_Habits___eq__ := by
  have z := Fr.of (P := P) (w := w) (K := K) (mg := mg) (base := base) (N := n_Habits___eq__) (outer := outer) (H := H) (E := E) hr
  have hN := nd_Habits___eq__
  exact sb_cons (ss_if (st_not (st_tru ((se_isiC Z.is_Habits (by rfl) Z.n_isinstance (by rfl) Z.g_Habits (sr_rd 1)).r))) (sb_one (ss_bad)) (sb_nil)) <| sb_cons (ss_if (sw_st (sw_or (st_cmp z.hu ((se_attr Z.fd_present (sr_rd 0)).r) ((se_attr Z.fd_present (sr_rd 1)).r)) (sw_or1 (st_cmp z.hu ((se_attr Z.fd_lacking (sr_rd 0)).r) ((se_attr Z.fd_lacking (sr_rd 1)).r))))) (sb_one (ss_ret (se_bl))) (sb_nil)) <| sb_one (ss_ret (se_and (se_cmp z.hu ((se_attr Z.fd_gone (sr_rd 0)).r) ((se_attr Z.fd_gone (sr_rd 1)).r)) (se_one (se_cmp z.hu ((se_attr Z.fd_shared (sr_rd 0)).r) ((se_attr Z.fd_shared (sr_rd 1)).r)))))
theorem ok_Habits___eq__ (Z : Fs K mg) : MOk P w K mg base dd_Habits___eq__ 1 ["self", "other"] M_Habits___eq__ := by
  obtain ⟨fd, F⟩ := Z.f_Habits___eq__
  exact ⟨fd, F, fn_ok (N := n_Habits___eq__) F ⟨rfl, rfl, rfl, nd_Habits___eq__, rfl, by decide +kernel, by decide +kernel⟩ fun cdv A outer s H E hr => d_Habits___eq__ Z hr⟩
theorem nd_is_word : n_is_word.Nodup := by decide +kernel
theorem d_is_word (Z : Fs K mg) {f : Addr} {cdv : Value} {A : Around} {outer : List Env} {s : Shared} {H : Hp} {E : XK} (hr : Room 0 (A.deeper (envOfC "is_word" (defScope s_is_word) s.heap.objs.size f cdv))) : SB (cxOf (L2.CX P w) P w K mg base n_is_word "is_word" (defScope s_is_word) f cdv A outer s H E) (fun c d _ H => E c d H) (defBody s_is_word) m_is_word := by
  have z := Fr.of (P := P) (w := w) (K := K) (mg := mg) (base := base) (N := n_is_word) (outer := outer) (H := H) (E := E) hr
  have hN := nd_is_word
  exact sb_cons (ss_if (sw_st (sw_or (st_not (st_tru ((se_isiT (T := "str") Z.is_str (by rfl) Z.n_isinstance (by rfl) Z.n_str (sr_rd 0)).r))) (sw_or1 (st_not (st_chain z.hu ((se_int).r) ((se_bt gLen_ok (by rfl) Z.n_len (sar_cons (sr_rd 0) (sar_nil))).r) ((se_int).r)))))) (sb_one (ss_ret (se_bl))) (sb_nil)) <| sb_one (ss_ret (se_bt (gAll_ok z.hc) (by rfl) Z.n_all (sar_cons ((se_lc z.hc hN (si_str (se_loc 0)) (blkOk_by (own := [("letter", 1)]) (by change blkC n_is_word (defScope s_is_word) _ _ = true; decide +kernel)) (fun _ _ _ _ _ => sg_nm 1 hN) (fun _ _ _ _ _ => spt_nil) (fun _ _ _ _ _ => se_cmp (by exact z.hu) (sr_rd 1) ((se_glob (by rfl) Z.v_LETTERS).r)) (by decide)).r) (sar_nil))))
theorem ok_is_word (Z : Fs K mg) : MOk P w K mg base dd_is_word 1 ["value"] M_is_word := by
  obtain ⟨fd, F⟩ := Z.f_is_word
  exact ⟨fd, F, fn_ok (N := n_is_word) F ⟨rfl, rfl, rfl, nd_is_word, rfl, by decide +kernel, by decide +kernel⟩ fun cdv A outer s H E hr => d_is_word Z hr⟩
theorem nd__law_source : n__law_source.Nodup := by decide +kernel
theorem d__law_source (Z : Fs K mg) {f : Addr} {cdv : Value} {A : Around} {outer : List Env} {s : Shared} {H : Hp} {E : XK} (hr : Room 0 (A.deeper (envOfC "_law_source" (defScope s__law_source) s.heap.objs.size f cdv))) : SB (cxOf (L2.CX P w) P w K mg base n__law_source "_law_source" (defScope s__law_source) f cdv A outer s H E) (fun c d _ H => E c d H) (defBody s__law_source) m__law_source := by
  have z := Fr.of (P := P) (w := w) (K := K) (mg := mg) (base := base) (N := n__law_source) (outer := outer) (H := H) (E := E) hr
  have hN := nd__law_source
  exact sb_cons (ss_set hN (se_if (st_cmp z.hu (sr_rd 1) ((se_bt gLen_ok (by rfl) Z.n_len (sar_cons (sr_rd 0) (sar_nil))).r)) (se_ix z.hu (sr_rd 0) (sr_rd 1)) (se_int))) <| sb_cons (ss_set hN (se_if (st_cmp z.hu ((se_bt gAbs_ok (by rfl) Z.n_abs (sar_cons (sr_rd 2) (sar_nil))).r) ((se_bin ((se_int).r) ((se_int).r)).r)) (se_bt gAbs_ok (by rfl) Z.n_abs (sar_cons (sr_rd 2) (sar_nil))) (se_int))) <| sb_one (ss_ret ((sn_lst (sa_cons (se_loc 3) (sa_cons (se_bin ((se_bin ((se_bin ((se_bty gInt_ok (by rfl) Z.n_int (sar_cons (sr_rd 2) (sar_nil))).r) ((se_int).r)).r) ((se_bin ((se_int).r) (sr_rd 1)).r)).r) ((se_int).r)) (sa_cons (se_int) (sa_nil))))).ref))
theorem ok__law_source (Z : Fs K mg) : MOk P w K mg base dd__law_source 1 ["script", "place"] M__law_source := by
  obtain ⟨fd, F⟩ := Z.f__law_source
  exact ⟨fd, F, fn_ok (N := n__law_source) F ⟨rfl, rfl, rfl, nd__law_source, rfl, by decide +kernel, by decide +kernel⟩ fun cdv A outer s H E hr => d__law_source Z hr⟩
theorem nd__law_draw : n__law_draw.Nodup := by decide +kernel
theorem d__law_draw (Z : Fs K mg) {f : Addr} {cdv : Value} {A : Around} {outer : List Env} {s : Shared} {H : Hp} {E : XK} (hr : Room 0 (A.deeper (envOfC "_law_draw" (defScope s__law_draw) s.heap.objs.size f cdv))) : SB (cxOf (L2.CX P w) P w K mg base n__law_draw "_law_draw" (defScope s__law_draw) f cdv A outer s H E) (fun c d _ H => E c d H) (defBody s__law_draw) m__law_draw := by
  have z := Fr.of (P := P) (w := w) (K := K) (mg := mg) (base := base) (N := n__law_draw) (outer := outer) (H := H) (E := E) hr
  have hN := nd__law_draw
  exact sb_cons (ss_if (st_cmp z.hu ((se_ix z.hu (sr_rd 0) ((se_int).r)).r) ((se_int).r)) (sb_cons (ss_set hN (se_bin ((se_bty gInt_ok (by rfl) Z.n_int (sar_cons ((se_ix z.hu (sr_rd 0) ((se_int).r)).r) (sar_nil))).r) (sr_rd 1))) <| sb_cons (ss_put z.hu (se_bin ((se_ix z.hu (sr_rd 0) ((se_int).r)).r) (sr_rd 1)) (se_loc 0) ((se_int).r)) <| sb_one (ss_ret (se_loc 2))) (sb_nil)) <| sb_cons (ss_put z.hu (se_bin ((se_ix z.hu (sr_rd 0) ((se_int).r)).r) ((se_int).r)) (se_loc 0) ((se_int).r)) <| sb_cons (ss_put z.hu (se_bin ((se_bty gInt_ok (by rfl) Z.n_int (sar_cons ((se_bin ((se_bin ((se_bin ((se_ix z.hu (sr_rd 0) ((se_int).r)).r) ((se_int).r)).r) ((se_bin ((se_bin ((se_int).r) ((se_ix z.hu (sr_rd 0) ((se_int).r)).r)).r) ((se_ix z.hu (sr_rd 0) ((se_int).r)).r)).r)).r) ((se_int).r)).r) (sar_nil))).r) ((se_int).r)) (se_loc 0) ((se_int).r)) <| sb_one (ss_ret (se_bin ((se_bty gInt_ok (by rfl) Z.n_int (sar_cons ((se_bin ((se_bin ((se_bty gInt_ok (by rfl) Z.n_int (sar_cons ((se_bin ((se_bin ((se_bin ((se_ix z.hu (sr_rd 0) ((se_int).r)).r) ((se_int).r)).r) ((se_int).r)).r) ((se_bin ((se_int).r) ((se_ix z.hu (sr_rd 0) ((se_int).r)).r)).r)).r) (sar_nil))).r) ((se_int).r)).r) ((se_int).r)).r) (sar_nil))).r) (sr_rd 1)))
theorem ok__law_draw (Z : Fs K mg) : MOk P w K mg base dd__law_draw 1 ["source", "many"] M__law_draw := by
  obtain ⟨fd, F⟩ := Z.f__law_draw
  exact ⟨fd, F, fn_ok (N := n__law_draw) F ⟨rfl, rfl, rfl, nd__law_draw, rfl, by decide +kernel, by decide +kernel⟩ fun cdv A outer s H E hr => d__law_draw Z hr⟩
theorem nd__law_integer : n__law_integer.Nodup := by decide +kernel
theorem dQ__law_integer (Z : Fs K mg) {f : Addr} {cdv : Value} {A : Around} {outer : List Env} {s : Shared} {H : Hp} {p : Addr × Obj} (hr : L2H.RoomH 0 (A.deeper (envOfC "_law_integer" (defScope s__law_integer) s.heap.objs.size f cdv))) : SB (L2H.cxH (L2.CX P w) P w K mg base n__law_integer "_law_integer" (defScope s__law_integer) f cdv A outer s H noXK p) W0 (defBody s__law_integer) m__law_integer := by
  have hN := nd__law_integer
  exact sb_one (ss_ret (se_and (se_isiT (T := "int") Z.is_int (by rfl) Z.n_isinstance (by rfl) Z.n_int (sr_rd 0)) (se_one (se_not (se_isiT (T := "bool") Z.is_bool (by rfl) Z.n_isinstance (by rfl) Z.n_bool (sr_rd 0))))))
theorem okQ__law_integer (Z : Fs K mg) : QOk P w K mg base dd__law_integer 1 ["value"] M__law_integer := by
  obtain ⟨fd, F⟩ := Z.f__law_integer
  exact ⟨fd, F, quiet_ok (N := n__law_integer) F ⟨rfl, rfl, rfl, nd__law_integer, rfl, by decide +kernel, by decide +kernel⟩ fun cdv A outer s H p hr => dQ__law_integer Z hr⟩
theorem nd__law_due : n__law_due.Nodup := by decide +kernel
theorem d__law_due (Z : Fs K mg) {f : Addr} {cdv : Value} {A : Around} {outer : List Env} {s : Shared} {H : Hp} {E : XK} (hr : Room 0 (A.deeper (envOfC "_law_due" (defScope s__law_due) s.heap.objs.size f cdv))) : SB (cxOf (L2.CX P w) P w K mg base n__law_due "_law_due" (defScope s__law_due) f cdv A outer s H E) (fun c d _ H => E c d H) (defBody s__law_due) m__law_due := by
  have z := Fr.of (P := P) (w := w) (K := K) (mg := mg) (base := base) (N := n__law_due) (outer := outer) (H := H) (E := E) hr
  have hN := nd__law_due
  exact sb_cons (ss_if (st_cmp z.hu (sr_rd 0) ((se_non).r)) (sb_one (ss_ret (se_tup (sa_cons (se_str) (sa_cons (se_neg (se_int)) (sa_nil)))))) (sb_nil)) <| sb_cons (ss_forL z.hp z.hc (sil_enum (by rfl) Z.n_enumerate (sa_cons (se_loc 1) (sa_nil))) (sg_tup z.hc (sgs_cons (sg_nm 4 hN) (sgs_cons (sg_nm 5 hN) (sgs_nil)))) (sb_one (ss_if (sw_st (sw_or (st_tru ((se_ix z.hu (sr_rd 2) (sr_rd 4)).r)) (sw_or1 (st_cmp z.hu (sr_rd 5) ((se_sl (sr_rd 1) (so_none) (so_some (se_loc 4))).r))))) (sb_one (ss_ret (se_tup (sa_cons (se_str) (sa_cons (se_loc 4) (sa_nil)))))) (sb_nil)))) <| sb_cons (ss_set hN (se_lst (sa_cons (se_tup (sa_cons (se_str) (sa_cons (se_str) (sa_cons (se_str) (sa_cons (se_str) (sa_nil)))))) (sa_cons (se_tup (sa_cons (se_str) (sa_cons (se_str) (sa_cons (se_str) (sa_nil))))) (sa_cons (se_tup (sa_cons (se_str) (sa_cons (se_str) (sa_nil)))) (sa_cons (se_tup (sa_cons (se_str) (sa_cons (se_str) (sa_nil)))) (sa_nil))))))) <| sb_cons (ss_for z.hp z.hc (si_enum (by rfl) Z.n_enumerate (sa_cons (se_lst (sa_cons (se_str) (sa_cons (se_str) (sa_cons (se_str) (sa_cons (se_str) (sa_nil)))))) (sa_nil))) (sg_tup z.hc (sgs_cons (sg_nm 4 hN) (sgs_cons (sg_nm 7 hN) (sgs_nil)))) (sb_one (ss_if (sw_st (sw_or (st_not (st_tru ((se_isiT (T := "str") Z.is_str (by rfl) Z.n_isinstance (by rfl) Z.n_str ((se_ix z.hu (sr_rd 3) (sr_rd 4)).r)).r))) (sw_or1 (st_cmp z.hu ((se_ix z.hu (sr_rd 3) (sr_rd 4)).r) ((se_ix z.hu (sr_rd 6) (sr_rd 4)).r))))) (sb_one (ss_ret (se_tup (sa_cons (se_str) (sa_cons (se_loc 7) (sa_nil)))))) (sb_nil)))) <| sb_one (ss_ret (se_bty gTuple_ok (by rfl) Z.n_tuple (sar_cons (sr_rd 3) (sar_nil))))
theorem ok__law_due (Z : Fs K mg) : MOk P w K mg base dd__law_due 1 ["name", "columns", "wrong", "habits"] M__law_due := by
  obtain ⟨fd, F⟩ := Z.f__law_due
  exact ⟨fd, F, fn_ok (N := n__law_due) F ⟨rfl, rfl, rfl, nd__law_due, rfl, by decide +kernel, by decide +kernel⟩ fun cdv A outer s H E hr => d__law_due Z hr⟩
theorem nd__law_of : n__law_of.Nodup := by decide +kernel
theorem d__law_of (Z : Fs K mg) {f : Addr} {cdv : Value} {A : Around} {outer : List Env} {s : Shared} {H : Hp} {E : XK} (hr : Room 1 (A.deeper (envOfC "_law_of" (defScope s__law_of) s.heap.objs.size f cdv))) : SB (cxOf (L2.CX P w) P w K mg base n__law_of "_law_of" (defScope s__law_of) f cdv A outer s H E) (fun c d _ H => E c d H) (defBody s__law_of) m__law_of := by
  have z := Fr.of (P := P) (w := w) (K := K) (mg := mg) (base := base) (N := n__law_of) (outer := outer) (H := H) (E := E) hr
  have hN := nd__law_of
  exact sb_one (ss_ret (se_ix z.hu (sr_rd 1) ((se_call ((ok__law_draw (P := P) (w := w) (base := base) Z).callsX 1 (by decide) 2 [] [0, 1] [] (fun fd F => kb_all F 2 [] [0, 1] fun _ _ _ _ _ _ us ws hl hw => match us, ws, hl, hw with | [_, _], [], _, _ => rfl) rfl (by exact z.tk) (by exact hr) (by rfl) (by rfl) (by rfl) (by rfl) (by rfl)) (by rfl) (Z.g__law_draw) (ok__law_draw (P := P) (w := w) (base := base) Z).keep (sa_cons (se_loc 0) (sa_cons (se_bt gLen_ok (by rfl) Z.n_len (sar_cons (sr_rd 1) (sar_nil))) (sa_nil)))).r)))
theorem ok__law_of (Z : Fs K mg) : MOk P w K mg base dd__law_of 2 ["source", "some"] M__law_of := by
  obtain ⟨fd, F⟩ := Z.f__law_of
  exact ⟨fd, F, fn_ok (N := n__law_of) F ⟨rfl, rfl, rfl, nd__law_of, rfl, by decide +kernel, by decide +kernel⟩ fun cdv A outer s H E hr => d__law_of Z hr⟩
theorem nd__law_word : n__law_word.Nodup := by decide +kernel
theorem d__law_word (Z : Fs K mg) {f : Addr} {cdv : Value} {A : Around} {outer : List Env} {s : Shared} {H : Hp} {E : XK} (hr : Room 1 (A.deeper (envOfC "_law_word" (defScope s__law_word) s.heap.objs.size f cdv))) : SB (cxOf (L2.CX P w) P w K mg base n__law_word "_law_word" (defScope s__law_word) f cdv A outer s H E) (fun c d _ H => E c d H) (defBody s__law_word) m__law_word := by
  have z := Fr.of (P := P) (w := w) (K := K) (mg := mg) (base := base) (N := n__law_word) (outer := outer) (H := H) (E := E) hr
  have hN := nd__law_word
  exact sb_cons (ss_set hN (se_str)) <| sb_cons (ss_set hN (se_mt PySem.F.plainAttrs_str PySem.F.slot_str_join PySem.F.type_str_join gJoin_ok ((se_str).r) (sar_cons ((se_lc z.hc hN (si_rng1 (by rfl) Z.n_range (sa_cons (se_bin ((se_int).r) ((se_call ((ok__law_draw (P := P) (w := w) (base := base) Z).callsX 1 (by decide) 2 [] [0, 1] [] (fun fd F => kb_all F 2 [] [0, 1] fun _ _ _ _ _ _ us ws hl hw => match us, ws, hl, hw with | [_, _], [], _, _ => rfl) rfl (by exact z.tk) (by exact hr) (by rfl) (by rfl) (by rfl) (by rfl) (by rfl)) (by rfl) (Z.g__law_draw) (ok__law_draw (P := P) (w := w) (base := base) Z).keep (sa_cons (se_loc 0) (sa_cons (se_int) (sa_nil)))).r)) (sa_nil))) (blkOk_by (own := [("turn", 6)]) (by change blkC n__law_word (defScope s__law_word) _ _ = true; decide +kernel)) (fun _ _ _ _ _ => sg_nm 6 hN) (fun _ _ _ _ _ => spt_nil) (fun _ _ _ _ _ => se_ix (by exact z.hu) (sr_rd 2) ((se_call ((ok__law_draw (P := P) (w := w) (base := base) Z).callsX 1 (by decide) 2 [] [0, 1] [] (fun fd F => kb_all F 2 [] [0, 1] fun _ _ _ _ _ _ us ws hl hw => match us, ws, hl, hw with | [_, _], [], _, _ => rfl) rfl (by exact takes_w0) (by exact hr) (by rfl) (by rfl) (by rfl) (by rfl) (by rfl)) (by rfl) (Z.g__law_draw) (ok__law_draw (P := P) (w := w) (base := base) Z).keep (sa_cons (se_loc 0) (sa_cons (se_int) (sa_nil)))).r)) (by decide)).r) (sar_nil)))) <| sb_cons (ss_if (st_cmp z.hu (sr_rd 3) (sr_rd 1)) (sb_one (ss_ret (se_loc 3))) (sb_nil)) <| sb_cons (ss_setLc z.hc hN (si_str (se_loc 2)) (blkOk_by (own := [("letter", 5)]) (by change blkC n__law_word (defScope s__law_word) _ _ = true; decide +kernel)) (fun _ _ _ _ _ => sg_nm 5 hN) (fun _ _ _ _ _ => spt_one (st_cmp (by exact z.hu) ((se_sl ((se_bin (sr_rd 5) (sr_rd 3)).r) (so_none) (so_some (se_int))).r) (sr_rd 1))) (fun _ _ _ _ _ => se_loc 5) (by decide)) <| sb_one (ss_ret (se_sl ((se_bin ((se_ix z.hu (sr_rd 4) ((se_int).r)).r) (sr_rd 3)).r) (so_none) (so_some (se_int))))
theorem ok__law_word (Z : Fs K mg) : MOk P w K mg base dd__law_word 2 ["source", "taken"] M__law_word := by
  obtain ⟨fd, F⟩ := Z.f__law_word
  exact ⟨fd, F, fn_ok (N := n__law_word) F ⟨rfl, rfl, rfl, nd__law_word, rfl, by decide +kernel, by decide +kernel⟩ fun cdv A outer s H E hr => d__law_word Z hr⟩
theorem nd_Habits___init__ : n_Habits___init__.Nodup := by decide +kernel
theorem d_Habits___init__ (Z : Fs K mg) {f : Addr} {cdv : Value} {A : Around} {outer : List Env} {s : Shared} {H : Hp} {E : XK} (hr : Room 2 (A.deeper (envOfC "Habits.__init__" (defScope s_Habits___init__) s.heap.objs.size f cdv))) : SB (cxOf (L2.CX P w) P w K mg base n_Habits___init__ "Habits.__init__" (defScope s_Habits___init__) f cdv A outer s H E) (fun c d _ H => E c d H) (defBody s_Habits___init__) m_Habits___init__ := by
  have z := Fr.of (P := P) (w := w) (K := K) (mg := mg) (base := base) (N := n_Habits___init__) (outer := outer) (H := H) (E := E) hr
  have hN := nd_Habits___init__
  exact sb_cons (ss_for z.hp z.hc (si_zip (by rfl) Z.n_zip (sa_cons (se_glob (by rfl) Z.v_HABITS) (sa_cons (se_tup (sa_cons (se_loc 1) (sa_cons (se_loc 2) (sa_cons (se_loc 3) (sa_cons (se_loc 4) (sa_nil)))))) (sa_nil)))) (sg_tup z.hc (sgs_cons (sg_tup z.hc (sgs_cons (sg_nm 5 hN) (sgs_cons (sg_nm 6 hN) (sgs_nil)))) (sgs_cons (sg_nm 7 hN) (sgs_nil)))) (sb_one (ss_if (sw_st (sw_or (st_not (st_tru ((se_isiT (T := "str") Z.is_str (by rfl) Z.n_isinstance (by rfl) Z.n_str (sr_rd 7)).r))) (sw_or1 (st_cmp z.hu (sr_rd 7) (sr_rd 6))))) (sb_one ((let ⟨fd, F, ok⟩ := (ok_BadHabit___init__ (P := P) (w := w) (base := base) Z); ss_raise z.hc z.tk Z.ox_BadHabit Z.oi_BadHabit.1 Z.oi_BadHabit.2.1 ok (hr.mono (by decide)) (FunD.bindsN F fun _ _ _ _ _ _ us hl => match us, hl with | [_, _], _ => rfl) (by decide) (by rfl) Z.g_BadHabit (sa_cons (se_loc 5) (sa_nil))))) (sb_nil)))) <| sb_cons (ss_fldO (i := 0) Z.fs_Habits_present (se_loc 1)) <| sb_cons (ss_fldO (i := 0) Z.fs_Habits_lacking (se_loc 2)) <| sb_cons (ss_fldO (i := 0) Z.fs_Habits_gone (se_loc 3)) <| sb_one (ss_fldO (i := 0) Z.fs_Habits_shared (se_loc 4))
theorem ok_Habits___init__ (Z : Fs K mg) : IOk P w K mg base "Habits" dd_Habits___init__ 3 ["present", "lacking", "gone", "shared"] M_Habits___init__ := by
  obtain ⟨fd, F⟩ := Z.f_Habits___init__
  exact ⟨fd, F, init_ok (N := n_Habits___init__) (ps := ["present", "lacking", "gone", "shared"]) "Habits" F ⟨rfl, rfl, rfl, nd_Habits___init__, rfl, by decide +kernel, by decide +kernel⟩ (by decide) fun cdv A outer s H E hr => d_Habits___init__ Z hr⟩
theorem nd__law_odd : n__law_odd.Nodup := by decide +kernel
theorem d__law_odd (Z : Fs K mg) {f : Addr} {cdv : Value} {A : Around} {outer : List Env} {s : Shared} {H : Hp} {E : XK} (hr : Room 2 (A.deeper (envOfC "_law_odd" (defScope s__law_odd) s.heap.objs.size f cdv))) : SB (cxOf (L2.CX P w) P w K mg base n__law_odd "_law_odd" (defScope s__law_odd) f cdv A outer s H E) (fun c d _ H => E c d H) (defBody s__law_odd) m__law_odd := by
  have z := Fr.of (P := P) (w := w) (K := K) (mg := mg) (base := base) (N := n__law_odd) (outer := outer) (H := H) (E := E) hr
  have hN := nd__law_odd
  exact sb_one (ss_ret (se_call ((ok__law_of (P := P) (w := w) (base := base) Z).callsX 2 (by decide) 2 [] [0, 1] [] (fun fd F => kb_all F 2 [] [0, 1] fun _ _ _ _ _ _ us ws hl hw => match us, ws, hl, hw with | [_, _], [], _, _ => rfl) rfl (by exact z.tk) (by exact hr) (by rfl) (by rfl) (by rfl) (by rfl) (by rfl)) (by rfl) (Z.g__law_of) (ok__law_of (P := P) (w := w) (base := base) Z).keep (sa_cons (se_loc 0) (sa_cons (se_lst (sa_cons (se_str) (sa_cons (se_str) (sa_cons (se_str) (sa_cons (se_str) (sa_cons (se_str) (sa_cons (se_str) (sa_cons (se_str) (sa_cons (se_str) (sa_cons (se_str) (sa_cons (se_non) (sa_cons (se_int) (sa_cons (se_int) (sa_cons (se_bl) (sa_cons (se_bl) (sa_cons (se_neg (se_int)) (sa_cons (se_bin ((se_int).r) ((se_int).r)) (sa_cons (se_tup (sa_cons (se_str) (sa_nil))) (sa_cons (se_lst (sa_cons (se_str) (sa_nil))) (sa_cons (se_dic (ms := [(eC (.str "a"), eC (.str "b"))]) (pps_cons (se_str) (se_str) (pps_nil))) (sa_cons (se_tup (sa_nil)) (sa_cons (se_lst (sa_nil)) (sa_nil))))))))))))))))))))))) (sa_nil)))))
theorem ok__law_odd (Z : Fs K mg) : MOk P w K mg base dd__law_odd 3 ["source"] M__law_odd := by
  obtain ⟨fd, F⟩ := Z.f__law_odd
  exact ⟨fd, F, fn_ok (N := n__law_odd) F ⟨rfl, rfl, rfl, nd__law_odd, rfl, by decide +kernel, by decide +kernel⟩ fun cdv A outer s H E hr => d__law_odd Z hr⟩
theorem nd_Target___init__ : n_Target___init__.Nodup := by decide +kernel
theorem d_Target___init__ (Z : Fs K mg) {f : Addr} {cdv : Value} {A : Around} {outer : List Env} {s : Shared} {H : Hp} {E : XK} (hr : Room 4 (A.deeper (envOfC "Target.__init__" (defScope s_Target___init__) s.heap.objs.size f cdv))) : SB (cxOf (L2.CX P w) P w K mg base n_Target___init__ "Target.__init__" (defScope s_Target___init__) f cdv A outer s H E) (fun c d _ H => E c d H) (defBody s_Target___init__) m_Target___init__ := by
  have z := Fr.of (P := P) (w := w) (K := K) (mg := mg) (base := base) (N := n_Target___init__) (outer := outer) (H := H) (E := E) hr
  have hN := nd_Target___init__
  exact sb_cons (ss_if (sw_st (sw_or (st_not (st_tru ((se_call ((ok_is_word (P := P) (w := w) (base := base) Z).callsX 4 (by decide) 1 [] [0] [] (fun fd F => kb_all F 1 [] [0] fun _ _ _ _ _ _ us ws hl hw => match us, ws, hl, hw with | [_], [], _, _ => rfl) rfl (by exact z.tk) (by exact hr) (by rfl) (by rfl) (by rfl) (by rfl) (by rfl)) (by rfl) (Z.g_is_word) (ok_is_word (P := P) (w := w) (base := base) Z).keep (sa_cons (se_loc 1) (sa_nil))).r))) (sw_or1 (st_cmp z.hu (sr_rd 1) ((se_tup (sa_cons (se_str) (sa_cons (se_str) (sa_nil)))).r))))) (sb_one ((let ⟨fd, F, ok⟩ := (ok_BadTarget___init__ (P := P) (w := w) (base := base) Z); ss_raise z.hc z.tk Z.ox_BadTarget Z.oi_BadTarget.1 Z.oi_BadTarget.2.1 ok (hr.mono (by decide)) (FunD.bindsN F fun _ _ _ _ _ _ us hl => match us, hl with | [_, _], _ => rfl) (by decide) (by rfl) Z.g_BadTarget (sa_cons (se_neg (se_int)) (sa_nil))))) (sb_nil)) <| sb_cons (ss_own hN (sn_lst (sa_nil))) <| sb_cons (ss_or 2 (ss_forL z.hp z.hc (sil_enum (by rfl) Z.n_enumerate (sa_cons (se_loc 2) (sa_nil))) (sg_tup z.hc (sgs_cons (sg_nm 5 hN) (sgs_cons (sg_nm 6 hN) (sgs_nil)))) (sb_cons (ss_if (sw_st (sw_or (st_not (st_tru ((se_call ((ok_is_word (P := P) (w := w) (base := base) Z).callsX 4 (by decide) 1 [] [0] [] (fun fd F => kb_all F 1 [] [0] fun _ _ _ _ _ _ us ws hl hw => match us, ws, hl, hw with | [_], [], _, _ => rfl) rfl (by exact z.tk) (by exact hr) (by rfl) (by rfl) (by rfl) (by rfl) (by rfl)) (by rfl) (Z.g_is_word) (ok_is_word (P := P) (w := w) (base := base) Z).keep (sa_cons (se_loc 6) (sa_nil))).r))) (sw_or (st_cmp z.hu (sr_rd 6) ((se_str).r)) (sw_or1 (st_cmp z.hu (sr_rd 6) (sr_rd 4)))))) (sb_one ((let ⟨fd, F, ok⟩ := (ok_BadTarget___init__ (P := P) (w := w) (base := base) Z); ss_raise z.hc z.tk Z.ox_BadTarget Z.oi_BadTarget.1 Z.oi_BadTarget.2.1 ok (hr.mono (by decide)) (FunD.bindsN F fun _ _ _ _ _ _ us hl => match us, hl with | [_, _], _ => rfl) (by decide) (by rfl) Z.g_BadTarget (sa_cons (se_loc 5) (sa_nil))))) (sb_nil)) <| sb_one (ss_app (i := 4) (se_loc 6)))) (ss_for z.hp z.hc (si_enumA (by rfl) Z.n_enumerate (sa_cons (se_loc 2) (sa_nil))) (sg_tup z.hc (sgs_cons (sg_nm 5 hN) (sgs_cons (sg_nm 6 hN) (sgs_nil)))) (sb_cons (ss_if (sw_st (sw_or (st_not (st_tru ((se_call ((ok_is_word (P := P) (w := w) (base := base) Z).callsX 4 (by decide) 1 [] [0] [] (fun fd F => kb_all F 1 [] [0] fun _ _ _ _ _ _ us ws hl hw => match us, ws, hl, hw with | [_], [], _, _ => rfl) rfl (by exact z.tk) (by exact hr) (by rfl) (by rfl) (by rfl) (by rfl) (by rfl)) (by rfl) (Z.g_is_word) (ok_is_word (P := P) (w := w) (base := base) Z).keep (sa_cons (se_loc 6) (sa_nil))).r))) (sw_or (st_cmp z.hu (sr_rd 6) ((se_str).r)) (sw_or1 (st_cmp z.hu (sr_rd 6) (sr_rd 4)))))) (sb_one ((let ⟨fd, F, ok⟩ := (ok_BadTarget___init__ (P := P) (w := w) (base := base) Z); ss_raise z.hc z.tk Z.ox_BadTarget Z.oi_BadTarget.1 Z.oi_BadTarget.2.1 ok (hr.mono (by decide)) (FunD.bindsN F fun _ _ _ _ _ _ us hl => match us, hl with | [_, _], _ => rfl) (by decide) (by rfl) Z.g_BadTarget (sa_cons (se_loc 5) (sa_nil))))) (sb_nil)) <| sb_one (ss_app (i := 4) (se_loc 6))))) <| sb_cons (ss_fldO (i := 0) Z.fs_Target_name (se_loc 1)) <| sb_cons (ss_fldO (i := 0) Z.fs_Target_columns (se_bty gTuple_ok (by rfl) Z.n_tuple (sar_cons (sr_rd 2) (sar_nil)))) <| sb_one (ss_fldO (i := 0) Z.fs_Target_habits ((sn_callKD (ht_cons ((ok_Habits___init__ (P := P) (w := w) (base := base) Z).callsX Z.mk_Habits 4 (by decide) 0 ["present", "lacking", "gone", "shared"] [0, 1, 2, 3] [] (fun fd F => kb_kw F 1 ["present", "lacking", "gone", "shared"] (0 :: ([0, 1, 2, 3] : List Nat).map (· + 1)) [] [] (fun q => nomatch q) (by change ∀ q ∈ ([] : List (Str × V)), q ∈ ([("present", V.str "stop"), ("lacking", V.str "stop"), ("gone", V.str "stop"), ("shared", V.str "one")] : List (Str × V)); decide) (fun _ _ _ => RVs.nil) fun _ _ _ _ _ _ us mv ws hl hm hw => match us, mv, ws, hl, hm, hw with | [_], [], [_, _, _, _], _, _, _ => rfl) rfl (by exact z.tk) (by exact hr) (by rfl) (by rfl) (by rfl) (by rfl) (by rfl)) (ht_cons ((ok_Habits___init__ (P := P) (w := w) (base := base) Z).callsX Z.mk_Habits 4 (by decide) 0 [] [0, 1, 2, 3] [.str "stop", .str "stop", .str "stop", .str "one"] (fun fd F => kb_kw F 1 [] (0 :: ([0, 1, 2, 3] : List Nat).map (· + 1)) [("present", V.str "stop"), ("lacking", V.str "stop"), ("gone", V.str "stop"), ("shared", V.str "one")] [.str "stop", .str "stop", .str "stop", .str "one"] (fun q => nomatch q) (by change ∀ q ∈ ([("present", V.str "stop"), ("lacking", V.str "stop"), ("gone", V.str "stop"), ("shared", V.str "one")] : List (Str × V)), q ∈ ([("present", V.str "stop"), ("lacking", V.str "stop"), ("gone", V.str "stop"), ("shared", V.str "one")] : List (Str × V)); decide) (fun _ _ _ => RVs.cons (RV_str _) (RVs.cons (RV_str _) (RVs.cons (RV_str _) (RVs.cons (RV_str _) (RVs.nil))))) fun _ _ _ _ _ _ us mv ws hl hm hw => match us, mv, ws, hl, hm, hw with | [_], [_, _, _, _], [], _, _, _ => ⟨_, _, _, _, _, _, rfl, rfl, ⟨_, _, _, _, _, _, rfl, rfl, ⟨_, _, _, _, _, _, rfl, rfl, ⟨_, _, _, _, _, _, rfl, rfl, rfl⟩⟩⟩⟩) rfl (by exact z.tk) (by exact hr) (by rfl) (by rfl) (by rfl) (by rfl) (by rfl)) (ht_cons ((ok_Habits___init__ (P := P) (w := w) (base := base) Z).callsX Z.mk_Habits 4 (by decide) 0 ["gone", "present"] [1, 2, 0, 3] [.str "stop", .str "one"] (fun fd F => kb_kw F 1 ["gone", "present"] (0 :: ([1, 2, 0, 3] : List Nat).map (· + 1)) [("lacking", V.str "stop"), ("shared", V.str "one")] [.str "stop", .str "one"] (fun q => nomatch q) (by change ∀ q ∈ ([("lacking", V.str "stop"), ("shared", V.str "one")] : List (Str × V)), q ∈ ([("present", V.str "stop"), ("lacking", V.str "stop"), ("gone", V.str "stop"), ("shared", V.str "one")] : List (Str × V)); decide) (fun _ _ _ => RVs.cons (RV_str _) (RVs.cons (RV_str _) (RVs.nil))) fun _ _ _ _ _ _ us mv ws hl hm hw => match us, mv, ws, hl, hm, hw with | [_], [_, _], [_, _], _, _, _ => ⟨_, _, _, _, _, _, rfl, rfl, ⟨_, _, _, _, _, _, rfl, rfl, rfl⟩⟩) rfl (by exact z.tk) (by exact hr) (by rfl) (by rfl) (by rfl) (by rfl) (by rfl)) ht_nil))) (by rfl) (Z.g_Habits) Z.mk_Habits.kp 3).se))
theorem ok_Target___init__ (Z : Fs K mg) : IkOk P w K mg base 5 "Target" (He.ma K (He.ga K "Target") "__init__") ["self", "name", "columns"] M_Target___init__ := by
  obtain ⟨fd, F⟩ := Z.f_Target___init__
  exact ik_ok (N := n_Target___init__) "Target" F ⟨rfl, rfl, rfl, nd_Target___init__, rfl, by decide +kernel, by decide +kernel⟩ fun cdv A outer s H E hr => d_Target___init__ Z hr
theorem nd__law_told : n__law_told.Nodup := by decide +kernel
theorem d__law_told (Z : Fs K mg) {f : Addr} {cdv : Value} {A : Around} {outer : List Env} {s : Shared} {H : Hp} {E : XK} (hr : Room 6 (A.deeper (envOfC "_law_told" (defScope s__law_told) s.heap.objs.size f cdv))) : SB (cxOf (L2.CX P w) P w K mg base n__law_told "_law_told" (defScope s__law_told) f cdv A outer s H E) (fun c d _ H => E c d H) (defBody s__law_told) m__law_told := by
  have z := Fr.of (P := P) (w := w) (K := K) (mg := mg) (base := base) (N := n__law_told) (outer := outer) (H := H) (E := E) hr
  have hN := nd__law_told
  exact sb_cons (ss_tryN (by rfl) (by rfl) z.tk (fun W2 pn2 xe2 tk2 hp2 => by have z := Fr.tr z tk2 hp2; exact sb_one (ss_set hN ((sn_callK ((ok_Target___init__ (P := P) (w := w) (base := base) Z).callsX (ks := ["present", "lacking", "gone", "shared"]) Z.mk_Target 6 (by decide) (by decide) (by decide) (by decide) (by exact z.tk) (by exact hr) (by rfl) (by rfl) (by rfl) (by rfl) (by rfl)) (by rfl) (Z.g_Target) Z.mk_Target.kp (sa_cons (se_loc 0) (sa_cons (se_loc 1) (sa_nil))) (sk_cons (se_ix z.hu (sr_rd 2) ((se_int).r)) (sk_cons (se_ix z.hu (sr_rd 2) ((se_int).r)) (sk_cons (se_ix z.hu (sr_rd 2) ((se_int).r)) (sk_cons (se_ix z.hu (sr_rd 2) ((se_int).r)) (sk_nil)))))).se))) (HdD.cons hN (by rfl) (by rfl) ⟨by rfl, by decide, .inl Z.g_BadTarget⟩ (fun _ _ _ => sb_cons (ss_if (sw_st (sw_or (st_tru ((se_xisC2 (i := 4) Z.xi2_BadHabit_BadNetwork_BadTarget (by rfl) Z.n_isinstance (by rfl) Z.g_BadHabit (by rfl) Z.g_BadNetwork).r)) (sw_or (st_not (st_tru ((se_xisC (i := 4) Z.xi_CopiesError_BadTarget (by rfl) Z.n_isinstance (by rfl) Z.g_CopiesError).r))) (sw_or1 (st_not (st_tru ((se_call ((okQ__law_integer (P := P) (w := w) (base := base) Z).callsQ 6 (by decide) 1 [] [0] [] (fun fd F => kb_all F 1 [] [0] fun _ _ _ _ _ _ us ws hl hw => match us, ws, hl, hw with | [_], [], _, _ => rfl) rfl ⟨hr.r.dp, hr.r.un⟩ List.mem_cons_self (by rfl) (by rfl) (by rfl) (by rfl) (by rfl)) (by rfl) (Z.g__law_integer) (okQ__law_integer (P := P) (w := w) (base := base) Z).keep (sa_cons (se_xf (i := 4) Z.xf_at_BadTarget) (sa_nil))).r))))))) (sb_one (ss_ret (se_str))) (sb_nil)) <| sb_one (ss_ret (se_tup (sa_cons (se_str) (sa_cons (se_xf (i := 4) Z.xf_at_BadTarget) (sa_nil)))))) Z.em_BadTarget_BadHabit_BadTarget (HdD.cons hN (by rfl) (by rfl) ⟨by rfl, by decide, .inl Z.g_BadHabit⟩ (fun _ _ _ => sb_one (ss_ret (se_tup (sa_cons (se_str) (sa_cons (se_xf (i := 4) Z.xf_habit_BadHabit) (sa_nil)))))) Z.em_BadHabit_BadHabit HdD.nil))) <| sb_cons (ss_set hN (se_attr Z.fd_habits (sr_rd 3))) <| sb_cons (ss_if (sw_st (sw_or (st_cmp z.hu ((se_attr Z.fd_name (sr_rd 3)).r) (sr_rd 0)) (sw_or (st_not (st_tru ((se_isiT (T := "tuple") Z.is_tuple (by rfl) Z.n_isinstance (by rfl) Z.n_tuple ((se_attr Z.fd_columns (sr_rd 3)).r)).r))) (sw_or1 (st_cmp z.hu ((se_bty gList_ok (by rfl) Z.n_list (sar_cons ((se_attr Z.fd_columns (sr_rd 3)).r) (sar_nil))).r) ((se_bty gList_ok (by rfl) Z.n_list (sar_cons (sr_rd 1) (sar_nil))).r)))))) (sb_one (ss_ret (se_str))) (sb_nil)) <| sb_one (ss_ret (se_tup (sa_cons (se_attr Z.fd_present (sr_rd 2)) (sa_cons (se_attr Z.fd_lacking (sr_rd 2)) (sa_cons (se_attr Z.fd_gone (sr_rd 2)) (sa_cons (se_attr Z.fd_shared (sr_rd 2)) (sa_nil)))))))
theorem ok__law_told (Z : Fs K mg) : MOk P w K mg base dd__law_told 7 ["name", "columns", "habits"] M__law_told := by
  obtain ⟨fd, F⟩ := Z.f__law_told
  exact ⟨fd, F, fn_ok (N := n__law_told) F ⟨rfl, rfl, rfl, nd__law_told, rfl, by decide +kernel, by decide +kernel⟩ fun cdv A outer s H E hr => d__law_told Z hr⟩
theorem nd_law : n_law.Nodup := by decide +kernel
theorem d_law (Z : Fs K mg) {f : Addr} {cdv : Value} {A : Around} {outer : List Env} {s : Shared} {H : Hp} {E : XK} (hr : Room 7 (A.deeper (envOfC "law" (defScope s_law) s.heap.objs.size f cdv))) : SB (cxOf (L2.CX P w) P w K mg base n_law "law" (defScope s_law) f cdv A outer s H E) (fun c d _ H => E c d H) (defBody s_law) m_law := by
  have z := Fr.of (P := P) (w := w) (K := K) (mg := mg) (base := base) (N := n_law) (outer := outer) (H := H) (E := E) hr
  have hN := nd_law
  exact sb_cons (ss_for z.hp z.hc (si_rng1 (by rfl) Z.n_range (sa_cons (se_bt (gMax2_ok z.hc) (by rfl) Z.n_max (sar_cons ((se_int).r) (sar_cons ((se_bt (gMin2_ok z.hc) (by rfl) Z.n_min (sar_cons ((se_int).r) (sar_cons ((se_bt gLen_ok (by rfl) Z.n_len (sar_cons (sr_rd 0) (sar_nil))).r) (sar_nil)))).r) (sar_nil)))) (sa_nil))) (sg_nm 1 hN) (sb_cons (ss_set hN (se_call ((ok__law_source (P := P) (w := w) (base := base) Z).callsX 7 (by decide) 2 [] [0, 1] [] (fun fd F => kb_all F 2 [] [0, 1] fun _ _ _ _ _ _ us ws hl hw => match us, ws, hl, hw with | [_, _], [], _, _ => rfl) rfl (by exact z.tk) (by exact hr) (by rfl) (by rfl) (by rfl) (by rfl) (by rfl)) (by rfl) (Z.g__law_source) (ok__law_source (P := P) (w := w) (base := base) Z).keep (sa_cons (se_loc 0) (sa_cons (se_loc 1) (sa_nil))))) <| sb_cons (ss_parO3 z.hc hN (so_pure (se_call ((ok__law_word (P := P) (w := w) (base := base) Z).callsX 7 (by decide) 2 [] [0, 1] [] (fun fd F => kb_all F 2 [] [0, 1] fun _ _ _ _ _ _ us ws hl hw => match us, ws, hl, hw with | [_, _], [], _, _ => rfl) rfl (by exact z.tk) (by exact hr) (by rfl) (by rfl) (by rfl) (by rfl) (by rfl)) (by rfl) (Z.g__law_word) (ok__law_word (P := P) (w := w) (base := base) Z).keep (sa_cons (se_loc 2) (sa_cons (se_lst (sa_cons (se_str) (sa_cons (se_str) (sa_nil)))) (sa_nil)))) (so_pure ((sn_lst (sa_nil)).ref) (so_pure ((sn_lst (sa_nil)).ref) (so_nil))))) <| sb_cons (ss_for z.hp z.hc (si_rng1 (by rfl) Z.n_range (sa_cons (se_call ((ok__law_draw (P := P) (w := w) (base := base) Z).callsX 7 (by decide) 2 [] [0, 1] [] (fun fd F => kb_all F 2 [] [0, 1] fun _ _ _ _ _ _ us ws hl hw => match us, ws, hl, hw with | [_, _], [], _, _ => rfl) rfl (by exact z.tk) (by exact hr) (by rfl) (by rfl) (by rfl) (by rfl) (by rfl)) (by rfl) (Z.g__law_draw) (ok__law_draw (P := P) (w := w) (base := base) Z).keep (sa_cons (se_loc 2) (sa_cons (se_int) (sa_nil)))) (sa_nil))) (sg_nm 6 hN) (sb_cons (ss_appR (se_loc 5) (se_cmp z.hu ((se_call ((ok__law_draw (P := P) (w := w) (base := base) Z).callsX 7 (by decide) 2 [] [0, 1] [] (fun fd F => kb_all F 2 [] [0, 1] fun _ _ _ _ _ _ us ws hl hw => match us, ws, hl, hw with | [_, _], [], _, _ => rfl) rfl (by exact z.tk) (by exact hr) (by rfl) (by rfl) (by rfl) (by rfl) (by rfl)) (by rfl) (Z.g__law_draw) (ok__law_draw (P := P) (w := w) (base := base) Z).keep (sa_cons (se_loc 2) (sa_cons (se_int) (sa_nil)))).r) ((se_int).r))) <| sb_cons (ss_appR (se_loc 4) (se_call ((ok__law_word (P := P) (w := w) (base := base) Z).callsX 7 (by decide) 2 [] [0, 1] [] (fun fd F => kb_all F 2 [] [0, 1] fun _ _ _ _ _ _ us ws hl hw => match us, ws, hl, hw with | [_, _], [], _, _ => rfl) rfl (by exact z.tk) (by exact hr) (by rfl) (by rfl) (by rfl) (by rfl) (by rfl)) (by rfl) (Z.g__law_word) (ok__law_word (P := P) (w := w) (base := base) Z).keep (sa_cons (se_loc 2) (sa_cons (se_lst (sa_cons (se_str) (sa_nil))) (sa_nil))))) <| sb_one (ss_if (st_tru ((se_ix z.hu (sr_rd 5) (sr_rd 6)).r)) (sb_one (ss_put z.hu (se_call ((ok__law_of (P := P) (w := w) (base := base) Z).callsX 7 (by decide) 2 [] [0, 1] [] (fun fd F => kb_all F 2 [] [0, 1] fun _ _ _ _ _ _ us ws hl hw => match us, ws, hl, hw with | [_, _], [], _, _ => rfl) rfl (by exact z.tk) (by exact hr) (by rfl) (by rfl) (by rfl) (by rfl) (by rfl)) (by rfl) (Z.g__law_of) (ok__law_of (P := P) (w := w) (base := base) Z).keep (sa_cons (se_loc 2) (sa_cons (se_lst (sa_cons (se_call ((ok__law_odd (P := P) (w := w) (base := base) Z).callsX 7 (by decide) 1 [] [0] [] (fun fd F => kb_all F 1 [] [0] fun _ _ _ _ _ _ us ws hl hw => match us, ws, hl, hw with | [_], [], _, _ => rfl) rfl (by exact z.tk) (by exact hr) (by rfl) (by rfl) (by rfl) (by rfl) (by rfl)) (by rfl) (Z.g__law_odd) (ok__law_odd (P := P) (w := w) (base := base) Z).keep (sa_cons (se_loc 2) (sa_nil))) (sa_cons (se_str) (sa_nil)))) (sa_nil)))) (se_loc 4) (sr_rd 6))) (sb_one (ss_if (sw_st (sw_and (st_cmp z.hu (sr_rd 6) ((se_int).r)) (sw_and1 (st_cmp z.hu ((se_call ((ok__law_draw (P := P) (w := w) (base := base) Z).callsX 7 (by decide) 2 [] [0, 1] [] (fun fd F => kb_all F 2 [] [0, 1] fun _ _ _ _ _ _ us ws hl hw => match us, ws, hl, hw with | [_, _], [], _, _ => rfl) rfl (by exact z.tk) (by exact hr) (by rfl) (by rfl) (by rfl) (by rfl) (by rfl)) (by rfl) (Z.g__law_draw) (ok__law_draw (P := P) (w := w) (base := base) Z).keep (sa_cons (se_loc 2) (sa_cons (se_int) (sa_nil)))).r) ((se_int).r))))) (sb_one (ss_put z.hu (se_ix z.hu (sr_rd 4) ((se_call ((ok__law_draw (P := P) (w := w) (base := base) Z).callsX 7 (by decide) 2 [] [0, 1] [] (fun fd F => kb_all F 2 [] [0, 1] fun _ _ _ _ _ _ us ws hl hw => match us, ws, hl, hw with | [_, _], [], _, _ => rfl) rfl (by exact z.tk) (by exact hr) (by rfl) (by rfl) (by rfl) (by rfl) (by rfl)) (by rfl) (Z.g__law_draw) (ok__law_draw (P := P) (w := w) (base := base) Z).keep (sa_cons (se_loc 2) (sa_cons (se_loc 6) (sa_nil)))).r)) (se_loc 4) (sr_rd 6))) (sb_nil)))))) <| sb_cons (ss_set hN ((sn_lst (sa_cons (se_call ((ok__law_of (P := P) (w := w) (base := base) Z).callsX 7 (by decide) 2 [] [0, 1] [] (fun fd F => kb_all F 2 [] [0, 1] fun _ _ _ _ _ _ us ws hl hw => match us, ws, hl, hw with | [_, _], [], _, _ => rfl) rfl (by exact z.tk) (by exact hr) (by rfl) (by rfl) (by rfl) (by rfl) (by rfl)) (by rfl) (Z.g__law_of) (ok__law_of (P := P) (w := w) (base := base) Z).keep (sa_cons (se_loc 2) (sa_cons (se_lst (sa_cons (se_str) (sa_cons (se_str) (sa_cons (se_str) (sa_cons (se_str) (sa_cons (se_str) (sa_nil))))))) (sa_nil)))) (sa_cons (se_call ((ok__law_of (P := P) (w := w) (base := base) Z).callsX 7 (by decide) 2 [] [0, 1] [] (fun fd F => kb_all F 2 [] [0, 1] fun _ _ _ _ _ _ us ws hl hw => match us, ws, hl, hw with | [_, _], [], _, _ => rfl) rfl (by exact z.tk) (by exact hr) (by rfl) (by rfl) (by rfl) (by rfl) (by rfl)) (by rfl) (Z.g__law_of) (ok__law_of (P := P) (w := w) (base := base) Z).keep (sa_cons (se_loc 2) (sa_cons (se_lst (sa_cons (se_str) (sa_cons (se_str) (sa_cons (se_str) (sa_nil))))) (sa_nil)))) (sa_cons (se_call ((ok__law_of (P := P) (w := w) (base := base) Z).callsX 7 (by decide) 2 [] [0, 1] [] (fun fd F => kb_all F 2 [] [0, 1] fun _ _ _ _ _ _ us ws hl hw => match us, ws, hl, hw with | [_, _], [], _, _ => rfl) rfl (by exact z.tk) (by exact hr) (by rfl) (by rfl) (by rfl) (by rfl) (by rfl)) (by rfl) (Z.g__law_of) (ok__law_of (P := P) (w := w) (base := base) Z).keep (sa_cons (se_loc 2) (sa_cons (se_lst (sa_cons (se_str) (sa_cons (se_str) (sa_nil)))) (sa_nil)))) (sa_cons (se_call ((ok__law_of (P := P) (w := w) (base := base) Z).callsX 7 (by decide) 2 [] [0, 1] [] (fun fd F => kb_all F 2 [] [0, 1] fun _ _ _ _ _ _ us ws hl hw => match us, ws, hl, hw with | [_, _], [], _, _ => rfl) rfl (by exact z.tk) (by exact hr) (by rfl) (by rfl) (by rfl) (by rfl) (by rfl)) (by rfl) (Z.g__law_of) (ok__law_of (P := P) (w := w) (base := base) Z).keep (sa_cons (se_loc 2) (sa_cons (se_lst (sa_cons (se_str) (sa_cons (se_str) (sa_nil)))) (sa_nil)))) (sa_nil)))))).ref)) <| sb_cons (ss_set hN (se_bty gList_ok (by rfl) Z.n_list (sar_cons (sr_rd 7) (sar_nil)))) <| sb_cons (ss_for z.hp z.hc (si_rng1 (by rfl) Z.n_range (sa_cons (se_call ((ok__law_draw (P := P) (w := w) (base := base) Z).callsX 7 (by decide) 2 [] [0, 1] [] (fun fd F => kb_all F 2 [] [0, 1] fun _ _ _ _ _ _ us ws hl hw => match us, ws, hl, hw with | [_, _], [], _, _ => rfl) rfl (by exact z.tk) (by exact hr) (by rfl) (by rfl) (by rfl) (by rfl) (by rfl)) (by rfl) (Z.g__law_draw) (ok__law_draw (P := P) (w := w) (base := base) Z).keep (sa_cons (se_loc 2) (sa_cons (se_int) (sa_nil)))) (sa_nil))) (sg_nm 6 hN) (sb_cons (ss_set hN (se_call ((ok__law_of (P := P) (w := w) (base := base) Z).callsX 7 (by decide) 2 [] [0, 1] [] (fun fd F => kb_all F 2 [] [0, 1] fun _ _ _ _ _ _ us ws hl hw => match us, ws, hl, hw with | [_, _], [], _, _ => rfl) rfl (by exact z.tk) (by exact hr) (by rfl) (by rfl) (by rfl) (by rfl) (by rfl)) (by rfl) (Z.g__law_of) (ok__law_of (P := P) (w := w) (base := base) Z).keep (sa_cons (se_loc 2) (sa_cons (se_lst (sa_cons (se_str) (sa_cons (se_str) (sa_cons (se_str) (sa_cons (se_str) (sa_cons (se_str) (sa_cons (se_str) (sa_cons (se_str) (sa_cons (se_str) (sa_cons (se_non) (sa_cons (se_int) (sa_cons (se_bl) (sa_cons (se_tup (sa_cons (se_str) (sa_nil))) (sa_cons (se_lst (sa_nil)) (sa_nil))))))))))))))) (sa_nil))))) <| sb_one (ss_put z.hu (se_loc 10) (se_loc 7) ((se_call ((ok__law_draw (P := P) (w := w) (base := base) Z).callsX 7 (by decide) 2 [] [0, 1] [] (fun fd F => kb_all F 2 [] [0, 1] fun _ _ _ _ _ _ us ws hl hw => match us, ws, hl, hw with | [_, _], [], _, _ => rfl) rfl (by exact z.tk) (by exact hr) (by rfl) (by rfl) (by rfl) (by rfl) (by rfl)) (by rfl) (Z.g__law_draw) (ok__law_draw (P := P) (w := w) (base := base) Z).keep (sa_cons (se_loc 2) (sa_cons (se_int) (sa_nil)))).r)))) <| sb_cons (ss_set hN (se_if (st_cmp z.hu ((se_call ((ok__law_draw (P := P) (w := w) (base := base) Z).callsX 7 (by decide) 2 [] [0, 1] [] (fun fd F => kb_all F 2 [] [0, 1] fun _ _ _ _ _ _ us ws hl hw => match us, ws, hl, hw with | [_, _], [], _, _ => rfl) rfl (by exact z.tk) (by exact hr) (by rfl) (by rfl) (by rfl) (by rfl) (by rfl)) (by rfl) (Z.g__law_draw) (ok__law_draw (P := P) (w := w) (base := base) Z).keep (sa_cons (se_loc 2) (sa_cons (se_int) (sa_nil)))).r) ((se_int).r)) (se_bty gList_ok (by rfl) Z.n_list (sar_cons (sr_rd 4) (sar_nil))) (se_bty gTuple_ok (by rfl) Z.n_tuple (sar_cons (sr_rd 4) (sar_nil))))) <| sb_cons (ss_if (st_cmp z.hu ((se_call ((ok__law_told (P := P) (w := w) (base := base) Z).callsX 7 (by decide) 3 [] [0, 1, 2] [] (fun fd F => kb_all F 3 [] [0, 1, 2] fun _ _ _ _ _ _ us ws hl hw => match us, ws, hl, hw with | [_, _, _], [], _, _ => rfl) rfl (by exact z.tk) (by exact hr) (by rfl) (by rfl) (by rfl) (by rfl) (by rfl)) (by rfl) (Z.g__law_told) (ok__law_told (P := P) (w := w) (base := base) Z).keep (sa_cons (se_loc 3) (sa_cons (se_loc 9) (sa_cons (se_loc 7) (sa_nil))))).r) ((se_call ((ok__law_due (P := P) (w := w) (base := base) Z).callsX 7 (by decide) 4 [] [0, 1, 2, 3] [] (fun fd F => kb_all F 4 [] [0, 1, 2, 3] fun _ _ _ _ _ _ us ws hl hw => match us, ws, hl, hw with | [_, _, _, _], [], _, _ => rfl) rfl (by exact z.tk) (by exact hr) (by rfl) (by rfl) (by rfl) (by rfl) (by rfl)) (by rfl) (Z.g__law_due) (ok__law_due (P := P) (w := w) (base := base) Z).keep (sa_cons (se_loc 3) (sa_cons (se_loc 4) (sa_cons (se_loc 5) (sa_cons (se_loc 7) (sa_nil)))))).r)) (sb_one (ss_ret (se_bl))) (sb_nil)) <| sb_cons (ss_set hN (se_call ((ok__law_of (P := P) (w := w) (base := base) Z).callsX 7 (by decide) 2 [] [0, 1] [] (fun fd F => kb_all F 2 [] [0, 1] fun _ _ _ _ _ _ us ws hl hw => match us, ws, hl, hw with | [_, _], [], _, _ => rfl) rfl (by exact z.tk) (by exact hr) (by rfl) (by rfl) (by rfl) (by rfl) (by rfl)) (by rfl) (Z.g__law_of) (ok__law_of (P := P) (w := w) (base := base) Z).keep (sa_cons (se_loc 2) (sa_cons (se_lst (sa_cons (se_call ((ok__law_odd (P := P) (w := w) (base := base) Z).callsX 7 (by decide) 1 [] [0] [] (fun fd F => kb_all F 1 [] [0] fun _ _ _ _ _ _ us ws hl hw => match us, ws, hl, hw with | [_], [], _, _ => rfl) rfl (by exact z.tk) (by exact hr) (by rfl) (by rfl) (by rfl) (by rfl) (by rfl)) (by rfl) (Z.g__law_odd) (ok__law_odd (P := P) (w := w) (base := base) Z).keep (sa_cons (se_loc 2) (sa_nil))) (sa_cons (se_str) (sa_cons (se_str) (sa_nil))))) (sa_nil))))) <| sb_cons (ss_if (sw_st (sw_or (st_cmp z.hu ((se_call ((ok__law_told (P := P) (w := w) (base := base) Z).callsX 7 (by decide) 3 [] [0, 1, 2] [] (fun fd F => kb_all F 3 [] [0, 1, 2] fun _ _ _ _ _ _ us ws hl hw => match us, ws, hl, hw with | [_, _, _], [], _, _ => rfl) rfl (by exact z.tk) (by exact hr) (by rfl) (by rfl) (by rfl) (by rfl) (by rfl)) (by rfl) (Z.g__law_told) (ok__law_told (P := P) (w := w) (base := base) Z).keep (sa_cons (se_loc 10) (sa_cons (se_loc 9) (sa_cons (se_loc 7) (sa_nil))))).r) ((se_tup (sa_cons (se_str) (sa_cons (se_neg (se_int)) (sa_nil)))).r)) (sw_or1 (st_cmp z.hu ((se_call ((ok__law_told (P := P) (w := w) (base := base) Z).callsX 7 (by decide) 3 [] [0, 1, 2] [] (fun fd F => kb_all F 3 [] [0, 1, 2] fun _ _ _ _ _ _ us ws hl hw => match us, ws, hl, hw with | [_, _, _], [], _, _ => rfl) rfl (by exact z.tk) (by exact hr) (by rfl) (by rfl) (by rfl) (by rfl) (by rfl)) (by rfl) (Z.g__law_told) (ok__law_told (P := P) (w := w) (base := base) Z).keep (sa_cons (se_loc 3) (sa_cons (se_lst (sa_nil)) (sa_cons (se_loc 7) (sa_nil))))).r) ((se_call ((ok__law_due (P := P) (w := w) (base := base) Z).callsX 7 (by decide) 4 [] [0, 1, 2, 3] [] (fun fd F => kb_all F 4 [] [0, 1, 2, 3] fun _ _ _ _ _ _ us ws hl hw => match us, ws, hl, hw with | [_, _, _, _], [], _, _ => rfl) rfl (by exact z.tk) (by exact hr) (by rfl) (by rfl) (by rfl) (by rfl) (by rfl)) (by rfl) (Z.g__law_due) (ok__law_due (P := P) (w := w) (base := base) Z).keep (sa_cons (se_loc 3) (sa_cons (se_lst (sa_nil)) (sa_cons (se_lst (sa_nil)) (sa_cons (se_loc 7) (sa_nil)))))).r))))) (sb_one (ss_ret (se_bl))) (sb_nil)) <| sb_cons (ss_par2 z.hc hN (sa_cons (se_call ((ok__law_word (P := P) (w := w) (base := base) Z).callsX 7 (by decide) 2 [] [0, 1] [] (fun fd F => kb_all F 2 [] [0, 1] fun _ _ _ _ _ _ us ws hl hw => match us, ws, hl, hw with | [_, _], [], _, _ => rfl) rfl (by exact z.tk) (by exact hr) (by rfl) (by rfl) (by rfl) (by rfl) (by rfl)) (by rfl) (Z.g__law_word) (ok__law_word (P := P) (w := w) (base := base) Z).keep (sa_cons (se_loc 2) (sa_cons (se_lst (sa_cons (se_str) (sa_nil))) (sa_nil)))) (sa_cons (se_call ((ok__law_word (P := P) (w := w) (base := base) Z).callsX 7 (by decide) 2 [] [0, 1] [] (fun fd F => kb_all F 2 [] [0, 1] fun _ _ _ _ _ _ us ws hl hw => match us, ws, hl, hw with | [_, _], [], _, _ => rfl) rfl (by exact z.tk) (by exact hr) (by rfl) (by rfl) (by rfl) (by rfl) (by rfl)) (by rfl) (Z.g__law_word) (ok__law_word (P := P) (w := w) (base := base) Z).keep (sa_cons (se_loc 2) (sa_cons (se_lst (sa_cons (se_str) (sa_nil))) (sa_nil)))) (sa_nil)))) <| sb_cons (ss_set hN (se_if (st_cmp z.hu ((se_call ((ok__law_draw (P := P) (w := w) (base := base) Z).callsX 7 (by decide) 2 [] [0, 1] [] (fun fd F => kb_all F 2 [] [0, 1] fun _ _ _ _ _ _ us ws hl hw => match us, ws, hl, hw with | [_, _], [], _, _ => rfl) rfl (by exact z.tk) (by exact hr) (by rfl) (by rfl) (by rfl) (by rfl) (by rfl)) (by rfl) (Z.g__law_draw) (ok__law_draw (P := P) (w := w) (base := base) Z).keep (sa_cons (se_loc 2) (sa_cons (se_int) (sa_nil)))).r) ((se_int).r)) (se_loc 11) (se_loc 12))) <| sb_cons (ss_if (st_cmp z.hu ((se_call ((ok__law_told (P := P) (w := w) (base := base) Z).callsX 7 (by decide) 3 [] [0, 1, 2] [] (fun fd F => kb_all F 3 [] [0, 1, 2] fun _ _ _ _ _ _ us ws hl hw => match us, ws, hl, hw with | [_, _, _], [], _, _ => rfl) rfl (by exact z.tk) (by exact hr) (by rfl) (by rfl) (by rfl) (by rfl) (by rfl)) (by rfl) (Z.g__law_told) (ok__law_told (P := P) (w := w) (base := base) Z).keep (sa_cons (se_loc 3) (sa_cons (se_lst (sa_cons (se_loc 11) (sa_cons (se_loc 12) (sa_nil)))) (sa_cons (se_loc 8) (sa_nil))))).r) ((se_if (st_cmp z.hu (sr_rd 11) (sr_rd 12)) (se_tup (sa_cons (se_str) (sa_cons (se_int) (sa_nil)))) (se_bty gTuple_ok (by rfl) Z.n_tuple (sar_cons (sr_rd 8) (sar_nil)))).r)) (sb_one (ss_ret (se_bl))) (sb_nil)) <| sb_cons (ss_set hN ((sn_lst (sa_cons (se_loc 11) (sa_nil))).ref)) <| sb_cons (ss_par2 z.hc hN (sa_cons ((sn_call ((ok_Target___init__ (P := P) (w := w) (base := base) Z).callsX (ks := []) Z.mk_Target 7 (by decide) (by decide) (by decide) (by decide) (by exact z.tk) (by exact hr) (by rfl) (by rfl) (by rfl) (by rfl) (by rfl)) (by rfl) (Z.g_Target) Z.mk_Target.kp (sa_cons (se_loc 3) (sa_cons (se_loc 13) (sa_nil)))).se) (sa_cons ((sn_callK ((ok_Target___init__ (P := P) (w := w) (base := base) Z).callsX (ks := ["gone", "present"]) Z.mk_Target 7 (by decide) (by decide) (by decide) (by decide) (by exact z.tk) (by exact hr) (by rfl) (by rfl) (by rfl) (by rfl) (by rfl)) (by rfl) (Z.g_Target) Z.mk_Target.kp (sa_cons (se_loc 3) (sa_cons (se_lst (sa_cons (se_loc 11) (sa_nil))) (sa_nil))) (sk_cons (se_ix z.hu (sr_rd 8) ((se_int).r)) (sk_cons (se_ix z.hu (sr_rd 8) ((se_int).r)) (sk_nil)))).se) (sa_nil)))) <| sb_cons (ss_appR (se_loc 13) (se_loc 12)) <| sb_cons (ss_if (sw_st (sw_or (st_cmp z.hu ((se_attr Z.fd_columns (sr_rd 14)).r) ((se_tup (sa_cons (se_loc 11) (sa_nil))).r)) (sw_or (st_neT (eqT_cons (ok_Habits___eq__ (P := P) (w := w) (base := base) Z) Z.eq_Habits (by rfl) 7 (by decide) (fun fd F => kb_all F 2 [] [0, 1] fun _ _ _ _ _ _ us ws hl hw => match us, ws, hl, hw with | [_, _], [], _, _ => rfl) rfl (by exact z.tk) (by exact hr) (by rfl) (by rfl) (by rfl) (by rfl) (by rfl) eqT_nil) z.hu (se_attr Z.fd_habits (sr_rd 14)) ((sn_call0 ((ok_Habits___init__ (P := P) (w := w) (base := base) Z).callsX Z.mk_Habits 7 (by decide) 0 [] [0, 1, 2, 3] [.str "stop", .str "stop", .str "stop", .str "one"] (fun fd F => kb_kw F 1 [] (0 :: ([0, 1, 2, 3] : List Nat).map (· + 1)) [("present", V.str "stop"), ("lacking", V.str "stop"), ("gone", V.str "stop"), ("shared", V.str "one")] [.str "stop", .str "stop", .str "stop", .str "one"] (fun q => nomatch q) (by change ∀ q ∈ ([("present", V.str "stop"), ("lacking", V.str "stop"), ("gone", V.str "stop"), ("shared", V.str "one")] : List (Str × V)), q ∈ ([("present", V.str "stop"), ("lacking", V.str "stop"), ("gone", V.str "stop"), ("shared", V.str "one")] : List (Str × V)); decide) (fun _ _ _ => RVs.cons (RV_str _) (RVs.cons (RV_str _) (RVs.cons (RV_str _) (RVs.cons (RV_str _) (RVs.nil))))) fun _ _ _ _ _ _ us mv ws hl hm hw => match us, mv, ws, hl, hm, hw with | [_], [_, _, _, _], [], _, _, _ => ⟨_, _, _, _, _, _, rfl, rfl, ⟨_, _, _, _, _, _, rfl, rfl, ⟨_, _, _, _, _, _, rfl, rfl, ⟨_, _, _, _, _, _, rfl, rfl, rfl⟩⟩⟩⟩) rfl (by exact z.tk) (by exact hr) (by rfl) (by rfl) (by rfl) (by rfl) (by rfl)) (by rfl) (Z.g_Habits) Z.mk_Habits.kp).se)) (sw_or1 (st_not (st_tru ((se_isiC Z.is_Habits (by rfl) Z.n_isinstance (by rfl) Z.g_Habits ((se_attr Z.fd_habits (sr_rd 14)).r)).r))))))) (sb_one (ss_ret (se_bl))) (sb_nil)) <| sb_cons (ss_if (sw_st (sw_or (st_neT (eqT_cons (ok_Habits___eq__ (P := P) (w := w) (base := base) Z) Z.eq_Habits (by rfl) 7 (by decide) (fun fd F => kb_all F 2 [] [0, 1] fun _ _ _ _ _ _ us ws hl hw => match us, ws, hl, hw with | [_, _], [], _, _ => rfl) rfl (by exact z.tk) (by exact hr) (by rfl) (by rfl) (by rfl) (by rfl) (by rfl) eqT_nil) z.hu (se_attr Z.fd_habits (sr_rd 15)) ((sn_callK0 ((ok_Habits___init__ (P := P) (w := w) (base := base) Z).callsX Z.mk_Habits 7 (by decide) 0 ["present", "gone"] [0, 2, 1, 3] [.str "stop", .str "one"] (fun fd F => kb_kw F 1 ["present", "gone"] (0 :: ([0, 2, 1, 3] : List Nat).map (· + 1)) [("lacking", V.str "stop"), ("shared", V.str "one")] [.str "stop", .str "one"] (fun q => nomatch q) (by change ∀ q ∈ ([("lacking", V.str "stop"), ("shared", V.str "one")] : List (Str × V)), q ∈ ([("present", V.str "stop"), ("lacking", V.str "stop"), ("gone", V.str "stop"), ("shared", V.str "one")] : List (Str × V)); decide) (fun _ _ _ => RVs.cons (RV_str _) (RVs.cons (RV_str _) (RVs.nil))) fun _ _ _ _ _ _ us mv ws hl hm hw => match us, mv, ws, hl, hm, hw with | [_], [_, _], [_, _], _, _, _ => ⟨_, _, _, _, _, _, rfl, rfl, ⟨_, _, _, _, _, _, rfl, rfl, rfl⟩⟩) rfl (by exact z.tk) (by exact hr) (by rfl) (by rfl) (by rfl) (by rfl) (by rfl)) (by rfl) (Z.g_Habits) Z.mk_Habits.kp (sk_cons (se_ix z.hu (sr_rd 8) ((se_int).r)) (sk_cons (se_ix z.hu (sr_rd 8) ((se_int).r)) (sk_nil)))).se)) (sw_or1 (st_cmp z.hu ((se_attr Z.fd_shared ((se_attr Z.fd_habits (sr_rd 15)).r)).r) ((se_str).r))))) (sb_one (ss_ret (se_bl))) (sb_nil)) <| sb_one (ss_if (sw_st (sw_or (st_cmp z.hu ((se_attr Z.fd_lacking ((se_attr Z.fd_habits (sr_rd 14)).r)).r) ((se_str).r)) (sw_or (st_cmp z.hu ((se_attr Z.fd_present ((se_attr Z.fd_habits (sr_rd 14)).r)).r) ((se_str).r)) (sw_or1 (st_cmp z.hu ((se_attr Z.fd_gone ((se_attr Z.fd_habits (sr_rd 14)).r)).r) ((se_str).r)))))) (sb_one (ss_ret (se_bl))) (sb_nil)))) <| sb_one (ss_ret (se_bl))
end
def fn0 : List He.DefD := [dd_BadHabit___init__, dd_BadTarget___init__, dd_Habits___eq__, dd_is_word, dd__law_source, dd__law_draw, dd__law_integer, dd__law_due, dd__law_of, dd__law_word, dd_Habits___init__, dd__law_odd, dd_Target___init__, dd__law_told, dd_law]
def fn : List He.DefD := fn0
def chk0 : List Chk := [(He.Fa.free "range").ok, (He.Fa.free "max").ok, (He.Fa.free "min").ok, (He.Fa.free "len").ok, (He.Fa.glo "_law_source").ok, (He.Fa.glo "_law_word").ok, (He.Fa.glo "_law_draw").ok, (He.Fa.glo "_law_of").ok, (He.Fa.glo "_law_odd").ok, (He.Fa.free "list").ok, (He.Fa.free "tuple").ok, (He.Fa.glo "_law_told").ok, (He.Fa.glo "_law_due").ok, (He.Fa.glo "Target").ok, (He.Fa.mkr "Target").ok, fldB ["Target"] "columns", fldB ["Target"] "habits", (He.Fa.glo "Habits").ok, (He.Fa.mkr "Habits").ok, eqB "Habits" q_kinds, (He.Fa.free "isinstance").ok, isiB (fun K => .ref (He.ga K "Habits")) t_Habits, fldB ["Habits"] "shared", fldB ["Habits"] "lacking", fldB ["Habits"] "present", fldB ["Habits"] "gone", (He.Fa.free "abs").ok, (He.Fa.free "int").ok, exmB "BadTarget" [("BadHabit", false), ("BadTarget", true)], xis2B "BadHabit" "BadNetwork" [((true, "BadTarget"), false)]]
def chk1 : List Chk := [(He.Fa.glo "BadHabit").ok, (He.Fa.glo "BadNetwork").ok, xisB (fun K => .ref (He.ga K "CopiesError")) [((true, "BadTarget"), true)], (He.Fa.glo "CopiesError").ok, (He.Fa.glo "_law_integer").ok, xfdB ["BadTarget"] "at", (He.Fa.glo "BadTarget").ok, exmB "BadHabit" [("BadHabit", true)], xfdB ["BadHabit"] "habit", fldB ["Target"] "name", isiB (fun _ => .type "tuple") t_tuple, (He.Fa.free "enumerate").ok, isiB (fun _ => .type "str") t_str, (He.Fa.free "str").ok, (He.Fa.glo "is_word").ok, oexB "BadTarget", oiB "BadTarget" ["at"], fldB ["Target"] "name", fldB ["Target"] "columns", fldB ["Target"] "habits", (He.Fa.free "zip").ok, (fun K => gB K "HABITS" k_HABITS), oexB "BadHabit", oiB "BadHabit" ["habit"], fldB ["Habits"] "present", fldB ["Habits"] "lacking", fldB ["Habits"] "gone", fldB ["Habits"] "shared", isiB (fun _ => .type "int") t_int, isiB (fun _ => .type "bool") t_bool]
def chk2 : List Chk := [(He.Fa.free "bool").ok, (He.Fa.free "all").ok, (fun K => gB K "LETTERS" k_LETTERS), (He.Fa.glo "law").ok]
def chks : List Chk := chk0 ++ chk1 ++ chk2
def prs : List Deco := []
abbrev hk : PySem.W.Hook := hookW 6 fn prs (allC chks)
def ob (s : PySem.W.SharedT) : AlW := obsWG 6 fn prs (allC chks) (HandSHeadRun.getT s)
theorem ob_eq (s : PySem.W.SharedT) : ob s = hk.obs s.abs := obsWG_eq (HandSHeadRun.getT_eq s)
def loose0 : List Str := ["_wall", "CopiesError", "BadHabit", "BadTarget", "BadNetwork", "HABITS", "Habits", "LETTERS", "is_word", "Target", "_law_source", "_law_draw", "_law_of", "_law_integer", "_law_word", "_law_odd", "_law_told", "_law_due"]
def loose : List Str := loose0
abbrev qv : Program := PySem.W.view Rw.row.prog [23]
theorem run (w : World) : HandSHeadRun.RunEq Rw.row qv hk ob 8000 loose w := by
  intro os
  kernel_rfl
theorem facts {K : PySem.W.Frag} {h : Heap} {mg : Str → Option Value} (X : K.In h) (G : h.Ns mainGlobals mg) (c : SaysW fn prs (allC chks) K) : Fs K mg where
  f_BadHabit___init__ := c.d.def_ 0 (d := dd_BadHabit___init__) rfl
  f_BadTarget___init__ := c.d.def_ 1 (d := dd_BadTarget___init__) rfl
  f_Habits___eq__ := c.d.def_ 2 (d := dd_Habits___eq__) rfl
  f_is_word := c.d.def_ 3 (d := dd_is_word) rfl
  f__law_source := c.d.def_ 4 (d := dd__law_source) rfl
  f__law_draw := c.d.def_ 5 (d := dd__law_draw) rfl
  f__law_integer := c.d.def_ 6 (d := dd__law_integer) rfl
  f__law_due := c.d.def_ 7 (d := dd__law_due) rfl
  f__law_of := c.d.def_ 8 (d := dd__law_of) rfl
  f__law_word := c.d.def_ 9 (d := dd__law_word) rfl
  f_Habits___init__ := c.d.def_ 10 (d := dd_Habits___init__) rfl
  f__law_odd := c.d.def_ 11 (d := dd__law_odd) rfl
  f_Target___init__ := c.d.def_ 12 (d := dd_Target___init__) rfl
  f__law_told := c.d.def_ 13 (d := dd__law_told) rfl
  f_law := c.d.def_ 14 (d := dd_law) rfl
  n_range := He.free_ok X G (allC_at c.c 0 (f := (He.Fa.free "range").ok) rfl)
  n_max := He.free_ok X G (allC_at c.c 1 (f := (He.Fa.free "max").ok) rfl)
  n_min := He.free_ok X G (allC_at c.c 2 (f := (He.Fa.free "min").ok) rfl)
  n_len := He.free_ok X G (allC_at c.c 3 (f := (He.Fa.free "len").ok) rfl)
  g__law_source := He.glo_ok X G (allC_at c.c 4 (f := (He.Fa.glo "_law_source").ok) rfl)
  g__law_word := He.glo_ok X G (allC_at c.c 5 (f := (He.Fa.glo "_law_word").ok) rfl)
  g__law_draw := He.glo_ok X G (allC_at c.c 6 (f := (He.Fa.glo "_law_draw").ok) rfl)
  g__law_of := He.glo_ok X G (allC_at c.c 7 (f := (He.Fa.glo "_law_of").ok) rfl)
  g__law_odd := He.glo_ok X G (allC_at c.c 8 (f := (He.Fa.glo "_law_odd").ok) rfl)
  n_list := He.free_ok X G (allC_at c.c 9 (f := (He.Fa.free "list").ok) rfl)
  n_tuple := He.free_ok X G (allC_at c.c 10 (f := (He.Fa.free "tuple").ok) rfl)
  g__law_told := He.glo_ok X G (allC_at c.c 11 (f := (He.Fa.glo "_law_told").ok) rfl)
  g__law_due := He.glo_ok X G (allC_at c.c 12 (f := (He.Fa.glo "_law_due").ok) rfl)
  g_Target := He.glo_ok X G (allC_at c.c 13 (f := (He.Fa.glo "Target").ok) rfl)
  mk_Target := He.mkr_ok (allC_at c.c 14 (f := (He.Fa.mkr "Target").ok) rfl)
  fd_columns := fldB_ok (allC_at c.c 15 (f := fldB ["Target"] "columns") rfl)
  fd_habits := fldB_ok (allC_at c.c 16 (f := fldB ["Target"] "habits") rfl)
  g_Habits := He.glo_ok X G (allC_at c.c 17 (f := (He.Fa.glo "Habits").ok) rfl)
  mk_Habits := He.mkr_ok (allC_at c.c 18 (f := (He.Fa.mkr "Habits").ok) rfl)
  eq_Habits := eqB_ok (allC_at c.c 19 (f := eqB "Habits" q_kinds) rfl)
  n_isinstance := He.free_ok X G (allC_at c.c 20 (f := (He.Fa.free "isinstance").ok) rfl)
  is_Habits := isiB_ok (cv := fun K => .ref (He.ga K "Habits")) (allC_at c.c 21 (f := isiB (fun K => .ref (He.ga K "Habits")) t_Habits) rfl)
  fd_shared := fldB_ok (allC_at c.c 22 (f := fldB ["Habits"] "shared") rfl)
  fd_lacking := fldB_ok (allC_at c.c 23 (f := fldB ["Habits"] "lacking") rfl)
  fd_present := fldB_ok (allC_at c.c 24 (f := fldB ["Habits"] "present") rfl)
  fd_gone := fldB_ok (allC_at c.c 25 (f := fldB ["Habits"] "gone") rfl)
  n_abs := He.free_ok X G (allC_at c.c 26 (f := (He.Fa.free "abs").ok) rfl)
  n_int := He.free_ok X G (allC_at c.c 27 (f := (He.Fa.free "int").ok) rfl)
  em_BadTarget_BadHabit_BadTarget := exmB_ok (allC_at c.c 28 (f := exmB "BadTarget" [("BadHabit", false), ("BadTarget", true)]) rfl)
  xi2_BadHabit_BadNetwork_BadTarget := xis2B_ok (allC_at c.c 29 (f := xis2B "BadHabit" "BadNetwork" [((true, "BadTarget"), false)]) rfl)
  g_BadHabit := He.glo_ok X G (allC_at c.c 30 (f := (He.Fa.glo "BadHabit").ok) rfl)
  g_BadNetwork := He.glo_ok X G (allC_at c.c 31 (f := (He.Fa.glo "BadNetwork").ok) rfl)
  xi_CopiesError_BadTarget := xisB_ok (cv := fun K => .ref (He.ga K "CopiesError")) (allC_at c.c 32 (f := xisB (fun K => .ref (He.ga K "CopiesError")) [((true, "BadTarget"), true)]) rfl)
  g_CopiesError := He.glo_ok X G (allC_at c.c 33 (f := (He.Fa.glo "CopiesError").ok) rfl)
  g__law_integer := He.glo_ok X G (allC_at c.c 34 (f := (He.Fa.glo "_law_integer").ok) rfl)
  xf_at_BadTarget := xfdB_ok (allC_at c.c 35 (f := xfdB ["BadTarget"] "at") rfl)
  g_BadTarget := He.glo_ok X G (allC_at c.c 36 (f := (He.Fa.glo "BadTarget").ok) rfl)
  em_BadHabit_BadHabit := exmB_ok (allC_at c.c 37 (f := exmB "BadHabit" [("BadHabit", true)]) rfl)
  xf_habit_BadHabit := xfdB_ok (allC_at c.c 38 (f := xfdB ["BadHabit"] "habit") rfl)
  fd_name := fldB_ok (allC_at c.c 39 (f := fldB ["Target"] "name") rfl)
  is_tuple := isiB_ok (cv := fun _ => .type "tuple") (allC_at c.c 40 (f := isiB (fun _ => .type "tuple") t_tuple) rfl)
  n_enumerate := He.free_ok X G (allC_at c.c 41 (f := (He.Fa.free "enumerate").ok) rfl)
  is_str := isiB_ok (cv := fun _ => .type "str") (allC_at c.c 42 (f := isiB (fun _ => .type "str") t_str) rfl)
  n_str := He.free_ok X G (allC_at c.c 43 (f := (He.Fa.free "str").ok) rfl)
  g_is_word := He.glo_ok X G (allC_at c.c 44 (f := (He.Fa.glo "is_word").ok) rfl)
  ox_BadTarget := oexB_ok (allC_at c.c 45 (f := oexB "BadTarget") rfl)
  oi_BadTarget := oiB_ok (allC_at c.c 46 (f := oiB "BadTarget" ["at"]) rfl)
  fs_Target_name := fldB_ok (allC_at c.c 47 (f := fldB ["Target"] "name") rfl)
  fs_Target_columns := fldB_ok (allC_at c.c 48 (f := fldB ["Target"] "columns") rfl)
  fs_Target_habits := fldB_ok (allC_at c.c 49 (f := fldB ["Target"] "habits") rfl)
  n_zip := He.free_ok X G (allC_at c.c 50 (f := (He.Fa.free "zip").ok) rfl)
  v_HABITS := gB_ok X G (allC_at c.c 51 (f := (fun K => gB K "HABITS" k_HABITS)) rfl)
  ox_BadHabit := oexB_ok (allC_at c.c 52 (f := oexB "BadHabit") rfl)
  oi_BadHabit := oiB_ok (allC_at c.c 53 (f := oiB "BadHabit" ["habit"]) rfl)
  fs_Habits_present := fldB_ok (allC_at c.c 54 (f := fldB ["Habits"] "present") rfl)
  fs_Habits_lacking := fldB_ok (allC_at c.c 55 (f := fldB ["Habits"] "lacking") rfl)
  fs_Habits_gone := fldB_ok (allC_at c.c 56 (f := fldB ["Habits"] "gone") rfl)
  fs_Habits_shared := fldB_ok (allC_at c.c 57 (f := fldB ["Habits"] "shared") rfl)
  is_int := isiB_ok (cv := fun _ => .type "int") (allC_at c.c 58 (f := isiB (fun _ => .type "int") t_int) rfl)
  is_bool := isiB_ok (cv := fun _ => .type "bool") (allC_at c.c 59 (f := isiB (fun _ => .type "bool") t_bool) rfl)
  n_bool := He.free_ok X G (allC_at c.c 60 (f := (He.Fa.free "bool").ok) rfl)
  n_all := He.free_ok X G (allC_at c.c 61 (f := (He.Fa.free "all").ok) rfl)
  v_LETTERS := gB_ok X G (allC_at c.c 62 (f := (fun K => gB K "LETTERS" k_LETTERS)) rfl)
  g_law := He.glo_ok X G (allC_at c.c 63 (f := (He.Fa.glo "law").ok) rfl)
open PySem.W PySem.Calls in
theorem holds (hm : ∀ ns : List Int, ns.length ≤ 63 → ∃ s, M_law [.scr ns] [] = .ok (.bl true) s) : PySem.Challenge.rw_filteredcopies_k15_targets.Holds := by
  w_on; o_law
  refine HandSHeadRun.head_any (r := OpenLaw.row PySem.Challenge.rw_filteredcopies_k15_targets) (q := view (OpenLaw.row PySem.Challenge.rw_filteredcopies_k15_targets).prog [23]) (H := hk) (ob := ob) (M := 8000) (loose := loose) (d := HandSHeadRun.topDef (OpenLaw.row PySem.Challenge.rw_filteredcopies_k15_targets).prog 23) (kwd := []) ob_eq
    (by kernel_rfl) (fun s => by kernel_rfl) run (by kernel_rfl) (by kernel_rfl) (by kernel_rfl) (by rfl) (by first | assumption | decide +kernel) (by decide +kernel) ⟨rfl, rfl, rfl, rfl, rfl, by decide +kernel⟩ ?hw ?hc
  case hw => w_witness2
  case hc =>
    refine walk_G (l := PySem.Challenge.rw_filteredcopies_k15_targets) (n := 63) (k := 8) (x := "script") (cx := CXw (PySem.Challenge.rw_filteredcopies_k15_targets).prog) rfl (by decide) (by kernel_rfl) ⟨rfl, by decide, by decide⟩ ?F fun H s e s' z => cxw_no z
    intro w mg fa h Y G hmg0
    obtain ⟨K, KX, c⟩ := Y
    have hmg : mg ("law" : PySem.Str) = some (.ref fa) := by
      have e : (HandSHeadRun.topDef (OpenLaw.row PySem.Challenge.rw_filteredcopies_k15_targets).prog 23).name = ("law" : PySem.Str) := by kernel_rfl
      rw [← e]
      exact hmg0
    have Z := facts KX G c
    have e := hmg.symm.trans Z.g_law
    cases e
    obtain ⟨fd, F⟩ := Z.f_law
    have b := FunD.bindsA (ps := ["script"]) F fun _ _ _ _ _ _ us hl => match us, hl with | [_], _ => rfl
    refine ⟨K, fd, spOf K 1 M_law, KX, fun s v => b s [v] rfl, fun H a ns hl hO hS => law_sp hm H a ns hl hO hS, fun base _ _ => ?_⟩
    exact fn_cx (fn_ok (w := w) (N := n_law) F ⟨rfl, rfl, rfl, nd_law, rfl, by decide +kernel, by decide +kernel⟩ fun cdv A outer s H E hr => d_law Z hr) fun _ _ _ _ _ _ z => ⟨w, z⟩
end Dn
namespace Dn
open PySem PySem.Spec L2
open PyProof.Rows hiding St RelV
local macro_rules | `(tactic| fail) => `(tactic| (first | with_reducible refine wp_cons ?_ | with_reducible refine wp_nil ?_ | with_reducible refine wp_C ?_ | with_reducible refine wp_call ?_ | with_reducible refine wp_ifE ?_ | with_reducible refine wp_not ?_ | with_reducible refine wp_or ?_ | with_reducible refine wp_and ?_ | with_reducible refine wp_yes ?_ | with_reducible refine wp_noPart ?_ | with_reducible refine wp_dic0 ?_ | with_reducible refine wp_eqO ?_ | with_reducible refine wp_new ?_ | with_reducible refine wp_ixO ?_ | with_reducible refine wq_tup ?_ | with_reducible refine wq_lst ?_ | with_reducible refine wq_bin ?_ | with_reducible refine wq_cmp ?_ | with_reducible refine wq_ix ?_ | with_reducible refine wq_bt ?_ | with_reducible refine wq_mt ?_ | with_reducible refine wq_is ?_ | with_reducible refine wq_tru ?_ | with_reducible refine wq_attr ?_ | with_reducible refine wq_con ?_ | with_reducible refine wq_keys ?_ | with_reducible refine wq_rev ?_ | with_reducible refine wq_eq2 ?_ | with_reducible refine wq_ne2 ?_ | with_reducible refine wq_isi ?_ | with_reducible refine wq_sl ?_ | with_reducible refine wq_part ?_ | with_reducible refine wq_listO ?_ | with_reducible refine wq_iLst ?_ | with_reducible refine wq_iTp ?_ | with_reducible refine wq_iStrD ?_ | with_reducible refine wq_enot ?_ | with_reducible refine wq_eand ?_ | with_reducible refine wq_neg ?_ | with_reducible refine wq_get1 ?_ | with_reducible refine wq_get2 ?_ | with_reducible refine wq_prop ?_ | with_reducible refine wq_meth ?_ | with_reducible refine wq_methK ?_ | with_reducible refine wq_callK ?_ | with_reducible refine wq_inO ?_ | with_reducible refine wq_lenO ?_ | with_reducible refine wq_asg ?_ | with_reducible refine wq_par2 ?_ | with_reducible refine wq_parO ?_ | with_reducible refine wq_kOwn ?_ | with_reducible refine wq_ne3 ?_ | with_reducible refine wq_subB ?_ | with_reducible refine wq_op1 ?_ | with_reducible refine wq_op2 ?_ | with_reducible refine ws_seq ?_ | with_reducible refine ws_nil ?_ | with_reducible refine ws_set ?_ | with_reducible refine ws_ret ?_ | with_reducible refine ws_if ?_ | with_reducible refine ws_par3 ?_ | with_reducible refine ws_own ?_ | with_reducible refine wb_bl ?_ | with_reducible refine wl_lst ?_ | with_reducible refine wt_tup ?_ | with_reducible refine wi_int ?_ | with_reducible refine wstr ?_ | with_reducible refine lcw_cons ?_ | with_reducible refine lcw_nil ?_ | with_reducible refine fow_cons ?_ | with_reducible refine fow_nil ?_ | ((with_reducible refine wp_loc  (d := ?_) ?_  ?_); (rotate_left 1); (· exact rfl)) | ((with_reducible refine wp_rd  (d := ?_) ?_  ?_); (rotate_left 1); (· exact rfl)) | ((with_reducible refine wp_rdo  (b := ?_) (d := ?_) ?_  ?_); (rotate_left 2); (· exact rfl)) | ((with_reducible refine wp_args  (ds' := ?_) ?_ ?_ ?_  ?_); (rotate_left 1); (· exact rfl); (· exact rfl); (· exact rfl)) | ((with_reducible refine ws_frz  (d := ?_) ?_  ?_); (rotate_left 1); (· exact rfl)) | ((with_reducible refine ws_frzp  (d := ?_) ?_  ?_); (rotate_left 1); (· exact rfl)) | ((with_reducible refine wq_app  (b := ?_) (ds := ?_) ?_  ?_); (rotate_left 2); (· exact rfl)) | ((with_reducible refine wq_putO  (b := ?_) (c := ?_) ?_  ?_); (rotate_left 2); (· exact rfl)) | ((with_reducible refine wn_of ?_ ?_); (· first | exact Nat.le_of_ble_eq_true rfl | (simp only [List.length_map, List.length_append, List.length_cons, List.length_nil]; unfold line; omega))) | ((with_reducible refine wc_of ?_ ?_); (· first | exact rfl | exact ⟨rfl, rfl⟩ | exact ⟨by decide, rfl⟩ | decide | exact Nat.le_of_ble_eq_true rfl)) | ((with_reducible refine wo_some (o := cmpD _ _ _) (a := ?_) ?_  ?_); (rotate_left 1); (· first | exact eq_int _ _ | exact ne_int _ _ | exact eq_str _ _ | exact ne_str _ _ | exact ld_in _ _ | exact ld_notin _ _ | exact in_tups _ _ | exact notin_tups _ _ | exact in_ints _ _ | exact notin_ints _ _ | exact eq_ints _ _ | exact ne_ints _ _ | exact eq_strs _ _ | exact ne_strsL _ _ | exact eq_strsT _ _ | exact in_strs _ _)) | ((with_reducible refine wo_some (o := gSort _) (a := ?_) ?_  ?_); (rotate_left 1); (· first | exact sort_ints _)) | ((with_reducible refine wo_some (o := keysD _) (a := ?_) ?_  ?_); (rotate_left 1); (· first | exact keys_ld _ | exact keys_sd _)) | ((with_reducible refine wo_some  (a := ?_) ?_  ?_); (rotate_left 1); (· exact rfl)) | ((with_reducible refine ifT ?_ ?_); (· exact rfl)) | ((with_reducible refine ifF ?_ ?_); (· exact rfl)) | with_reducible refine ifNN ?_ | ((with_reducible refine ifNDF ?_ ?_); (· with_reducible exact rfl)) | ((with_reducible refine ifDT ?_ ?_); (· with_reducible exact rfl)) | ((with_reducible refine ifNDF ?_ ?_); (· assumption)) | ((with_reducible refine ifNDT ?_ ?_); (· assumption)) | ((with_reducible refine ifDF ?_ ?_); (· assumption)) | ((with_reducible refine ifDT ?_ ?_); (· assumption)) | ((with_reducible refine ifT ?_ ?_); (· assumption)) | ((with_reducible refine ifF ?_ ?_); (· assumption)) | with_reducible refine wpp_nil ?_ | with_reducible refine wpp_cons ?_ | with_reducible refine wq_dic ?_ | with_reducible refine wq_items ?_ | with_reducible refine wq_eqN ?_ | with_reducible refine wq_cat ?_ | ((with_reducible refine wq_augO  (d := ?_) ?_  ?_); (rotate_left 1); (· exact rfl)) | with_reducible refine wq_kOp2 ?_ | ((with_reducible refine wo_some (o := catD _ _) (a := ?_) ?_  ?_); (rotate_left 1); (· first | exact rfl | exact cat_lst (by simp only [List.length_map, List.length_append, List.length_cons, List.length_nil]; unfold line; omega)))))
local macro_rules | `(tactic| ac_rfl) => `(tactic| (first | with_reducible refine wp_cons ?_ | with_reducible refine wp_nil ?_ | with_reducible refine wp_C ?_ | with_reducible refine wp_call ?_ | with_reducible refine wp_tup ?_ | with_reducible refine wp_lst ?_ | with_reducible refine wp_if ?_ | with_reducible refine wp_bin ?_ | with_reducible refine wp_cmp ?_ | with_reducible refine wp_ix ?_ | with_reducible refine wp_bt ?_ | with_reducible refine wp_mt ?_ | with_reducible refine wp_is ?_ | with_reducible refine wp_tru ?_ | with_reducible refine wp_not ?_ | with_reducible refine wp_or ?_ | with_reducible refine wp_and ?_ | with_reducible refine wp_rng1 ?_ | with_reducible refine wp_yes ?_ | with_reducible refine wp_lc ?_ | with_reducible refine wp_iLst ?_ | with_reducible refine wp_neg ?_ | with_reducible refine wp_isi ?_ | with_reducible refine wp_sl ?_ | with_reducible refine wp_noPart ?_ | with_reducible refine wp_part ?_ | with_reducible refine wp_rev ?_ | with_reducible refine wp_keys ?_ | with_reducible refine wp_eq2 ?_ | with_reducible refine wp_iStrD ?_ | with_reducible refine wp_dic0 ?_ | with_reducible refine wp_enum ?_ | with_reducible refine wp_eand ?_ | with_reducible refine wp_attr ?_ | with_reducible refine wp_eqO ?_ | with_reducible refine wp_ne2 ?_ | with_reducible refine wp_con ?_ | with_reducible refine wp_prop ?_ | with_reducible refine wp_enot ?_ | with_reducible refine wp_new ?_ | with_reducible refine wp_callK ?_ | with_reducible refine wp_get1 ?_ | with_reducible refine wp_get2 ?_ | with_reducible refine wp_iTp ?_ | with_reducible refine wp_iZip ?_ | with_reducible refine wp_meth ?_ | with_reducible refine wp_methK ?_ | with_reducible refine wp_inO ?_ | with_reducible refine wp_ixO ?_ | with_reducible refine ws_seq ?_ | with_reducible refine ws_nil ?_ | with_reducible refine ws_set ?_ | with_reducible refine ws_ret ?_ | with_reducible refine ws_if ?_ | with_reducible refine ws_asg ?_ | with_reducible refine ws_par2 ?_ | with_reducible refine ws_par3 ?_ | with_reducible refine ws_own ?_ | with_reducible refine ws_for ?_ | with_reducible refine ws_parO ?_ | with_reducible refine ws_forV ?_ | with_reducible refine ws_put ?_ | with_reducible refine ws_clr ?_ | with_reducible refine ws_fldR ?_ | with_reducible refine ws_del ?_ | ((with_reducible apply ws_app); (· exact rfl)) | ((with_reducible apply ws_putO); (· exact rfl)) | ((with_reducible apply ws_frz); (· exact rfl)) | ((with_reducible apply ws_frzp); (· exact rfl)) | ((with_reducible apply wp_loc); (· exact rfl)) | ((with_reducible apply wp_rd); (· exact rfl)) | ((with_reducible apply wp_rdo); (· exact rfl)) | ((with_reducible apply wp_args); (· exact rfl); (· exact rfl); (· exact rfl))))
abbrev Fr1 (s s' : Store) (n : Nat) : Prop := s'.length = s.length ∧ ∀ i, i ≠ n → s'[i]? = s[i]?
theorem Fr1.refl {s : Store} {n : Nat} : Fr1 s s n := ⟨rfl, fun _ _ => rfl⟩
theorem Fr1.trans {s t u : Store} {n : Nat} (h : Fr1 s t n) (g : Fr1 t u n) : Fr1 s u n := ⟨g.1.trans h.1, fun i hi => (g.2 i hi).trans (h.2 i hi)⟩
theorem q_source (ns : List Int) (at_ : Int) (h0 : 0 ≤ at_) (h1 : at_ < 60) (s : Store) {P : D → Store → Prop} (h : ∀ s', s'.length = s.length + 1 → SrcAt s' s.length 0 → (∀ i, i < s.length → s'[i]? = s[i]?) → P (.ref s.length) s') : Wp (M__law_source [.scr ns, .int at_] s) P := src1_fr ns at_ h0 h1 s h
theorem q_draw {s : Store} {n k : Nat} (S : SrcAt s n k) (hk : k < 100000000) {many : Int} (k0 : 0 < many) (k1 : many < 1000000000) {P : D → Store → Prop} (h : ∀ (d : Int) s', 0 ≤ d → d < many → Fr1 s s' n → SrcAt s' n (k + 1) → P (.int d) s') : Wp (M__law_draw [.ref n, .int many] s) P := drw1_fr S hk k0 k1 fun d s' a b c e f => h d s' a b ⟨c, f⟩ e
theorem q_of {s : Store} {n k : Nat} (S : SrcAt s n k) (hk : k < 100000000) {x : D} {ds : List D} (hx : ∀ s', Fr1 s s' n → der s' x = .lst ds) (k0 : 0 < ds.length) (k1 : ds.length < 1000000000) {P : D → Store → Prop} (h : ∀ d s', d ∈ ds → Fr1 s s' n → SrcAt s' n (k + 1) → P d s') : Wp (M__law_of [.ref n, x] s) P := by
  refine wp_fn ?_
  show Ws (m__law_of [.pu (.ref n), .pu (x)] _) _ _
  unfold m__law_of p__law_of_0
  (repeat fail)
  rw [List.map_cons, hx s .refl]
  (repeat fail)
  refine q_draw S hk (by omega) (by omega) fun d s' h0 h1 h2 h3 => ?_
  rw [hx s' h2]
  have e : atI ds d = some ds[d.toNat] := by
    unfold atI
    rw [ixN_at h0 h1]
    simp [show d.toNat < ds.length by omega]
  exact wo_some e (h _ _ (List.getElem_mem _) h2 h3)
theorem q_ofL {s : Store} {n k : Nat} (S : SrcAt s n k) (hk : k < 100000000) {ds : List D} (k0 : 0 < ds.length) (k1 : ds.length < 1000000000) {P : D → Store → Prop} (h : ∀ d s', d ∈ ds → Fr1 s s' n → SrcAt s' n (k + 1) → P d s') : Wp (M__law_of [.ref n, .lst ds] s) P := q_of S hk (fun _ _ => rfl) k0 k1 h
theorem notin_strs (w : Str) (T : List Str) : cmpD .NotIn (.str w) (.lst (T.map D.str)) = some (.bl (!decide (w ∈ T))) := by
  have e1 : (T.map D.str).all (okq 60) = true := by simp [okq]
  have e2 : ((T.map D.str).any fun y => deq y (.str w)) = decide (w ∈ T) := by
    rw [List.any_map, Bool.eq_iff_iff, List.any_eq_true, decide_eq_true_iff]
    constructor
    · rintro ⟨y, h1, h2⟩
      have h2 : deq (.str y) (.str w) = true := h2
      rw [deq_str] at h2
      rw [← of_decide_eq_true h2]
      exact h1
    · intro h
      exact ⟨w, h, by show deq (.str w) (.str w) = true; rw [deq_str]; simp⟩
  show (if (okq 60 (.str w) && (T.map D.str).all (okq 60)) = true then some (D.bl (!(T.map D.str).any fun y => deq y (.str w))) else none) = _
  rw [e1, e2]
  rfl
theorem cut8 (cs : List Nat) (h : cs.length ≤ 20) : cutOf (.str (strL cs)) none (some 8) = some (.str (strL (cs.take 8))) := by
  show (if (strL cs).length ≤ line then some (D.str (cutS (strL cs) none (some 8))) else none) = _
  rw [strL_len, if_pos (by unfold line; omega)]
  have e : cutS (strL cs) none (some 8) = strL (cs.take 8) := by
    unfold cutS
    rw [strL_len]
    show (⟨((cs.drop 0).take (min 8 cs.length - 0)).toArray⟩ : Str) = _
    rw [List.drop_zero, Nat.sub_zero]
    have : cs.take (min 8 cs.length) = cs.take 8 := by
      rcases Nat.le_total 8 cs.length with q | q
      · rw [Nat.min_eq_left q]
      · rw [Nat.min_eq_right q, List.take_length, List.take_of_length_le q]
    rw [this]
    rfl
  rw [e]
theorem add_strL (a b : List Nat) (h : a.length + b.length ≤ 100) : binop .Add (.str (strL a)) (.str (strL b)) = some (.str (strL (a ++ b))) := by
  show (if (strL a).length + (strL b).length ≤ line then some (D.str (strL a ++ strL b)) else none) = _
  rw [strL_len, strL_len, if_pos (by unfold line; omega), strL_app]
theorem q_word {s : Store} {n k : Nat} (S : SrcAt s n k) (hk : k < 90000000) {x : D} {T : List Str} (hx : ∀ s', Fr1 s s' n → der s' x = .lst (T.map .str)) (hT : T.length < 26) {P : D → Store → Prop} (h : ∀ (w : Str) s', Word w → w ∉ T → Fr1 s s' n → SrcAt s' n (k + 9) → P (.str w) s') : Wp (M__law_word [.ref n, x] s) P := by
  refine wp_fn ?_
  show Ws (m__law_word [.pu (.ref n), .pu (x), .no, .no, .no, .no, .no] _) _ _
  unfold m__law_word p__law_word_0 p__law_word_1 p__law_word_2 p__law_word_3 p__law_word_4
  (repeat fail)
  refine wp_lc ?_
  refine wq_rng1 ?_
  (repeat fail)
  refine q_draw S (by omega) (by decide) (by decide) fun d s1 h0 h1 f1 S1 => ?_
  (repeat fail)
  refine ⟨1 + d, rfl, ⟨by unfold big; omega, by unfold big; omega⟩, ?_⟩
  refine ⟨by rw [intsD_len]; unfold line; omega, fun ds acc s2 => ∃ (j : Nat) (cs : List Nat), ds.length + j = (1 + d).toNat ∧ (∀ d ∈ ds, ∃ i : Int, d = .int i) ∧ acc = cs.map (fun c => D.str (strL [c])) ∧ cs.length = j ∧ IsCs cs ∧ Fr1 s s2 n ∧ SrcAt s2 n (k + 1 + j), ⟨0, [], ?_, ?_, rfl, rfl, ?_, f1, S1⟩, ?_, ?_⟩
  · rw [intsD_len]; omega
  · exact fun d hd => let ⟨i, e, _⟩ := intsD_mem hd; ⟨i, e⟩
  · intro c hc; cases hc
  · rintro _ ds acc s2 ⟨j, cs, l1, l2, rfl, l3, l4, l5, S2⟩
    rw [List.length_cons] at l1
    obtain ⟨i, rfl⟩ := l2 _ List.mem_cons_self
    refine ⟨_, rfl, ?_⟩
    (repeat fail)
    refine q_draw S2 (by omega) (by decide) (by decide) fun d3 s3 e0 e1 e2 S3 => ?_
    refine wo_some (letters_at d3 e0 e1) ⟨j + 1, cs ++ [97 + d3.toNat], by omega, fun d hd => l2 d (List.mem_cons_of_mem _ hd), by simp, by simp [l3], ?_, l5.trans e2, S3⟩
    intro c hc
    rcases List.mem_append.mp hc with hc | hc
    · exact l4 c hc
    · rw [List.mem_singleton] at hc
      omega
  · rintro xs s2 ⟨j, cs, l1, l2, rfl, l3, l4, l5, S2⟩
    rw [List.length_nil] at l1
    refine wp_nil (wo_some (gJoin_chars cs (by omega)) ?_)
    refine ws_seq (ws_if (wq_is (wq_cmp (wp_rd rfl (wp_rd rfl ?_)))))
    rw [hx s2 l5]
    refine wo_some (notin_strs _ T) (wb_bl ?_)
    refine ifND (fun hw => ?_) (fun hw => ?_)
    · (repeat fail)
      exact h _ _ ⟨cs, rfl, by omega, by omega, l4⟩ hw l5 (S2.mono (by omega))
    · (repeat fail)
      refine wp_lcFil (as := List.range 26) (emb := fun i => .str (strL [97 + i])) (f := fun i => .str (strL [97 + i])) (cond := fun i => !decide (strL ((97 + i) :: cs.take 7) ∈ T)) ?_ (by rw [List.length_range]; unfold line; omega) ?_ ?_
      · (repeat fail)
        exact ⟨rfl, signs26⟩
      · intro i _
        refine ⟨_, rfl, ?_⟩
        refine wq_is (wq_cmp (wq_sl (wq_bin (wp_rd rfl (wp_rd rfl (wo_some (add_strL [97 + i] cs (by simp; omega)) (wp_noPart (wq_part (wp_C (wi_int (wo_some (cut8 _ (by simp; omega)) (wp_rd rfl ?_))))))))))))
        rw [hx s2 l5]
        refine wo_some (notin_strs _ T) (wb_bl ⟨rfl, rfl, fun _ => ?_⟩)
        (repeat fail)
        exact ⟨rfl, rfl⟩
      · obtain ⟨i, hi, hni⟩ : ∃ i, i < 26 ∧ strL ((97 + i) :: cs.take 7) ∉ T := by
          refine Decidable.byContradiction fun hno => ?_
          have := letters_count (cs := cs.take 7) 26 T fun i hi => Decidable.byContradiction fun z => hno ⟨i, hi, z⟩
          omega
        have hne : (List.range 26).filter (fun i => !decide (strL ((97 + i) :: cs.take 7) ∈ T)) ≠ [] := fun z => by
          have : i ∈ (List.range 26).filter (fun i => !decide (strL ((97 + i) :: cs.take 7) ∈ T)) := List.mem_filter.mpr ⟨List.mem_range.mpr hi, by rw [decide_eq_false hni]; rfl⟩
          rw [z] at this
          cases this
        cases hf : (List.range 26).filter (fun i => !decide (strL ((97 + i) :: cs.take 7) ∈ T)) with
        | nil => exact absurd hf hne
        | cons i0 rest =>
          have hm : i0 ∈ (List.range 26).filter (fun i => !decide (strL ((97 + i) :: cs.take 7) ∈ T)) := by rw [hf]; exact List.mem_cons_self
          obtain ⟨h26, hc⟩ := List.mem_filter.mp hm
          have h26 := List.mem_range.mp h26
          have hc : strL ((97 + i0) :: cs.take 7) ∉ T := by simpa using hc
          refine ws_ret (wq_sl (wq_bin (wq_ix (wp_rd rfl (wp_C (wo_some (a := .str (strL [97 + i0])) ?_ (wp_rd rfl (wo_some (add_strL [97 + i0] cs (by simp; omega)) (wp_noPart (wq_part (wp_C (wi_int (wo_some (cut8 _ (by simp; omega)) ?_)))))))))))))
          · show atI (D.str (strL [97 + i0]) :: _) 0 = _
            unfold atI
            rw [ixN_at (by decide) (by simp)]
            rfl
          refine h _ _ ⟨(97 + i0) :: cs.take 7, rfl, by simp, by simp; omega, ?_⟩ hc l5 (S2.mono (by omega))
          intro c hcc
          rcases List.mem_cons.mp hcc with rfl | hcc
          · omega
          · exact l4 c (List.mem_of_mem_take hcc)
theorem der_ref {s : Store} {n : Nat} {ds : List D} (h : s[n]? = some (.lst ds)) : der s (.ref n) = .lst ds := by
  show hid n ((s[n]?).getD _) = _
  rw [h]
  rfl
theorem mk_ref {s : Store} (x : D) {n : Nat} {d : D} (h : s[n]? = some d) : (s ++ [x])[n]? = some d := by
  rw [List.getElem?_append_left (get_lt h)]
  exact h
theorem new_ref {s : Store} (x : D) : (s ++ [x])[s.length]? = some x := by
  rw [List.getElem?_append_right (Nat.le_refl _), Nat.sub_self]; rfl
theorem set_ref {s : Store} {m n : Nat} {x d : D} (hmn : m ≠ n) (h : s[n]? = some d) : (s.set m x)[n]? = some d := by
  rw [List.getElem?_set_ne hmn]; exact h
theorem self_ref {s : Store} {n : Nat} {x d : D} (h : s[n]? = some d) : (s.set n x)[n]? = some x := List.getElem?_set_self (get_lt h)
theorem gAll_tt {α : Type} : ∀ cs : List α, gAll [.lst (cs.map fun _ => D.bl true)] = some (.bl true) := by
  intro cs
  have e : ∀ cs : List α, ∃ bs : List Bool, bools (cs.map fun _ => D.bl true) = some bs ∧ bs.all id = true := fun cs => by
    induction cs with
    | nil => exact ⟨[], rfl, rfl⟩
    | cons c cs ih =>
      obtain ⟨bs, e1, e2⟩ := ih
      refine ⟨true :: bs, ?_, ?_⟩
      · simp only [List.map_cons, bools, e1, Option.map_some]
      · simpa using e2
  obtain ⟨bs, e1, e2⟩ := e cs
  show (bools _).map _ = _
  rw [e1, Option.map_some, e2]
theorem isw_word {w : Str} (h : Word w) (s : Store) : M_is_word [.str w] s = .ok (.bl true) s := by
  obtain ⟨cs, rfl, h1, h2, h3⟩ := h
  refine wp_get (wp_fn ?_)
  show Ws (m_is_word [.pu (.str (strL cs)), .no] s) _ _
  unfold m_is_word p_is_word_0 p_is_word_1
  (repeat ac_rfl)
  refine ⟨_, rfl, ?_⟩
  refine ⟨true, rfl, ?_⟩
  have e : eChain .LtE .LtE (eC (.int 1)) (eBt gLen (eCons (eRd 0) (eNil))) (eC (.int 8)) [.pu (.str (strL cs)), .no] s = .ok (.bl true) s := by
    have e1 : gLen [.str (strL cs)] = some (.int cs.length) := by
      show (if (strL cs).length ≤ line then _ else _) = _
      have e : (strL cs).length = cs.length := rfl
      rw [e, if_pos (by unfold line; omega)]
    have e2 : cmpD .LtE (.int 1) (.int cs.length) = some (.bl true) := by
      show some (D.bl (decide ((1 : Int) ≤ cs.length))) = _
      rw [decide_eq_true (by omega)]
    have e3 : cmpD .LtE (.int cs.length) (.int 8) = some (.bl true) := by
      show some (D.bl (decide ((cs.length : Int) ≤ 8))) = _
      rw [decide_eq_true (by omega)]
    simp only [eChain, eC, eBt, eCons, eNil, eRd, List.getElem?_cons_zero, Res.bind_ok, List.map_cons, List.map_nil, der_int, Res.of_some, e2, e3, show der s (.str (strL cs)) = .str (strL cs) from rfl, e1]
  refine wp_not (wp_is (wp_eq e ⟨true, rfl, ?_⟩))
  rw [if_neg (by decide)]
  show Ws (bNil _ _) _ _
  show Ws (sRet _ _ _) _ _
  (repeat ac_rfl)
  refine ⟨_, rfl, ?_⟩
  rw [strSigns_L]
  refine ⟨by rw [List.length_map]; unfold line; omega, fun ds acc s' => ∃ xs ys : List Nat, xs ++ ys = cs ∧ ds = ys.map (fun c => D.str (strL [c])) ∧ acc = xs.map (fun _ => D.bl true) ∧ s' = s, ⟨[], cs, rfl, rfl, rfl, rfl⟩, ?_, ?_⟩
  · rintro d ds acc s' ⟨xs, ys, e1, e2, rfl, rfl⟩
    cases ys with
    | nil => cases e2
    | cons y ys =>
      cases e2
      refine ⟨_, rfl, ?_⟩
      (repeat ac_rfl)
      rw [if_pos rfl]
      (repeat ac_rfl)
      have hy : y ∈ cs := by rw [← e1]; exact List.mem_append.mpr (.inr List.mem_cons_self)
      refine ⟨_, in_letters y (h3 y hy).1 (h3 y hy).2, xs ++ [y], ys, by rw [List.append_assoc]; exact e1, rfl, by rw [List.map_append]; rfl, rfl⟩
  · rintro xs s' ⟨zs, ys, e1, e2, rfl, rfl⟩
    (repeat ac_rfl)
    exact ⟨_, gAll_tt zs, rfl, rfl⟩
def oddL : List D := [.str "", .str "abcdefghi", .str "A", .str "aB", .str "a1", .str "a b", .str " a", .str "a_", .str "-", .non, .int 0, .int 1, .bl true, .bl false, .int (-7), .int 1000000000000000000000000000000, .tup [.str "a"], .lst [.str "a"], .dic [(.str "a", .str "b")], .tup [], .lst [], .str "key"]
theorem odd_ok {s : Store} {n k : Nat} (S : SrcAt s n k) (hk : k < 80000000) {P : D → Store → Prop} (h : ∀ (x : D) s', x ∈ oddL → Fr1 s s' n → SrcAt s' n (k + 2) → P x s') : Wp (M__law_odd [.ref n] s) P := by
  refine wp_fn ?_
  show Ws (m__law_odd [.pu (.ref n)] _) _ _
  unfold m__law_odd p__law_odd_0
  (repeat fail)
  refine q_ofL S (by omega) (Nat.le_of_ble_eq_true rfl) (Nat.le_of_ble_eq_true rfl) fun x s1 hx f1 S1 => ?_
  (repeat fail)
  refine h x s1 ?_ f1 (S1.mono (by omega))
  unfold oddL
  simp only [List.mem_cons, List.not_mem_nil, or_false] at hx ⊢
  rcases hx with h | h | h | h | h | h | h | h | h | h | h | h | h | h | h | h | h | h | h | h | h <;> first | (simp [h]; done) | (simp [h]; rfl)
end Dn
namespace Dn
open PySem PySem.Spec L2
open PyProof.Rows hiding St RelV
/-- what a habit may be given -/
def HV (v : D) : Prop := (∃ w : Str, v = .str w) ∨ v = .non ∨ v = .int 0 ∨ v = .bl true ∨ v = .tup [.str "stop"] ∨ v = .lst []
def goodH (A : List Str) : D → Bool
  | .str w => decide (w ∈ A)
  | _ => false
abbrev hA1 : List Str := ["stop", "keep", "replace", "merge"]
abbrev hA2 : List Str := ["stop", "skip", "make"]
abbrev hA3 : List Str := ["stop", "skip"]
abbrev hA4 : List Str := ["one", "all"]
def badH (p l g v : D) : Option Str := if goodH hA1 p = false then some "present" else if goodH hA2 l = false then some "lacking" else if goodH hA3 g = false then some "gone" else if goodH hA4 v = false then some "shared" else none
def habD (p l g v : D) : D := .obj "Habits" [("present", p), ("lacking", l), ("gone", g), ("shared", v)]
theorem notin_tup (w : Str) (T : List Str) : cmpD .NotIn (.str w) (.tup (T.map D.str)) = some (.bl (!decide (w ∈ T))) := notin_strs w T
theorem seq_ex {m k : S} {ρ ρ1 : Loc} {s s1 : Store} {C : String} {fs : List (Str × D)} (h : m ρ s = .ex C fs ρ1 s1) : bCons m k ρ s = .ex C fs ρ1 s1 := by unfold bCons; rw [h]; rfl
theorem if_ff {c : ET} {m k : S} {ρ : Loc} {s s1 : Store} (h : c ρ s = .ok false s1) : sIf c m k ρ s = k ρ s1 := by unfold sIf; rw [h]; rfl
theorem if_tt {c : ET} {m k : S} {ρ : Loc} {s s1 : Store} (h : c ρ s = .ok true s1) : sIf c m k ρ s = m ρ s1 := by unfold sIf; rw [h]; rfl
abbrev LH (p l g v : D) (t5 t6 t7 : Slot) : Loc := [.ow true (.obj "Habits" []), .pu p, .pu l, .pu g, .pu v, t5, t6, t7]
theorem hab_step {p l g v x : D} {nm : Str} {A : List Str} (hx : HV x) (st : Store) : p_Habits___init___0b0 (LH p l g v (.pu (.str nm)) (.pu (.tup (A.map .str))) (.pu x)) st =
    if goodH A x = true then .nx (LH p l g v (.pu (.str nm)) (.pu (.tup (A.map .str))) (.pu x)) st else .ex "BadHabit" [("habit", .str nm)] (LH p l g v (.pu (.str nm)) (.pu (.tup (A.map .str))) (.pu x)) st := by
  have e : eOrT (eNotT (eTru (eIsi t_str (eRd 7)))) (eIs (eCmp .NotIn (eRd 7) (eRd 6))) (LH p l g v (.pu (.str nm)) (.pu (.tup (A.map .str))) (.pu x)) st = .ok (!goodH A x) st := by
    rcases hx with ⟨w, rfl⟩ | rfl | rfl | rfl | rfl | rfl
    · show ((eIs (eCmp .NotIn (eRd 7) (eRd 6))) (LH p l g v (.pu (.str nm)) (.pu (.tup (A.map .str))) (.pu (.str w))) st) = _
      show ((Res.of (cmpD .NotIn (.str w) (.tup (A.map .str))) st).bind _) = _
      rw [notin_tup]
      rfl
    all_goals kernel_rfl
  unfold p_Habits___init___0b0
  cases h : goodH A x with
  | true =>
    rw [h] at e
    rw [if_pos rfl, if_ff (s1 := st) e]
    rfl
  | false =>
    rw [h] at e
    rw [if_neg (by decide), if_tt (s1 := st) e]
    rfl
theorem hab_ok {p l g v : D} (hp : HV p) (hl : HV l) (hg : HV g) (hv : HV v) (st : Store) : M_Habits___init__ [p, l, g, v] st = match badH p l g v with
    | none => .ok (habD p l g v) st
    | some h => .ex "BadHabit" [("habit", .str h)] st := by
  show (m_Habits___init__ (LH p l g v .no .no .no) st).made = _
  have e0 : p_Habits___init___0 (LH p l g v .no .no .no) st = forM (.tup [.tup [.nm 5, .nm 6], .nm 7]) p_Habits___init___0b0 [.tup [.tup [.str "present", .tup (hA1.map .str)], p], .tup [.tup [.str "lacking", .tup (hA2.map .str)], l], .tup [.tup [.str "gone", .tup (hA3.map .str)], g], .tup [.tup [.str "shared", .tup (hA4.map .str)], v]] (LH p l g v .no .no .no) st := by kernel_rfl
  have st1 : ∀ (nm : Str) (A : List Str) (x : D) (r : List D) (t5 t6 t7 : Slot), forM (.tup [.tup [.nm 5, .nm 6], .nm 7]) p_Habits___init___0b0 (.tup [.tup [.str nm, .tup (A.map .str)], x] :: r) (LH p l g v t5 t6 t7) st = (match p_Habits___init___0b0 (LH p l g v (.pu (.str nm)) (.pu (.tup (A.map .str))) (.pu x)) st with
      | .nx ρ s => forM (.tup [.tup [.nm 5, .nm 6], .nm 7]) p_Habits___init___0b0 r ρ s
      | .ct ρ s => forM (.tup [.tup [.nm 5, .nm 6], .nm 7]) p_Habits___init___0b0 r ρ s
      | .bk ρ s => .nx ρ s
      | r => r) := fun nm A x r t5 t6 t7 => by kernel_rfl
  unfold m_Habits___init__ badH
  cases h1 : goodH hA1 p with
  | false =>
    rw [if_pos rfl]
    rw [st1, hab_step hp, h1, if_neg (by decide)] at e0
    rw [seq_ex e0]
    rfl
  | true =>
    rw [if_neg (by decide)]
    rw [st1, hab_step hp, h1, if_pos rfl] at e0
    dsimp only at e0
    cases h2 : goodH hA2 l with
    | false =>
      rw [if_pos rfl]
      rw [st1, hab_step hl, h2, if_neg (by decide)] at e0
      rw [seq_ex e0]
      rfl
    | true =>
      rw [if_neg (by decide)]
      rw [st1, hab_step hl, h2, if_pos rfl] at e0
      dsimp only at e0
      cases h3 : goodH hA3 g with
      | false =>
        rw [if_pos rfl]
        rw [st1, hab_step hg, h3, if_neg (by decide)] at e0
        rw [seq_ex e0]
        rfl
      | true =>
        rw [if_neg (by decide)]
        rw [st1, hab_step hg, h3, if_pos rfl] at e0
        dsimp only at e0
        cases h4 : goodH hA4 v with
        | false =>
          rw [if_pos rfl]
          rw [st1, hab_step hv, h4, if_neg (by decide)] at e0
          rw [seq_ex e0]
          rfl
        | true =>
          rw [if_neg (by decide)]
          rw [st1, hab_step hv, h4, if_pos rfl] at e0
          rw [seq_nx (e0.trans rfl)]
          kernel_rfl
end Dn
namespace Dn
open PySem PySem.Spec L2
open PyProof.Rows hiding St RelV
local macro_rules | `(tactic| fail) => `(tactic| (first | with_reducible refine wp_cons ?_ | with_reducible refine wp_nil ?_ | with_reducible refine wp_C ?_ | with_reducible refine wp_call ?_ | with_reducible refine wp_ifE ?_ | with_reducible refine wp_not ?_ | with_reducible refine wp_or ?_ | with_reducible refine wp_and ?_ | with_reducible refine wp_yes ?_ | with_reducible refine wp_noPart ?_ | with_reducible refine wp_dic0 ?_ | with_reducible refine wp_eqO ?_ | with_reducible refine wp_new ?_ | with_reducible refine wp_ixO ?_ | with_reducible refine wq_tup ?_ | with_reducible refine wq_lst ?_ | with_reducible refine wq_bin ?_ | with_reducible refine wq_cmp ?_ | with_reducible refine wq_ix ?_ | with_reducible refine wq_bt ?_ | with_reducible refine wq_mt ?_ | with_reducible refine wq_is ?_ | with_reducible refine wq_tru ?_ | with_reducible refine wq_attr ?_ | with_reducible refine wq_con ?_ | with_reducible refine wq_keys ?_ | with_reducible refine wq_rev ?_ | with_reducible refine wq_eq2 ?_ | with_reducible refine wq_ne2 ?_ | with_reducible refine wq_isi ?_ | with_reducible refine wq_sl ?_ | with_reducible refine wq_part ?_ | with_reducible refine wq_listO ?_ | with_reducible refine wq_iLst ?_ | with_reducible refine wq_iTp ?_ | with_reducible refine wq_iStrD ?_ | with_reducible refine wq_enot ?_ | with_reducible refine wq_eand ?_ | with_reducible refine wq_neg ?_ | with_reducible refine wq_get1 ?_ | with_reducible refine wq_get2 ?_ | with_reducible refine wq_prop ?_ | with_reducible refine wq_meth ?_ | with_reducible refine wq_methK ?_ | with_reducible refine wq_callK ?_ | with_reducible refine wq_inO ?_ | with_reducible refine wq_lenO ?_ | with_reducible refine wq_asg ?_ | with_reducible refine wq_par2 ?_ | with_reducible refine wq_parO ?_ | with_reducible refine wq_kOwn ?_ | with_reducible refine wq_ne3 ?_ | with_reducible refine wq_subB ?_ | with_reducible refine wq_op1 ?_ | with_reducible refine wq_op2 ?_ | with_reducible refine ws_seq ?_ | with_reducible refine ws_nil ?_ | with_reducible refine ws_set ?_ | with_reducible refine ws_ret ?_ | with_reducible refine ws_if ?_ | with_reducible refine ws_par3 ?_ | with_reducible refine ws_own ?_ | with_reducible refine wb_bl ?_ | with_reducible refine wl_lst ?_ | with_reducible refine wt_tup ?_ | with_reducible refine wi_int ?_ | with_reducible refine wstr ?_ | with_reducible refine lcw_cons ?_ | with_reducible refine lcw_nil ?_ | with_reducible refine fow_cons ?_ | with_reducible refine fow_nil ?_ | ((with_reducible refine wp_loc  (d := ?_) ?_  ?_); (rotate_left 1); (· exact rfl)) | ((with_reducible refine wp_rd  (d := ?_) ?_  ?_); (rotate_left 1); (· exact rfl)) | ((with_reducible refine wp_rdo  (b := ?_) (d := ?_) ?_  ?_); (rotate_left 2); (· exact rfl)) | ((with_reducible refine wp_args  (ds' := ?_) ?_ ?_ ?_  ?_); (rotate_left 1); (· exact rfl); (· exact rfl); (· exact rfl)) | ((with_reducible refine ws_frz  (d := ?_) ?_  ?_); (rotate_left 1); (· exact rfl)) | ((with_reducible refine ws_frzp  (d := ?_) ?_  ?_); (rotate_left 1); (· exact rfl)) | ((with_reducible refine wq_app  (b := ?_) (ds := ?_) ?_  ?_); (rotate_left 2); (· exact rfl)) | ((with_reducible refine wq_putO  (b := ?_) (c := ?_) ?_  ?_); (rotate_left 2); (· exact rfl)) | ((with_reducible refine wn_of ?_ ?_); (· first | exact Nat.le_of_ble_eq_true rfl | (simp only [List.length_map, List.length_append, List.length_cons, List.length_nil]; unfold line; omega))) | ((with_reducible refine wc_of ?_ ?_); (· first | exact rfl | exact ⟨rfl, rfl⟩ | exact ⟨by decide, rfl⟩ | decide | exact Nat.le_of_ble_eq_true rfl)) | ((with_reducible refine wo_some (o := cmpD _ _ _) (a := ?_) ?_  ?_); (rotate_left 1); (· first | exact eq_int _ _ | exact ne_int _ _ | exact eq_str _ _ | exact ne_str _ _ | exact ld_in _ _ | exact ld_notin _ _ | exact in_tups _ _ | exact notin_tups _ _ | exact in_ints _ _ | exact notin_ints _ _ | exact eq_ints _ _ | exact ne_ints _ _ | exact eq_strs _ _ | exact ne_strsL _ _ | exact eq_strsT _ _ | exact in_strs _ _)) | ((with_reducible refine wo_some (o := gSort _) (a := ?_) ?_  ?_); (rotate_left 1); (· first | exact sort_ints _)) | ((with_reducible refine wo_some (o := keysD _) (a := ?_) ?_  ?_); (rotate_left 1); (· first | exact keys_ld _ | exact keys_sd _)) | ((with_reducible refine wo_some  (a := ?_) ?_  ?_); (rotate_left 1); (· exact rfl)) | ((with_reducible refine ifT ?_ ?_); (· exact rfl)) | ((with_reducible refine ifF ?_ ?_); (· exact rfl)) | with_reducible refine ifNN ?_ | ((with_reducible refine ifNDF ?_ ?_); (· with_reducible exact rfl)) | ((with_reducible refine ifDT ?_ ?_); (· with_reducible exact rfl)) | ((with_reducible refine ifNDF ?_ ?_); (· assumption)) | ((with_reducible refine ifNDT ?_ ?_); (· assumption)) | ((with_reducible refine ifDF ?_ ?_); (· assumption)) | ((with_reducible refine ifDT ?_ ?_); (· assumption)) | ((with_reducible refine ifT ?_ ?_); (· assumption)) | ((with_reducible refine ifF ?_ ?_); (· assumption)) | with_reducible refine wpp_nil ?_ | with_reducible refine wpp_cons ?_ | with_reducible refine wq_dic ?_ | with_reducible refine wq_items ?_ | with_reducible refine wq_eqN ?_ | with_reducible refine wq_cat ?_ | ((with_reducible refine wq_augO  (d := ?_) ?_  ?_); (rotate_left 1); (· exact rfl)) | with_reducible refine wq_kOp2 ?_ | ((with_reducible refine wo_some (o := catD _ _) (a := ?_) ?_  ?_); (rotate_left 1); (· first | exact rfl | exact cat_lst (by simp only [List.length_map, List.length_append, List.length_cons, List.length_nil]; unfold line; omega)))))
/-- an entry of the columns: a word, or another value and whether the law knows it as wrong -/
inductive Cn where
  | wd (w : Str)
  | od (x : D) (f : Bool)
def Cn.d : Cn → D
  | .wd w => .str w
  | .od x _ => x
def Cn.fl : Cn → D
  | .wd _ => .bl false
  | .od _ f => .bl f
def Cn.ok : Cn → Prop
  | .wd w => Word w ∧ w ≠ "key"
  | .od x _ => x ∈ oddL
def badC : List Str → Nat → List Cn → Option Nat
  | _, _, [] => none
  | _, k, .od _ _ :: _ => some k
  | pre, k, .wd w :: es => if w ∈ pre then some k else badC (pre ++ [w]) (k + 1) es
theorem isw_odd {x : D} (h : x ∈ oddL) : x = .str "key" ∨ ∀ st, M_is_word [x] st = .ok (.bl false) st := by
  simp only [oddL, List.mem_cons, List.not_mem_nil, or_false] at h
  rcases h with rfl | rfl | rfl | rfl | rfl | rfl | rfl | rfl | rfl | rfl | rfl | rfl | rfl | rfl | rfl | rfl | rfl | rfl | rfl | rfl | rfl | rfl
  all_goals first | exact .inl rfl | exact .inr fun st => by kernel_rfl
abbrev LT15 (nm c hs : D) (fs : List (Str × D)) (t4 t5 t6 : Slot) : Loc := [.ow true (.obj "Target" fs), .pu nm, .pu c, .pu hs, t4, t5, t6]
theorem tg_od {nm c hs x ns : D} {k : Nat} {st : Store} (h : x ∈ oddL) : p_Target___init___2b0 (LT15 nm c hs [] (.ow false ns) (.pu (.int (k : Int))) (.pu x)) st = .ex "BadTarget" [("at", .int (k : Int))] (LT15 nm c hs [] (.ow false ns) (.pu (.int (k : Int))) (.pu x)) st := by
  unfold p_Target___init___2b0
  have e : eOrT (eNotT (eTru (eCall (argsM 1 0 [0] [] M_is_word) (eCons (eLoc 6) (eNil))))) (eOrT (eIs (eCmp .Eq (eRd 6) (eC (.str "key")))) (eIs (eCmp .In (eRd 6) (eRd 4)))) (LT15 nm c hs [] (.ow false ns) (.pu (.int (k : Int))) (.pu x)) st = .ok true st := by
    rcases isw_odd h with rfl | hw
    · kernel_rfl
    · refine wp_getB ?_
      (repeat fail)
      refine wp_eq (hw st) ?_
      (repeat fail)
      exact ⟨rfl, rfl⟩
  rw [if_tt (s1 := st) e]
  rfl
theorem tg_wd {nm c hs : D} {w : Str} {k : Nat} {ns : List Str} {st : Store} (hw : Word w) (hk : w ≠ "key") : p_Target___init___2b0 (LT15 nm c hs [] (.ow false (.lst (ns.map .str))) (.pu (.int (k : Int))) (.pu (.str w))) st =
    if w ∈ ns then .ex "BadTarget" [("at", .int (k : Int))] (LT15 nm c hs [] (.ow false (.lst (ns.map .str))) (.pu (.int (k : Int))) (.pu (.str w))) st
    else .nx (LT15 nm c hs [] (.ow false (.lst (ns.map .str))) (.pu (.int (k : Int))) (.pu (.str w))) st := by
  unfold p_Target___init___2b0
  have e : eOrT (eNotT (eTru (eCall (argsM 1 0 [0] [] M_is_word) (eCons (eLoc 6) (eNil))))) (eOrT (eIs (eCmp .Eq (eRd 6) (eC (.str "key")))) (eIs (eCmp .In (eRd 6) (eRd 4)))) (LT15 nm c hs [] (.ow false (.lst (ns.map .str))) (.pu (.int (k : Int))) (.pu (.str w))) st = .ok (decide (w ∈ ns)) st := by
    refine wp_getB ?_
    (repeat fail)
    refine wp_eq (isw_word hw st) ?_
    (repeat fail)
    exact ⟨rfl, rfl⟩
  by_cases h : w ∈ ns
  · rw [if_pos h, if_tt (s1 := st) (by rw [e, decide_eq_true h])]
    rfl
  · rw [if_neg h, if_ff (s1 := st) (by rw [e, decide_eq_false h])]
    rfl
abbrev tBody : S := (bCons (p_Target___init___2b0) <| sApp 4 (eLoc 6))
theorem loop15 (nm c hs : D) (st : Store) : ∀ (post : List Cn) (pre : List Str) (k : Nat) (t5 t6 : Slot), (∀ e ∈ post, e.ok) → pre.length + post.length ≤ 100 →
    (∃ t5' t6' ws, forM (.tup [.nm 5, .nm 6]) tBody (enumD k (post.map Cn.d)) (LT15 nm c hs [] (.ow false (.lst (pre.map .str))) t5 t6) st = .nx (LT15 nm c hs [] (.ow false (.lst (List.map D.str ws))) t5' t6') st ∧ badC pre k post = none ∧ ∃ us : List Str, post = us.map Cn.wd) ∨
    ∃ j ρ', forM (.tup [.nm 5, .nm 6]) tBody (enumD k (post.map Cn.d)) (LT15 nm c hs [] (.ow false (.lst (pre.map .str))) t5 t6) st = .ex "BadTarget" [("at", .int ((j : Nat) : Int))] ρ' st ∧ badC pre k post = some j
  | [], pre, k, t5, t6, _, _ => .inl ⟨t5, t6, pre, rfl, rfl, [], rfl⟩
  | e :: post, pre, k, t5, t6, ho, hl => by
    have e0 : forM (.tup [.nm 5, .nm 6]) tBody (enumD k ((e :: post).map Cn.d)) (LT15 nm c hs [] (.ow false (.lst (pre.map .str))) t5 t6) st = (match tBody (LT15 nm c hs [] (.ow false (.lst (pre.map .str))) (.pu (.int (k : Int))) (.pu e.d)) st with
      | .nx ρ s => forM (.tup [.nm 5, .nm 6]) tBody (enumD (k + 1) (post.map Cn.d)) ρ s
      | .ct ρ s => forM (.tup [.nm 5, .nm 6]) tBody (enumD (k + 1) (post.map Cn.d)) ρ s
      | .bk ρ s => .nx ρ s
      | r => r) := rfl
    rw [List.length_cons] at hl
    rw [e0]
    cases e with
    | od x f =>
      have hx : x ∈ oddL := ho (.od x f) List.mem_cons_self
      have q : tBody (LT15 nm c hs [] (.ow false (.lst (pre.map .str))) (.pu (.int (k : Int))) (.pu (Cn.od x f).d)) st = .ex "BadTarget" [("at", .int (k : Int))] (LT15 nm c hs [] (.ow false (.lst (pre.map .str))) (.pu (.int (k : Int))) (.pu x)) st := seq_ex (tg_od hx)
      refine .inr ⟨k, LT15 nm c hs [] (.ow false (.lst (pre.map .str))) (.pu (.int (k : Int))) (.pu x), ?_, rfl⟩
      rw [q]
    | wd w =>
      have hw : Word w ∧ w ≠ "key" := ho (.wd w) List.mem_cons_self
      have q := tg_wd (nm := nm) (c := c) (hs := hs) (k := k) (ns := pre) (st := st) hw.1 hw.2
      show _ ∨ ∃ j ρ', _ ∧ (if w ∈ pre then some k else badC (pre ++ [w]) (k + 1) post) = some j
      by_cases h : w ∈ pre
      · rw [if_pos h] at q
        have q2 : tBody (LT15 nm c hs [] (.ow false (.lst (pre.map .str))) (.pu (.int (k : Int))) (.pu (Cn.wd w).d)) st = .ex "BadTarget" [("at", .int (k : Int))] (LT15 nm c hs [] (.ow false (.lst (pre.map .str))) (.pu (.int (k : Int))) (.pu (.str w))) st := seq_ex q
        refine .inr ⟨k, LT15 nm c hs [] (.ow false (.lst (pre.map .str))) (.pu (.int (k : Int))) (.pu (.str w)), ?_, if_pos h⟩
        rw [q2]
      · rw [if_neg h] at q
        have a : sApp 4 (eLoc 6) (LT15 nm c hs [] (.ow false (.lst (pre.map .str))) (.pu (.int (k : Int))) (.pu (.str w))) st = .nx (LT15 nm c hs [] (.ow false (.lst ((pre ++ [w]).map .str))) (.pu (.int (k : Int))) (.pu (.str w))) st := by
          show (if (pre.map D.str).length < line then SRes.nx (LT15 nm c hs [] (.ow false (.lst (pre.map .str ++ [.str w]))) (.pu (.int (k : Int))) (.pu (.str w))) st else .bad) = _
          rw [if_pos (by rw [List.length_map]; unfold line; omega), List.map_append]
          rfl
        have q2 : tBody (LT15 nm c hs [] (.ow false (.lst (pre.map .str))) (.pu (.int (k : Int))) (.pu (Cn.wd w).d)) st = .nx (LT15 nm c hs [] (.ow false (.lst ((pre ++ [w]).map .str))) (.pu (.int (k : Int))) (.pu (.str w))) st := (seq_nx q).trans a
        rw [q2]
        rw [if_neg h]
        have ih := loop15 nm c hs st post (pre ++ [w]) (k + 1) (.pu (.int (k : Int))) (.pu (.str w)) (fun e he => ho e (List.mem_cons_of_mem _ he)) (by rw [List.length_append, List.length_singleton]; omega)
        have eb : badC pre k (Cn.wd w :: post) = badC (pre ++ [w]) (k + 1) post := if_neg h
        rw [eb]
        rcases ih with ⟨t5', t6', ws, i1, i2, us, i3⟩ | i
        · exact .inl ⟨t5', t6', ws, i1, i2, w :: us, by rw [i3]; rfl⟩
        · exact .inr i
end Dn
namespace Dn
open PySem PySem.Spec L2
open PyProof.Rows hiding St RelV
local macro_rules | `(tactic| fail) => `(tactic| (first | with_reducible refine wp_cons ?_ | with_reducible refine wp_nil ?_ | with_reducible refine wp_C ?_ | with_reducible refine wp_call ?_ | with_reducible refine wp_ifE ?_ | with_reducible refine wp_not ?_ | with_reducible refine wp_or ?_ | with_reducible refine wp_and ?_ | with_reducible refine wp_yes ?_ | with_reducible refine wp_noPart ?_ | with_reducible refine wp_dic0 ?_ | with_reducible refine wp_eqO ?_ | with_reducible refine wp_new ?_ | with_reducible refine wp_ixO ?_ | with_reducible refine wq_tup ?_ | with_reducible refine wq_lst ?_ | with_reducible refine wq_bin ?_ | with_reducible refine wq_cmp ?_ | with_reducible refine wq_ix ?_ | with_reducible refine wq_bt ?_ | with_reducible refine wq_mt ?_ | with_reducible refine wq_is ?_ | with_reducible refine wq_tru ?_ | with_reducible refine wq_attr ?_ | with_reducible refine wq_con ?_ | with_reducible refine wq_keys ?_ | with_reducible refine wq_rev ?_ | with_reducible refine wq_eq2 ?_ | with_reducible refine wq_ne2 ?_ | with_reducible refine wq_isi ?_ | with_reducible refine wq_sl ?_ | with_reducible refine wq_part ?_ | with_reducible refine wq_listO ?_ | with_reducible refine wq_iLst ?_ | with_reducible refine wq_iTp ?_ | with_reducible refine wq_iStrD ?_ | with_reducible refine wq_enot ?_ | with_reducible refine wq_eand ?_ | with_reducible refine wq_neg ?_ | with_reducible refine wq_get1 ?_ | with_reducible refine wq_get2 ?_ | with_reducible refine wq_prop ?_ | with_reducible refine wq_meth ?_ | with_reducible refine wq_methK ?_ | with_reducible refine wq_callK ?_ | with_reducible refine wq_inO ?_ | with_reducible refine wq_lenO ?_ | with_reducible refine wq_asg ?_ | with_reducible refine wq_par2 ?_ | with_reducible refine wq_parO ?_ | with_reducible refine wq_kOwn ?_ | with_reducible refine wq_ne3 ?_ | with_reducible refine wq_subB ?_ | with_reducible refine wq_op1 ?_ | with_reducible refine wq_op2 ?_ | with_reducible refine ws_seq ?_ | with_reducible refine ws_nil ?_ | with_reducible refine ws_set ?_ | with_reducible refine ws_ret ?_ | with_reducible refine ws_if ?_ | with_reducible refine ws_par3 ?_ | with_reducible refine ws_own ?_ | with_reducible refine wb_bl ?_ | with_reducible refine wl_lst ?_ | with_reducible refine wt_tup ?_ | with_reducible refine wi_int ?_ | with_reducible refine wstr ?_ | with_reducible refine lcw_cons ?_ | with_reducible refine lcw_nil ?_ | with_reducible refine fow_cons ?_ | with_reducible refine fow_nil ?_ | ((with_reducible refine wp_loc  (d := ?_) ?_  ?_); (rotate_left 1); (· exact rfl)) | ((with_reducible refine wp_rd  (d := ?_) ?_  ?_); (rotate_left 1); (· exact rfl)) | ((with_reducible refine wp_rdo  (b := ?_) (d := ?_) ?_  ?_); (rotate_left 2); (· exact rfl)) | ((with_reducible refine wp_args  (ds' := ?_) ?_ ?_ ?_  ?_); (rotate_left 1); (· exact rfl); (· exact rfl); (· exact rfl)) | ((with_reducible refine ws_frz  (d := ?_) ?_  ?_); (rotate_left 1); (· exact rfl)) | ((with_reducible refine ws_frzp  (d := ?_) ?_  ?_); (rotate_left 1); (· exact rfl)) | ((with_reducible refine wq_app  (b := ?_) (ds := ?_) ?_  ?_); (rotate_left 2); (· exact rfl)) | ((with_reducible refine wq_putO  (b := ?_) (c := ?_) ?_  ?_); (rotate_left 2); (· exact rfl)) | ((with_reducible refine wn_of ?_ ?_); (· first | exact Nat.le_of_ble_eq_true rfl | (simp only [List.length_map, List.length_append, List.length_cons, List.length_nil]; unfold line; omega))) | ((with_reducible refine wc_of ?_ ?_); (· first | exact rfl | exact ⟨rfl, rfl⟩ | exact ⟨by decide, rfl⟩ | decide | exact Nat.le_of_ble_eq_true rfl)) | ((with_reducible refine wo_some (o := cmpD _ _ _) (a := ?_) ?_  ?_); (rotate_left 1); (· first | exact eq_int _ _ | exact ne_int _ _ | exact eq_str _ _ | exact ne_str _ _ | exact ld_in _ _ | exact ld_notin _ _ | exact in_tups _ _ | exact notin_tups _ _ | exact in_ints _ _ | exact notin_ints _ _ | exact eq_ints _ _ | exact ne_ints _ _ | exact eq_strs _ _ | exact ne_strsL _ _ | exact eq_strsT _ _ | exact in_strs _ _)) | ((with_reducible refine wo_some (o := gSort _) (a := ?_) ?_  ?_); (rotate_left 1); (· first | exact sort_ints _)) | ((with_reducible refine wo_some (o := keysD _) (a := ?_) ?_  ?_); (rotate_left 1); (· first | exact keys_ld _ | exact keys_sd _)) | ((with_reducible refine wo_some  (a := ?_) ?_  ?_); (rotate_left 1); (· exact rfl)) | ((with_reducible refine ifT ?_ ?_); (· exact rfl)) | ((with_reducible refine ifF ?_ ?_); (· exact rfl)) | with_reducible refine ifNN ?_ | ((with_reducible refine ifNDF ?_ ?_); (· with_reducible exact rfl)) | ((with_reducible refine ifDT ?_ ?_); (· with_reducible exact rfl)) | ((with_reducible refine ifNDF ?_ ?_); (· assumption)) | ((with_reducible refine ifNDT ?_ ?_); (· assumption)) | ((with_reducible refine ifDF ?_ ?_); (· assumption)) | ((with_reducible refine ifDT ?_ ?_); (· assumption)) | ((with_reducible refine ifT ?_ ?_); (· assumption)) | ((with_reducible refine ifF ?_ ?_); (· assumption)) | with_reducible refine wpp_nil ?_ | with_reducible refine wpp_cons ?_ | with_reducible refine wq_dic ?_ | with_reducible refine wq_items ?_ | with_reducible refine wq_eqN ?_ | with_reducible refine wq_cat ?_ | ((with_reducible refine wq_augO  (d := ?_) ?_  ?_); (rotate_left 1); (· exact rfl)) | with_reducible refine wq_kOp2 ?_ | ((with_reducible refine wo_some (o := catD _ _) (a := ?_) ?_  ?_); (rotate_left 1); (· first | exact rfl | exact cat_lst (by simp only [List.length_map, List.length_append, List.length_cons, List.length_nil]; unfold line; omega)))))
theorem badC_none : ∀ {es : List Cn} {pre : List Str} {k : Nat}, badC pre k es = none → ∃ us : List Str, es = us.map Cn.wd
  | [], _, _, _ => ⟨[], rfl⟩
  | .od _ _ :: _, _, _, h => by cases h
  | .wd w :: es, pre, k, h => by
    have h : (if w ∈ pre then some k else badC (pre ++ [w]) (k + 1) es) = none := h
    split at h
    · cases h
    · obtain ⟨us, e⟩ := badC_none h
      exact ⟨w :: us, by rw [e]; rfl⟩
theorem tup_words {ρ : Loc} {st : Store} {c : D} {es : List Cn} (hr : ρ[2]? = some (.pu c)) (hc : c = .lst (es.map Cn.d) ∨ c = .tup (es.map Cn.d)) (hl : es.length ≤ 100) : eBt gTuple (eCons (eRd 2) (eNil)) ρ st = .ok (.tup (es.map Cn.d)) st := by
  have e : eRd 2 ρ st = .ok c st := by unfold eRd; rw [hr]
  show ((((eRd 2 ρ st).bind fun d s => .ok [d] s)).bind _ : Res D) = _
  rw [e]
  rcases hc with rfl | rfl
  · rfl
  · rfl
/-- the name is none -/
def oddN : List D := .str "table" :: oddL
theorem tinit_odd {x c hs : D} (hx : x ∈ oddN) (st : Store) : M_Target___init__ [x, c, hs] st = .ex "BadTarget" [("at", .int (-1))] st := by
  show (m_Target___init__ (LT15 x c hs [] .no .no .no) st).made = _
  have e : eOrT (eNotT (eTru (eCall (argsM 1 0 [0] [] M_is_word) (eCons (eLoc 1) (eNil))))) (eIs (eCmp .In (eRd 1) (eTup (eCons (eC (.str "table")) (eCons (eC (.str "key")) (eNil)))))) (LT15 x c hs [] .no .no .no) st = .ok true st := by
    rcases List.mem_cons.mp hx with rfl | h
    · kernel_rfl
    · rcases isw_odd h with rfl | hw
      · kernel_rfl
      · refine wp_getB ?_
        (repeat fail)
        refine wp_eq (hw st) ?_
        (repeat fail)
        exact ⟨rfl, rfl⟩
  have q : p_Target___init___0 (LT15 x c hs [] .no .no .no) st = .ex "BadTarget" [("at", .int (-1))] (LT15 x c hs [] .no .no .no) st := by
    unfold p_Target___init___0
    rw [if_tt (s1 := st) e]
    rfl
  unfold m_Target___init__
  rw [seq_ex q]
  rfl
theorem tinit0 {w : Str} {c hs : D} (hw : Word w) (h1 : w ≠ "table") (h2 : w ≠ "key") (st : Store) : p_Target___init___0 (LT15 (.str w) c hs [] .no .no .no) st = .nx (LT15 (.str w) c hs [] .no .no .no) st := by
  have e : eOrT (eNotT (eTru (eCall (argsM 1 0 [0] [] M_is_word) (eCons (eLoc 1) (eNil))))) (eIs (eCmp .In (eRd 1) (eTup (eCons (eC (.str "table")) (eCons (eC (.str "key")) (eNil)))))) (LT15 (.str w) c hs [] .no .no .no) st = .ok false st := by
    refine wp_getB ?_
    (repeat fail)
    refine wp_eq (isw_word hw st) ?_
    (repeat fail)
    refine ⟨?_, rfl⟩
    show ((("table" : Str) == w) || ((("key" : Str) == w) || false)) = false
    rw [beq_false_of_ne (Ne.symm h1), beq_false_of_ne (Ne.symm h2)]
    rfl
  unfold p_Target___init___0
  rw [if_ff (s1 := st) e]
  rfl
/-- what a target is when its columns are looked through -/
def tgtD (w : Str) (cs h : D) : D := .obj "Target" [("name", .str w), ("columns", cs), ("habits", h)]
def tgtR (b : Option Nat) (bh : Option Str) (T : D) (st : Store) : Res D := match b with
  | some j => .ex "BadTarget" [("at", .int (j : Int))] st
  | none => match bh with
    | none => .ok T st
    | some h => .ex "BadHabit" [("habit", .str h)] st
theorem tinit {w : Str} {es : List Cn} {c hs : D} {st : Store} {bh : Option Str} {hd : D} (hw : Word w) (h1 : w ≠ "table") (h2 : w ≠ "key") (ho : ∀ e ∈ es, e.ok) (hc : c = .lst (es.map Cn.d) ∨ c = .tup (es.map Cn.d)) (hl : es.length ≤ 100)
    (h5 : ∀ fs t4 t5 t6, fs = [(("name" : Str), D.str w), (("columns" : Str), D.tup (es.map Cn.d))] → p_Target___init___5 (LT15 (.str w) c hs fs t4 t5 t6) st = match bh with
      | none => .nx (LT15 (.str w) c hs [("name", .str w), ("columns", .tup (es.map Cn.d)), ("habits", hd)] t4 t5 t6) st
      | some h => .ex "BadHabit" [("habit", .str h)] (LT15 (.str w) c hs fs t4 t5 t6) st) :
    M_Target___init__ [.str w, c, hs] st = tgtR (badC [] 0 es) bh (tgtD w (.tup (es.map Cn.d)) hd) st := by
  unfold tgtR
  show (m_Target___init__ (LT15 (.str w) c hs [] .no .no .no) st).made = _
  unfold m_Target___init__
  rw [seq_nx (tinit0 hw h1 h2 st)]
  have q1 : sOwn 4 (eLst eNil) (LT15 (.str w) c hs [] .no .no .no) st = .nx (LT15 (.str w) c hs [] (.ow false (.lst (List.map D.str []))) .no .no) st := rfl
  rw [seq_nx q1]
  have e3 : p_Target___init___2 (LT15 (.str w) c hs [] (.ow false (.lst (List.map D.str []))) .no .no) st = forM (.tup [.nm 5, .nm 6]) tBody (enumD 0 (es.map Cn.d)) (LT15 (.str w) c hs [] (.ow false (.lst (List.map D.str []))) .no .no) st := by
    rcases hc with rfl | rfl <;> rfl
  rcases loop15 (.str w) c hs st es [] 0 .no .no ho (by rw [List.length_nil]; omega) with ⟨t5, t6, ws, e, b, us, hus⟩ | ⟨j, ρ', e, b⟩
  · rw [← e3] at e
    rw [seq_nx e, b]
    have q4 : ∀ t4 t5 t6, p_Target___init___4 (LT15 (.str w) c hs [("name", .str w)] t4 t5 t6) st = .nx (LT15 (.str w) c hs [("name", .str w), ("columns", .tup (es.map Cn.d))] t4 t5 t6) st := fun t4 t5 t6 => by
      show (eBt gTuple (eCons (eRd 2) (eNil)) (LT15 (.str w) c hs [("name", .str w)] t4 t5 t6) st).to _ _ = _
      rw [tup_words rfl hc hl]
      rfl
    have q3 : ∀ t4 t5 t6, sFldO ["Target"] 0 "name" (eLoc 1) (LT15 (.str w) c hs [] t4 t5 t6) st = .nx (LT15 (.str w) c hs [("name", .str w)] t4 t5 t6) st := fun t4 t5 t6 => rfl
    rw [seq_nx (q3 _ _ _), seq_nx (q4 _ _ _), h5 _ _ _ _ rfl]
    cases bh <;> rfl
  · rw [← e3] at e
    rw [seq_ex e, b]
    rfl
end Dn
namespace Dn
open PySem PySem.Spec L2
open PyProof.Rows hiding St RelV
local macro_rules | `(tactic| fail) => `(tactic| (first | with_reducible refine wp_cons ?_ | with_reducible refine wp_nil ?_ | with_reducible refine wp_C ?_ | with_reducible refine wp_call ?_ | with_reducible refine wp_ifE ?_ | with_reducible refine wp_not ?_ | with_reducible refine wp_or ?_ | with_reducible refine wp_and ?_ | with_reducible refine wp_yes ?_ | with_reducible refine wp_noPart ?_ | with_reducible refine wp_dic0 ?_ | with_reducible refine wp_eqO ?_ | with_reducible refine wp_new ?_ | with_reducible refine wp_ixO ?_ | with_reducible refine wq_tup ?_ | with_reducible refine wq_lst ?_ | with_reducible refine wq_bin ?_ | with_reducible refine wq_cmp ?_ | with_reducible refine wq_ix ?_ | with_reducible refine wq_bt ?_ | with_reducible refine wq_mt ?_ | with_reducible refine wq_is ?_ | with_reducible refine wq_tru ?_ | with_reducible refine wq_attr ?_ | with_reducible refine wq_con ?_ | with_reducible refine wq_keys ?_ | with_reducible refine wq_rev ?_ | with_reducible refine wq_eq2 ?_ | with_reducible refine wq_ne2 ?_ | with_reducible refine wq_isi ?_ | with_reducible refine wq_sl ?_ | with_reducible refine wq_part ?_ | with_reducible refine wq_listO ?_ | with_reducible refine wq_iLst ?_ | with_reducible refine wq_iTp ?_ | with_reducible refine wq_iStrD ?_ | with_reducible refine wq_enot ?_ | with_reducible refine wq_eand ?_ | with_reducible refine wq_neg ?_ | with_reducible refine wq_get1 ?_ | with_reducible refine wq_get2 ?_ | with_reducible refine wq_prop ?_ | with_reducible refine wq_meth ?_ | with_reducible refine wq_methK ?_ | with_reducible refine wq_callK ?_ | with_reducible refine wq_inO ?_ | with_reducible refine wq_lenO ?_ | with_reducible refine wq_asg ?_ | with_reducible refine wq_par2 ?_ | with_reducible refine wq_parO ?_ | with_reducible refine wq_kOwn ?_ | with_reducible refine wq_ne3 ?_ | with_reducible refine wq_subB ?_ | with_reducible refine wq_op1 ?_ | with_reducible refine wq_op2 ?_ | with_reducible refine ws_seq ?_ | with_reducible refine ws_nil ?_ | with_reducible refine ws_set ?_ | with_reducible refine ws_ret ?_ | with_reducible refine ws_if ?_ | with_reducible refine ws_par3 ?_ | with_reducible refine ws_own ?_ | with_reducible refine wb_bl ?_ | with_reducible refine wl_lst ?_ | with_reducible refine wt_tup ?_ | with_reducible refine wi_int ?_ | with_reducible refine wstr ?_ | with_reducible refine lcw_cons ?_ | with_reducible refine lcw_nil ?_ | with_reducible refine fow_cons ?_ | with_reducible refine fow_nil ?_ | ((with_reducible refine wp_loc  (d := ?_) ?_  ?_); (rotate_left 1); (· exact rfl)) | ((with_reducible refine wp_rd  (d := ?_) ?_  ?_); (rotate_left 1); (· exact rfl)) | ((with_reducible refine wp_rdo  (b := ?_) (d := ?_) ?_  ?_); (rotate_left 2); (· exact rfl)) | ((with_reducible refine wp_args  (ds' := ?_) ?_ ?_ ?_  ?_); (rotate_left 1); (· exact rfl); (· exact rfl); (· exact rfl)) | ((with_reducible refine ws_frz  (d := ?_) ?_  ?_); (rotate_left 1); (· exact rfl)) | ((with_reducible refine ws_frzp  (d := ?_) ?_  ?_); (rotate_left 1); (· exact rfl)) | ((with_reducible refine wq_app  (b := ?_) (ds := ?_) ?_  ?_); (rotate_left 2); (· exact rfl)) | ((with_reducible refine wq_putO  (b := ?_) (c := ?_) ?_  ?_); (rotate_left 2); (· exact rfl)) | ((with_reducible refine wn_of ?_ ?_); (· first | exact Nat.le_of_ble_eq_true rfl | (simp only [List.length_map, List.length_append, List.length_cons, List.length_nil]; unfold line; omega))) | ((with_reducible refine wc_of ?_ ?_); (· first | exact rfl | exact ⟨rfl, rfl⟩ | exact ⟨by decide, rfl⟩ | decide | exact Nat.le_of_ble_eq_true rfl)) | ((with_reducible refine wo_some (o := cmpD _ _ _) (a := ?_) ?_  ?_); (rotate_left 1); (· first | exact eq_int _ _ | exact ne_int _ _ | exact eq_str _ _ | exact ne_str _ _ | exact ld_in _ _ | exact ld_notin _ _ | exact in_tups _ _ | exact notin_tups _ _ | exact in_ints _ _ | exact notin_ints _ _ | exact eq_ints _ _ | exact ne_ints _ _ | exact eq_strs _ _ | exact ne_strsL _ _ | exact eq_strsT _ _ | exact in_strs _ _)) | ((with_reducible refine wo_some (o := gSort _) (a := ?_) ?_  ?_); (rotate_left 1); (· first | exact sort_ints _)) | ((with_reducible refine wo_some (o := keysD _) (a := ?_) ?_  ?_); (rotate_left 1); (· first | exact keys_ld _ | exact keys_sd _)) | ((with_reducible refine wo_some  (a := ?_) ?_  ?_); (rotate_left 1); (· exact rfl)) | ((with_reducible refine ifT ?_ ?_); (· exact rfl)) | ((with_reducible refine ifF ?_ ?_); (· exact rfl)) | with_reducible refine ifNN ?_ | ((with_reducible refine ifNDF ?_ ?_); (· with_reducible exact rfl)) | ((with_reducible refine ifDT ?_ ?_); (· with_reducible exact rfl)) | ((with_reducible refine ifNDF ?_ ?_); (· assumption)) | ((with_reducible refine ifNDT ?_ ?_); (· assumption)) | ((with_reducible refine ifDF ?_ ?_); (· assumption)) | ((with_reducible refine ifDT ?_ ?_); (· assumption)) | ((with_reducible refine ifT ?_ ?_); (· assumption)) | ((with_reducible refine ifF ?_ ?_); (· assumption)) | with_reducible refine wpp_nil ?_ | with_reducible refine wpp_cons ?_ | with_reducible refine wq_dic ?_ | with_reducible refine wq_items ?_ | with_reducible refine wq_eqN ?_ | with_reducible refine wq_cat ?_ | ((with_reducible refine wq_augO  (d := ?_) ?_  ?_); (rotate_left 1); (· exact rfl)) | with_reducible refine wq_kOp2 ?_ | ((with_reducible refine wo_some (o := catD _ _) (a := ?_) ?_  ?_); (rotate_left 1); (· first | exact rfl | exact cat_lst (by simp only [List.length_map, List.length_append, List.length_cons, List.length_nil]; unfold line; omega)))))
theorem sTryN_ex {L : List (Nat × List (String × Bool) × S)} {m : S} {ρ ρ' : Loc} {s s' : Store} {C : String} {fs : List (Str × D)} (h : m (ρ.map Slot.drop) s = .ex C fs ρ' s') : sTryN L m ρ s = catchN L C fs (ρ'.map Slot.drop) s' := by
  unfold sTryN
  rw [h]
  rfl
theorem sTryN_nx {L : List (Nat × List (String × Bool) × S)} {m : S} {ρ ρ' : Loc} {s s' : Store} (h : m (ρ.map Slot.drop) s = .nx ρ' s') : sTryN L m ρ s = .nx (ρ'.map Slot.drop) s' := by
  unfold sTryN
  rw [h]
  rfl
theorem wp_fin {r : SRes} {P : D → Store → Prop} (h : Ws r (fun _ s => P .non s) P) : Wp r.fin P := by
  cases r with
  | nx ρ s => exact h
  | rt d s => exact h
  | bk ρ s => exact h.elim
  | ct ρ s => exact h.elim
  | ex C fs ρ s => exact h.elim
  | bad => exact h.elim
abbrev kw4 (p l g v : D) : D := .dic [(.str "present", p), (.str "lacking", l), (.str "gone", g), (.str "shared", v)]
theorem p5_all {w : Str} {cs p l g v c : D} (hp : HV p) (hl : HV l) (hg : HV g) (hv : HV v) (st : Store) (fs : List (Str × D)) (t4 t5 t6 : Slot) (hf : fs = [(("name" : Str), D.str w), (("columns" : Str), cs)]) :
    p_Target___init___5 (LT15 (.str w) c (kw4 p l g v) fs t4 t5 t6) st = match badH p l g v with
      | none => .nx (LT15 (.str w) c (kw4 p l g v) [("name", .str w), ("columns", cs), ("habits", habD p l g v)] t4 t5 t6) st
      | some h => .ex "BadHabit" [("habit", .str h)] (LT15 (.str w) c (kw4 p l g v) fs t4 t5 t6) st := by
  subst hf
  unfold p_Target___init___5
  show ((M_Habits___init__ [p, l, g, v] st).to (LT15 (.str w) c (kw4 p l g v) [("name", .str w), ("columns", cs)] t4 t5 t6) _) = _
  rw [hab_ok hp hl hg hv]
  cases badH p l g v <;> rfl
theorem goodH_defs : goodH hA1 (.str "stop") = true ∧ goodH hA2 (.str "stop") = true ∧ goodH hA3 (.str "stop") = true ∧ goodH hA4 (.str "one") = true := by decide
theorem p5_none {w : Str} {cs c : D} (st : Store) (fs : List (Str × D)) (t4 t5 t6 : Slot) (hf : fs = [(("name" : Str), D.str w), (("columns" : Str), cs)]) :
    p_Target___init___5 (LT15 (.str w) c (.dic []) fs t4 t5 t6) st = .nx (LT15 (.str w) c (.dic []) [("name", .str w), ("columns", cs), ("habits", habD (.str "stop") (.str "stop") (.str "stop") (.str "one"))] t4 t5 t6) st := by
  subst hf
  unfold p_Target___init___5
  show ((M_Habits___init__ [.str "stop", .str "stop", .str "stop", .str "one"] st).to (LT15 (.str w) c (.dic []) [("name", .str w), ("columns", cs)] t4 t5 t6) _) = _
  rw [hab_ok (.inl ⟨_, rfl⟩) (.inl ⟨_, rfl⟩) (.inl ⟨_, rfl⟩) (.inl ⟨_, rfl⟩), show badH (.str "stop") (.str "stop") (.str "stop") (.str "one") = none from by decide]
  rfl
theorem p5_two {w p g : Str} {cs c : D} (h1 : goodH hA1 (.str p) = true) (h2 : goodH hA3 (.str g) = true) (st : Store) (fs : List (Str × D)) (t4 t5 t6 : Slot) (hf : fs = [(("name" : Str), D.str w), (("columns" : Str), cs)]) :
    p_Target___init___5 (LT15 (.str w) c (.dic [(.str "gone", .str g), (.str "present", .str p)]) fs t4 t5 t6) st = .nx (LT15 (.str w) c (.dic [(.str "gone", .str g), (.str "present", .str p)]) [("name", .str w), ("columns", cs), ("habits", habD (.str p) (.str "stop") (.str g) (.str "one"))] t4 t5 t6) st := by
  subst hf
  unfold p_Target___init___5
  show ((M_Habits___init__ [.str p, .str "stop", .str g, .str "one"] st).to (LT15 (.str w) c (.dic [(.str "gone", .str g), (.str "present", .str p)]) [("name", .str w), ("columns", cs)] t4 t5 t6) _) = _
  rw [hab_ok (.inl ⟨_, rfl⟩) (.inl ⟨_, rfl⟩) (.inl ⟨_, rfl⟩) (.inl ⟨_, rfl⟩)]
  have e : badH (.str p) (.str "stop") (.str g) (.str "one") = none := by
    unfold badH
    rw [h1, h2, goodH_defs.2.1, goodH_defs.2.2.2]
    rfl
  rw [e]
  rfl
/-- what is told of a target -/
def toldV (es : List Cn) (p l g v : D) : D := match badC [] 0 es with
  | some j => .tup [.str "target", .int (j : Int)]
  | none => match badH p l g v with
    | some h => .tup [.str "habit", .str h]
    | none => .tup [p, l, g, v]
theorem four_ix {x p l g v : D} {t0 t1 t3 t4 : Slot} {st : Store} (hx : der st x = .lst [p, l, g, v]) : (eCons (eIx (eRd 2) (eC (.int 0))) (eCons (eIx (eRd 2) (eC (.int 1))) (eCons (eIx (eRd 2) (eC (.int 2))) (eCons (eIx (eRd 2) (eC (.int 3))) (eNil))))) [t0, t1, .pu x, t3, t4] st = .ok [p, l, g, v] st := by
  refine wp_getB ?_
  (repeat fail)
  rw [hx]
  refine wo_some (a := p) rfl ?_
  (repeat fail)
  rw [hx]
  refine wo_some (a := l) rfl ?_
  (repeat fail)
  rw [hx]
  refine wo_some (a := g) rfl ?_
  (repeat fail)
  rw [hx]
  refine wo_some (a := v) rfl ?_
  (repeat fail)
  exact ⟨rfl, rfl⟩
theorem told_y0 {nm c x p l g v : D} {st : Store} (hx : der st x = .lst [p, l, g, v]) : p__law_told_0y0 ([Slot.pu nm, .pu c, .pu x, .no, .no].map Slot.drop) st = (M_Target___init__ [nm, c, kw4 p l g v] st).to [.pu nm, .pu c, .pu x, .no, .no] fun d s => .nx [.pu nm, .pu c, .pu x, .pu d, .no] s := by
  unfold p__law_told_0y0
  show ((((eCons (eIx (eRd 2) (eC (.int 0))) (eCons (eIx (eRd 2) (eC (.int 1))) (eCons (eIx (eRd 2) (eC (.int 2))) (eCons (eIx (eRd 2) (eC (.int 3))) (eNil))))) [.pu nm, .pu c, .pu x, .no, .no] st).bind fun es s => if es.length = 4 then kwM 2 ["present", "lacking", "gone", "shared"] M_Target___init__ ([nm, c] ++ es) s else .bad : Res D).to _ _) = _
  rw [four_ix hx]
  rfl
theorem told_odd {nm c x p l g v : D} {st : Store} (hn : nm ∈ oddN) (hx : der st x = .lst [p, l, g, v]) : M__law_told [nm, c, x] st = .ok (.tup [.str "target", .int (-1)]) st := by
  show (m__law_told [.pu nm, .pu c, .pu x, .no, .no] st).fin = _
  have q := told_y0 (nm := nm) (c := c) hx
  rw [tinit_odd hn] at q
  unfold m__law_told p__law_told_0
  have e := sTryN_ex (L := [(4, [("BadHabit", false), ("BadTarget", true)], bCons (p__law_told_0h0x0) <| p__law_told_0h0x1), (4, [("BadHabit", true)], p__law_told_0h1x0)]) (q.trans rfl)
  unfold bCons at e ⊢
  rw [e]
  kernel_rfl
end Dn
namespace Dn
open PySem PySem.Spec L2
open PyProof.Rows hiding St RelV
local macro_rules | `(tactic| fail) => `(tactic| (first | with_reducible refine wp_cons ?_ | with_reducible refine wp_nil ?_ | with_reducible refine wp_C ?_ | with_reducible refine wp_call ?_ | with_reducible refine wp_ifE ?_ | with_reducible refine wp_not ?_ | with_reducible refine wp_or ?_ | with_reducible refine wp_and ?_ | with_reducible refine wp_yes ?_ | with_reducible refine wp_noPart ?_ | with_reducible refine wp_dic0 ?_ | with_reducible refine wp_eqO ?_ | with_reducible refine wp_new ?_ | with_reducible refine wp_ixO ?_ | with_reducible refine wq_tup ?_ | with_reducible refine wq_lst ?_ | with_reducible refine wq_bin ?_ | with_reducible refine wq_cmp ?_ | with_reducible refine wq_ix ?_ | with_reducible refine wq_bt ?_ | with_reducible refine wq_mt ?_ | with_reducible refine wq_is ?_ | with_reducible refine wq_tru ?_ | with_reducible refine wq_attr ?_ | with_reducible refine wq_con ?_ | with_reducible refine wq_keys ?_ | with_reducible refine wq_rev ?_ | with_reducible refine wq_eq2 ?_ | with_reducible refine wq_ne2 ?_ | with_reducible refine wq_isi ?_ | with_reducible refine wq_sl ?_ | with_reducible refine wq_part ?_ | with_reducible refine wq_listO ?_ | with_reducible refine wq_iLst ?_ | with_reducible refine wq_iTp ?_ | with_reducible refine wq_iStrD ?_ | with_reducible refine wq_enot ?_ | with_reducible refine wq_eand ?_ | with_reducible refine wq_neg ?_ | with_reducible refine wq_get1 ?_ | with_reducible refine wq_get2 ?_ | with_reducible refine wq_prop ?_ | with_reducible refine wq_meth ?_ | with_reducible refine wq_methK ?_ | with_reducible refine wq_callK ?_ | with_reducible refine wq_inO ?_ | with_reducible refine wq_lenO ?_ | with_reducible refine wq_asg ?_ | with_reducible refine wq_par2 ?_ | with_reducible refine wq_parO ?_ | with_reducible refine wq_kOwn ?_ | with_reducible refine wq_ne3 ?_ | with_reducible refine wq_subB ?_ | with_reducible refine wq_op1 ?_ | with_reducible refine wq_op2 ?_ | with_reducible refine ws_seq ?_ | with_reducible refine ws_nil ?_ | with_reducible refine ws_set ?_ | with_reducible refine ws_ret ?_ | with_reducible refine ws_if ?_ | with_reducible refine ws_par3 ?_ | with_reducible refine ws_own ?_ | with_reducible refine wb_bl ?_ | with_reducible refine wl_lst ?_ | with_reducible refine wt_tup ?_ | with_reducible refine wi_int ?_ | with_reducible refine wstr ?_ | with_reducible refine lcw_cons ?_ | with_reducible refine lcw_nil ?_ | with_reducible refine fow_cons ?_ | with_reducible refine fow_nil ?_ | ((with_reducible refine wp_loc  (d := ?_) ?_  ?_); (rotate_left 1); (· exact rfl)) | ((with_reducible refine wp_rd  (d := ?_) ?_  ?_); (rotate_left 1); (· exact rfl)) | ((with_reducible refine wp_rdo  (b := ?_) (d := ?_) ?_  ?_); (rotate_left 2); (· exact rfl)) | ((with_reducible refine wp_args  (ds' := ?_) ?_ ?_ ?_  ?_); (rotate_left 1); (· exact rfl); (· exact rfl); (· exact rfl)) | ((with_reducible refine ws_frz  (d := ?_) ?_  ?_); (rotate_left 1); (· exact rfl)) | ((with_reducible refine ws_frzp  (d := ?_) ?_  ?_); (rotate_left 1); (· exact rfl)) | ((with_reducible refine wq_app  (b := ?_) (ds := ?_) ?_  ?_); (rotate_left 2); (· exact rfl)) | ((with_reducible refine wq_putO  (b := ?_) (c := ?_) ?_  ?_); (rotate_left 2); (· exact rfl)) | ((with_reducible refine wn_of ?_ ?_); (· first | exact Nat.le_of_ble_eq_true rfl | (simp only [List.length_map, List.length_append, List.length_cons, List.length_nil]; unfold line; omega))) | ((with_reducible refine wc_of ?_ ?_); (· first | exact rfl | exact ⟨rfl, rfl⟩ | exact ⟨by decide, rfl⟩ | decide | exact Nat.le_of_ble_eq_true rfl)) | ((with_reducible refine wo_some (o := cmpD _ _ _) (a := ?_) ?_  ?_); (rotate_left 1); (· first | exact eq_int _ _ | exact ne_int _ _ | exact eq_str _ _ | exact ne_str _ _ | exact ld_in _ _ | exact ld_notin _ _ | exact in_tups _ _ | exact notin_tups _ _ | exact in_ints _ _ | exact notin_ints _ _ | exact eq_ints _ _ | exact ne_ints _ _ | exact eq_strs _ _ | exact ne_strsL _ _ | exact eq_strsT _ _ | exact in_strs _ _)) | ((with_reducible refine wo_some (o := gSort _) (a := ?_) ?_  ?_); (rotate_left 1); (· first | exact sort_ints _)) | ((with_reducible refine wo_some (o := keysD _) (a := ?_) ?_  ?_); (rotate_left 1); (· first | exact keys_ld _ | exact keys_sd _)) | ((with_reducible refine wo_some  (a := ?_) ?_  ?_); (rotate_left 1); (· exact rfl)) | ((with_reducible refine ifT ?_ ?_); (· exact rfl)) | ((with_reducible refine ifF ?_ ?_); (· exact rfl)) | with_reducible refine ifNN ?_ | ((with_reducible refine ifNDF ?_ ?_); (· with_reducible exact rfl)) | ((with_reducible refine ifDT ?_ ?_); (· with_reducible exact rfl)) | ((with_reducible refine ifNDF ?_ ?_); (· assumption)) | ((with_reducible refine ifNDT ?_ ?_); (· assumption)) | ((with_reducible refine ifDF ?_ ?_); (· assumption)) | ((with_reducible refine ifDT ?_ ?_); (· assumption)) | ((with_reducible refine ifT ?_ ?_); (· assumption)) | ((with_reducible refine ifF ?_ ?_); (· assumption)) | with_reducible refine wpp_nil ?_ | with_reducible refine wpp_cons ?_ | with_reducible refine wq_dic ?_ | with_reducible refine wq_items ?_ | with_reducible refine wq_eqN ?_ | with_reducible refine wq_cat ?_ | ((with_reducible refine wq_augO  (d := ?_) ?_  ?_); (rotate_left 1); (· exact rfl)) | with_reducible refine wq_kOp2 ?_ | ((with_reducible refine wo_some (o := catD _ _) (a := ?_) ?_  ?_); (rotate_left 1); (· first | exact rfl | exact cat_lst (by simp only [List.length_map, List.length_append, List.length_cons, List.length_nil]; unfold line; omega)))))
theorem told15 {w : Str} {es : List Cn} {c x p l g v : D} {st : Store} (hw : Word w) (h1 : w ≠ "table") (h2 : w ≠ "key") (ho : ∀ e ∈ es, e.ok) (hc : c = .lst (es.map Cn.d) ∨ c = .tup (es.map Cn.d)) (hl : es.length ≤ 100) (hx : der st x = .lst [p, l, g, v])
    (hp : HV p) (hl' : HV l) (hg : HV g) (hv : HV v) : M__law_told [.str w, c, x] st = .ok (toldV es p l g v) st := by
  show (m__law_told [.pu (.str w), .pu c, .pu x, .no, .no] st).fin = _
  have q := told_y0 (nm := .str w) (c := c) hx
  have T := tinit (hs := kw4 p l g v) (st := st) (bh := badH p l g v) (hd := habD p l g v) hw h1 h2 ho hc hl (p5_all hp hl' hg hv st)
  rw [T] at q
  unfold toldV
  unfold m__law_told p__law_told_0
  cases hb : badC [] 0 es with
  | some j =>
    rw [hb] at q
    have e := sTryN_ex (L := [(4, [("BadHabit", false), ("BadTarget", true)], bCons (p__law_told_0h0x0) <| p__law_told_0h0x1), (4, [("BadHabit", true)], p__law_told_0h1x0)]) (q.trans rfl)
    unfold bCons at e ⊢
    rw [e]
    kernel_rfl
  | none =>
    rw [hb] at q
    cases hh : badH p l g v with
    | some h =>
      rw [hh] at q
      have e := sTryN_ex (L := [(4, [("BadHabit", false), ("BadTarget", true)], bCons (p__law_told_0h0x0) <| p__law_told_0h0x1), (4, [("BadHabit", true)], p__law_told_0h1x0)]) (q.trans rfl)
      unfold bCons at e ⊢
      rw [e]
      kernel_rfl
    | none =>
      rw [hh] at q
      have e := sTryN_nx (L := [(4, [("BadHabit", false), ("BadTarget", true)], bCons (p__law_told_0h0x0) <| p__law_told_0h0x1), (4, [("BadHabit", true)], p__law_told_0h1x0)]) (q.trans rfl)
      rw [seq_nx e]
      obtain ⟨us, rfl⟩ := badC_none hb
      refine wp_get (wp_fin ?_)
      show Ws (bCons p__law_told_1 (bCons p__law_told_2 p__law_told_3) [.pu (.str w), .pu c, .pu x, .pu (tgtD w (.tup ((us.map Cn.wd).map Cn.d)) (habD p l g v)), .no] st) _ _
      have ew : (us.map Cn.wd).map Cn.d = us.map D.str := by rw [List.map_map]; rfl
      rw [ew] at hc ⊢
      unfold p__law_told_1 p__law_told_2 p__law_told_3
      (repeat fail)
      have hgl : gList (List.map (der st) [c]) = some (.lst (us.map D.str)) := by rcases hc with rfl | rfl <;> rfl
      refine wo_some hgl ?_
      (repeat fail)
      exact ⟨rfl, rfl⟩
end Dn
namespace Dn
open PySem PySem.Spec L2
open PyProof.Rows hiding St RelV
local macro_rules | `(tactic| fail) => `(tactic| (first | with_reducible refine wp_cons ?_ | with_reducible refine wp_nil ?_ | with_reducible refine wp_C ?_ | with_reducible refine wp_call ?_ | with_reducible refine wp_ifE ?_ | with_reducible refine wp_not ?_ | with_reducible refine wp_or ?_ | with_reducible refine wp_and ?_ | with_reducible refine wp_yes ?_ | with_reducible refine wp_noPart ?_ | with_reducible refine wp_dic0 ?_ | with_reducible refine wp_eqO ?_ | with_reducible refine wp_new ?_ | with_reducible refine wp_ixO ?_ | with_reducible refine wq_tup ?_ | with_reducible refine wq_lst ?_ | with_reducible refine wq_bin ?_ | with_reducible refine wq_cmp ?_ | with_reducible refine wq_ix ?_ | with_reducible refine wq_bt ?_ | with_reducible refine wq_mt ?_ | with_reducible refine wq_is ?_ | with_reducible refine wq_tru ?_ | with_reducible refine wq_attr ?_ | with_reducible refine wq_con ?_ | with_reducible refine wq_keys ?_ | with_reducible refine wq_rev ?_ | with_reducible refine wq_eq2 ?_ | with_reducible refine wq_ne2 ?_ | with_reducible refine wq_isi ?_ | with_reducible refine wq_sl ?_ | with_reducible refine wq_part ?_ | with_reducible refine wq_listO ?_ | with_reducible refine wq_iLst ?_ | with_reducible refine wq_iTp ?_ | with_reducible refine wq_iStrD ?_ | with_reducible refine wq_enot ?_ | with_reducible refine wq_eand ?_ | with_reducible refine wq_neg ?_ | with_reducible refine wq_get1 ?_ | with_reducible refine wq_get2 ?_ | with_reducible refine wq_prop ?_ | with_reducible refine wq_meth ?_ | with_reducible refine wq_methK ?_ | with_reducible refine wq_callK ?_ | with_reducible refine wq_inO ?_ | with_reducible refine wq_lenO ?_ | with_reducible refine wq_asg ?_ | with_reducible refine wq_par2 ?_ | with_reducible refine wq_parO ?_ | with_reducible refine wq_kOwn ?_ | with_reducible refine wq_ne3 ?_ | with_reducible refine wq_subB ?_ | with_reducible refine wq_op1 ?_ | with_reducible refine wq_op2 ?_ | with_reducible refine ws_seq ?_ | with_reducible refine ws_nil ?_ | with_reducible refine ws_set ?_ | with_reducible refine ws_ret ?_ | with_reducible refine ws_if ?_ | with_reducible refine ws_par3 ?_ | with_reducible refine ws_own ?_ | with_reducible refine wb_bl ?_ | with_reducible refine wl_lst ?_ | with_reducible refine wt_tup ?_ | with_reducible refine wi_int ?_ | with_reducible refine wstr ?_ | with_reducible refine lcw_cons ?_ | with_reducible refine lcw_nil ?_ | with_reducible refine fow_cons ?_ | with_reducible refine fow_nil ?_ | ((with_reducible refine wp_loc  (d := ?_) ?_  ?_); (rotate_left 1); (· exact rfl)) | ((with_reducible refine wp_rd  (d := ?_) ?_  ?_); (rotate_left 1); (· exact rfl)) | ((with_reducible refine wp_rdo  (b := ?_) (d := ?_) ?_  ?_); (rotate_left 2); (· exact rfl)) | ((with_reducible refine wp_args  (ds' := ?_) ?_ ?_ ?_  ?_); (rotate_left 1); (· exact rfl); (· exact rfl); (· exact rfl)) | ((with_reducible refine ws_frz  (d := ?_) ?_  ?_); (rotate_left 1); (· exact rfl)) | ((with_reducible refine ws_frzp  (d := ?_) ?_  ?_); (rotate_left 1); (· exact rfl)) | ((with_reducible refine wq_app  (b := ?_) (ds := ?_) ?_  ?_); (rotate_left 2); (· exact rfl)) | ((with_reducible refine wq_putO  (b := ?_) (c := ?_) ?_  ?_); (rotate_left 2); (· exact rfl)) | ((with_reducible refine wn_of ?_ ?_); (· first | exact Nat.le_of_ble_eq_true rfl | (simp only [List.length_map, List.length_append, List.length_cons, List.length_nil]; unfold line; omega))) | ((with_reducible refine wc_of ?_ ?_); (· first | exact rfl | exact ⟨rfl, rfl⟩ | exact ⟨by decide, rfl⟩ | decide | exact Nat.le_of_ble_eq_true rfl)) | ((with_reducible refine wo_some (o := cmpD _ _ _) (a := ?_) ?_  ?_); (rotate_left 1); (· first | exact eq_int _ _ | exact ne_int _ _ | exact eq_str _ _ | exact ne_str _ _ | exact ld_in _ _ | exact ld_notin _ _ | exact in_tups _ _ | exact notin_tups _ _ | exact in_ints _ _ | exact notin_ints _ _ | exact eq_ints _ _ | exact ne_ints _ _ | exact eq_strs _ _ | exact ne_strsL _ _ | exact eq_strsT _ _ | exact in_strs _ _)) | ((with_reducible refine wo_some (o := gSort _) (a := ?_) ?_  ?_); (rotate_left 1); (· first | exact sort_ints _)) | ((with_reducible refine wo_some (o := keysD _) (a := ?_) ?_  ?_); (rotate_left 1); (· first | exact keys_ld _ | exact keys_sd _)) | ((with_reducible refine wo_some  (a := ?_) ?_  ?_); (rotate_left 1); (· exact rfl)) | ((with_reducible refine ifT ?_ ?_); (· exact rfl)) | ((with_reducible refine ifF ?_ ?_); (· exact rfl)) | with_reducible refine ifNN ?_ | ((with_reducible refine ifNDF ?_ ?_); (· with_reducible exact rfl)) | ((with_reducible refine ifDT ?_ ?_); (· with_reducible exact rfl)) | ((with_reducible refine ifNDF ?_ ?_); (· assumption)) | ((with_reducible refine ifNDT ?_ ?_); (· assumption)) | ((with_reducible refine ifDF ?_ ?_); (· assumption)) | ((with_reducible refine ifDT ?_ ?_); (· assumption)) | ((with_reducible refine ifT ?_ ?_); (· assumption)) | ((with_reducible refine ifF ?_ ?_); (· assumption)) | with_reducible refine wpp_nil ?_ | with_reducible refine wpp_cons ?_ | with_reducible refine wq_dic ?_ | with_reducible refine wq_items ?_ | with_reducible refine wq_eqN ?_ | with_reducible refine wq_cat ?_ | ((with_reducible refine wq_augO  (d := ?_) ?_  ?_); (rotate_left 1); (· exact rfl)) | with_reducible refine wq_kOp2 ?_ | ((with_reducible refine wo_some (o := catD _ _) (a := ?_) ?_  ?_); (rotate_left 1); (· first | exact rfl | exact cat_lst (by simp only [List.length_map, List.length_append, List.length_cons, List.length_nil]; unfold line; omega)))))
theorem cut_to12 (ds : List D) (i : Nat) (h : i ≤ ds.length) : cutOf (.lst ds) none (some (i : Int)) = some (.lst (ds.take i)) := by
  show some (D.lst (cutD ds none (some (i : Int)))) = _
  unfold cutD HT.sIx
  have h1 : ¬ ((i : Int) < 0) := by omega
  have h2 : min i ds.length = i := by omega
  simp [h1, h2]
/-- a value that is no word and not known as wrong stands behind another one -/
def okL (es : List Cn) : Prop := ∀ pre x post, es = pre ++ Cn.od x false :: post → ∃ z f, Cn.od z f ∈ pre
abbrev AL15 : D := .lst [.tup (hA1.map .str), .tup (hA2.map .str), .tup (hA3.map .str), .tup (hA4.map .str)]
theorem due_step {a b c z v : D} {t5 : Slot} {i : Int} {nm : Str} {A : List Str} {hs : List D} {s : Store} {N : Loc → Store → Prop} {R : D → Store → Prop} (hz : der s z = .lst hs) (hv : HV v) (hi : item (.lst hs) (.int i) = some v) (hA : item AL15 (.int i) = some (.tup (A.map .str)))
    (h1 : goodH A v = true → N [.pu a, .pu b, .pu c, .pu z, .pu (.int i), t5, .pu AL15, .pu (.str nm)] s) (h2 : goodH A v = false → R (.tup [.str "habit", .str nm]) s) :
    Ws (p__law_due_3b0 [.pu a, .pu b, .pu c, .pu z, .pu (.int i), t5, .pu AL15, .pu (.str nm)] s) N R := by
  unfold p__law_due_3b0
  (repeat fail)
  rw [hz]
  refine wo_some hi ?_
  rcases hv with ⟨w, rfl⟩ | rfl | rfl | rfl | rfl | rfl
  · (repeat fail)
    rw [hz]
    refine wo_some hi ?_
    (repeat fail)
    refine wo_some hA ?_
    (repeat fail)
    refine wo_some (notin_tup w A) ?_
    cases h : decide (w ∈ A) with
    | true =>
      (repeat fail)
      exact h1 h
    | false =>
      (repeat fail)
      exact h2 h
  all_goals
    (repeat fail)
    exact h2 rfl
theorem due15 {w : Str} {es : List Cn} {x y z p l g v : D} {s : Store} (hx : der s x = .lst (es.map Cn.d)) (hy : der s y = .lst (es.map Cn.fl)) (hz : der s z = .lst [p, l, g, v]) (ho : okL es) (hl : es.length ≤ 100)
    (hp : HV p) (hl' : HV l) (hg : HV g) (hv : HV v) : M__law_due [.str w, x, y, z] s = .ok (toldV es p l g v) s := by
  refine wp_get ?_
  refine wp_fn ?_
  show Ws (m__law_due [.pu (.str w), .pu (x), .pu (y), .pu (z), .no, .no, .no, .no] _) _ _
  unfold m__law_due p__law_due_0 p__law_due_0t0 p__law_due_1 p__law_due_1b0 p__law_due_1b0t0 p__law_due_2 p__law_due_3 p__law_due_3b0 p__law_due_3b0t0
  (repeat fail)
  refine ws_forL (wq_iEnumL ?_)
  (repeat fail)
  refine ⟨_, rfl, isLive_lst hx, enumD 0 (es.map Cn.d), fun ds ρ s1 => s1 = s ∧ ∃ (pre : List Str) (post : List Cn) (t4 t5 : Slot), es = pre.map .wd ++ post ∧ badC [] 0 es = badC pre pre.length post ∧ ds = enumD pre.length (post.map Cn.d) ∧ ρ = [.pu (.str w), .pu x, .pu y, .pu z, t4, t5, .no, .no], ?_, ⟨rfl, [], es, _, _, rfl, rfl, rfl, rfl⟩, fun r ρ s1 hJ => by obtain ⟨rfl, _⟩ := hJ; exact lsrcE_lst hx, ?_, ?_⟩
  · rw [enumD_len, List.length_map]; omega
  · rintro d ds ρ s1 ⟨rfl, pre, post, t4, t5, e1, e2, e3, rfl⟩
    cases post with
    | nil => cases e3
    | cons e post =>
      have e3 : d :: ds = .tup [.int (pre.length : Int), e.d] :: enumD (pre.length + 1) (post.map Cn.d) := e3
      injection e3 with e4 e5
      subst e4 e5
      refine ⟨_, rfl, ?_⟩
      have hi : es[pre.length]? = some e := by
        rw [e1, List.getElem?_append_right (by rw [List.length_map]; exact Nat.le_refl _), List.length_map, Nat.sub_self]
        rfl
      show Ws (p__law_due_1b0 [.pu (.str w), .pu x, .pu y, .pu z, .pu (.int (pre.length : Int)), .pu e.d, .no, .no] s1) _ _
      unfold p__law_due_1b0
      (repeat fail)
      rw [hy]
      refine wo_some (item_map Cn.fl hi) ?_
      (repeat fail)
      cases e with
      | od q f =>
        have e2 : badC [] 0 es = some pre.length := e2
        cases f with
        | false =>
          obtain ⟨z', f', hm⟩ := ho _ _ _ e1
          obtain ⟨_, _, hm⟩ := List.mem_map.mp hm
          cases hm
        | true =>
          (repeat fail)
          unfold toldV
          rw [e2]
          exact ⟨rfl, rfl⟩
      | wd c =>
        have e2 : badC [] 0 es = if c ∈ pre then some pre.length else badC (pre ++ [c]) (pre.length + 1) post := e2
        (repeat fail)
        rw [hx]
        have hcut : cutOf (.lst (es.map Cn.d)) none (some (pre.length : Int)) = some (.lst (pre.map .str)) := by
          rw [cut_to12 _ _ (by rw [e1, List.length_map, List.length_append, List.length_map]; omega), e1, List.map_append, List.map_map, List.take_left' (by rw [List.length_map])]
          rfl
        refine wo_some hcut ?_
        simp only [Cn.d]
        (repeat fail)
        refine ifD (fun h2 => ?_) (fun h2 => ?_)
        · (repeat fail)
          unfold toldV
          rw [e2, if_pos h2]
          exact ⟨rfl, rfl⟩
        · (repeat fail)
          rw [if_neg h2] at e2
          exact ⟨rfl, pre ++ [c], post, .pu (.int (pre.length : Int)), .pu (.str c), by rw [e1, List.map_append, List.append_assoc]; rfl, by rw [e2, List.length_append, List.length_singleton], by rw [List.length_append, List.length_singleton], rfl⟩
  · rintro ρ s1 ⟨rfl, pre, post, t4, t5, e1, e2, e3, rfl⟩
    have : post = [] := by cases post with | nil => rfl | cons a r => cases e3
    subst this
    have e2 : badC [] 0 es = none := e2
    unfold toldV
    rw [e2]
    (repeat fail)
    show Ws (p__law_due_3 [.pu (.str w), .pu x, .pu y, .pu z, t4, t5, .pu AL15, .no] s1) _ _
    unfold p__law_due_3
    refine ws_forRun (wp_eq (a := [.tup [.int 0, .str "present"], .tup [.int 1, .str "lacking"], .tup [.int 2, .str "gone"], .tup [.int 3, .str "shared"]]) (s' := s1) rfl ?_)
    (repeat fail)
    refine due_step (A := hA1) hz hp rfl rfl (fun q1 => ?_) (fun q1 => ?_)
    rotate_left
    · refine ⟨?_, rfl⟩
      unfold badH
      rw [q1]
      rfl
    (repeat fail)
    refine due_step (A := hA2) hz hl' rfl rfl (fun q2 => ?_) (fun q2 => ?_)
    rotate_left
    · refine ⟨?_, rfl⟩
      unfold badH
      rw [q1, q2]
      rfl
    (repeat fail)
    refine due_step (A := hA3) hz hg rfl rfl (fun q3 => ?_) (fun q3 => ?_)
    rotate_left
    · refine ⟨?_, rfl⟩
      unfold badH
      rw [q1, q2, q3]
      rfl
    (repeat fail)
    refine due_step (A := hA4) hz hv rfl rfl (fun q4 => ?_) (fun q4 => ?_)
    rotate_left
    · refine ⟨?_, rfl⟩
      unfold badH
      rw [q1, q2, q3, q4]
      rfl
    (repeat fail)
    rw [List.map_singleton, hz]
    refine wo_some (a := .tup [p, l, g, v]) rfl ?_
    (repeat fail)
    refine ⟨?_, rfl⟩
    unfold badH
    rw [q1, q2, q3, q4]
    rfl
end Dn
namespace Dn
open PySem PySem.Spec L2
open PyProof.Rows hiding St RelV
local macro_rules | `(tactic| fail) => `(tactic| (first | with_reducible refine wp_cons ?_ | with_reducible refine wp_nil ?_ | with_reducible refine wp_C ?_ | with_reducible refine wp_call ?_ | with_reducible refine wp_ifE ?_ | with_reducible refine wp_not ?_ | with_reducible refine wp_or ?_ | with_reducible refine wp_and ?_ | with_reducible refine wp_yes ?_ | with_reducible refine wp_noPart ?_ | with_reducible refine wp_dic0 ?_ | with_reducible refine wp_eqO ?_ | with_reducible refine wp_new ?_ | with_reducible refine wp_ixO ?_ | with_reducible refine wq_tup ?_ | with_reducible refine wq_lst ?_ | with_reducible refine wq_bin ?_ | with_reducible refine wq_cmp ?_ | with_reducible refine wq_ix ?_ | with_reducible refine wq_bt ?_ | with_reducible refine wq_mt ?_ | with_reducible refine wq_is ?_ | with_reducible refine wq_tru ?_ | with_reducible refine wq_attr ?_ | with_reducible refine wq_con ?_ | with_reducible refine wq_keys ?_ | with_reducible refine wq_rev ?_ | with_reducible refine wq_eq2 ?_ | with_reducible refine wq_ne2 ?_ | with_reducible refine wq_isi ?_ | with_reducible refine wq_sl ?_ | with_reducible refine wq_part ?_ | with_reducible refine wq_listO ?_ | with_reducible refine wq_iLst ?_ | with_reducible refine wq_iTp ?_ | with_reducible refine wq_iStrD ?_ | with_reducible refine wq_enot ?_ | with_reducible refine wq_eand ?_ | with_reducible refine wq_neg ?_ | with_reducible refine wq_get1 ?_ | with_reducible refine wq_get2 ?_ | with_reducible refine wq_prop ?_ | with_reducible refine wq_meth ?_ | with_reducible refine wq_methK ?_ | with_reducible refine wq_callK ?_ | with_reducible refine wq_inO ?_ | with_reducible refine wq_lenO ?_ | with_reducible refine wq_asg ?_ | with_reducible refine wq_par2 ?_ | with_reducible refine wq_parO ?_ | with_reducible refine wq_kOwn ?_ | with_reducible refine wq_ne3 ?_ | with_reducible refine wq_subB ?_ | with_reducible refine wq_op1 ?_ | with_reducible refine wq_op2 ?_ | with_reducible refine ws_seq ?_ | with_reducible refine ws_nil ?_ | with_reducible refine ws_set ?_ | with_reducible refine ws_ret ?_ | with_reducible refine ws_if ?_ | with_reducible refine ws_par3 ?_ | with_reducible refine ws_own ?_ | with_reducible refine wb_bl ?_ | with_reducible refine wl_lst ?_ | with_reducible refine wt_tup ?_ | with_reducible refine wi_int ?_ | with_reducible refine wstr ?_ | with_reducible refine lcw_cons ?_ | with_reducible refine lcw_nil ?_ | with_reducible refine fow_cons ?_ | with_reducible refine fow_nil ?_ | ((with_reducible refine wp_loc  (d := ?_) ?_  ?_); (rotate_left 1); (· exact rfl)) | ((with_reducible refine wp_rd  (d := ?_) ?_  ?_); (rotate_left 1); (· exact rfl)) | ((with_reducible refine wp_rdo  (b := ?_) (d := ?_) ?_  ?_); (rotate_left 2); (· exact rfl)) | ((with_reducible refine wp_args  (ds' := ?_) ?_ ?_ ?_  ?_); (rotate_left 1); (· exact rfl); (· exact rfl); (· exact rfl)) | ((with_reducible refine ws_frz  (d := ?_) ?_  ?_); (rotate_left 1); (· exact rfl)) | ((with_reducible refine ws_frzp  (d := ?_) ?_  ?_); (rotate_left 1); (· exact rfl)) | ((with_reducible refine wq_app  (b := ?_) (ds := ?_) ?_  ?_); (rotate_left 2); (· exact rfl)) | ((with_reducible refine wq_putO  (b := ?_) (c := ?_) ?_  ?_); (rotate_left 2); (· exact rfl)) | ((with_reducible refine wn_of ?_ ?_); (· first | exact Nat.le_of_ble_eq_true rfl | (simp only [List.length_map, List.length_append, List.length_cons, List.length_nil]; unfold line; omega))) | ((with_reducible refine wc_of ?_ ?_); (· first | exact rfl | exact ⟨rfl, rfl⟩ | exact ⟨by decide, rfl⟩ | decide | exact Nat.le_of_ble_eq_true rfl)) | ((with_reducible refine wo_some (o := cmpD _ _ _) (a := ?_) ?_  ?_); (rotate_left 1); (· first | exact eq_int _ _ | exact ne_int _ _ | exact eq_str _ _ | exact ne_str _ _ | exact ld_in _ _ | exact ld_notin _ _ | exact in_tups _ _ | exact notin_tups _ _ | exact in_ints _ _ | exact notin_ints _ _ | exact eq_ints _ _ | exact ne_ints _ _ | exact eq_strs _ _ | exact ne_strsL _ _ | exact eq_strsT _ _ | exact in_strs _ _)) | ((with_reducible refine wo_some (o := gSort _) (a := ?_) ?_  ?_); (rotate_left 1); (· first | exact sort_ints _)) | ((with_reducible refine wo_some (o := keysD _) (a := ?_) ?_  ?_); (rotate_left 1); (· first | exact keys_ld _ | exact keys_sd _)) | ((with_reducible refine wo_some  (a := ?_) ?_  ?_); (rotate_left 1); (· exact rfl)) | ((with_reducible refine ifT ?_ ?_); (· exact rfl)) | ((with_reducible refine ifF ?_ ?_); (· exact rfl)) | with_reducible refine ifNN ?_ | ((with_reducible refine ifNDF ?_ ?_); (· with_reducible exact rfl)) | ((with_reducible refine ifDT ?_ ?_); (· with_reducible exact rfl)) | ((with_reducible refine ifNDF ?_ ?_); (· assumption)) | ((with_reducible refine ifNDT ?_ ?_); (· assumption)) | ((with_reducible refine ifDF ?_ ?_); (· assumption)) | ((with_reducible refine ifDT ?_ ?_); (· assumption)) | ((with_reducible refine ifT ?_ ?_); (· assumption)) | ((with_reducible refine ifF ?_ ?_); (· assumption)) | with_reducible refine wpp_nil ?_ | with_reducible refine wpp_cons ?_ | with_reducible refine wq_dic ?_ | with_reducible refine wq_items ?_ | with_reducible refine wq_eqN ?_ | with_reducible refine wq_cat ?_ | ((with_reducible refine wq_augO  (d := ?_) ?_  ?_); (rotate_left 1); (· exact rfl)) | with_reducible refine wq_kOp2 ?_ | ((with_reducible refine wo_some (o := catD _ _) (a := ?_) ?_  ?_); (rotate_left 1); (· first | exact rfl | exact cat_lst (by simp only [List.length_map, List.length_append, List.length_cons, List.length_nil]; unfold line; omega)))))
abbrev L15 (ns : List Int) (a : Int) (n : Nat) (w : Str) (qc qw : Nat) (t6 t7 t8 t9 t10 t11 t12 t13 t14 t15 : Slot) : Loc := [.pu (.scr ns), .pu (.int a), .pu (.ref n), .pu (.str w), .pu (.ref qc), .pu (.ref qw), t6, t7, t8, t9, t10, t11, t12, t13, t14, t15]
theorem item_end15 (ds : List D) (x : D) : item (.lst (ds ++ [x])) (.int (ds.length : Int)) = some x := by
  have z := item_map (id : D → D) (qs := ds ++ [x]) (j := ds.length) (q := x) (by rw [List.getElem?_append_right (Nat.le_refl _), Nat.sub_self]; rfl)
  rw [List.map_id] at z
  exact z
theorem put_last (ds : List D) (x y : D) : putIx (.lst (ds ++ [x])) (.int (ds.length : Int)) y = some (.lst (ds ++ [y])) := by
  show (ixN (ds ++ [x]).length (ds.length : Int)).map (fun k => D.lst ((ds ++ [x]).set k y)) = _
  rw [ixN_at (by omega) (by rw [List.length_append, List.length_singleton]; omega)]
  simp
theorem okL_wd {es : List Cn} {w : Str} (h : okL es) : okL (es ++ [.wd w]) := fun pre x post e => by
  rcases List.append_eq_append_iff.mp e with ⟨as, e1, e2⟩ | ⟨bs, e1, e2⟩
  · cases as with
    | nil => cases e2
    | cons a as => cases as <;> cases e2
  · cases bs with
    | nil => cases e2
    | cons b bs =>
      injection e2 with e3 e4
      subst e3
      exact h pre x bs e1
theorem okL_od {es : List Cn} {x : D} {f : Bool} (h : okL es) (hf : f = true ∨ ∃ z g, Cn.od z g ∈ es) : okL (es ++ [.od x f]) := fun pre y post e => by
  rcases List.append_eq_append_iff.mp e with ⟨as, e1, e2⟩ | ⟨bs, e1, e2⟩
  · cases as with
    | nil =>
      rw [List.append_nil] at e1
      injection e2 with e3 e4
      injection e3 with e5 e6
      rcases hf with hf | hf
      · rw [hf] at e6; cases e6
      · rw [e1]; exact hf
    | cons a as => cases as <;> cases e2
  · cases bs with
    | nil =>
      rw [List.append_nil] at e1
      injection e2 with e3 e4
      injection e3 with e5 e6
      rcases hf with hf | hf
      · rw [hf] at e6; cases e6
      · rw [← e1]; exact hf
    | cons b bs =>
      injection e2 with e3 e4
      subst e3
      exact h pre y bs e1
theorem turn15 {ns : List Int} {a : Int} {n qc qw k : Nat} {w : Str} {es : List Cn} {t7 t8 t9 t10 t11 t12 t13 t14 t15 : Slot} {s : Store} {N : Loc → Store → Prop} {R : D → Store → Prop} (S : SrcAt s n k) (hk : k < 40000000) (hcn : qc ≠ n) (hwn : qw ≠ n) (hcw : qc ≠ qw)
    (Mc : s[qc]? = some (.lst (es.map Cn.d))) (Mw : s[qw]? = some (.lst (es.map Cn.fl))) (ho : ∀ e ∈ es, e.ok) (hL : okL es) (hl : es.length ≤ 6)
    (hN : ∀ (e : Cn) s', e.ok → okL (es ++ [e]) → SrcAt s' n (k + 40) → s'[qc]? = some (.lst ((es ++ [e]).map Cn.d)) → s'[qw]? = some (.lst ((es ++ [e]).map Cn.fl)) → N (L15 ns a n w qc qw (.pu (.int (es.length : Int))) t7 t8 t9 t10 t11 t12 t13 t14 t15) s') :
    Ws (bCons p_law_0b2b0 (bCons p_law_0b2b1 p_law_0b2b2) (L15 ns a n w qc qw (.pu (.int (es.length : Int))) t7 t8 t9 t10 t11 t12 t13 t14 t15) s) N R := by
  unfold p_law_0b2b0 p_law_0b2b1 p_law_0b2b2
  refine ws_seq (ws_appRn (n := qw) (ds := es.map Cn.fl) ?_)
  (repeat fail)
  refine wc_of ⟨rfl, by rw [der_ref Mw]; rfl⟩ ?_
  (repeat fail)
  refine q_draw S (by omega) (by decide) (by decide) fun i s1 i0 i1 f1 S1 => ?_
  (repeat fail)
  generalize decide (i = 0) = b
  have Mw1 := (f1.2 _ hwn).trans Mw
  have Mc1 := (f1.2 _ hcn).trans Mc
  refine wc_of ⟨Mw1, by rw [List.length_map]; unfold line; omega⟩ ?_
  have Mw2 := self_ref (x := .lst (es.map Cn.fl ++ [.bl b])) Mw1
  have Mc2 := set_ref (x := .lst (es.map Cn.fl ++ [.bl b])) (Ne.symm hcw) Mc1
  have S2 := S1.set (d := .lst (es.map Cn.fl ++ [.bl b])) hwn
  generalize s1.set qw (.lst (es.map Cn.fl ++ [.bl b])) = s2 at Mw2 Mc2 S2 ⊢
  refine ws_seq (ws_appRn (n := qc) (ds := es.map Cn.d) ?_)
  (repeat fail)
  refine wc_of ⟨rfl, by rw [der_ref Mc2]; rfl⟩ ?_
  (repeat fail)
  refine q_word S2 (by omega) (T := [("key" : Str)]) (fun _ _ => rfl) (by decide) fun c s3 c1 c2 f3 S3 => ?_
  have hck : c ≠ "key" := fun z => c2 (List.mem_singleton.mpr z)
  have Mw3 := (f3.2 _ hwn).trans Mw2
  have Mc3 := (f3.2 _ hcn).trans Mc2
  refine wc_of ⟨Mc3, by rw [List.length_map]; unfold line; omega⟩ ?_
  have Mc4 := self_ref (x := .lst (es.map Cn.d ++ [.str c])) Mc3
  have Mw4 := set_ref (x := .lst (es.map Cn.d ++ [.str c])) hcw Mw3
  have S4 := S3.set (d := .lst (es.map Cn.d ++ [.str c])) hcn
  generalize s3.set qc (.lst (es.map Cn.d ++ [.str c])) = s4 at Mw4 Mc4 S4 ⊢
  (repeat fail)
  rw [der_ref Mw4]
  have il := item_end15 (es.map Cn.fl) (.bl b)
  rw [List.length_map] at il
  refine wo_some il ?_
  (repeat fail)
  have app : ∀ (e : Cn) s', e.ok → okL (es ++ [e]) → e.fl = .bl b → SrcAt s' n (k + 30) → s'[qc]? = some (.lst (es.map Cn.d ++ [e.d])) → s'[qw]? = some (.lst (es.map Cn.fl ++ [.bl b])) → N (L15 ns a n w qc qw (.pu (.int (es.length : Int))) t7 t8 t9 t10 t11 t12 t13 t14 t15) s' := fun e s' h1 h2 h3 h4 h5 h6 => by
    refine hN e s' h1 h2 (h4.mono (by omega)) ?_ ?_
    · rw [h5, List.map_append]; rfl
    · rw [h6, List.map_append, ← h3]; rfl
  have pl : ∀ y : D, putIx (.lst (es.map Cn.d ++ [.str c])) (.int (es.length : Int)) y = some (.lst (es.map Cn.d ++ [y])) := fun y => by
    have z := put_last (es.map Cn.d) (.str c) y
    rw [List.length_map] at z
    exact z
  cases b with
  | true =>
    (repeat fail)
    unfold p_law_0b2b2t0
    refine ws_put ?_
    (repeat fail)
    refine odd_ok S4 (by omega) fun x s5 hx f5 S5 => ?_
    (repeat fail)
    refine q_ofL S5 (by omega) (Nat.le_of_ble_eq_true rfl) (Nat.le_of_ble_eq_true rfl) fun y s6 hy f6 S6 => ?_
    have hyo : y ∈ oddL := by
      simp only [List.mem_cons, List.not_mem_nil, or_false] at hy
      rcases hy with rfl | rfl
      · exact hx
      · unfold oddL; simp
    have Mc6 := (f6.2 _ hcn).trans ((f5.2 _ hcn).trans Mc4)
    have Mw6 := (f6.2 _ hwn).trans ((f5.2 _ hwn).trans Mw4)
    (repeat fail)
    refine ⟨qc, _, _, rfl, Mc6, pl y, ?_⟩
    exact app (.od y true) _ hyo (okL_od hL (.inl rfl)) rfl ((S6.set hcn).mono (by omega)) (self_ref Mc6) (set_ref hcw Mw6)
  | false =>
    (repeat fail)
    unfold p_law_0b2b2e0
    by_cases h0 : (es.length : Int) > 0
    · (repeat fail)
      refine q_draw S4 (by omega) (by decide) (by decide) fun g s5 g0 g1 f5 S5 => ?_
      have Mc5 := (f5.2 _ hcn).trans Mc4
      have Mw5 := (f5.2 _ hwn).trans Mw4
      (repeat fail)
      by_cases hg : g = 0
      · (repeat fail)
        unfold p_law_0b2b2e0t0
        refine ws_put ?_
        (repeat fail)
        refine q_draw S5 (by omega) (by omega) (by omega) fun j s6 j0 j1 f6 S6 => ?_
        have Mc6 := (f6.2 _ hcn).trans Mc5
        have Mw6 := (f6.2 _ hwn).trans Mw5
        (repeat fail)
        rw [der_ref Mc6]
        obtain ⟨i', rfl⟩ : ∃ i' : Nat, j = i' := ⟨j.toNat, by omega⟩
        have hz : i' < es.length := by omega
        have hi := item_map Cn.d (qs := es ++ [.wd c]) (j := i') (q := es[i']) (by rw [List.getElem?_append_left hz]; exact List.getElem?_eq_getElem hz)
        rw [List.map_append] at hi
        have hm : es[i'] ∈ es := List.getElem_mem hz
        generalize es[i'] = e at hi hm
        refine wo_some hi ?_
        (repeat fail)
        refine ⟨qc, _, _, rfl, Mc6, pl e.d, ?_⟩
        cases e with
        | wd u => exact app (.wd u) _ (ho _ hm) (okL_wd hL) rfl ((S6.set hcn).mono (by omega)) (self_ref Mc6) (set_ref hcw Mw6)
        | od u f => exact app (.od u false) _ (ho (.od u f) hm) (okL_od hL (.inr ⟨u, f, hm⟩)) rfl ((S6.set hcn).mono (by omega)) (self_ref Mc6) (set_ref hcw Mw6)
      · (repeat fail)
        exact app (.wd c) _ ⟨c1, hck⟩ (okL_wd hL) rfl (S5.mono (by omega)) Mc5 Mw5
    · (repeat fail)
      exact app (.wd c) _ ⟨c1, hck⟩ (okL_wd hL) rfl (S4.mono (by omega)) Mc4 Mw4
end Dn
namespace Dn
open PySem PySem.Spec L2
open PyProof.Rows hiding St RelV
local macro_rules | `(tactic| fail) => `(tactic| (first | with_reducible refine wp_cons ?_ | with_reducible refine wp_nil ?_ | with_reducible refine wp_C ?_ | with_reducible refine wp_call ?_ | with_reducible refine wp_ifE ?_ | with_reducible refine wp_not ?_ | with_reducible refine wp_or ?_ | with_reducible refine wp_and ?_ | with_reducible refine wp_yes ?_ | with_reducible refine wp_noPart ?_ | with_reducible refine wp_dic0 ?_ | with_reducible refine wp_eqO ?_ | with_reducible refine wp_new ?_ | with_reducible refine wp_ixO ?_ | with_reducible refine wq_tup ?_ | with_reducible refine wq_lst ?_ | with_reducible refine wq_bin ?_ | with_reducible refine wq_cmp ?_ | with_reducible refine wq_ix ?_ | with_reducible refine wq_bt ?_ | with_reducible refine wq_mt ?_ | with_reducible refine wq_is ?_ | with_reducible refine wq_tru ?_ | with_reducible refine wq_attr ?_ | with_reducible refine wq_con ?_ | with_reducible refine wq_keys ?_ | with_reducible refine wq_rev ?_ | with_reducible refine wq_eq2 ?_ | with_reducible refine wq_ne2 ?_ | with_reducible refine wq_isi ?_ | with_reducible refine wq_sl ?_ | with_reducible refine wq_part ?_ | with_reducible refine wq_listO ?_ | with_reducible refine wq_iLst ?_ | with_reducible refine wq_iTp ?_ | with_reducible refine wq_iStrD ?_ | with_reducible refine wq_enot ?_ | with_reducible refine wq_eand ?_ | with_reducible refine wq_neg ?_ | with_reducible refine wq_get1 ?_ | with_reducible refine wq_get2 ?_ | with_reducible refine wq_prop ?_ | with_reducible refine wq_meth ?_ | with_reducible refine wq_methK ?_ | with_reducible refine wq_callK ?_ | with_reducible refine wq_inO ?_ | with_reducible refine wq_lenO ?_ | with_reducible refine wq_asg ?_ | with_reducible refine wq_par2 ?_ | with_reducible refine wq_parO ?_ | with_reducible refine wq_kOwn ?_ | with_reducible refine wq_ne3 ?_ | with_reducible refine wq_subB ?_ | with_reducible refine wq_op1 ?_ | with_reducible refine wq_op2 ?_ | with_reducible refine ws_seq ?_ | with_reducible refine ws_nil ?_ | with_reducible refine ws_set ?_ | with_reducible refine ws_ret ?_ | with_reducible refine ws_if ?_ | with_reducible refine ws_par3 ?_ | with_reducible refine ws_own ?_ | with_reducible refine wb_bl ?_ | with_reducible refine wl_lst ?_ | with_reducible refine wt_tup ?_ | with_reducible refine wi_int ?_ | with_reducible refine wstr ?_ | with_reducible refine lcw_cons ?_ | with_reducible refine lcw_nil ?_ | with_reducible refine fow_cons ?_ | with_reducible refine fow_nil ?_ | ((with_reducible refine wp_loc  (d := ?_) ?_  ?_); (rotate_left 1); (· exact rfl)) | ((with_reducible refine wp_rd  (d := ?_) ?_  ?_); (rotate_left 1); (· exact rfl)) | ((with_reducible refine wp_rdo  (b := ?_) (d := ?_) ?_  ?_); (rotate_left 2); (· exact rfl)) | ((with_reducible refine wp_args  (ds' := ?_) ?_ ?_ ?_  ?_); (rotate_left 1); (· exact rfl); (· exact rfl); (· exact rfl)) | ((with_reducible refine ws_frz  (d := ?_) ?_  ?_); (rotate_left 1); (· exact rfl)) | ((with_reducible refine ws_frzp  (d := ?_) ?_  ?_); (rotate_left 1); (· exact rfl)) | ((with_reducible refine wq_app  (b := ?_) (ds := ?_) ?_  ?_); (rotate_left 2); (· exact rfl)) | ((with_reducible refine wq_putO  (b := ?_) (c := ?_) ?_  ?_); (rotate_left 2); (· exact rfl)) | ((with_reducible refine wn_of ?_ ?_); (· first | exact Nat.le_of_ble_eq_true rfl | (simp only [List.length_map, List.length_append, List.length_cons, List.length_nil]; unfold line; omega))) | ((with_reducible refine wc_of ?_ ?_); (· first | exact rfl | exact ⟨rfl, rfl⟩ | exact ⟨by decide, rfl⟩ | decide | exact Nat.le_of_ble_eq_true rfl)) | ((with_reducible refine wo_some (o := cmpD _ _ _) (a := ?_) ?_  ?_); (rotate_left 1); (· first | exact eq_int _ _ | exact ne_int _ _ | exact eq_str _ _ | exact ne_str _ _ | exact ld_in _ _ | exact ld_notin _ _ | exact in_tups _ _ | exact notin_tups _ _ | exact in_ints _ _ | exact notin_ints _ _ | exact eq_ints _ _ | exact ne_ints _ _ | exact eq_strs _ _ | exact ne_strsL _ _ | exact eq_strsT _ _ | exact in_strs _ _)) | ((with_reducible refine wo_some (o := gSort _) (a := ?_) ?_  ?_); (rotate_left 1); (· first | exact sort_ints _)) | ((with_reducible refine wo_some (o := keysD _) (a := ?_) ?_  ?_); (rotate_left 1); (· first | exact keys_ld _ | exact keys_sd _)) | ((with_reducible refine wo_some  (a := ?_) ?_  ?_); (rotate_left 1); (· exact rfl)) | ((with_reducible refine ifT ?_ ?_); (· exact rfl)) | ((with_reducible refine ifF ?_ ?_); (· exact rfl)) | with_reducible refine ifNN ?_ | ((with_reducible refine ifNDF ?_ ?_); (· with_reducible exact rfl)) | ((with_reducible refine ifDT ?_ ?_); (· with_reducible exact rfl)) | ((with_reducible refine ifNDF ?_ ?_); (· assumption)) | ((with_reducible refine ifNDT ?_ ?_); (· assumption)) | ((with_reducible refine ifDF ?_ ?_); (· assumption)) | ((with_reducible refine ifDT ?_ ?_); (· assumption)) | ((with_reducible refine ifT ?_ ?_); (· assumption)) | ((with_reducible refine ifF ?_ ?_); (· assumption)) | with_reducible refine wpp_nil ?_ | with_reducible refine wpp_cons ?_ | with_reducible refine wq_dic ?_ | with_reducible refine wq_items ?_ | with_reducible refine wq_eqN ?_ | with_reducible refine wq_cat ?_ | ((with_reducible refine wq_augO  (d := ?_) ?_  ?_); (rotate_left 1); (· exact rfl)) | with_reducible refine wq_kOp2 ?_ | ((with_reducible refine wo_some (o := catD _ _) (a := ?_) ?_  ?_); (rotate_left 1); (· first | exact rfl | exact cat_lst (by simp only [List.length_map, List.length_append, List.length_cons, List.length_nil]; unfold line; omega)))))
theorem forL_one {t : Tgt} {body : S} {src : LSrc} {k : Nat} {ρ ρ' ρ'' : Loc} {s s' : Store} {d : D} (h0 : src 0 s = some (some d)) (h1 : setT t d ρ = some ρ') (h2 : body ρ' s = .nx ρ'' s') (h3 : src 1 s' = some none) : forL t body src (k + 2) 0 ρ s = .nx ρ'' s' := by
  unfold forL
  rw [h0]
  dsimp only
  rw [h1]
  dsimp only
  rw [h2]
  dsimp only
  unfold forL
  rw [h3]
theorem sForL_one {t : Tgt} {it : EIL} {body : S} {src : LSrc} {ρ ρ' ρ'' : Loc} {s s' : Store} {d : D} (hi : it ρ s = .ok src s) (h0 : src 0 s = some (some d)) (h1 : setT t d ρ = some ρ') (h2 : body ρ' s = .nx ρ'' s') (h3 : src 1 s' = some none) : sForL t it body ρ s = .nx ρ'' s' := by
  unfold sForL
  rw [hi]
  have e : (1000000 : Nat) = 999998 + 2 := by decide
  rw [e]
  generalize (999998 : Nat) = k
  exact forL_one h0 h1 h2 h3
theorem tinit_ref {w u : Str} {q : Nat} {st : Store} (hw : Word w) (h1 : w ≠ "table") (h2 : w ≠ "key") (hu : Word u) (hk : u ≠ "key") (hq : st[q]? = some (.lst [.str u])) :
    M_Target___init__ [.str w, .ref q, .dic []] st = .ok (tgtD w (.tup [.str u]) (habD (.str "stop") (.str "stop") (.str "stop") (.str "one"))) st := by
  show (m_Target___init__ (LT15 (.str w) (.ref q) (.dic []) [] .no .no .no) st).made = _
  unfold m_Target___init__
  rw [seq_nx (tinit0 hw h1 h2 st)]
  have q1 : sOwn 4 (eLst eNil) (LT15 (.str w) (.ref q) (.dic []) [] .no .no .no) st = .nx (LT15 (.str w) (.ref q) (.dic []) [] (.ow false (.lst (List.map D.str []))) .no .no) st := rfl
  rw [seq_nx q1]
  have e3 : p_Target___init___2 (LT15 (.str w) (.ref q) (.dic []) [] (.ow false (.lst (List.map D.str []))) .no .no) st = .nx (LT15 (.str w) (.ref q) (.dic []) [] (.ow false (.lst [.str u])) (.pu (.int 0)) (.pu (.str u))) st := by
    have hlv : isLive (.ref q) st = true := isLive_lst (der_ref hq)
    have hb : tBody (LT15 (.str w) (.ref q) (.dic []) [] (.ow false (.lst (List.map D.str []))) (.pu (.int ((0 : Nat) : Int))) (.pu (.str u))) st = .nx (LT15 (.str w) (.ref q) (.dic []) [] (.ow false (.lst [.str u])) (.pu (.int 0)) (.pu (.str u))) st := by
      have b1 := tg_wd (nm := .str w) (c := .ref q) (hs := .dic []) (k := 0) (ns := []) (st := st) hu hk
      rw [if_neg (by simp)] at b1
      exact (seq_nx b1).trans rfl
    have hi : iEnumL (eCons (eLoc 2) (eNil)) (LT15 (.str w) (.ref q) (.dic []) [] (.ow false (.lst (List.map D.str []))) .no .no) st = .ok (lsrcE (.ref q)) st := by
      show (if isLive (.ref q) st = true then Res.ok (lsrcE (.ref q)) st else .bad) = _
      rw [if_pos hlv]
    unfold p_Target___init___2 sOr
    rw [if_pos (show isRefAt 2 (LT15 (.str w) (.ref q) (.dic []) [] (.ow false (.lst (List.map D.str []))) .no .no) = true from rfl)]
    exact sForL_one hi (lsrcE_lst (der_ref hq) 0) rfl hb (lsrcE_lst (der_ref hq) 1)
  rw [seq_nx e3]
  have q4 : ∀ t4 t5 t6, p_Target___init___4 (LT15 (.str w) (.ref q) (.dic []) [("name", .str w)] t4 t5 t6) st = .nx (LT15 (.str w) (.ref q) (.dic []) [("name", .str w), ("columns", .tup [.str u])] t4 t5 t6) st := fun t4 t5 t6 => by
    have e : eBt gTuple (eCons (eRd 2) (eNil)) (LT15 (.str w) (.ref q) (.dic []) [("name", .str w)] t4 t5 t6) st = .ok (.tup [.str u]) st := by
      refine wp_get ?_
      (repeat fail)
      rw [List.map_singleton, der_ref hq]
      refine wo_some (a := .tup [.str u]) rfl ?_
      exact ⟨rfl, rfl⟩
    show (eBt gTuple (eCons (eRd 2) (eNil)) (LT15 (.str w) (.ref q) (.dic []) [("name", .str w)] t4 t5 t6) st).to _ _ = _
    rw [e]
    rfl
  have q3 : ∀ t4 t5 t6, sFldO ["Target"] 0 "name" (eLoc 1) (LT15 (.str w) (.ref q) (.dic []) [] t4 t5 t6) st = .nx (LT15 (.str w) (.ref q) (.dic []) [("name", .str w)] t4 t5 t6) st := fun t4 t5 t6 => rfl
  rw [seq_nx (q3 _ _ _), seq_nx (q4 _ _ _), p5_none st _ _ _ _ rfl]
  rfl
theorem heq15 (a b c d : Str) (s : Store) : M_Habits___eq__ [habD (.str a) (.str b) (.str c) (.str d), habD (.str a) (.str b) (.str c) (.str d)] s = .ok (.bl true) s := by
  refine wp_get ?_
  refine wp_fn ?_
  show Ws (m_Habits___eq__ [.pu (habD (.str a) (.str b) (.str c) (.str d)), .pu (habD (.str a) (.str b) (.str c) (.str d))] _) _ _
  unfold m_Habits___eq__ p_Habits___eq___0 p_Habits___eq___1 p_Habits___eq___2
  (repeat fail)
  exact ⟨by rw [decide_eq_true rfl], rfl⟩
theorem heqK (a b c d : Str) (s : Store) : kEq true [("Habits", argsM 2 0 [0, 1] [] M_Habits___eq__)] q_kinds (habD (.str a) (.str b) (.str c) (.str d)) (habD (.str a) (.str b) (.str c) (.str d)) s = .ok (.bl false) s := by
  have e : kEq true [("Habits", argsM 2 0 [0, 1] [] M_Habits___eq__)] q_kinds (habD (.str a) (.str b) (.str c) (.str d)) (habD (.str a) (.str b) (.str c) (.str d)) s = ((M_Habits___eq__ [habD (.str a) (.str b) (.str c) (.str d), habD (.str a) (.str b) (.str c) (.str d)] s).bind fun r s => (match r with
      | .bl b => .ok (.bl (b != true)) s
      | _ => .bad)) := rfl
  rw [e, heq15]
  rfl
end Dn
namespace Dn
open PySem PySem.Spec L2
open PyProof.Rows hiding St RelV
local macro_rules | `(tactic| fail) => `(tactic| (first | with_reducible refine wp_cons ?_ | with_reducible refine wp_nil ?_ | with_reducible refine wp_C ?_ | with_reducible refine wp_call ?_ | with_reducible refine wp_ifE ?_ | with_reducible refine wp_not ?_ | with_reducible refine wp_or ?_ | with_reducible refine wp_and ?_ | with_reducible refine wp_yes ?_ | with_reducible refine wp_noPart ?_ | with_reducible refine wp_dic0 ?_ | with_reducible refine wp_eqO ?_ | with_reducible refine wp_new ?_ | with_reducible refine wp_ixO ?_ | with_reducible refine wq_tup ?_ | with_reducible refine wq_lst ?_ | with_reducible refine wq_bin ?_ | with_reducible refine wq_cmp ?_ | with_reducible refine wq_ix ?_ | with_reducible refine wq_bt ?_ | with_reducible refine wq_mt ?_ | with_reducible refine wq_is ?_ | with_reducible refine wq_tru ?_ | with_reducible refine wq_attr ?_ | with_reducible refine wq_con ?_ | with_reducible refine wq_keys ?_ | with_reducible refine wq_rev ?_ | with_reducible refine wq_eq2 ?_ | with_reducible refine wq_ne2 ?_ | with_reducible refine wq_isi ?_ | with_reducible refine wq_sl ?_ | with_reducible refine wq_part ?_ | with_reducible refine wq_listO ?_ | with_reducible refine wq_iLst ?_ | with_reducible refine wq_iTp ?_ | with_reducible refine wq_iStrD ?_ | with_reducible refine wq_enot ?_ | with_reducible refine wq_eand ?_ | with_reducible refine wq_neg ?_ | with_reducible refine wq_get1 ?_ | with_reducible refine wq_get2 ?_ | with_reducible refine wq_prop ?_ | with_reducible refine wq_meth ?_ | with_reducible refine wq_methK ?_ | with_reducible refine wq_callK ?_ | with_reducible refine wq_inO ?_ | with_reducible refine wq_lenO ?_ | with_reducible refine wq_asg ?_ | with_reducible refine wq_par2 ?_ | with_reducible refine wq_parO ?_ | with_reducible refine wq_kOwn ?_ | with_reducible refine wq_ne3 ?_ | with_reducible refine wq_subB ?_ | with_reducible refine wq_op1 ?_ | with_reducible refine wq_op2 ?_ | with_reducible refine ws_seq ?_ | with_reducible refine ws_nil ?_ | with_reducible refine ws_set ?_ | with_reducible refine ws_ret ?_ | with_reducible refine ws_if ?_ | with_reducible refine ws_par3 ?_ | with_reducible refine ws_own ?_ | with_reducible refine wb_bl ?_ | with_reducible refine wl_lst ?_ | with_reducible refine wt_tup ?_ | with_reducible refine wi_int ?_ | with_reducible refine wstr ?_ | with_reducible refine lcw_cons ?_ | with_reducible refine lcw_nil ?_ | with_reducible refine fow_cons ?_ | with_reducible refine fow_nil ?_ | ((with_reducible refine wp_loc  (d := ?_) ?_  ?_); (rotate_left 1); (· exact rfl)) | ((with_reducible refine wp_rd  (d := ?_) ?_  ?_); (rotate_left 1); (· exact rfl)) | ((with_reducible refine wp_rdo  (b := ?_) (d := ?_) ?_  ?_); (rotate_left 2); (· exact rfl)) | ((with_reducible refine wp_args  (ds' := ?_) ?_ ?_ ?_  ?_); (rotate_left 1); (· exact rfl); (· exact rfl); (· exact rfl)) | ((with_reducible refine ws_frz  (d := ?_) ?_  ?_); (rotate_left 1); (· exact rfl)) | ((with_reducible refine ws_frzp  (d := ?_) ?_  ?_); (rotate_left 1); (· exact rfl)) | ((with_reducible refine wq_app  (b := ?_) (ds := ?_) ?_  ?_); (rotate_left 2); (· exact rfl)) | ((with_reducible refine wq_putO  (b := ?_) (c := ?_) ?_  ?_); (rotate_left 2); (· exact rfl)) | ((with_reducible refine wn_of ?_ ?_); (· first | exact Nat.le_of_ble_eq_true rfl | (simp only [List.length_map, List.length_append, List.length_cons, List.length_nil]; unfold line; omega))) | ((with_reducible refine wc_of ?_ ?_); (· first | exact rfl | exact ⟨rfl, rfl⟩ | exact ⟨by decide, rfl⟩ | decide | exact Nat.le_of_ble_eq_true rfl)) | ((with_reducible refine wo_some (o := cmpD _ _ _) (a := ?_) ?_  ?_); (rotate_left 1); (· first | exact eq_int _ _ | exact ne_int _ _ | exact eq_str _ _ | exact ne_str _ _ | exact ld_in _ _ | exact ld_notin _ _ | exact in_tups _ _ | exact notin_tups _ _ | exact in_ints _ _ | exact notin_ints _ _ | exact eq_ints _ _ | exact ne_ints _ _ | exact eq_strs _ _ | exact ne_strsL _ _ | exact eq_strsT _ _ | exact in_strs _ _)) | ((with_reducible refine wo_some (o := gSort _) (a := ?_) ?_  ?_); (rotate_left 1); (· first | exact sort_ints _)) | ((with_reducible refine wo_some (o := keysD _) (a := ?_) ?_  ?_); (rotate_left 1); (· first | exact keys_ld _ | exact keys_sd _)) | ((with_reducible refine wo_some  (a := ?_) ?_  ?_); (rotate_left 1); (· exact rfl)) | ((with_reducible refine ifT ?_ ?_); (· exact rfl)) | ((with_reducible refine ifF ?_ ?_); (· exact rfl)) | with_reducible refine ifNN ?_ | ((with_reducible refine ifNDF ?_ ?_); (· with_reducible exact rfl)) | ((with_reducible refine ifDT ?_ ?_); (· with_reducible exact rfl)) | ((with_reducible refine ifNDF ?_ ?_); (· assumption)) | ((with_reducible refine ifNDT ?_ ?_); (· assumption)) | ((with_reducible refine ifDF ?_ ?_); (· assumption)) | ((with_reducible refine ifDT ?_ ?_); (· assumption)) | ((with_reducible refine ifT ?_ ?_); (· assumption)) | ((with_reducible refine ifF ?_ ?_); (· assumption)) | with_reducible refine wpp_nil ?_ | with_reducible refine wpp_cons ?_ | with_reducible refine wq_dic ?_ | with_reducible refine wq_items ?_ | with_reducible refine wq_eqN ?_ | with_reducible refine wq_cat ?_ | ((with_reducible refine wq_augO  (d := ?_) ?_  ?_); (rotate_left 1); (· exact rfl)) | with_reducible refine wq_kOp2 ?_ | ((with_reducible refine wo_some (o := catD _ _) (a := ?_) ?_  ?_); (rotate_left 1); (· first | exact rfl | exact cat_lst (by simp only [List.length_map, List.length_append, List.length_cons, List.length_nil]; unfold line; omega)))))
theorem ws_unseq {m k : S} {ρ : Loc} {s : Store} {N : Loc → Store → Prop} {R : D → Store → Prop} (h : Ws (bCons m k ρ s) N R) : Ws (m ρ s) (fun ρ s => Ws (k ρ s) N R) R := by
  unfold bCons at h
  cases e : m ρ s with
  | nx ρ s => rw [e] at h; exact h
  | rt d s => rw [e] at h; exact h
  | bk ρ s => rw [e] at h; exact h
  | ct ρ s => rw [e] at h; exact h
  | ex C fs ρ s => rw [e] at h; exact h
  | bad => rw [e] at h; exact h
theorem none4 {p l g v : Str} (rp : goodH hA1 (.str p) = true) (rl : goodH hA2 (.str l) = true) (rg : goodH hA3 (.str g) = true) (rv : goodH hA4 (.str v) = true) : badH (.str p) (.str l) (.str g) (.str v) = none := by
  unfold badH
  rw [rp, rl, rg, rv]
  rfl
theorem end15 {ns : List Int} {a : Int} {n qc qw qh k : Nat} {w p0 l0 g0 v0 : Str} {t6 t9 t10 t11 t12 t13 t14 t15 : Slot} {s : Store} {R : D → Store → Prop} (S : SrcAt s n k) (hk : k < 41000000)
    (hw : Word w) (w1 : w ≠ "table") (w2 : w ≠ "key") (rp : goodH hA1 (.str p0) = true) (rl : goodH hA2 (.str l0) = true) (rg : goodH hA3 (.str g0) = true) (rv : goodH hA4 (.str v0) = true) :
    Ws (bCons p_law_0b10 (bCons p_law_0b11 (bCons p_law_0b12 (bCons p_law_0b13 (bCons p_law_0b14 (bCons (sAppR (eLoc 13) (eLoc 12)) (bCons p_law_0b16 (bCons p_law_0b17 p_law_0b18))))))) (L15 ns a n w qc qw t6 (.pu (.ref qh)) (.pu (.lst [.str p0, .str l0, .str g0, .str v0])) t9 t10 t11 t12 t13 t14 t15) s) (fun ρ _ => ∃ t r, ρ = .pu (.scr ns) :: t :: r ∧ r.length = 14) R := by
  have go : ∀ (u v : Str) s1, Word u → u ≠ "key" → Word v → v ≠ "key" →
      Ws (bCons p_law_0b12 (bCons p_law_0b13 (bCons p_law_0b14 (bCons (sAppR (eLoc 13) (eLoc 12)) (bCons p_law_0b16 (bCons p_law_0b17 p_law_0b18))))) (L15 ns a n w qc qw t6 (.pu (.ref qh)) (.pu (.lst [.str p0, .str l0, .str g0, .str v0])) t9 t10 (.pu (.str u)) (.pu (.str v)) t13 t14 t15) s1) (fun ρ _ => ∃ t r, ρ = .pu (.scr ns) :: t :: r ∧ r.length = 14) R := by
    intro u v s1 hu uk hv vk
    have T := told15 (es := [.wd u, .wd v]) (c := .lst [.str u, .str v]) (x := .lst [.str p0, .str l0, .str g0, .str v0]) (st := s1) hw w1 w2 (fun e he => by simp only [List.mem_cons, List.not_mem_nil, or_false] at he; exact he.elim (fun z => by rw [z]; exact ⟨hu, uk⟩) (fun z => by rw [z]; exact ⟨hv, vk⟩)) (.inl rfl) (show 2 ≤ 100 by decide) rfl (.inl ⟨_, rfl⟩) (.inl ⟨_, rfl⟩) (.inl ⟨_, rfl⟩) (.inl ⟨_, rfl⟩)
    have e0 : badC [] 0 [.wd u, .wd v] = if v = u then some 1 else none := by simp [badC]
    have P := fun st : Store => tinit (st := st) (es := [.wd u]) (c := .lst [.str u]) (hs := .dic [(.str "gone", .str g0), (.str "present", .str p0)]) (bh := none) (hd := habD (.str p0) (.str "stop") (.str g0) (.str "one")) hw w1 w2 (fun e he => by rw [List.mem_singleton.mp he]; exact ⟨hu, uk⟩) (.inl rfl) (show 1 ≤ 100 by decide) (fun fs t4 t5 t6 h => p5_two rp rg _ fs t4 t5 t6 h)
    unfold p_law_0b12
    (repeat fail)
    refine wp_eq T ?_
    unfold toldV
    rw [e0, none4 rp rl rg rv]
    have rest : Ws (bCons p_law_0b13 (bCons p_law_0b14 (bCons (sAppR (eLoc 13) (eLoc 12)) (bCons p_law_0b16 (bCons p_law_0b17 p_law_0b18)))) (L15 ns a n w qc qw t6 (.pu (.ref qh)) (.pu (.lst [.str p0, .str l0, .str g0, .str v0])) t9 t10 (.pu (.str u)) (.pu (.str v)) t13 t14 t15) s1) (fun ρ _ => ∃ t r, ρ = .pu (.scr ns) :: t :: r ∧ r.length = 14) R := by
      unfold p_law_0b13
      (repeat fail)
      have Mq := new_ref (s := s1) (.lst [.str u])
      generalize s1.length = q at Mq ⊢
      generalize s1 ++ [D.lst [.str u]] = s2 at Mq ⊢
      have hk0 : kwM 2 [] M_Target___init__ [.str w, .ref q] s2 = M_Target___init__ [.str w, .ref q, .dic []] s2 := by unfold kwM; rfl
      have hk1 : kwM 2 ["gone", "present"] M_Target___init__ [.str w, .lst [.str u], .str g0, .str p0] s2 = M_Target___init__ [.str w, .lst [.str u], .dic [(.str "gone", .str g0), (.str "present", .str p0)]] s2 := by unfold kwM; rfl
      unfold p_law_0b14
      (repeat fail)
      rw [hk0]
      refine wp_eq (tinit_ref hw w1 w2 hu uk Mq) ?_
      (repeat fail)
      show Wp (kwM 2 ["gone", "present"] M_Target___init__ [.str w, .lst [.str u], .str g0, .str p0] s2) _
      rw [hk1]
      have P2 : M_Target___init__ [.str w, .lst [.str u], .dic [(.str "gone", .str g0), (.str "present", .str p0)]] s2 = .ok (tgtD w (.tup [.str u]) (habD (.str p0) (.str "stop") (.str g0) (.str "one"))) s2 := (P s2).trans rfl
      refine wp_eq P2 ?_
      (repeat fail)
      refine ws_appRn (n := q) (ds := [.str u]) ?_
      (repeat fail)
      refine wc_of ⟨rfl, by rw [der_ref Mq]; rfl⟩ ?_
      (repeat fail)
      refine wc_of ⟨Mq, show 1 < line by unfold line; decide⟩ ?_
      generalize s2.set q _ = s3
      have dq : (!deq (D.tup [.str u]) (D.tup [.str u])) = false := by rw [deq_refl 60 _ rfl]; rfl
      have H0 : M_Habits___init__ [.str "stop", .str "stop", .str "stop", .str "one"] s3 = .ok (habD (.str "stop") (.str "stop") (.str "stop") (.str "one")) s3 := by
        rw [hab_ok (.inl ⟨_, rfl⟩) (.inl ⟨_, rfl⟩) (.inl ⟨_, rfl⟩) (.inl ⟨_, rfl⟩), none4 goodH_defs.1 goodH_defs.2.1 goodH_defs.2.2.1 goodH_defs.2.2.2]
      have H1 : M_Habits___init__ [.str p0, .str "stop", .str g0, .str "one"] s3 = .ok (habD (.str p0) (.str "stop") (.str g0) (.str "one")) s3 := by
        rw [hab_ok (.inl ⟨_, rfl⟩) (.inl ⟨_, rfl⟩) (.inl ⟨_, rfl⟩) (.inl ⟨_, rfl⟩), none4 rp goodH_defs.2.1 rg goodH_defs.2.2.2]
      unfold p_law_0b16
      (repeat fail)
      refine wp_eq H0 ?_
      (repeat fail)
      refine wp_eq (heqK _ _ _ _ s3) ?_
      (repeat fail)
      unfold p_law_0b17
      (repeat fail)
      refine wp_eq H1 ?_
      (repeat fail)
      refine wp_eq (heqK _ _ _ _ s3) ?_
      (repeat fail)
      unfold p_law_0b18
      (repeat fail)
      exact ⟨_, _, rfl, rfl⟩
    by_cases h : u = v
    · subst h
      rw [if_pos rfl]
      (repeat fail)
      exact ws_unseq rest
    · rw [if_neg (Ne.symm h)]
      (repeat fail)
      have dq : (!deq (D.tup [.str p0, .str l0, .str g0, .str v0]) (D.tup [.str p0, .str l0, .str g0, .str v0])) = false := by rw [deq_refl 60 _ rfl]; rfl
      show if (!deq (D.tup [.str p0, .str l0, .str g0, .str v0]) (D.tup [.str p0, .str l0, .str g0, .str v0])) = true then _ else _
      rw [dq]
      (repeat fail)
      exact ws_unseq rest
  unfold p_law_0b10
  (repeat fail)
  refine q_word S (by omega) (T := [("key" : Str)]) (fun _ _ => rfl) (by decide) fun u s1 u1 u2 f1 S1 => ?_
  (repeat fail)
  refine q_word S1 (by omega) (T := [("key" : Str)]) (fun _ _ => rfl) (by decide) fun v s2 v1 v2 f2 S2 => ?_
  have huk : u ≠ "key" := fun z => u2 (List.mem_singleton.mpr z)
  have hvk : v ≠ "key" := fun z => v2 (List.mem_singleton.mpr z)
  (repeat fail)
  unfold p_law_0b11
  (repeat fail)
  refine q_draw S2 (by omega) (by decide) (by decide) fun d s3 d0 d1 f3 S3 => ?_
  (repeat fail)
  by_cases hd : d = 0
  · (repeat fail)
    exact ws_unseq (go u u s3 u1 huk u1 huk)
  · (repeat fail)
    exact ws_unseq (go u v s3 u1 huk v1 hvk)
end Dn
namespace Dn
open PySem PySem.Spec L2
open PyProof.Rows hiding St RelV
local macro_rules | `(tactic| fail) => `(tactic| (first | with_reducible refine wp_cons ?_ | with_reducible refine wp_nil ?_ | with_reducible refine wp_C ?_ | with_reducible refine wp_call ?_ | with_reducible refine wp_ifE ?_ | with_reducible refine wp_not ?_ | with_reducible refine wp_or ?_ | with_reducible refine wp_and ?_ | with_reducible refine wp_yes ?_ | with_reducible refine wp_noPart ?_ | with_reducible refine wp_dic0 ?_ | with_reducible refine wp_eqO ?_ | with_reducible refine wp_new ?_ | with_reducible refine wp_ixO ?_ | with_reducible refine wq_tup ?_ | with_reducible refine wq_lst ?_ | with_reducible refine wq_bin ?_ | with_reducible refine wq_cmp ?_ | with_reducible refine wq_ix ?_ | with_reducible refine wq_bt ?_ | with_reducible refine wq_mt ?_ | with_reducible refine wq_is ?_ | with_reducible refine wq_tru ?_ | with_reducible refine wq_attr ?_ | with_reducible refine wq_con ?_ | with_reducible refine wq_keys ?_ | with_reducible refine wq_rev ?_ | with_reducible refine wq_eq2 ?_ | with_reducible refine wq_ne2 ?_ | with_reducible refine wq_isi ?_ | with_reducible refine wq_sl ?_ | with_reducible refine wq_part ?_ | with_reducible refine wq_listO ?_ | with_reducible refine wq_iLst ?_ | with_reducible refine wq_iTp ?_ | with_reducible refine wq_iStrD ?_ | with_reducible refine wq_enot ?_ | with_reducible refine wq_eand ?_ | with_reducible refine wq_neg ?_ | with_reducible refine wq_get1 ?_ | with_reducible refine wq_get2 ?_ | with_reducible refine wq_prop ?_ | with_reducible refine wq_meth ?_ | with_reducible refine wq_methK ?_ | with_reducible refine wq_callK ?_ | with_reducible refine wq_inO ?_ | with_reducible refine wq_lenO ?_ | with_reducible refine wq_asg ?_ | with_reducible refine wq_par2 ?_ | with_reducible refine wq_parO ?_ | with_reducible refine wq_kOwn ?_ | with_reducible refine wq_ne3 ?_ | with_reducible refine wq_subB ?_ | with_reducible refine wq_op1 ?_ | with_reducible refine wq_op2 ?_ | with_reducible refine ws_seq ?_ | with_reducible refine ws_nil ?_ | with_reducible refine ws_set ?_ | with_reducible refine ws_ret ?_ | with_reducible refine ws_if ?_ | with_reducible refine ws_par3 ?_ | with_reducible refine ws_own ?_ | with_reducible refine wb_bl ?_ | with_reducible refine wl_lst ?_ | with_reducible refine wt_tup ?_ | with_reducible refine wi_int ?_ | with_reducible refine wstr ?_ | with_reducible refine lcw_cons ?_ | with_reducible refine lcw_nil ?_ | with_reducible refine fow_cons ?_ | with_reducible refine fow_nil ?_ | ((with_reducible refine wp_loc  (d := ?_) ?_  ?_); (rotate_left 1); (· exact rfl)) | ((with_reducible refine wp_rd  (d := ?_) ?_  ?_); (rotate_left 1); (· exact rfl)) | ((with_reducible refine wp_rdo  (b := ?_) (d := ?_) ?_  ?_); (rotate_left 2); (· exact rfl)) | ((with_reducible refine wp_args  (ds' := ?_) ?_ ?_ ?_  ?_); (rotate_left 1); (· exact rfl); (· exact rfl); (· exact rfl)) | ((with_reducible refine ws_frz  (d := ?_) ?_  ?_); (rotate_left 1); (· exact rfl)) | ((with_reducible refine ws_frzp  (d := ?_) ?_  ?_); (rotate_left 1); (· exact rfl)) | ((with_reducible refine wq_app  (b := ?_) (ds := ?_) ?_  ?_); (rotate_left 2); (· exact rfl)) | ((with_reducible refine wq_putO  (b := ?_) (c := ?_) ?_  ?_); (rotate_left 2); (· exact rfl)) | ((with_reducible refine wn_of ?_ ?_); (· first | exact Nat.le_of_ble_eq_true rfl | (simp only [List.length_map, List.length_append, List.length_cons, List.length_nil]; unfold line; omega))) | ((with_reducible refine wc_of ?_ ?_); (· first | exact rfl | exact ⟨rfl, rfl⟩ | exact ⟨by decide, rfl⟩ | decide | exact Nat.le_of_ble_eq_true rfl)) | ((with_reducible refine wo_some (o := cmpD _ _ _) (a := ?_) ?_  ?_); (rotate_left 1); (· first | exact eq_int _ _ | exact ne_int _ _ | exact eq_str _ _ | exact ne_str _ _ | exact ld_in _ _ | exact ld_notin _ _ | exact in_tups _ _ | exact notin_tups _ _ | exact in_ints _ _ | exact notin_ints _ _ | exact eq_ints _ _ | exact ne_ints _ _ | exact eq_strs _ _ | exact ne_strsL _ _ | exact eq_strsT _ _ | exact in_strs _ _)) | ((with_reducible refine wo_some (o := gSort _) (a := ?_) ?_  ?_); (rotate_left 1); (· first | exact sort_ints _)) | ((with_reducible refine wo_some (o := keysD _) (a := ?_) ?_  ?_); (rotate_left 1); (· first | exact keys_ld _ | exact keys_sd _)) | ((with_reducible refine wo_some  (a := ?_) ?_  ?_); (rotate_left 1); (· exact rfl)) | ((with_reducible refine ifT ?_ ?_); (· exact rfl)) | ((with_reducible refine ifF ?_ ?_); (· exact rfl)) | with_reducible refine ifNN ?_ | ((with_reducible refine ifNDF ?_ ?_); (· with_reducible exact rfl)) | ((with_reducible refine ifDT ?_ ?_); (· with_reducible exact rfl)) | ((with_reducible refine ifNDF ?_ ?_); (· assumption)) | ((with_reducible refine ifNDT ?_ ?_); (· assumption)) | ((with_reducible refine ifDF ?_ ?_); (· assumption)) | ((with_reducible refine ifDT ?_ ?_); (· assumption)) | ((with_reducible refine ifT ?_ ?_); (· assumption)) | ((with_reducible refine ifF ?_ ?_); (· assumption)) | with_reducible refine wpp_nil ?_ | with_reducible refine wpp_cons ?_ | with_reducible refine wq_dic ?_ | with_reducible refine wq_items ?_ | with_reducible refine wq_eqN ?_ | with_reducible refine wq_cat ?_ | ((with_reducible refine wq_augO  (d := ?_) ?_  ?_); (rotate_left 1); (· exact rfl)) | with_reducible refine wq_kOp2 ?_ | ((with_reducible refine wo_some (o := catD _ _) (a := ?_) ?_  ?_); (rotate_left 1); (· first | exact rfl | exact cat_lst (by simp only [List.length_map, List.length_append, List.length_cons, List.length_nil]; unfold line; omega)))))
theorem ne_told (es : List Cn) {p l g v : D} {s : Store} (hp : HV p) (hl : HV l) (hg : HV g) (hv : HV v) : cmpD .NotEq (toldV es p l g v) (toldV es p l g v) = some (.bl false) ∧ der s (toldV es p l g v) = toldV es p l g v := by
  have hq : ∀ d : D, HV d → okq 60 d = true := fun d h => by
    rcases h with ⟨w, rfl⟩ | rfl | rfl | rfl | rfl | rfl <;> rfl
  have key : ∀ ds : List D, ds.all (okq 59) = true → cmpD .NotEq (.tup ds) (.tup ds) = some (.bl false) := fun ds h => by
    show (if okq 60 (.tup ds) && okq 60 (.tup ds) then some (D.bl (!deqs ds ds)) else none) = _
    have e : okq 60 (.tup ds) = true := h
    rw [e, deqs_refl 59 ds h]
    rfl
  have hq9 : ∀ d : D, HV d → okq 59 d = true := fun d h => by
    rcases h with ⟨w, rfl⟩ | rfl | rfl | rfl | rfl | rfl <;> rfl
  unfold toldV
  cases badC [] 0 es with
  | some j => exact ⟨key _ rfl, rfl⟩
  | none =>
    cases badH p l g v with
    | some h => exact ⟨key _ rfl, rfl⟩
    | none =>
      refine ⟨key _ ?_, rfl⟩
      simp only [List.all_cons, List.all_nil, hq9 _ hp, hq9 _ hl, hq9 _ hg, hq9 _ hv]
      rfl
theorem rest15 {ns : List Int} {a : Int} {n qc qw qh k : Nat} {w p0 l0 g0 v0 : Str} {es : List Cn} {p l g v : D} {t6 t9 t10 t11 t12 t13 t14 t15 : Slot} {s : Store} {R : D → Store → Prop} (S : SrcAt s n k) (hk : k < 40000000) (hcn : qc ≠ n) (hwn : qw ≠ n) (hhn : qh ≠ n)
    (Mc : s[qc]? = some (.lst (es.map Cn.d))) (Mw : s[qw]? = some (.lst (es.map Cn.fl))) (Mh : s[qh]? = some (.lst [p, l, g, v])) (ho : ∀ e ∈ es, e.ok) (hL : okL es) (hl : es.length ≤ 100)
    (hw : Word w) (w1 : w ≠ "table") (w2 : w ≠ "key") (hp : HV p) (hl' : HV l) (hg : HV g) (hv : HV v) (rp : goodH hA1 (.str p0) = true) (rl : goodH hA2 (.str l0) = true) (rg : goodH hA3 (.str g0) = true) (rv : goodH hA4 (.str v0) = true) :
    Ws (bCons p_law_0b6 (bCons p_law_0b7 (bCons p_law_0b8 (bCons p_law_0b9 (bCons p_law_0b10 (bCons p_law_0b11 (bCons p_law_0b12 (bCons p_law_0b13 (bCons p_law_0b14 (bCons (sAppR (eLoc 13) (eLoc 12)) (bCons p_law_0b16 (bCons p_law_0b17 p_law_0b18))))))))))) (L15 ns a n w qc qw t6 (.pu (.ref qh)) (.pu (.lst [.str p0, .str l0, .str g0, .str v0])) t9 t10 t11 t12 t13 t14 t15) s) (fun ρ _ => ∃ t r, ρ = .pu (.scr ns) :: t :: r ∧ r.length = 14) R := by
  have nt := fun (es : List Cn) (s : Store) => ne_told es (s := s) hp hl' hg hv
  have go : ∀ (c : D) s1, (c = .lst (es.map Cn.d) ∨ c = .tup (es.map Cn.d)) → SrcAt s1 n (k + 2) → s1[qc]? = some (.lst (es.map Cn.d)) → s1[qw]? = some (.lst (es.map Cn.fl)) → s1[qh]? = some (.lst [p, l, g, v]) →
      Ws (bCons p_law_0b7 (bCons p_law_0b8 (bCons p_law_0b9 (bCons p_law_0b10 (bCons p_law_0b11 (bCons p_law_0b12 (bCons p_law_0b13 (bCons p_law_0b14 (bCons (sAppR (eLoc 13) (eLoc 12)) (bCons p_law_0b16 (bCons p_law_0b17 p_law_0b18)))))))))) (L15 ns a n w qc qw t6 (.pu (.ref qh)) (.pu (.lst [.str p0, .str l0, .str g0, .str v0])) (.pu c) t10 t11 t12 t13 t14 t15) s1) (fun ρ _ => ∃ t r, ρ = .pu (.scr ns) :: t :: r ∧ r.length = 14) R := by
    intro c s1 hc S1 Mc1 Mw1 Mh1
    unfold p_law_0b7
    (repeat fail)
    refine wp_eq (told15 hw w1 w2 ho hc hl (der_ref Mh1) hp hl' hg hv) ?_
    (repeat fail)
    refine wp_eq (due15 (der_ref Mc1) (der_ref Mw1) (der_ref Mh1) hL hl hp hl' hg hv) ?_
    rw [(nt es s1).2]
    refine wo_some (nt es s1).1 ?_
    (repeat fail)
    unfold p_law_0b8
    (repeat fail)
    refine odd_ok S1 (by omega) fun x s2 hx f2 S2 => ?_
    (repeat fail)
    refine q_ofL S2 (by omega) (Nat.le_of_ble_eq_true rfl) (Nat.le_of_ble_eq_true rfl) fun y s3 hy f3 S3 => ?_
    have hyo : y ∈ oddN := by
      simp only [List.mem_cons, List.not_mem_nil, or_false] at hy
      rcases hy with rfl | rfl | rfl
      · exact List.mem_cons_of_mem _ hx
      · exact List.mem_cons_self
      · unfold oddN oddL; simp
    have Mc3 := (f3.2 _ hcn).trans ((f2.2 _ hcn).trans Mc1)
    have Mw3 := (f3.2 _ hwn).trans ((f2.2 _ hwn).trans Mw1)
    have Mh3 := (f3.2 _ hhn).trans ((f2.2 _ hhn).trans Mh1)
    (repeat fail)
    unfold p_law_0b9
    (repeat fail)
    refine wp_eq (told_odd hyo (der_ref Mh3)) ?_
    (repeat fail)
    refine wp_eq (told15 (es := []) hw w1 w2 (fun _ h => nomatch h) (.inl rfl) (by decide) (der_ref Mh3) hp hl' hg hv) ?_
    (repeat fail)
    refine wp_eq (due15 (es := []) (s := s3) rfl rfl (der_ref Mh3) (fun pre x post e => by cases pre <;> cases e) (by decide) hp hl' hg hv) ?_
    rw [(nt [] s3).2]
    refine wo_some (nt [] s3).1 ?_
    (repeat fail)
    exact ws_unseq (end15 S3 (by omega) hw w1 w2 rp rl rg rv)
  unfold p_law_0b6
  (repeat fail)
  refine q_draw S (by omega) (by decide) (by decide) fun d s1 d0 d1 f1 S1 => ?_
  have Mc1 := (f1.2 _ hcn).trans Mc
  have Mw1 := (f1.2 _ hwn).trans Mw
  have Mh1 := (f1.2 _ hhn).trans Mh
  (repeat fail)
  by_cases hd : d = 0
  · (repeat fail)
    rw [List.map_singleton, der_ref Mc1]
    refine wo_some (a := .lst (es.map Cn.d)) rfl ?_
    exact go _ s1 (.inl rfl) (S1.mono (by omega)) Mc1 Mw1 Mh1
  · (repeat fail)
    rw [List.map_singleton, der_ref Mc1]
    refine wo_some (a := .tup (es.map Cn.d)) rfl ?_
    exact go _ s1 (.inr rfl) (S1.mono (by omega)) Mc1 Mw1 Mh1
end Dn
namespace Dn
open PySem PySem.Spec L2
open PyProof.Rows hiding St RelV
local macro_rules | `(tactic| fail) => `(tactic| (first | with_reducible refine wp_cons ?_ | with_reducible refine wp_nil ?_ | with_reducible refine wp_C ?_ | with_reducible refine wp_call ?_ | with_reducible refine wp_ifE ?_ | with_reducible refine wp_not ?_ | with_reducible refine wp_or ?_ | with_reducible refine wp_and ?_ | with_reducible refine wp_yes ?_ | with_reducible refine wp_noPart ?_ | with_reducible refine wp_dic0 ?_ | with_reducible refine wp_eqO ?_ | with_reducible refine wp_new ?_ | with_reducible refine wp_ixO ?_ | with_reducible refine wq_tup ?_ | with_reducible refine wq_lst ?_ | with_reducible refine wq_bin ?_ | with_reducible refine wq_cmp ?_ | with_reducible refine wq_ix ?_ | with_reducible refine wq_bt ?_ | with_reducible refine wq_mt ?_ | with_reducible refine wq_is ?_ | with_reducible refine wq_tru ?_ | with_reducible refine wq_attr ?_ | with_reducible refine wq_con ?_ | with_reducible refine wq_keys ?_ | with_reducible refine wq_rev ?_ | with_reducible refine wq_eq2 ?_ | with_reducible refine wq_ne2 ?_ | with_reducible refine wq_isi ?_ | with_reducible refine wq_sl ?_ | with_reducible refine wq_part ?_ | with_reducible refine wq_listO ?_ | with_reducible refine wq_iLst ?_ | with_reducible refine wq_iTp ?_ | with_reducible refine wq_iStrD ?_ | with_reducible refine wq_enot ?_ | with_reducible refine wq_eand ?_ | with_reducible refine wq_neg ?_ | with_reducible refine wq_get1 ?_ | with_reducible refine wq_get2 ?_ | with_reducible refine wq_prop ?_ | with_reducible refine wq_meth ?_ | with_reducible refine wq_methK ?_ | with_reducible refine wq_callK ?_ | with_reducible refine wq_inO ?_ | with_reducible refine wq_lenO ?_ | with_reducible refine wq_asg ?_ | with_reducible refine wq_par2 ?_ | with_reducible refine wq_parO ?_ | with_reducible refine wq_kOwn ?_ | with_reducible refine wq_ne3 ?_ | with_reducible refine wq_subB ?_ | with_reducible refine wq_op1 ?_ | with_reducible refine wq_op2 ?_ | with_reducible refine ws_seq ?_ | with_reducible refine ws_nil ?_ | with_reducible refine ws_set ?_ | with_reducible refine ws_ret ?_ | with_reducible refine ws_if ?_ | with_reducible refine ws_par3 ?_ | with_reducible refine ws_own ?_ | with_reducible refine wb_bl ?_ | with_reducible refine wl_lst ?_ | with_reducible refine wt_tup ?_ | with_reducible refine wi_int ?_ | with_reducible refine wstr ?_ | with_reducible refine lcw_cons ?_ | with_reducible refine lcw_nil ?_ | with_reducible refine fow_cons ?_ | with_reducible refine fow_nil ?_ | ((with_reducible refine wp_loc  (d := ?_) ?_  ?_); (rotate_left 1); (· exact rfl)) | ((with_reducible refine wp_rd  (d := ?_) ?_  ?_); (rotate_left 1); (· exact rfl)) | ((with_reducible refine wp_rdo  (b := ?_) (d := ?_) ?_  ?_); (rotate_left 2); (· exact rfl)) | ((with_reducible refine wp_args  (ds' := ?_) ?_ ?_ ?_  ?_); (rotate_left 1); (· exact rfl); (· exact rfl); (· exact rfl)) | ((with_reducible refine ws_frz  (d := ?_) ?_  ?_); (rotate_left 1); (· exact rfl)) | ((with_reducible refine ws_frzp  (d := ?_) ?_  ?_); (rotate_left 1); (· exact rfl)) | ((with_reducible refine wq_app  (b := ?_) (ds := ?_) ?_  ?_); (rotate_left 2); (· exact rfl)) | ((with_reducible refine wq_putO  (b := ?_) (c := ?_) ?_  ?_); (rotate_left 2); (· exact rfl)) | ((with_reducible refine wn_of ?_ ?_); (· first | exact Nat.le_of_ble_eq_true rfl | (simp only [List.length_map, List.length_append, List.length_cons, List.length_nil]; unfold line; omega))) | ((with_reducible refine wc_of ?_ ?_); (· first | exact rfl | exact ⟨rfl, rfl⟩ | exact ⟨by decide, rfl⟩ | decide | exact Nat.le_of_ble_eq_true rfl)) | ((with_reducible refine wo_some (o := cmpD _ _ _) (a := ?_) ?_  ?_); (rotate_left 1); (· first | exact eq_int _ _ | exact ne_int _ _ | exact eq_str _ _ | exact ne_str _ _ | exact ld_in _ _ | exact ld_notin _ _ | exact in_tups _ _ | exact notin_tups _ _ | exact in_ints _ _ | exact notin_ints _ _ | exact eq_ints _ _ | exact ne_ints _ _ | exact eq_strs _ _ | exact ne_strsL _ _ | exact eq_strsT _ _ | exact in_strs _ _)) | ((with_reducible refine wo_some (o := gSort _) (a := ?_) ?_  ?_); (rotate_left 1); (· first | exact sort_ints _)) | ((with_reducible refine wo_some (o := keysD _) (a := ?_) ?_  ?_); (rotate_left 1); (· first | exact keys_ld _ | exact keys_sd _)) | ((with_reducible refine wo_some  (a := ?_) ?_  ?_); (rotate_left 1); (· exact rfl)) | ((with_reducible refine ifT ?_ ?_); (· exact rfl)) | ((with_reducible refine ifF ?_ ?_); (· exact rfl)) | with_reducible refine ifNN ?_ | ((with_reducible refine ifNDF ?_ ?_); (· with_reducible exact rfl)) | ((with_reducible refine ifDT ?_ ?_); (· with_reducible exact rfl)) | ((with_reducible refine ifNDF ?_ ?_); (· assumption)) | ((with_reducible refine ifNDT ?_ ?_); (· assumption)) | ((with_reducible refine ifDF ?_ ?_); (· assumption)) | ((with_reducible refine ifDT ?_ ?_); (· assumption)) | ((with_reducible refine ifT ?_ ?_); (· assumption)) | ((with_reducible refine ifF ?_ ?_); (· assumption)) | with_reducible refine wpp_nil ?_ | with_reducible refine wpp_cons ?_ | with_reducible refine wq_dic ?_ | with_reducible refine wq_items ?_ | with_reducible refine wq_eqN ?_ | with_reducible refine wq_cat ?_ | ((with_reducible refine wq_augO  (d := ?_) ?_  ?_); (rotate_left 1); (· exact rfl)) | with_reducible refine wq_kOp2 ?_ | ((with_reducible refine wo_some (o := catD _ _) (a := ?_) ?_  ?_); (rotate_left 1); (· first | exact rfl | exact cat_lst (by simp only [List.length_map, List.length_append, List.length_cons, List.length_nil]; unfold line; omega)))))
/-- for place in range(max(1, min(lim, len(script)))) -/
theorem ws_places {ns : List Int} (hns : ns.length ≤ 63) {lim : Int} (l0 : 0 < lim) (l1 : lim ≤ 60) {L : Nat} {body : S} {t : Slot} {r0 : Loc} {s : Store} {N : Loc → Store → Prop} {R : D → Store → Prop} (hr : r0.length = L)
    (hb : ∀ (a : Int) (r : Loc) (s : Store), 0 ≤ a → a < lim → r.length = L → Ws (body (.pu (.scr ns) :: .pu (.int a) :: r) s) (fun ρ _ => ∃ t r, ρ = .pu (.scr ns) :: t :: r ∧ r.length = L) R) (hN : ∀ t r s, r.length = L → N (.pu (.scr ns) :: t :: r) s) :
    Ws (sFor (.nm 1) (iRng1 (eCons (eBt gMax2 (eCons (eC (.int 1)) (eCons (eBt gMin2 (eCons (eC (.int lim)) (eCons (eBt gLen (eCons (eRd 0) (eNil))) (eNil)))) (eNil)))) (eNil))) body (.pu (.scr ns) :: t :: r0) s) N R := by
  refine ws_for ?_
  refine wq_rng1 ?_
  (repeat fail)
  generalize hJ : (if (if (ns.length : Int) < lim then (ns.length : Int) else lim) > 1 then if (ns.length : Int) < lim then (ns.length : Int) else lim else 1) = J
  have hJ2 : 1 ≤ J ∧ J ≤ lim := by
    rw [← hJ]
    split <;> (try split) <;> (try split at *) <;> omega
  refine ⟨J, rfl, ⟨by unfold big; omega, by unfold big; omega⟩, ?_⟩
  refine ⟨fun ds ρ s => (∀ d ∈ ds, ∃ a : Int, d = .int a ∧ 0 ≤ a ∧ a < lim) ∧ ∃ t r, ρ = .pu (.scr ns) :: t :: r ∧ r.length = L, ⟨fun d hd => ?_, t, r0, rfl, hr⟩, ?_, ?_⟩
  · obtain ⟨a, e, a1, a2⟩ := intsD_mem hd
    exact ⟨a, e, a1, by omega⟩
  · rintro d ds ρ s ⟨hd, t, r, rfl, hl⟩
    obtain ⟨a, rfl, a1, a2⟩ := hd d List.mem_cons_self
    exact ⟨_, rfl, ws_mono (hb a r s a1 a2 hl) (fun ρ s h => ⟨fun d hd' => hd d (List.mem_cons_of_mem _ hd'), h⟩) fun _ _ h => h⟩
  · rintro ρ s ⟨hd, t, r, rfl, hl⟩
    exact hN t r s hl
theorem intsD_s (lo : Int) (n : Nat) : intsD lo (n + 1) = .int lo :: intsD (lo + 1) n := by
  unfold intsD
  rw [List.range_succ_eq_map, List.map_cons, List.map_map]
  congr 1
  · simp
  · refine List.map_congr_left fun x _ => ?_
    show D.int _ = D.int _
    congr 1
    show lo + ((x + 1 : Nat) : Int) = lo + 1 + (x : Int)
    omega
theorem law_plain : ∀ ns : List Int, ns.length ≤ 63 → ∃ s, M_law [.scr ns] [] = .ok (.bl true) s := by
  intro ns hns
  refine true_of ?_
  refine wp_fn ?_
  show Ws (m_law [.pu (.scr ns), .no, .no, .no, .no, .no, .no, .no, .no, .no, .no, .no, .no, .no, .no, .no] _) _ _
  unfold m_law p_law_0
  refine ws_seq (ws_places hns (by decide) (by decide) (L := 14) rfl (fun a r s a0 a1 hr => ?_) fun t r s hr => ?_)
  rotate_left
  · (repeat fail)
    rfl
  match r, hr with
  | [t2, t3, t4, t5, t6, t7, t8, t9, t10, t11, t12, t13, t14, t15], _ =>
  unfold p_law_0b0 p_law_0b1
  (repeat fail)
  refine q_source ns a a0 (by omega) s fun s1 l1 S1 f1 => ?_
  generalize s.length = n at S1 l1 f1 ⊢
  (repeat fail)
  refine q_word S1 (by omega) (T := [("table" : Str), "key"]) (fun _ _ => rfl) (by decide) fun w s0 w1 w2 f0 S0 => ?_
  have wt : w ≠ "table" := fun z => w2 (by rw [z]; simp)
  have wk : w ≠ "key" := fun z => w2 (by rw [z]; simp)
  (repeat fail)
  have Mc := mk_ref (s := s0 ++ [D.lst []]) (.lst []) (new_ref (s := s0) (.lst []))
  have Mw := new_ref (s := s0 ++ [D.lst []]) (.lst [])
  have S2 := (S0.app (t := [D.lst []])).app (t := [D.lst []])
  have hcn : s0.length ≠ n := by have := S0.lt; omega
  have hwn : (s0 ++ [D.lst []]).length ≠ n := by have := S0.lt; rw [List.length_append, List.length_singleton]; omega
  have hcw : s0.length ≠ (s0 ++ [D.lst []]).length := by rw [List.length_append, List.length_singleton]; omega
  generalize (s0 ++ [D.lst []]).length = qw at Mw hwn hcw ⊢
  generalize s0.length = qc at Mc hcn hcw ⊢
  generalize s0 ++ [D.lst []] ++ [D.lst []] = s2 at Mc Mw S2 ⊢
  unfold p_law_0b2
  show Ws (sFor _ _ _ (L15 ns a n w qc qw t6 t7 t8 t9 t10 t11 t12 t13 t14 t15) s2) _ _
  refine ws_for ?_
  refine wq_rng1 ?_
  (repeat fail)
  refine q_draw S2 (by omega) (by decide) (by decide) fun m s3 m0 m1 f3 S3 => ?_
  (repeat fail)
  refine ⟨m, rfl, ⟨by unfold big; omega, by unfold big; omega⟩, ?_⟩
  refine ⟨fun ds ρ s' => ∃ (es : List Cn) (t6 : Slot) (r : Nat), ds = intsD (es.length : Int) r ∧ es.length + r = m.toNat ∧ (∀ e ∈ es, e.ok) ∧ okL es ∧ SrcAt s' n (100 + 40 * es.length) ∧ s'[qc]? = some (.lst (es.map Cn.d)) ∧ s'[qw]? = some (.lst (es.map Cn.fl)) ∧ ρ = L15 ns a n w qc qw t6 t7 t8 t9 t10 t11 t12 t13 t14 t15,
    ⟨[], _, m.toNat, rfl, by simp, (fun _ h => nomatch h), (fun pre x post e => by cases pre <;> cases e), S3.mono (by omega), (f3.2 _ hcn).trans Mc, (f3.2 _ hwn).trans Mw, rfl⟩, ?_, ?_⟩
  · rintro d ds ρ s' ⟨es, t6, r, e1, e2, ho, hL, S', Mc', Mw', rfl⟩
    cases r with
    | zero => cases e1
    | succ r =>
      rw [intsD_s] at e1
      injection e1 with e3 e4
      subst e3 e4
      refine ⟨_, rfl, ?_⟩
      show Ws (bCons p_law_0b2b0 (bCons p_law_0b2b1 p_law_0b2b2) (L15 ns a n w qc qw (.pu (.int (es.length : Int))) t7 t8 t9 t10 t11 t12 t13 t14 t15) s') _ _
      refine turn15 S' (by omega) hcn hwn hcw Mc' Mw' ho hL (by omega) fun e s4 he hL4 S4 Mc4 Mw4 => ?_
      exact ⟨es ++ [e], _, r, by rw [List.length_append, List.length_singleton]; rfl, by rw [List.length_append, List.length_singleton]; omega, fun x hx => (List.mem_append.mp hx).elim (ho x) fun z => by rw [List.mem_singleton.mp z]; exact he, hL4, S4.mono (by rw [List.length_append, List.length_singleton]; omega), Mc4, Mw4, rfl⟩
  rintro ρ s4 ⟨es, t6, r, e1, e2, ho, hL, S4, Mc4, Mw4, rfl⟩
  have hel : es.length ≤ 3 := by omega
  unfold p_law_0b3
  (repeat fail)
  refine q_ofL S4 (by omega) (Nat.le_of_ble_eq_true rfl) (Nat.le_of_ble_eq_true rfl) fun p s5 hp f5 S5 => ?_
  obtain ⟨p0, rfl, rp⟩ : ∃ x : Str, p = .str x ∧ goodH hA1 (.str x) = true := by
    simp only [List.mem_cons, List.not_mem_nil, or_false] at hp
    rcases hp with rfl | rfl | rfl | rfl | rfl <;> exact ⟨_, rfl, by decide⟩
  (repeat fail)
  refine q_ofL S5 (by omega) (Nat.le_of_ble_eq_true rfl) (Nat.le_of_ble_eq_true rfl) fun l s6 hl f6 S6 => ?_
  obtain ⟨l0, rfl, rl⟩ : ∃ x : Str, l = .str x ∧ goodH hA2 (.str x) = true := by
    simp only [List.mem_cons, List.not_mem_nil, or_false] at hl
    rcases hl with rfl | rfl | rfl <;> exact ⟨_, rfl, by decide⟩
  (repeat fail)
  refine q_ofL S6 (by omega) (Nat.le_of_ble_eq_true rfl) (Nat.le_of_ble_eq_true rfl) fun g s7 hg f7 S7 => ?_
  obtain ⟨g0, rfl, rg⟩ : ∃ x : Str, g = .str x ∧ goodH hA3 (.str x) = true := by
    simp only [List.mem_cons, List.not_mem_nil, or_false] at hg
    rcases hg with rfl | rfl <;> exact ⟨_, rfl, by decide⟩
  (repeat fail)
  refine q_ofL S7 (by omega) (Nat.le_of_ble_eq_true rfl) (Nat.le_of_ble_eq_true rfl) fun v s8 hv f8 S8 => ?_
  obtain ⟨v0, rfl, rv⟩ : ∃ x : Str, v = .str x ∧ goodH hA4 (.str x) = true := by
    simp only [List.mem_cons, List.not_mem_nil, or_false] at hv
    rcases hv with rfl | rfl <;> exact ⟨_, rfl, by decide⟩
  (repeat fail)
  have Mc8 := (f8.2 _ hcn).trans ((f7.2 _ hcn).trans ((f6.2 _ hcn).trans ((f5.2 _ hcn).trans Mc4)))
  have Mw8 := (f8.2 _ hwn).trans ((f7.2 _ hwn).trans ((f6.2 _ hwn).trans ((f5.2 _ hwn).trans Mw4)))
  have lc := get_lt Mc8
  have lw := get_lt Mw8
  have Mh := new_ref (s := s8) (.lst [.str p0, .str l0, .str g0, .str v0])
  have Mc9 := mk_ref (.lst [.str p0, .str l0, .str g0, .str v0]) Mc8
  have Mw9 := mk_ref (.lst [.str p0, .str l0, .str g0, .str v0]) Mw8
  have S9 := S8.app (t := [D.lst [.str p0, .str l0, .str g0, .str v0]])
  have hhn : s8.length ≠ n := by have := S8.lt; omega
  have hhc : s8.length ≠ qc := by omega
  have hhw : s8.length ≠ qw := by omega
  generalize s8.length = qh at Mh hhn hhc hhw ⊢
  generalize s8 ++ [D.lst [.str p0, .str l0, .str g0, .str v0]] = s9 at Mh Mc9 Mw9 S9 ⊢
  unfold p_law_0b4
  (repeat fail)
  rw [List.map_singleton, der_ref Mh]
  refine wo_some (a := .lst [.str p0, .str l0, .str g0, .str v0]) rfl ?_
  unfold p_law_0b5
  refine ws_seq ?_
  show Ws (sFor _ _ _ (L15 ns a n w qc qw t6 (.pu (.ref qh)) (.pu (.lst [.str p0, .str l0, .str g0, .str v0])) t9 t10 t11 t12 t13 t14 t15) s9) _ _
  refine ws_for ?_
  refine wq_rng1 ?_
  (repeat fail)
  refine q_draw S9 (by omega) (by decide) (by decide) fun m2 sa m20 m21 fa Sa => ?_
  (repeat fail)
  refine ⟨m2, rfl, ⟨by unfold big; omega, by unfold big; omega⟩, ?_⟩
  refine ⟨fun ds ρ s' => ∃ (p l g v : D) (t6 t10 : Slot) (j : Nat), j + ds.length = m2.toNat ∧ HV p ∧ HV l ∧ HV g ∧ HV v ∧ SrcAt s' n (1000 + 10 * j) ∧ s'[qc]? = some (.lst (es.map Cn.d)) ∧ s'[qw]? = some (.lst (es.map Cn.fl)) ∧ s'[qh]? = some (.lst [p, l, g, v]) ∧ ρ = L15 ns a n w qc qw t6 (.pu (.ref qh)) (.pu (.lst [.str p0, .str l0, .str g0, .str v0])) t9 t10 t11 t12 t13 t14 t15,
    ⟨_, _, _, _, _, _, 0, by rw [intsD_len]; omega, .inl ⟨_, rfl⟩, .inl ⟨_, rfl⟩, .inl ⟨_, rfl⟩, .inl ⟨_, rfl⟩, Sa.mono (by omega), (fa.2 _ hcn).trans Mc9, (fa.2 _ hwn).trans Mw9, (fa.2 _ hhn).trans Mh, rfl⟩, ?_, ?_⟩
  · rintro d ds ρ s' ⟨p, l, g, v, t6, t10, j, e1, hp, hl, hg, hv, S', Mc', Mw', Mh', rfl⟩
    rw [List.length_cons] at e1
    refine ⟨_, rfl, ?_⟩
    show Ws (bCons p_law_0b5b0 p_law_0b5b1 (L15 ns a n w qc qw (.pu d) (.pu (.ref qh)) (.pu (.lst [.str p0, .str l0, .str g0, .str v0])) t9 t10 t11 t12 t13 t14 t15) s') _ _
    unfold p_law_0b5b0
    (repeat fail)
    refine q_ofL S' (by omega) (Nat.le_of_ble_eq_true rfl) (Nat.le_of_ble_eq_true rfl) fun x sb hx fb Sb => ?_
    have hxv : HV x := by
      simp only [List.mem_cons, List.not_mem_nil, or_false] at hx
      rcases hx with rfl | rfl | rfl | rfl | rfl | rfl | rfl | rfl | rfl | rfl | rfl | rfl | rfl
      all_goals first | exact .inl ⟨_, rfl⟩ | exact .inr (.inl rfl) | exact .inr (.inr (.inl rfl)) | exact .inr (.inr (.inr (.inl rfl))) | exact .inr (.inr (.inr (.inr (.inl rfl)))) | exact .inr (.inr (.inr (.inr (.inr rfl))))
    (repeat fail)
    unfold p_law_0b5b1
    refine ws_put ?_
    (repeat fail)
    refine q_draw Sb (by omega) (by decide) (by decide) fun i sc i0 i1 fc Sc => ?_
    have Mcc := (fc.2 _ hcn).trans ((fb.2 _ hcn).trans Mc')
    have Mwc := (fc.2 _ hwn).trans ((fb.2 _ hwn).trans Mw')
    have Mhc := (fc.2 _ hhn).trans ((fb.2 _ hhn).trans Mh')
    (repeat fail)
    have fin : ∀ p l g v : D, HV p → HV l → HV g → HV v → putIx (.lst [p, l, g, v]) (.int 0) x = some (.lst [x, l, g, v]) := fun p l g v _ _ _ _ => rfl
    have h4 : i = 0 ∨ i = 1 ∨ i = 2 ∨ i = 3 := by omega
    rcases h4 with rfl | rfl | rfl | rfl
    · exact ⟨qh, _, .lst [x, l, g, v], rfl, Mhc, rfl, x, l, g, v, _, _, j + 1, by omega, hxv, hl, hg, hv, (Sc.set hhn).mono (by omega), set_ref hhc Mcc, set_ref hhw Mwc, self_ref Mhc, rfl⟩
    · exact ⟨qh, _, .lst [p, x, g, v], rfl, Mhc, rfl, p, x, g, v, _, _, j + 1, by omega, hp, hxv, hg, hv, (Sc.set hhn).mono (by omega), set_ref hhc Mcc, set_ref hhw Mwc, self_ref Mhc, rfl⟩
    · exact ⟨qh, _, .lst [p, l, x, v], rfl, Mhc, rfl, p, l, x, v, _, _, j + 1, by omega, hp, hl, hxv, hv, (Sc.set hhn).mono (by omega), set_ref hhc Mcc, set_ref hhw Mwc, self_ref Mhc, rfl⟩
    · exact ⟨qh, _, .lst [p, l, g, x], rfl, Mhc, rfl, p, l, g, x, _, _, j + 1, by omega, hp, hl, hg, hxv, (Sc.set hhn).mono (by omega), set_ref hhc Mcc, set_ref hhw Mwc, self_ref Mhc, rfl⟩
  · rintro ρ s' ⟨p, l, g, v, t6, t10, j, e1, hp, hl, hg, hv, S', Mc', Mw', Mh', rfl⟩
    rw [List.length_nil] at e1
    exact rest15 S' (by omega) hcn hwn hhn Mc' Mw' Mh' ho hL (by omega) w1 wt wk hp hl hg hv rp rl rg rv
end Dn
theorem PySem.Challenge.cw_filteredcopies_k15_targets_holds : PySem.Challenge.rw_filteredcopies_k15_targets.Holds :=
  Dn.holds Dn.law_plain
