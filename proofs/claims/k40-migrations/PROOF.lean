import PyProof.Rows.All
import Wide.All
import OpenK.AllK
import Wide.FinOn
import HandS.ForMost
import HandS.ForExc
import HandS.CallSlots
import HandS.TupAny
import HandS.Flow
import HandS.IsInst
import HandS.Codes
import KE.LtSeq
import HandS.Deep
import HandS.Style
import HandS.Steps
import HandS.More
import HandS.Small
import HandS.Text
import HandS.List
import HandS.AnyAll
import HandS.Iter
import HandS.Zip
import KE.GoesMore
import KE.GoesEnum
import HandS.Defaults
import HandS.HeadHook4
import HandS.HeadEnd
import HandS.Head2
import PyProof.ExcBaseAll.ValueError
import HandS.Set
import HandS.SetTxt0
import HandS.Strs
import HandS.SetFor
import PyProof.Rows.SortShellAny
import PyProof.Rows.SetFrom
import KE.KSortTup
import KE.KSortKey
import HandS.SortOrd
import HandS.SortKw
import HandS.FromBytesMap
import HandS.ExcValue
import HandS.TryMany
import HandS.Conv
import HandS.SortInts
import KE.KDictPairs
import HandS.NoneIn
import PySem.Challenge.RW_shapeskept_k40_migrations
set_option Elab.async false
set_option linter.all false
set_option maxRecDepth 100000
set_option maxHeartbeats 0
/-! Pu: pure values over the hand layer. U: values without addresses, but for handles (ref) of what is changed; M: what the handles hold. -/
namespace Pu
open PySem PySem.Spec PyProof.Rows L2

inductive U where
  | non | bl (b : Bool) | int (i : Int) | str (x : Str) | ty (n : String) | ref (a : Addr)
  | tup (us : List U) | lst (us : List U) | dct (ks : List Key) (us : List U)
  | pr (us : List U)
  deriving Inhabited

/-- what a handle holds -/
inductive MO where
  | lst (us : List U) | dct (ks : List Key) (us : List U)
  /-- a list whose items are told by a property alone -/
  | hid (P : List V → Prop)
abbrev Mp := Addr → Option MO
def put (M : Mp) (a : Addr) (o : MO) : Mp := fun b => if b = a then some o else M b
def del (M : Mp) (a : Addr) : Mp := fun b => if b = a then none else M b
theorem put_same {M : Mp} {a : Addr} {o : MO} : put M a o a = some o := by unfold put; rw [if_pos rfl]
theorem put_ne {M : Mp} {a b : Addr} {o : MO} (h : b ≠ a) : put M a o b = M b := by unfold put; rw [if_neg h]
theorem del_same {M : Mp} {a : Addr} : del M a a = none := by unfold del; rw [if_pos rfl]
theorem del_ne {M : Mp} {a b : Addr} (h : b ≠ a) : del M a b = M b := by unfold del; rw [if_neg h]
theorem put_put {M : Mp} {a : Addr} {o u : MO} : put (put M a o) a u = put M a u := by
  funext b; unfold put; split <;> rfl
theorem put_eq {M : Mp} {a : Addr} {o : MO} (h : M a = some o) : put M a o = M := by
  funext b; unfold put; split
  · rename_i e; rw [e, h]
  · rfl
theorem del_put {M : Mp} {a : Addr} {o : MO} (h : M a = none) : del (put M a o) a = M := by
  funext b; unfold del put; split
  · rename_i e; rw [e, h]
  · rfl

/-- a frozen list or tuple: tracked and no handle, or written; pr: what zip and enumerate hand out -/
def FzL (K : PySem.W.Frag) (M : Mp) (H : Hp) (a : Addr) (xs : List V) : Prop :=
  (Rd H a (.lst xs) ∧ M a = none) ∨
    ∃ (o : Obj) (its : Array Value) (n : Nat), K.lookup a = some o ∧ o.cls = .type "list" ∧ o.dict = none ∧ o.data = .seq its n ∧ its.size ≤ sizeLine ∧ Vals xs its.toList
def FzT (K : PySem.W.Frag) (M : Mp) (H : Hp) (a : Addr) (xs : List V) : Prop :=
  ((∃ o : Obj, H a = some (.frz o (.tup xs)) ∧ o.dict = none) ∧ M a = none) ∨
    ∃ (o : Obj) (its : Array Value) (n : Nat), K.lookup a = some o ∧ o.cls = .type "tuple" ∧ o.dict = none ∧ o.data = .seq its n ∧ its.size ≤ sizeLine ∧ Vals xs its.toList
def FzP (M : Mp) (H : Hp) (a : Addr) (xs : List V) : Prop := Rd H a (.tup xs) ∧ M a = none
theorem FzL.sq {K : PySem.W.Frag} {M : Mp} {H : Hp} {a : Addr} {xs : List V} (h : FzL K M H a xs) : SqL K H a xs := by
  rcases h with ⟨h, _⟩ | h
  · exact .inl h
  · exact .inr h
theorem FzT.sq {K : PySem.W.Frag} {M : Mp} {H : Hp} {a : Addr} {xs : List V} (h : FzT K M H a xs) : SqT K H a xs := by
  rcases h with ⟨⟨o, h, _⟩, _⟩ | ⟨o, its, n, h1, h2, _, h3, h4, h5⟩
  · exact .inl (.inr ⟨o, h⟩)
  · exact .inr ⟨o, its, n, h1, h2, h3, h4, h5⟩

mutual
/-- the value v stands for u -/
def RepV (K : PySem.W.Frag) (M : Mp) (H : Hp) : U → V → Prop
  | .non, v => v = .non
  | .bl b, v => v = .bl b
  | .int i, v => v = .int i
  | .str x, v => v = .str x
  | .ty n, v => v = .ty n
  | .ref a, v => v = .ref a
  | .tup us, v => ∃ a vs, v = .ref a ∧ FzT K M H a vs ∧ RepVs K M H us vs
  | .lst us, v => ∃ a vs, v = .ref a ∧ FzL K M H a vs ∧ RepVs K M H us vs
  | .pr us, v => ∃ a vs, v = .ref a ∧ FzP M H a vs ∧ RepVs K M H us vs
  | .dct ks us, v => ∃ a vs, v = .ref a ∧ H a = some (.dK (ks.zip vs)) ∧ M a = none ∧ ks.length = vs.length ∧ RepVs K M H us vs
def RepVs (K : PySem.W.Frag) (M : Mp) (H : Hp) : List U → List V → Prop
  | [], vs => vs = []
  | u :: us, vs => ∃ v r, vs = v :: r ∧ RepV K M H u v ∧ RepVs K M H us r
end

/-- from one moment to a later one: what is tracked and no handle stays -/
def Stp (M : Mp) (H : Hp) (M' : Mp) (H' : Hp) : Prop := ∀ a o, H a = some o → M a = none → H' a = some o ∧ M' a = none
theorem Stp.refl (M : Mp) (H : Hp) : Stp M H M H := fun _ _ h1 h2 => ⟨h1, h2⟩
theorem Stp.trans {M M1 M2 : Mp} {H H1 H2 : Hp} (a : Stp M H M1 H1) (b : Stp M1 H1 M2 H2) : Stp M H M2 H2 := fun c o h1 h2 =>
  let ⟨q1, q2⟩ := a c o h1 h2
  b c o q1 q2
theorem Stp.rd {M M' : Mp} {H H' : Hp} (st : Stp M H M' H') {a : Addr} {u : HO} (r : Rd H a u) (m : M a = none) : Rd H' a u ∧ M' a = none := by
  rcases r with r | ⟨o, r⟩
  · exact ⟨.inl (st _ _ r m).1, (st _ _ r m).2⟩
  · exact ⟨.inr ⟨o, (st _ _ r m).1⟩, (st _ _ r m).2⟩
section
variable {K : PySem.W.Frag} {M M' M1 M2 : Mp} {H H' H1 H2 : Hp}
theorem FzL.step (st : Stp M H M' H') {a : Addr} {xs : List V} (h : FzL K M H a xs) : FzL K M' H' a xs := by
  rcases h with ⟨h, m⟩ | h
  · exact .inl (st.rd h m)
  · exact .inr h
theorem FzT.step (st : Stp M H M' H') {a : Addr} {xs : List V} (h : FzT K M H a xs) : FzT K M' H' a xs := by
  rcases h with ⟨⟨o, h, hd⟩, m⟩ | h
  · exact .inl ⟨⟨o, (st _ _ h m).1, hd⟩, (st _ _ h m).2⟩
  · exact .inr h
theorem FzP.step (st : Stp M H M' H') {a : Addr} {xs : List V} (h : FzP M H a xs) : FzP M' H' a xs := st.rd h.1 h.2
mutual
theorem RepV.step (st : Stp M H M' H') : ∀ (u : U) (v : V), RepV K M H u v → RepV K M' H' u v
  | .non, _, h => by unfold RepV at h ⊢; exact h
  | .bl b, _, h => by unfold RepV at h ⊢; exact h
  | .int i, _, h => by unfold RepV at h ⊢; exact h
  | .str x, _, h => by unfold RepV at h ⊢; exact h
  | .ty n, _, h => by unfold RepV at h ⊢; exact h
  | .ref a, _, h => by unfold RepV at h ⊢; exact h
  | .tup us, _, h => by
    unfold RepV at h ⊢
    obtain ⟨a, vs, e, f, r⟩ := h
    exact ⟨a, vs, e, f.step st, RepVs.step st us vs r⟩
  | .lst us, _, h => by
    unfold RepV at h ⊢
    obtain ⟨a, vs, e, f, r⟩ := h
    exact ⟨a, vs, e, f.step st, RepVs.step st us vs r⟩
  | .pr us, _, h => by
    unfold RepV at h ⊢
    obtain ⟨a, vs, e, f, r⟩ := h
    exact ⟨a, vs, e, f.step st, RepVs.step st us vs r⟩
  | .dct ks us, _, h => by
    unfold RepV at h ⊢
    obtain ⟨a, vs, e, f, m, l, r⟩ := h
    exact ⟨a, vs, e, (st _ _ f m).1, (st _ _ f m).2, l, RepVs.step st us vs r⟩
theorem RepVs.step (st : Stp M H M' H') : ∀ (us : List U) (vs : List V), RepVs K M H us vs → RepVs K M' H' us vs
  | [], _, h => by unfold RepVs at h ⊢; exact h
  | u :: us, _, h => by
    unfold RepVs at h ⊢
    obtain ⟨v, r, e, h1, h2⟩ := h
    exact ⟨v, r, e, RepV.step st u v h1, RepVs.step st us r h2⟩
end
theorem RepVs.length : ∀ {us : List U} {vs : List V}, RepVs K M H us vs → us.length = vs.length
  | [], _, h => by unfold RepVs at h; rw [h]; rfl
  | u :: us, _, h => by
    unfold RepVs at h
    obtain ⟨v, r, e, h1, h2⟩ := h
    rw [e, List.length_cons, List.length_cons, RepVs.length h2]
theorem RepVs.nil : RepVs K M H [] [] := by unfold RepVs; rfl
theorem RepVs.cons {u : U} {us : List U} {v : V} {vs : List V} (h : RepV K M H u v) (r : RepVs K M H us vs) : RepVs K M H (u :: us) (v :: vs) := by
  unfold RepVs; exact ⟨v, vs, rfl, h, r⟩
theorem RepVs.uncons {u : U} {us : List U} {vs : List V} (h : RepVs K M H (u :: us) vs) : ∃ v r, vs = v :: r ∧ RepV K M H u v ∧ RepVs K M H us r := by
  unfold RepVs at h; exact h
theorem RepVs.nil_inv {vs : List V} (h : RepVs K M H [] vs) : vs = [] := by unfold RepVs at h; exact h
theorem RepVs.app : ∀ {us ws : List U} {vs xs : List V}, RepVs K M H us vs → RepVs K M H ws xs → RepVs K M H (us ++ ws) (vs ++ xs)
  | [], _, _, _, h, r => by rw [h.nil_inv]; exact r
  | u :: us, _, _, _, h, r => by
    obtain ⟨v, q, e, h1, h2⟩ := h.uncons
    rw [e]
    exact .cons h1 (RepVs.app h2 r)
theorem RepVs.get : ∀ {us : List U} {vs : List V} {i : Nat} {u : U}, RepVs K M H us vs → us[i]? = some u → ∃ v, vs[i]? = some v ∧ RepV K M H u v
  | [], _, _, _, _, e => by simp at e
  | u :: us, _, 0, x, h, e => by
    obtain ⟨v, q, ev, h1, h2⟩ := h.uncons
    simp at e
    subst e ev
    exact ⟨v, rfl, h1⟩
  | u :: us, _, i + 1, x, h, e => by
    obtain ⟨v, q, ev, h1, h2⟩ := h.uncons
    subst ev
    obtain ⟨w, h3, h4⟩ := RepVs.get (i := i) h2 (by simpa using e)
    exact ⟨w, by simpa using h3, h4⟩
theorem RepVs.take : ∀ {us : List U} {vs : List V} (n : Nat), RepVs K M H us vs → RepVs K M H (us.take n) (vs.take n)
  | _, _, 0, _ => by simp only [List.take_zero]; exact .nil
  | [], _, n + 1, h => by rw [h.nil_inv]; simp only [List.take_nil]; exact .nil
  | u :: us, _, n + 1, h => by
    obtain ⟨v, q, ev, h1, h2⟩ := h.uncons
    subst ev
    simp only [List.take_succ_cons]
    exact .cons h1 (RepVs.take n h2)
theorem RepVs.drop : ∀ {us : List U} {vs : List V} (n : Nat), RepVs K M H us vs → RepVs K M H (us.drop n) (vs.drop n)
  | _, _, 0, h => h
  | [], _, n + 1, h => by rw [h.nil_inv]; simp only [List.drop_nil]; exact .nil
  | u :: us, _, n + 1, h => by
    obtain ⟨v, q, ev, h1, h2⟩ := h.uncons
    subst ev
    simp only [List.drop_succ_cons]
    exact RepVs.drop n h2
theorem RepVs.rev : ∀ {us : List U} {vs : List V}, RepVs K M H us vs → RepVs K M H us.reverse vs.reverse
  | [], _, h => by rw [h.nil_inv]; exact .nil
  | u :: us, _, h => by
    obtain ⟨v, q, ev, h1, h2⟩ := h.uncons
    subst ev
    rw [List.reverse_cons, List.reverse_cons]
    exact (RepVs.rev h2).app (.cons h1 .nil)
theorem RepVs.set : ∀ {us : List U} {vs : List V} (i : Nat) {u : U} {v : V}, RepVs K M H us vs → RepV K M H u v → RepVs K M H (us.set i u) (vs.set i v)
  | [], _, _, _, _, h, _ => by rw [h.nil_inv]; exact .nil
  | u :: us, _, 0, x, w, h, r => by
    obtain ⟨v, q, ev, h1, h2⟩ := h.uncons
    subst ev
    exact .cons r h2
  | u :: us, _, i + 1, x, w, h, r => by
    obtain ⟨v, q, ev, h1, h2⟩ := h.uncons
    subst ev
    exact .cons h1 (RepVs.set i h2 r)
/-- values of a written kind -/
theorem RepVs.vmap {f : U → V} : ∀ {us : List U} {vs : List V}, RepVs K M H us vs → (∀ u ∈ us, ∀ v, RepV K M H u v → v = f u) → vs = us.map f
  | [], _, h, _ => by rw [h.nil_inv]; rfl
  | u :: us, _, h, g => by
    obtain ⟨v, q, ev, h1, h2⟩ := h.uncons
    rw [ev, List.map_cons, g u List.mem_cons_self v h1, RepVs.vmap h2 fun x m => g x (List.mem_cons_of_mem _ m)]

/-- what the handles hold, in the heap -/
def RepO (K : PySem.W.Frag) (M : Mp) (H : Hp) (a : Addr) : MO → Prop
  | .lst us => ∃ vs, H a = some (.lst vs) ∧ RepVs K M H us vs
  | .dct ks us => ∃ vs, H a = some (.dK (ks.zip vs)) ∧ ks.length = vs.length ∧ RepVs K M H us vs
  | .hid P => ∃ vs, H a = some (.lst vs) ∧ P vs
def RepM (K : PySem.W.Frag) (M : Mp) (H : Hp) : Prop := ∀ a o, M a = some o → RepO K M H a o
theorem RepM.free (r : RepM K M H) {a : Addr} (h : H a = none) : M a = none := by
  cases e : M a with
  | none => rfl
  | some o =>
    have q := r a o e
    cases o with
    | lst us => obtain ⟨vs, q, _⟩ := q; rw [h] at q; cases q
    | dct ks us => obtain ⟨vs, q, _⟩ := q; rw [h] at q; cases q
    | hid P => obtain ⟨vs, q, _⟩ := q; rw [h] at q; cases q
/-- a new object that is no handle -/
theorem Stp.new (r : RepM K M H) {p : Addr} {o : HO} (h : H p = none) : Stp M H M (upd H p o) := fun a u h1 h2 => by
  have : a ≠ p := fun e => by rw [e, h] at h1; cases h1
  exact ⟨by rw [upd_ne this]; exact h1, h2⟩
/-- a new handle -/
theorem Stp.newH {p : Addr} {o : HO} {m : MO} (h : H p = none) : Stp M H (put M p m) (upd H p o) := fun a u h1 h2 => by
  have : a ≠ p := fun e => by rw [e, h] at h1; cases h1
  exact ⟨by rw [upd_ne this]; exact h1, by rw [put_ne this]; exact h2⟩
/-- a handle's object is changed -/
theorem Stp.chg {p : Addr} {o : HO} {m m' : MO} (h : M p = some m) : Stp M H (put M p m') (upd H p o) := fun a u h1 h2 => by
  have : a ≠ p := fun e => by rw [e, h] at h2; cases h2
  exact ⟨by rw [upd_ne this]; exact h1, by rw [put_ne this]; exact h2⟩
theorem RepM.new (r : RepM K M H) {p : Addr} {o : HO} (h : H p = none) : RepM K M (upd H p o) := fun a m e => by
  have st := Stp.new (o := o) r h
  have q := r a m e
  have : a ≠ p := fun z => by rw [z, r.free h] at e; cases e
  cases m with
  | lst us => obtain ⟨vs, q, t⟩ := q; exact ⟨vs, by rw [upd_ne this]; exact q, RepVs.step st _ _ t⟩
  | dct ks us => obtain ⟨vs, q, l, t⟩ := q; exact ⟨vs, by rw [upd_ne this]; exact q, l, RepVs.step st _ _ t⟩
  | hid P => obtain ⟨vs, q, t⟩ := q; exact ⟨vs, by rw [upd_ne this]; exact q, t⟩
theorem RepM.putL (r : RepM K M H) {p : Addr} {us : List U} {vs : List V} (st : Stp M H (put M p (.lst us)) (upd H p (.lst vs))) (t : RepVs K M H us vs) : RepM K (put M p (.lst us)) (upd H p (.lst vs)) := fun a m e => by
  by_cases h : a = p
  · subst h
    rw [put_same] at e; cases e
    exact ⟨vs, upd_same, RepVs.step st _ _ t⟩
  · rw [put_ne h] at e
    have q := r a m e
    cases m with
    | lst us => obtain ⟨ws, q, t⟩ := q; exact ⟨ws, by rw [upd_ne h]; exact q, RepVs.step st _ _ t⟩
    | dct ks us => obtain ⟨ws, q, l, t⟩ := q; exact ⟨ws, by rw [upd_ne h]; exact q, l, RepVs.step st _ _ t⟩
    | hid P => obtain ⟨ws, q, t⟩ := q; exact ⟨ws, by rw [upd_ne h]; exact q, t⟩
theorem RepM.putD (r : RepM K M H) {p : Addr} {ks : List Key} {us : List U} {vs : List V} (st : Stp M H (put M p (.dct ks us)) (upd H p (.dK (ks.zip vs)))) (l : ks.length = vs.length) (t : RepVs K M H us vs) :
    RepM K (put M p (.dct ks us)) (upd H p (.dK (ks.zip vs))) := fun a m e => by
  by_cases h : a = p
  · subst h
    rw [put_same] at e; cases e
    exact ⟨vs, upd_same, l, RepVs.step st _ _ t⟩
  · rw [put_ne h] at e
    have q := r a m e
    cases m with
    | lst us => obtain ⟨ws, q, t⟩ := q; exact ⟨ws, by rw [upd_ne h]; exact q, RepVs.step st _ _ t⟩
    | dct ks us => obtain ⟨ws, q, l, t⟩ := q; exact ⟨ws, by rw [upd_ne h]; exact q, l, RepVs.step st _ _ t⟩
    | hid P => obtain ⟨ws, q, t⟩ := q; exact ⟨ws, by rw [upd_ne h]; exact q, t⟩

/-- fewer handles -/
def Fewer (M1 M2 : Mp) : Prop := ∀ a o, M1 a = some o → M2 a = some o
theorem Fewer.refl (M : Mp) : Fewer M M := fun _ _ h => h
theorem Fewer.trans {M1 M2 M3 : Mp} (h : Fewer M1 M2) (k : Fewer M2 M3) : Fewer M1 M3 := fun a o e => k a o (h a o e)
theorem Fewer.non {M1 M2 : Mp} (s : Fewer M1 M2) {a : Addr} (h : M2 a = none) : M1 a = none := by
  cases e : M1 a with
  | none => rfl
  | some o => rw [s a o e] at h; cases h
theorem Fewer.ofPut {M : Mp} {p : Addr} {o : MO} (h : M p = none) : Fewer M (put M p o) := fun a u e => by
  have : a ≠ p := fun z => by rw [z, h] at e; cases e
  rw [put_ne this]; exact e
theorem Fewer.ofDel {M : Mp} {p : Addr} : Fewer (del M p) M := fun a u e => by
  by_cases h : a = p
  · rw [h, del_same] at e; cases e
  · rw [del_ne h] at e; exact e
theorem Fewer.stp {M1 M2 : Mp} (s : Fewer M1 M2) (H : Hp) : Stp M2 H M1 H := fun a o h1 h2 => ⟨h1, s.non h2⟩
theorem Fewer.repM {M1 M2 : Mp} (s : Fewer M1 M2) (r : RepM K M2 H) : RepM K M1 H := fun a m e => by
  have q := r a m (s a m e)
  cases m with
  | lst us => obtain ⟨ws, q, t⟩ := q; exact ⟨ws, q, RepVs.step (s.stp H) _ _ t⟩
  | dct ks us => obtain ⟨ws, q, l, t⟩ := q; exact ⟨ws, q, l, RepVs.step (s.stp H) _ _ t⟩
  | hid P => obtain ⟨ws, q, t⟩ := q; exact ⟨ws, q, t⟩
end

/-! ### slots -/
abbrev Sg := List (Option U)
def RepS (K : PySem.W.Frag) (M : Mp) (H : Hp) (su : Sg) (σ : L2.St) : Prop :=
  su.length = σ.length ∧ ∀ (i : Nat) (u : U), su[i]? = some (some u) → ∃ v, σ[i]? = some (some v) ∧ RepV K M H u v
section
variable {K : PySem.W.Frag} {M M' : Mp} {H H' : Hp} {su : Sg} {σ : L2.St}
theorem RepS.step (st : Stp M H M' H') (r : RepS K M H su σ) : RepS K M' H' su σ := ⟨r.1, fun i u e => by
  obtain ⟨v, h1, h2⟩ := r.2 i u e
  exact ⟨v, h1, h2.step st⟩⟩
theorem RepS.set (r : RepS K M H su σ) {i : Nat} {u : U} {v : V} (h : RepV K M H u v) : RepS K M H (su.set i (some u)) (σ.set i (some v)) := by
  refine ⟨by rw [List.length_set, List.length_set]; exact r.1, fun j w e => ?_⟩
  by_cases hj : i = j
  · subst hj
    by_cases hl : i < su.length
    · rw [List.getElem?_set_self hl] at e
      cases e
      exact ⟨v, by rw [List.getElem?_set_self (by rw [← r.1]; exact hl)], h⟩
    · rw [List.getElem?_eq_none (by rw [List.length_set]; omega)] at e; cases e
  · rw [List.getElem?_set_ne hj] at e ⊢
    exact r.2 j w e
theorem RepS.start {us : List U} {vs : List V} (h : RepVs K M H us vs) (n : Nat) : RepS K M H (us.map some ++ List.replicate (n - us.length) none) (vs.map some ++ List.replicate (n - vs.length) none) := by
  refine ⟨by simp [h.length], fun i u e => ?_⟩
  by_cases hi : i < us.length
  · rw [List.getElem?_append_left (by simpa using hi), List.getElem?_map] at e
    have hi' : i < vs.length := by rw [← h.length]; exact hi
    cases q : us[i]? with
    | none => rw [q] at e; cases e
    | some w =>
      rw [q] at e
      cases e
      obtain ⟨v, h1, h2⟩ := h.get q
      exact ⟨v, by rw [List.getElem?_append_left (by simpa using hi'), List.getElem?_map, h1]; rfl, h2⟩
  · rw [List.getElem?_append_right (by simpa using hi), List.getElem?_replicate] at e
    split at e <;> cases e
end
end Pu

/-! Pu, part 2: wishes over pure values, lifted to the layer's readings. -/
namespace Pu
open PySem PySem.Spec PyProof.Rows L2
abbrev Stt := L2.St

abbrev UK := U → Mp → Prop
abbrev WE := Sg → Mp → UK → Prop
abbrev WA := Sg → Mp → (List U → Mp → Prop) → Prop
abbrev WT := Sg → Mp → (Bool → Mp → Prop) → Prop
structure UEnds where
  nx : Sg → Mp → Prop
  rt : UK
  bk : Sg → Mp → Prop := fun _ _ => False
  ct : Sg → Mp → Prop := fun _ _ => False
abbrev WS := UEnds → Sg → Mp → Prop
/-- an exception: its class's name, the fields that it keeps -/
structure UX where
  cls : Str
  fs : List (Str × U) := []
abbrev UXK := UX → Mp → Prop
/-- a promise over pure values -/
abbrev USp := List U → Mp → UK → UXK → Prop

section
variable (K : PySem.W.Frag)
def Cl (M : Mp) (H : Hp) (R : UK) (Q : VK) : Prop := ∀ u M' v H', R u M' → Stp M H M' H' → RepM K M' H' → RepV K M' H' u v → Q v H'
def ClA (M : Mp) (H : Hp) (R : List U → Mp → Prop) (Q : List V → Hp → Prop) : Prop := ∀ us M' vs H', R us M' → Stp M H M' H' → RepM K M' H' → RepVs K M' H' us vs → Q vs H'
def ClT (M : Mp) (H : Hp) (R : Bool → Mp → Prop) (Q : Bool → Hp → Prop) : Prop := ∀ b M' H', R b M' → Stp M H M' H' → RepM K M' H' → Q b H'
def ClS (M : Mp) (H : Hp) (R : Sg → Mp → Prop) (Q : Stt → Hp → Prop) : Prop := ∀ su M' σ H', R su M' → Stp M H M' H' → RepM K M' H' → RepS K M' H' su σ → Q σ H'
structure ClD (M : Mp) (H : Hp) (R : UEnds) (D : Ends) : Prop where
  nx : ClS K M H R.nx D.nx
  rt : Cl K M H R.rt D.rt
  bk : ClS K M H R.bk D.bk
  ct : ClS K M H R.ct D.ct

/-- the ground: the moment of the entry -/
structure Gd where
  M : Mp
  H : Hp
/-- the state: behind the ground, held -/
structure At (g : Gd) (su : Sg) (M : Mp) (σ : Stt) (H : Hp) : Prop where
  st : Stp g.M g.H M H
  sl : RepS K M H su σ
  hd : RepM K M H

def liftE (g : Gd) (t : WE) : TE := fun σ H Q => ∃ su M R, At K g su M σ H ∧ t su M R ∧ Cl K M H R Q
def liftA (g : Gd) (t : WA) : TA := fun σ H Q => ∃ su M R, At K g su M σ H ∧ t su M R ∧ ClA K M H R Q
def liftT (g : Gd) (t : WT) : TT := fun σ H Q => ∃ su M R, At K g su M σ H ∧ t su M R ∧ ClT K M H R Q
def liftS (g : Gd) (t : WS) : TS := fun D σ H => ∃ su M R, At K g su M σ H ∧ t R su M ∧ ClD K M H R D
end

section
variable {K : PySem.W.Frag} {g : Gd} {su : Sg} {M M' : Mp} {σ : Stt} {H H' : Hp} {R : UK} {Q : VK}
theorem At.go (a : At K g su M σ H) (st : Stp M H M' H') (r : RepM K M' H') : At K g su M' σ H' := ⟨a.st.trans st, a.sl.step st, r⟩
theorem At.set (a : At K g su M σ H) {i : Nat} {u : U} {v : V} (h : RepV K M H u v) : At K g (su.set i (some u)) M (σ.set i (some v)) H := ⟨a.st, a.sl.set h, a.hd⟩
theorem Cl.go (c : Cl K M H R Q) (st : Stp M H M' H') : Cl K M' H' R Q := fun u M2 v H2 h s r e => c u M2 v H2 h (st.trans s) r e
theorem ClA.go {R : List U → Mp → Prop} {Q : List V → Hp → Prop} (c : ClA K M H R Q) (st : Stp M H M' H') : ClA K M' H' R Q := fun u M2 v H2 h s r e => c u M2 v H2 h (st.trans s) r e
theorem ClT.go {R : Bool → Mp → Prop} {Q : Bool → Hp → Prop} (c : ClT K M H R Q) (st : Stp M H M' H') : ClT K M' H' R Q := fun u M2 H2 h s r => c u M2 H2 h (st.trans s) r
theorem ClS.go {R : Sg → Mp → Prop} {Q : Stt → Hp → Prop} (c : ClS K M H R Q) (st : Stp M H M' H') : ClS K M' H' R Q := fun u M2 v H2 h s r e => c u M2 v H2 h (st.trans s) r e
theorem ClD.go {R : UEnds} {D : Ends} (c : ClD K M H R D) (st : Stp M H M' H') : ClD K M' H' R D := ⟨c.nx.go st, c.rt.go st, c.bk.go st, c.ct.go st⟩
theorem Cl.here (c : Cl K M H R Q) {u : U} {v : V} (h : R u M) (hd : RepM K M H) (r : RepV K M H u v) : Q v H := c u M v H h (Stp.refl _ _) hd r
theorem Cl.at_ (c : Cl K M H R Q) {u : U} {v : V} (h : R u M') (st : Stp M H M' H') (hd : RepM K M' H') (r : RepV K M' H' u v) : Q v H' := c u M' v H' h st hd r
theorem ClT.here {R : Bool → Mp → Prop} {Q : Bool → Hp → Prop} (c : ClT K M H R Q) {b : Bool} (h : R b M) (hd : RepM K M H) : Q b H := c b M H h (Stp.refl _ _) hd
theorem ClS.here {R : Sg → Mp → Prop} {Q : Stt → Hp → Prop} (c : ClS K M H R Q) (h : R su M) (a : At K g su M σ H) : Q σ H := c su M σ H h (Stp.refl _ _) a.hd a.sl
/-- a value without parts is what it stands for -/
theorem rep_int {i : Int} {v : V} (h : RepV K M H (.int i) v) : v = .int i := by unfold RepV at h; exact h
theorem rep_str {x : Str} {v : V} (h : RepV K M H (.str x) v) : v = .str x := by unfold RepV at h; exact h
theorem rep_bl {b : Bool} {v : V} (h : RepV K M H (.bl b) v) : v = .bl b := by unfold RepV at h; exact h
theorem rep_non {v : V} (h : RepV K M H .non v) : v = .non := by unfold RepV at h; exact h
theorem rep_ref {a : Addr} {v : V} (h : RepV K M H (.ref a) v) : v = .ref a := by unfold RepV at h; exact h
theorem rep_tup {us : List U} {v : V} (h : RepV K M H (.tup us) v) : ∃ a vs, v = .ref a ∧ FzT K M H a vs ∧ RepVs K M H us vs := by unfold RepV at h; exact h
theorem rep_pr {us : List U} {v : V} (h : RepV K M H (.pr us) v) : ∃ a vs, v = .ref a ∧ FzP M H a vs ∧ RepVs K M H us vs := by unfold RepV at h; exact h
theorem rep_lst {us : List U} {v : V} (h : RepV K M H (.lst us) v) : ∃ a vs, v = .ref a ∧ FzL K M H a vs ∧ RepVs K M H us vs := by unfold RepV at h; exact h
theorem mk_int {i : Int} : RepV K M H (.int i) (.int i) := by unfold RepV; rfl
theorem mk_str {x : Str} : RepV K M H (.str x) (.str x) := by unfold RepV; rfl
theorem mk_bl {b : Bool} : RepV K M H (.bl b) (.bl b) := by unfold RepV; rfl
theorem mk_non : RepV K M H .non .non := by unfold RepV; rfl
theorem mk_ty {n : String} : RepV K M H (.ty n) (.ty n) := by unfold RepV; rfl
theorem mk_ref {a : Addr} : RepV K M H (.ref a) (.ref a) := by unfold RepV; rfl
theorem mk_tup {a : Addr} {us : List U} {vs : List V} (f : FzT K M H a vs) (r : RepVs K M H us vs) : RepV K M H (.tup us) (.ref a) := by unfold RepV; exact ⟨a, vs, rfl, f, r⟩
theorem mk_lst {a : Addr} {us : List U} {vs : List V} (f : FzL K M H a vs) (r : RepVs K M H us vs) : RepV K M H (.lst us) (.ref a) := by unfold RepV; exact ⟨a, vs, rfl, f, r⟩
/-- a new tuple, a new frozen list -/
theorem new_tup (hd : RepM K M H) {p : Addr} {o : Obj} {us : List U} {vs : List V} (h : H p = none) (ho : o.dict = none) (r : RepVs K M H us vs) : RepV K M (upd H p (.frz o (.tup vs))) (.tup us) (.ref p) :=
  mk_tup (.inl ⟨⟨o, upd_same, ho⟩, hd.free h⟩) (RepVs.step (Stp.new hd h) _ _ r)
theorem new_pr (hd : RepM K M H) {p : Addr} {us : List U} {vs : List V} (h : H p = none) (r : RepVs K M H us vs) : RepV K M (upd H p (.tup vs)) (.pr us) (.ref p) := by
  unfold RepV
  exact ⟨p, vs, rfl, ⟨.inl upd_same, hd.free h⟩, RepVs.step (Stp.new hd h) _ _ r⟩
theorem new_lst (hd : RepM K M H) {p : Addr} {us : List U} {vs : List V} (h : H p = none) (r : RepVs K M H us vs) : RepV K M (upd H p (.lst vs)) (.lst us) (.ref p) :=
  mk_lst (.inl ⟨.inl upd_same, hd.free h⟩) (RepVs.step (Stp.new hd h) _ _ r)
end

/-! ### the judgements -/
def JE (X : Cx) (g : Gd) (e : Expr) (t : WE) : Prop := PE X e (liftE X.K g t)
def JA (X : Cx) (g : Gd) (es : List Expr) (t : WA) : Prop := PA X es (liftA X.K g t)
def JT (X : Cx) (g : Gd) (e : Expr) (t : WT) : Prop := PT X e (liftT X.K g t)
def JW (X : Cx) (g : Gd) (e : Expr) (t : WT) : Prop := PW X e (liftT X.K g t)
def JS (X : Cx) (g : Gd) (s : Stmt) (t : WS) : Prop := PS X s (liftS X.K g t)
def JSs (X : Cx) (g : Gd) (ss : List Stmt) (t : WS) : Prop := PSs X ss (liftS X.K g t)
theorem pe_imp {X : Cx} {e : Expr} {t t' : TE} (h : PE X e t) (i : ∀ σ H Q, t' σ H Q → t σ H Q) : PE X e t' := ⟨fun pins s σ H Q I q => h.run pins s σ H Q I (i σ H Q q)⟩
theorem pa_imp {X : Cx} {e : List Expr} {t t' : TA} (h : PA X e t) (i : ∀ σ H Q, t' σ H Q → t σ H Q) : PA X e t' := ⟨fun pos pins s σ H Q I q => h.run pos pins s σ H Q I (i σ H Q q)⟩
theorem pt_imp {X : Cx} {e : Expr} {t t' : TT} (h : PT X e t) (i : ∀ σ H Q, t' σ H Q → t σ H Q) : PT X e t' := ⟨fun pins s σ H Q I q => h.run pins s σ H Q I (i σ H Q q)⟩
theorem pw_imp {X : Cx} {e : Expr} {t t' : TT} (h : PW X e t) (i : ∀ σ H Q, t' σ H Q → t σ H Q) : PW X e t' := ⟨fun wh pins s σ H Q I q => h.run wh pins s σ H Q I (i σ H Q q)⟩
theorem ps_imp {X : Cx} {e : Stmt} {t t' : TS} (h : PS X e t) (i : ∀ D σ H, t' D σ H → t D σ H) : PS X e t' := ⟨fun pins s σ H D I q => h.run pins s σ H D I (i D σ H q)⟩
theorem pss_imp {X : Cx} {e : List Stmt} {t t' : TS} (h : PSs X e t) (i : ∀ D σ H, t' D σ H → t D σ H) : PSs X e t' := ⟨fun pins s σ H D I q => h.run pins s σ H D I (i D σ H q)⟩
theorem op_imp {X : Cx} {f : Value → Value → Sem Value} {r r' : R2} (h : OpR X f r) (i : ∀ x y H Q, r' x y H Q → r x y H Q) : OpR X f r' := fun pins s σ H x y v u Q I rx ry q => h pins s σ H x y v u Q I rx ry (i _ _ _ _ q)

/-- operators by values, lifted -/
abbrev O1 := U → Mp → UK → Prop
abbrev O2 := U → U → Mp → UK → Prop
def liftO (K : PySem.W.Frag) (o : O2) : R2 := fun x y H Q => ∃ ux uy M R, RepV K M H ux x ∧ RepV K M H uy y ∧ RepM K M H ∧ o ux uy M R ∧ Cl K M H R Q
def liftO1 (K : PySem.W.Frag) (o : O1) : V → Hp → VK → Prop := fun x H Q => ∃ ux M R, RepV K M H ux x ∧ RepM K M H ∧ o ux M R ∧ Cl K M H R Q
def UOp (X : Cx) (f : Value → Value → Sem Value) (o : O2) : Prop := OpR X f (liftO X.K o)
def UUn (X : Cx) (f : Value → Sem Value) (o : O1) : Prop := UnR X f (liftO1 X.K o)

section
variable {X : Cx} {g : Gd} {a b c e : Expr} {es : List Expr} {ta tb tc te : WE} {pos : Pos}
/-! ### names, constants -/
def wVar (i : Nat) : WE := fun su M R => ∃ u, su[i]? = some (some u) ∧ R u M
def wC (u : U) : WE := fun _ M R => R u M
theorem j_var {i : Nat} {x : Str} {pos : Pos} (hN : X.N[i]? = some x) (hv : Vis X.env.scope x) (hd : (x == ("__debug__" : Str)) = false) (hcd : (x == ("__classdict__" : Str)) = false) : JE X g (.Name x pos) (wVar i) :=
  pe_imp (pe_var hN hv hd hcd) fun σ H Q ⟨su, M, R, a, ⟨u, e, h⟩, c⟩ => by
    obtain ⟨v, h1, h2⟩ := a.sl.2 i u e
    exact ⟨v, h1, c.here h a.hd h2⟩
theorem j_int {i j} : JE X g (.Constant (.int i) j pos) (wC (.int i)) := pe_imp pe_int fun σ H Q ⟨su, M, R, a, h, c⟩ => c.here h a.hd mk_int
theorem j_bl {i j} : JE X g (.Constant (.bool i) j pos) (wC (.bl i)) := pe_imp pe_bl fun σ H Q ⟨su, M, R, a, h, c⟩ => c.here h a.hd mk_bl
theorem j_non {j} : JE X g (.Constant .none j pos) (wC .non) := pe_imp pe_non fun σ H Q ⟨su, M, R, a, h, c⟩ => c.here h a.hd mk_non
theorem j_str {i j} : JE X g (.Constant (.str i) j pos) (wC (.str i)) := pe_imp pe_str fun σ H Q ⟨su, M, R, a, h, c⟩ => c.here h a.hd mk_str
/-- a constant of the module -/
theorem j_glob {x : Str} {u : U} {v : V} {w : Value} (hg : Gl X x) (hm : X.mg x = some w) (r : RelV v w) (hr : ∀ M H, RepV X.K M H u v) (hd : (x == ("__debug__" : Str)) = false) : JE X g (.Name x pos) (wC u) :=
  pe_imp (pe_glob hg hm r hd) fun σ H Q ⟨su, M, R, a, h, c⟩ => c.here h a.hd (hr _ _)

/-! ### operators -/
def wBin (o : O2) (ta tb : WE) : WE := fun su M R => ta su M fun x M1 => tb su M1 fun y M2 => o x y M2 R
def wUn (o : O1) (ta : WE) : WE := fun su M R => ta su M fun x M1 => o x M1 R
/-- two in a row -/
theorem two {σ : Stt} {H : Hp} {Q : VK} {o : O2} (h : liftE X.K g (wBin o ta tb) σ H Q) : tOp (liftO X.K o) (liftE X.K g ta) (liftE X.K g tb) σ H Q := by
  obtain ⟨su, M, R, a, h, c⟩ := h
  refine ⟨su, M, _, a, h, fun x M1 v H1 h1 s1 d1 r1 => ⟨su, M1, _, a.go s1 d1, h1, fun y M2 v2 H2 h2 s2 d2 r2 => ⟨x, y, M2, R, r1.step s2, r2, d2, h2, (c.go s1).go s2⟩⟩⟩
theorem j_bin {op : Operator} {o : O2} (ho : UOp X (binaryOp op) o) (ha : JE X g a ta) (hb : JE X g b tb) : JE X g (.BinOp a op b pos) (wBin o ta tb) :=
  pe_imp (pe_op ho ha hb) fun σ H Q h => two h
theorem j_un {op : UnaryOp} {o : O1} (ho : UUn X (unaryOp op) o) (ha : JE X g a ta) : JE X g (.UnaryOp op a pos) (wUn o ta) :=
  pe_imp (pe_un ho ha) fun σ H Q ⟨su, M, R, a, h, c⟩ => ⟨su, M, _, a, h, fun x M1 v H1 h1 s1 d1 r1 => ⟨x, M1, R, r1, d1, h1, c.go s1⟩⟩
theorem j_cmp {op : CmpOp} {o : O2} (ho : UOp X (compareOp op) o) (ha : JE X g a ta) (hb : JE X g b tb) (hm : behindInMarks op b = false) : JE X g (.Compare a [op] [b] pos) (wBin o ta tb) :=
  pe_imp (pe_cmpR ho ha hb hm) fun σ H Q h => two h
/-- a value that is a bool -/
def wB (t : WE) : WT := fun su M R => t su M fun u M1 => ∃ b, u = .bl b ∧ R b M1
theorem bT {σ : Stt} {H : Hp} {Q : Bool → Hp → Prop} {t : TE} {w : WE} (i : ∀ σ H Q, liftE X.K g w σ H Q → t σ H Q) (h : liftT X.K g (wB w) σ H Q) : t σ H fun x H' => ∃ k, x = .bl k ∧ Q k H' := by
  obtain ⟨su, M, R, a, h, c⟩ := h
  refine i _ _ _ ⟨su, M, _, a, h, fun u M1 v H1 ⟨b, e, q⟩ s1 d1 r1 => ?_⟩
  subst e
  exact ⟨b, rep_bl r1, c _ _ _ q s1 d1⟩
theorem jt_cmp {op : CmpOp} {o : O2} (ho : UOp X (compareOp op) o) (ha : JE X g a ta) (hb : JE X g b tb) (hm : behindInMarks op b = false) : JT X g (.Compare a [op] [b] pos) (wB (wBin o ta tb)) :=
  pt_imp (pt_cmpR ho ha hb hm) fun σ H Q h => bT (fun _ _ _ => two) h
def wChain (o o' : O2) (ta tb tc : WE) : WE := fun su M R => ta su M fun x M1 => tb su M1 fun y M2 => o x y M2 fun z M3 => ∃ k, z = .bl k ∧
  (if k = true then tc su M3 fun w M4 => o' y w M4 R else R (.bl false) M3)
theorem chainI {o o' : O2} {σ : Stt} {H : Hp} {Q : VK} (h : liftE X.K g (wChain o o' ta tb tc) σ H Q) : tChain (liftO X.K o) (liftO X.K o') (liftE X.K g ta) (liftE X.K g tb) (liftE X.K g tc) σ H Q := by
  obtain ⟨su, M, R, a, h, c⟩ := h
  refine ⟨su, M, _, a, h, fun x M1 v H1 h1 s1 d1 r1 => ⟨su, M1, _, a.go s1 d1, h1, fun y M2 v2 H2 h2 s2 d2 r2 => ⟨x, y, M2, _, r1.step s2, r2, d2, h2, fun z M3 v3 H3 ⟨k, e, h3⟩ s3 d3 r3 => ?_⟩⟩⟩
  subst e
  refine ⟨k, rep_bl r3, ?_⟩
  have a3 := ((a.go s1 d1).go s2 d2).go s3 d3
  have c3 := ((c.go s1).go s2).go s3
  cases k with
  | true =>
    rw [if_pos rfl] at h3 ⊢
    exact ⟨su, M3, _, a3, h3, fun w M4 v4 H4 h4 s4 d4 r4 => ⟨y, w, M4, R, (r2.step s3).step s4, r4, d4, h4, c3.go s4⟩⟩
  | false =>
    rw [if_neg Bool.false_ne_true] at h3 ⊢
    exact c3.here h3 d3 mk_bl
theorem j_chain {op op' : CmpOp} {o o' : O2} (ho : UOp X (compareOp op) o) (ho' : UOp X (compareOp op') o') (ha : JE X g a ta) (hb : JE X g b tb) (hc : JE X g c tc) (hm : lastMarks [op, op'] [b, c] = false) :
    JE X g (.Compare a [op, op'] [b, c] pos) (wChain o o' ta tb tc) := pe_imp (pe_chain ho ho' ha hb hc hm) fun σ H Q h => chainI h
theorem jt_chain {op op' : CmpOp} {o o' : O2} (ho : UOp X (compareOp op) o) (ho' : UOp X (compareOp op') o') (ha : JE X g a ta) (hb : JE X g b tb) (hc : JE X g c tc) (hm : lastMarks [op, op'] [b, c] = false) :
    JT X g (.Compare a [op, op'] [b, c] pos) (wB (wChain o o' ta tb tc)) := pt_imp (pt_chain ho ho' ha hb hc hm) fun σ H Q h => bT (fun _ _ _ => chainI) h

/-! ### truth -/
/-- the truth of a value -/
def Tru (M : Mp) : U → Bool → Prop
  | .non, k => k = false
  | .bl b, k => k = b
  | .int i, k => k = (i != 0)
  | .str y, k => y.length ≤ sizeLine ∧ k = ((y.length : Int) != 0)
  | .tup us, k => k = !us.isEmpty
  | .lst us, k => k = !us.isEmpty
  | .dct ks _, k => k = !ks.isEmpty
  | .ref a, k => (∃ us, M a = some (.lst us) ∧ k = !us.isEmpty) ∨ ∃ ks us, M a = some (.dct ks us) ∧ k = !ks.isEmpty
  | .ty _, _ => False
  | .pr _, _ => False
theorem isEmpty_rep {K : PySem.W.Frag} {M : Mp} {H : Hp} {us : List U} {vs : List V} (r : RepVs K M H us vs) : (!vs.isEmpty) = !us.isEmpty := by
  cases us with
  | nil => rw [r.nil_inv]; rfl
  | cons u us => obtain ⟨v, q, e, _, _⟩ := r.uncons; rw [e]; rfl
theorem isEmpty_zip {ks : List Key} {vs : List V} (l : ks.length = vs.length) : (!(ks.zip vs).isEmpty) = !ks.isEmpty := by
  cases ks <;> cases vs <;> simp at l ⊢
theorem tru_of {K : PySem.W.Frag} {M : Mp} {H : Hp} (hd : RepM K M H) {u : U} {v : V} (r : RepV K M H u v) {k : Bool} (t : Tru M u k) : TruV K v H k := by
  cases u with
  | non => rw [rep_non r]; exact t
  | bl b => rw [rep_bl r]; exact t
  | int i => rw [rep_int r]; exact t
  | str x => rw [rep_str r]; exact t
  | ty n => exact t.elim
  | pr n => exact t.elim
  | tup us =>
    obtain ⟨a, vs, e, f, q⟩ := rep_tup r
    rw [e]
    exact .inr (.inl ⟨vs, f.sq, by rw [isEmpty_rep q]; exact t⟩)
  | lst us =>
    obtain ⟨a, vs, e, f, q⟩ := rep_lst r
    rw [e]
    exact .inl ⟨vs, f.sq, by rw [isEmpty_rep q]; exact t⟩
  | dct ks us =>
    unfold RepV at r
    obtain ⟨a, vs, e, f, m, l, q⟩ := r
    rw [e]
    exact .inr (.inr ⟨_, f, by rw [isEmpty_zip l]; exact t⟩)
  | ref a =>
    rw [rep_ref r]
    rcases t with ⟨us, m, t⟩ | ⟨ks, us, m, t⟩
    · obtain ⟨vs, h, q⟩ := hd a _ m
      exact .inl ⟨vs, .inl (.inl h), by rw [isEmpty_rep q]; exact t⟩
    · obtain ⟨vs, h, l, q⟩ := hd a _ m
      exact .inr (.inr ⟨_, h, by rw [isEmpty_zip l]; exact t⟩)
def wTr (t : WE) : WT := fun su M R => t su M fun u M1 => ∃ k, Tru M1 u k ∧ R k M1
theorem jt_truth (ha : JE X g a ta) (he : ∀ whole, isTrue a X.env whole = (do let v ← whole; standAt a.pos; holding [v] (truthy v))) : JT X g a (wTr ta) :=
  pt_imp (pt_truth ha he) fun σ H Q ⟨su, M, R, a, h, c⟩ => ⟨su, M, _, a, h, fun u M1 v H1 ⟨k, t, q⟩ s1 d1 r1 => ⟨k, tru_of d1 r1 t, c _ _ _ q s1 d1⟩⟩

/-! ### and, or, not, if -/
variable {tA tB : WT} {rest : List Expr}
def wAndT (t u : WT) : WT := fun su M R => t su M fun k M1 => if k = true then u su M1 R else R false M1
def wOrT (t u : WT) : WT := fun su M R => t su M fun k M1 => if k = true then R true M1 else u su M1 R
def wNotT (t : WT) : WT := fun su M R => t su M fun k M1 => R (!k) M1
theorem jw_and1 (ha : JT X g a tA) : JW X g (.BoolOp .And [a] pos) tA := pw_and1 ha
theorem jw_or1 (ha : JT X g a tA) : JW X g (.BoolOp .Or [a] pos) tA := pw_or1 ha
theorem jw_and (ha : JT X g a tA) (hb : JW X g (.BoolOp .And (b :: rest) pos) tB) : JW X g (.BoolOp .And (a :: b :: rest) pos) (wAndT tA tB) :=
  pw_imp (pw_and ha hb) fun σ H Q ⟨su, M, R, a, h, c⟩ => ⟨su, M, _, a, h, fun k M1 H1 q s1 d1 => by
    cases k with
    | true => rw [if_pos rfl] at q ⊢; exact ⟨su, M1, R, a.go s1 d1, q, c.go s1⟩
    | false => rw [if_neg Bool.false_ne_true] at q ⊢; exact c _ _ _ q s1 d1⟩
theorem jw_or (ha : JT X g a tA) (hb : JW X g (.BoolOp .Or (b :: rest) pos) tB) : JW X g (.BoolOp .Or (a :: b :: rest) pos) (wOrT tA tB) :=
  pw_imp (pw_or ha hb) fun σ H Q ⟨su, M, R, a, h, c⟩ => ⟨su, M, _, a, h, fun k M1 H1 q s1 d1 => by
    cases k with
    | false => rw [if_neg Bool.false_ne_true] at q ⊢; exact ⟨su, M1, R, a.go s1 d1, q, c.go s1⟩
    | true => rw [if_pos rfl] at q ⊢; exact c _ _ _ q s1 d1⟩
theorem jt_of (h : JW X g e tA) : JT X g e tA := PW.pt h
theorem jt_not (ha : JT X g a tA) : JT X g (.UnaryOp .Not a pos) (wNotT tA) :=
  pt_imp (pt_not ha) fun σ H Q ⟨su, M, R, a, h, c⟩ => ⟨su, M, _, a, h, fun k M1 H1 q s1 d1 => c _ _ _ q s1 d1⟩
def wAnd (ta tb : WE) : WE := fun su M R => ta su M fun x M1 => ∃ k, Tru M1 x k ∧ if k = true then tb su M1 R else R x M1
def wOr (ta tb : WE) : WE := fun su M R => ta su M fun x M1 => ∃ k, Tru M1 x k ∧ if k = true then R x M1 else tb su M1 R
def wNot (ta : WE) : WE := fun su M R => ta su M fun x M1 => ∃ k, Tru M1 x k ∧ R (.bl (!k)) M1
theorem j_one {op} (h : JE X g a ta) : JE X g (.BoolOp op [a] pos) ta := pe_one h
theorem j_and (ha : JE X g a ta) (hb : JE X g (.BoolOp .And (b :: rest) pos) tb) : JE X g (.BoolOp .And (a :: b :: rest) pos) (wAnd ta tb) :=
  pe_imp (pe_andT ha hb) fun σ H Q ⟨su, M, R, a, h, c⟩ => ⟨su, M, _, a, h, fun x M1 v H1 ⟨k, t, q⟩ s1 d1 r1 => ⟨k, tru_of d1 r1 t, by
    cases k with
    | true => rw [if_pos rfl] at q ⊢; exact ⟨su, M1, R, a.go s1 d1, q, c.go s1⟩
    | false => rw [if_neg Bool.false_ne_true] at q ⊢; exact c.at_ q s1 d1 r1⟩⟩
theorem j_or (ha : JE X g a ta) (hb : JE X g (.BoolOp .Or (b :: rest) pos) tb) : JE X g (.BoolOp .Or (a :: b :: rest) pos) (wOr ta tb) :=
  pe_imp (pe_orT ha hb) fun σ H Q ⟨su, M, R, a, h, c⟩ => ⟨su, M, _, a, h, fun x M1 v H1 ⟨k, t, q⟩ s1 d1 r1 => ⟨k, tru_of d1 r1 t, by
    cases k with
    | false => rw [if_neg Bool.false_ne_true] at q ⊢; exact ⟨su, M1, R, a.go s1 d1, q, c.go s1⟩
    | true => rw [if_pos rfl] at q ⊢; exact c.at_ q s1 d1 r1⟩⟩
theorem j_not (ha : JE X g a ta) : JE X g (.UnaryOp .Not a pos) (wNot ta) :=
  pe_imp (pe_notT ha) fun σ H Q ⟨su, M, R, a, h, c⟩ => ⟨su, M, _, a, h, fun x M1 v H1 ⟨k, t, q⟩ s1 d1 r1 => ⟨k, tru_of d1 r1 t, c.at_ q s1 d1 mk_bl⟩⟩
def wIf (t : WT) (ta tb : WE) : WE := fun su M R => t su M fun k M1 => if k = true then ta su M1 R else tb su M1 R
theorem j_if (hc : JT X g c tA) (ha : JE X g a ta) (hb : JE X g b tb) : JE X g (.IfExp c a b pos) (wIf tA ta tb) :=
  pe_imp (pe_ifExp hc ha hb) fun σ H Q ⟨su, M, R, a, h, c⟩ => ⟨su, M, _, a, h, fun k M1 H1 q s1 d1 => by
    cases k with
    | true => rw [if_pos rfl] at q ⊢; exact ⟨su, M1, R, a.go s1 d1, q, c.go s1⟩
    | false => rw [if_neg Bool.false_ne_true] at q ⊢; exact ⟨su, M1, R, a.go s1 d1, q, c.go s1⟩⟩

/-! ### argument lists, displays -/
variable {tr : WA}
def wNil : WA := fun _ M R => R [] M
def wCons (ta : WE) (tr : WA) : WA := fun su M R => ta su M fun x M1 => tr su M1 fun xs M2 => R (x :: xs) M2
theorem ja_nil : JA X g [] wNil := pa_imp pa_nil fun σ H Q ⟨su, M, R, a, h, c⟩ => c _ _ _ _ h (Stp.refl _ _) a.hd .nil
theorem ja_cons (ha : JE X g e te) (hr : JA X g es tr) (hs : starEach (e :: es) X.env = (false, eval e X.env) :: starEach es X.env) : JA X g (e :: es) (wCons te tr) :=
  pa_imp (pa_cons ha hr hs) fun σ H Q ⟨su, M, R, a, h, c⟩ => ⟨su, M, _, a, h, fun x M1 v H1 q s1 d1 r1 => ⟨su, M1, _, a.go s1 d1, q, fun xs M2 vs H2 q2 s2 d2 r2 =>
    c _ _ _ _ q2 (s1.trans s2) d2 (.cons (r1.step s2) r2)⟩⟩
def wTup (t : WA) : WE := fun su M R => t su M fun xs M1 => xs.length ≤ sizeLine ∧ R (.tup xs) M1
def wLst (t : WA) : WE := fun su M R => t su M fun xs M1 => xs.length ≤ sizeLine ∧ R (.lst xs) M1
/-- a new tuple, its object known -/
theorem laidF {pins : List (Addr × Obj)} {σ : Stt} {H : Hp} {s : Shared} (I : Inv X pins σ H s) {its : List Value} {xs : List V} (r : Vals xs its) (hz : xs.length ≤ sizeLine) {Q : VK} (q : ∀ p o, o.dict = none → H p = none → Q (.ref p) (upd H p (.frz o (.tup xs)))) :
    EP X pins σ Q (.ref s.heap.objs.size) { s with heap := s.heap.push { cls := .type "tuple", data := .seq its.toArray } } :=
  ⟨.ref s.heap.objs.size, _, I.laid (t' := s.toks) (o := .frz { cls := .type "tuple", data := .seq its.toArray } (.tup xs)) (fun b u e => Heap.get?_push_of_some _ e) (Nat.le_refl _) ⟨Heap.get?_push_size _ rfl, hz, its, r, IsTup.new _ _⟩, rfl, q _ _ rfl (I.hok.fresh (Nat.le_refl _))⟩
theorem pe_tupF {x1} {t : TA} (h : PA X es t) : PE X (.Tuple es x1 pos) (fun σ H Q => t σ H fun xs H1 => xs.length ≤ sizeLine ∧ ∀ p o, o.dict = none → H1 p = none → Q (.ref p) (upd H1 p (.frz o (.tup xs)))) := by
  refine ⟨fun pins s σ H Q I hq => ?_⟩
  refine wpAny_Tuple_spliced (thn (h.run pos pins s σ H _ I hq) fun us s1 ⟨xs, H1, I1, r, z, q⟩ => ⟨by rw [← r.length]; exact z, ?_⟩)
  have hf : H1 s1.heap.objs.size = none := I1.hok.fresh (Nat.le_refl _)
  refine ⟨.ref s1.heap.objs.size, upd H1 s1.heap.objs.size (.frz { cls := .type "tuple", data := .seq us.toArray } (.tup xs)), I1.laid (t' := s1.toks) (fun b u e => Heap.get?_push_of_some _ e) (Nat.le_refl _) ?_, rfl, q _ { cls := .type "tuple", data := .seq us.toArray } rfl hf⟩
  exact ⟨Heap.get?_push_size _ rfl, z, us, r, ⟨_, Heap.get?_push_size _ rfl, rfl, _, rfl⟩⟩
theorem j_tup {x1} (h : JA X g es tr) : JE X g (.Tuple es x1 pos) (wTup tr) :=
  pe_imp (pe_tupF h) fun σ H Q ⟨su, M, R, a, h, c⟩ => ⟨su, M, _, a, h, fun xs M1 vs H1 ⟨z, q⟩ s1 d1 r1 => ⟨by rw [← r1.length]; exact z, fun p o ho hp =>
    c.at_ q (s1.trans (Stp.new d1 hp)) (d1.new hp) (new_tup d1 hp ho r1)⟩⟩
theorem j_lst (h : JA X g es tr) : JE X g (.List es pos) (wLst tr) :=
  pe_imp (pe_lst h) fun σ H Q ⟨su, M, R, a, h, c⟩ => ⟨su, M, _, a, h, fun xs M1 vs H1 ⟨z, q⟩ s1 d1 r1 => ⟨by rw [← r1.length]; exact z, fun p hp =>
    c.at_ q (s1.trans (Stp.new d1 hp)) (d1.new hp) (new_lst d1 hp r1)⟩⟩
/-- a list that is to be changed: a new handle -/
def wLstH (t : WA) : WE := fun su M R => t su M fun xs M1 => xs.length ≤ sizeLine ∧ ∀ p, M1 p = none → R (.ref p) (put M1 p (.lst xs))
theorem j_lstH (h : JA X g es tr) : JE X g (.List es pos) (wLstH tr) :=
  pe_imp (pe_lst h) fun σ H Q ⟨su, M, R, a, h, c⟩ => ⟨su, M, _, a, h, fun xs M1 vs H1 ⟨z, q⟩ s1 d1 r1 => ⟨by rw [← r1.length]; exact z, fun p hp =>
    c.at_ (q p (d1.free hp)) (s1.trans (Stp.newH hp)) (d1.putL (Stp.newH hp) r1) mk_ref⟩⟩
end
end Pu

/-! Pu, part 3: statements, loops, comprehensions. -/
namespace Pu
open PySem PySem.Spec PyProof.Rows L2

section
variable {X : Cx} {g : Gd} {st : Stmt} {rest : List Stmt} {t u : WS} {e : Expr} {te : WE} {pos : Pos} {tc : WT}
/-! ### small statements -/
def wNext : WS := fun D su M => D.nx su M
def wSeq (t u : WS) : WS := fun D su M => t { D with nx := u D } su M
theorem jss_nil : JSs X g [] wNext := pss_imp pss_nil fun D σ H ⟨su, M, R, a, h, c⟩ => c.nx.here h a
theorem jss_cons (h1 : JS X g st t) (h2 : JSs X g rest u) : JSs X g (st :: rest) (wSeq t u) :=
  pss_imp (pss_cons h1 h2) fun D σ H ⟨su, M, R, a, h, c⟩ => ⟨su, M, { R with nx := u R }, a, h, ⟨fun su1 M1 σ1 H1 q s1 d1 r1 => ⟨su1, M1, R, ⟨a.st.trans s1, r1, d1⟩, q, c.go s1⟩, c.rt, c.bk, c.ct⟩⟩
def wBreak : WS := fun D su M => D.bk su M
def wCont : WS := fun D su M => D.ct su M
theorem js_pass : JS X g (.Pass pos) wNext := ps_imp ps_pass fun D σ H ⟨su, M, R, a, h, c⟩ => c.nx.here h a
theorem js_break : JS X g (.Break pos) wBreak := ps_imp ps_break fun D σ H ⟨su, M, R, a, h, c⟩ => c.bk.here h a
theorem js_continue : JS X g (.Continue pos) wCont := ps_imp ps_continue fun D σ H ⟨su, M, R, a, h, c⟩ => c.ct.here h a
def wDrop (te : WE) : WS := fun D su M => te su M fun _ M1 => D.nx su M1
theorem js_expr (he : JE X g e te) (hs : swapsWith e none pos.line X.env = pure false) : JS X g (.Expr e pos) (wDrop te) :=
  ps_imp (ps_expr he hs) fun D σ H ⟨su, M, R, a, h, c⟩ => ⟨su, M, _, a, h, fun _ M1 v H1 q s1 d1 _ => (c.nx.go s1).here q (a.go s1 d1)⟩
def wRet (te : WE) : WS := fun D su M => te su M D.rt
theorem js_ret (he : JE X g e te) : JS X g (.Return (some e) pos) (wRet te) :=
  ps_imp (ps_ret he) fun D σ H ⟨su, M, R, a, h, c⟩ => ⟨su, M, _, a, h, c.rt⟩
def wRetN : WS := fun D _ M => D.rt .non M
theorem js_retN : JS X g (.Return none pos) wRetN := ps_imp ps_retN fun D σ H ⟨su, M, R, a, h, c⟩ => c.rt.here h a.hd mk_non
def wIfS (c : WT) (t u : WS) : WS := fun D su M => c su M fun k M1 => if k = true then t D su M1 else u D su M1
theorem js_if {c : Expr} {a b : List Stmt} (hc : JT X g c tc) (ha : JSs X g a t) (hb : JSs X g b u) : JS X g (.If c a b pos) (wIfS tc t u) :=
  ps_imp (ps_if hc ha hb) fun D σ H ⟨su, M, R, a, h, c⟩ => ⟨su, M, _, a, h, fun k M1 H1 q s1 d1 => by
    cases k with
    | true => rw [if_pos rfl] at q ⊢; exact ⟨su, M1, R, a.go s1 d1, q, c.go s1⟩
    | false => rw [if_neg Bool.false_ne_true] at q ⊢; exact ⟨su, M1, R, a.go s1 d1, q, c.go s1⟩⟩

/-! ### targets -/
abbrev WG := U → Sg → Mp → (Sg → Mp → Prop) → Prop
abbrev WGs := List U → Sg → Mp → (Sg → Mp → Prop) → Prop
def liftG (K : PySem.W.Frag) (g : Gd) (t : WG) : TG := fun v σ H Q => ∃ u su M R, At K g su M σ H ∧ RepV K M H u v ∧ t u su M R ∧ ClS K M H R Q
def liftGs (K : PySem.W.Frag) (g : Gd) (t : WGs) : TGs := fun vs σ H Q => ∃ us su M R, At K g su M σ H ∧ RepVs K M H us vs ∧ t us su M R ∧ ClS K M H R Q
def JG (X : Cx) (g : Gd) (e : Expr) (t : WG) : Prop := PG X e (liftG X.K g t)
def JGs (X : Cx) (g : Gd) (es : List Expr) (t : WGs) : Prop := PGs X es (liftGs X.K g t)
theorem pg_imp {X : Cx} {e : Expr} {t t' : TG} (h : PG X e t) (i : ∀ v σ H Q, t' v σ H Q → t v σ H Q) : PG X e t' := ⟨fun pins s σ H v u Q I r q => h.run pins s σ H v u Q I r (i v σ H Q q)⟩
theorem pgs_imp {X : Cx} {e : List Expr} {t t' : TGs} (h : PGs X e t) (i : ∀ v σ H Q, t' v σ H Q → t v σ H Q) : PGs X e t' := ⟨fun pins s σ H v u Q I r q => h.run pins s σ H v u Q I r (i v σ H Q q)⟩
def wName (i : Nat) : WG := fun u su M R => R (su.set i (some u)) M
theorem jg_name {i : Nat} {x : Str} (hN : X.N.Nodup) (hi : X.N[i]? = some x) (hx : Loc X.env.scope x) (hf : X.fn x = true ∨ X.env.scope.names.lookup x = some .local) : JG X g (.Name x pos) (wName i) :=
  pg_imp (pg_name hN hi hx hf) fun v σ H Q ⟨u, su, M, R, a, r, h, c⟩ => c.here h (a.set r)
def wGnil : WGs := fun us su M R => us = [] ∧ R su M
def wGcons (t : WG) (r : WGs) : WGs := fun us su M R => ∃ u us', us = u :: us' ∧ t u su M fun su1 M1 => r us' su1 M1 R
theorem jgs_nil : JGs X g [] wGnil := pgs_imp pgs_nil fun vs σ H Q ⟨us, su, M, R, a, r, ⟨e, h⟩, c⟩ => by
  subst e
  exact ⟨r.nil_inv, c.here h a⟩
theorem jgs_cons {es : List Expr} {t : WG} {r : WGs} (h1 : JG X g e t) (h2 : JGs X g es r) (hs : (assignEach (e :: es) X.env).map (·.2) = assign e X.env :: (assignEach es X.env).map (·.2)) : JGs X g (e :: es) (wGcons t r) :=
  pgs_imp (pgs_cons h1 h2 hs) fun vs σ H Q ⟨us, su, M, R, a, r, ⟨u, us', e, h⟩, c⟩ => by
    subst e
    obtain ⟨v, vs', e, r1, r2⟩ := r.uncons
    exact ⟨v, vs', e, u, su, M, _, a, r1, h, fun su1 M1 σ1 H1 q s1 d1 r3 => ⟨us', su1, M1, R, ⟨a.st.trans s1, r3, d1⟩, RepVs.step s1 _ _ r2, q, c.go s1⟩⟩
/-- unpacking a tuple -/
def wGtup (n : Nat) (t : WGs) : WG := fun u su M R => ∃ us, (u = .tup us ∨ u = .pr us) ∧ us.length = n ∧ t us su M R
theorem jg_tup {es : List Expr} {k n : Nat} {t : WGs} (hc : X.calm = true) (h : JGs X g es t) (hn : (assignEach es X.env).length = n) (hst : (assignEach es X.env).findIdx? (·.1) = none) : JG X g (.Tuple es k pos) (wGtup n t) :=
  pg_imp (pg_tup hc h hn hst) fun v σ H Q ⟨u, su, M, R, a, r, ⟨us, e, l, h⟩, c⟩ => by
    rcases e with e | e <;> subst e
    · obtain ⟨p, vs, e, f, r⟩ := rep_tup r
      exact ⟨p, vs, e, f.sq, by rw [← r.length]; exact l, us, su, M, R, a, r, h, c⟩
    · obtain ⟨p, vs, e, f, r⟩ := rep_pr r
      exact ⟨p, vs, e, .inl f.1, by rw [← r.length]; exact l, us, su, M, R, a, r, h, c⟩

/-! ### stores -/
def wAsg (te : WE) (gt : WG) : WS := fun D su M => te su M fun x M1 => gt x su M1 D.nx
theorem js_asg {tg : Expr} {gt : WG} (he : JE X g e te) (hg : JG X g tg gt) (hs : swapsWithSole [tg] e pos.line X.env = pure false) (hw : swappedStores [tg] e X.env = pure none)
    (h1 : (assignEach [tg] X.env).map (·.2) = [assign tg X.env]) : JS X g (.Assign [tg] e pos) (wAsg te gt) :=
  ps_imp (ps_asg he hg hs hw h1) fun D σ H ⟨su, M, R, a, h, c⟩ => ⟨su, M, _, a, h, fun x M1 v H1 q s1 d1 r1 => ⟨x, su, M1, R.nx, a.go s1 d1, r1, q, c.nx.go s1⟩⟩
def wSet (i : Nat) (te : WE) : WS := fun D su M => te su M fun x M1 => D.nx (su.set i (some x)) M1
theorem js_set {i : Nat} {x : Str} {pos' : Pos} (hN : X.N.Nodup) (hi : X.N[i]? = some x) (hx : Loc X.env.scope x) (he : JE X g e te) (hs : swapsWith e (some (.Name x pos')) pos.line X.env = pure false) (hf : X.fn x = true ∨ X.env.scope.names.lookup x = some .local) :
    JS X g (.Assign [.Name x pos'] e pos) (wSet i te) :=
  ps_imp (ps_set hN hi hx he hs hf) fun D σ H ⟨su, M, R, a, h, c⟩ => ⟨su, M, _, a, h, fun x M1 v H1 q s1 d1 r1 => (c.nx.go s1).here q ((a.go s1 d1).set r1)⟩
/-- a, b = x, y: stored from the right, nothing is packed -/
def wPar (i j : Nat) (ta : WA) : WS := fun D su M => ta su M fun us M1 => ∃ x y, us = [x, y] ∧ D.nx ((su.set i (some x)).set j (some y)) M1
theorem js_par {i j : Nat} {x y : Str} {a b : Expr} {ta : WA} {px py pt : Pos} {kt k2 pt2} (hc : X.calm = true) (hN : X.N.Nodup) (hi : X.N[i]? = some x) (hj : X.N[j]? = some y) (hij : i ≠ j)
    (hx : X.env.scope.names.lookup x = some .local) (hy : X.env.scope.names.lookup y = some .local) (ha : JA X g [a, b] ta)
    (hw : swappedStores [.Tuple [.Name x px, .Name y py] kt pt] (.Tuple [a, b] k2 pt2) X.env = pure (some [x, y])) (hs : swapsWithSole [.Tuple [.Name x px, .Name y py] kt pt] (.Tuple [a, b] k2 pt2) pos.line X.env = pure false) :
    JS X g (.Assign [.Tuple [.Name x px, .Name y py] kt pt] (.Tuple [a, b] k2 pt2) pos) (wPar i j ta) :=
  ps_imp (ps_par hc hN hi hj hij hx hy ha hw hs) fun D σ H ⟨su, M, R, a, h, c⟩ => ⟨su, M, _, a, h, fun us M1 vs H1 ⟨x, y, e, q⟩ s1 d1 r1 => by
    subst e
    obtain ⟨v, r, e, k1, k2⟩ := r1.uncons
    obtain ⟨v2, r2, e2, k3, k4⟩ := k2.uncons
    have e3 := k4.nil_inv
    subst e e2 e3
    exact ⟨v, v2, rfl, (c.nx.go s1).here q (((a.go s1 d1).set k1).set k3)⟩⟩
/-- o[i] = v by values -/
abbrev WSet := U → U → U → Mp → (Mp → Prop) → Prop
def liftSet (K : PySem.W.Frag) (t : WSet) : TSet := fun o i v H Q => ∃ uo ui uv M R, RepV K M H uo o ∧ RepV K M H ui i ∧ RepV K M H uv v ∧ RepM K M H ∧ t uo ui uv M R ∧ ∀ M' H', R M' → Stp M H M' H' → RepM K M' H' → Q H'
def USet (X : Cx) (t : WSet) : Prop := PSet X (liftSet X.K t)
def wGsub (to ti : WE) (t : WSet) : WG := fun v su M R => to su M fun o M1 => ti su M1 fun i M2 => t o i v M2 fun M3 => R su M3
theorem jg_sub {o i : Expr} {to ti : WE} {t : WSet} (ho : JE X g o to) (hi : JE X g i ti) (hs : USet X t)
    (ha : ∀ v, assign (.Subscript o i pos) X.env v = (do
      let ov ← holding [v] (eval o X.env)
      let iv ← holding [v, ov] (eval i X.env)
      standAt pos
      holding [v, ov, iv] (setItem ov iv v)
      release [v, ov, iv] [])) : JG X g (.Subscript o i pos) (wGsub to ti t) :=
  pg_imp (pg_sub ho hi hs ha) fun v σ H Q ⟨u, su, M, R, a, r, h, c⟩ => ⟨su, M, _, a, h, fun o M1 vo H1 q1 s1 d1 r1 => ⟨su, M1, _, a.go s1 d1, q1, fun i M2 vi H2 q2 s2 d2 r2 =>
    ⟨o, i, u, M2, _, r1.step s2, r2, (r.step s1).step s2, d2, q2, fun M3 H3 q3 s3 d3 => (((c.go s1).go s2).go s3).here q3 (((a.go s1 d1).go s2 d2).go s3 d3)⟩⟩⟩

/-! ### what a for walks -/
/-- the items, what keeps them, the moment -/
abbrev WI := Sg → Mp → (List U → (Mp → Prop) → Mp → Prop) → Prop
def ItOk (K : PySem.W.Frag) (J : It) (us : List U) (keep : Mp → Prop) (M : Mp) (H : Hp) : Prop :=
  keep M ∧ ∀ i M' H', Stp M H M' H' → RepM K M' H' → keep M' →
    (∀ u, us[i]? = some u → J.go i H' ∧ ∀ x H'', J.yld i H' x H'' → Stp M' H' M' H'' ∧ RepM K M' H'' ∧ RepV K M' H'' u x) ∧ (us.length ≤ i → J.stop i H')
def liftI (K : PySem.W.Frag) (g : Gd) (w : WI) : TI := fun σ H R => ∃ su M Ru, At K g su M σ H ∧ w su M Ru ∧ ∀ us keep M1 H1 J, Ru us keep M1 → Stp M H M1 H1 → RepM K M1 H1 → ItOk K J us keep M1 H1 → R J H1
def JI (X : Cx) (g : Gd) (tg e : Expr) (w : WI) : Prop := PI X tg e (liftI X.K g w)
theorem pi_imp {X : Cx} {tg e : Expr} {t t' : TI} (h : PI X tg e t) (i : ∀ σ H R, t' σ H R → t σ H R) : PI X tg e t' := ⟨fun pins s σ H R I q => h.run pins s σ H R I (i σ H R q)⟩
/-- the body for each item in turn -/
def loopU (keep : Mp → Prop) (gt : WG) (tb : WS) : List U → WS
  | [], D, su, M => D.nx su M
  | u :: r, D, su, M => gt u su M fun su1 M1 => tb { D with nx := fun s m => keep m ∧ loopU keep gt tb r D s m, ct := fun s m => keep m ∧ loopU keep gt tb r D s m, bk := D.nx } su1 M1
def wFor (w : WI) (gt : WG) (tb : WS) : WS := fun D su M => w su M fun us keep M1 => loopU keep gt tb us D su M1
theorem drop_at {α : Type} {l : List α} {i : Nat} {u : α} (h : l[i]? = some u) : l.drop i = u :: l.drop (i + 1) := by
  obtain ⟨h1, h2⟩ := List.getElem?_eq_some_iff.mp h
  rw [List.drop_eq_getElem_cons h1, h2]
theorem js_for {tg iter : Expr} {body : List Stmt} {w : WI} {gt : WG} {tb : WS} (hp : PassesOwn (model X.prog X.w) X.A X.env X.xe) (hc : X.calm = true) (hi : JI X g tg iter w) (hg : JG X g tg gt) (hb : JSs X g body tb)
    (hs : ∀ x, foldedSetIterable iter X.env x = pure x) : JS X g (.For tg iter body [] pos) (wFor w gt tb) :=
  ps_imp (ps_for hp hc hi hg hb hs) fun D σ H ⟨su, M, R, a, h, c⟩ => ⟨su, M, _, a, h, fun us keep M1 H1 J q s1 d1 ok => by
    refine ⟨fun i m σ' H' => m = us.length - i ∧ i ≤ us.length ∧ ∃ su' M', At X.K g su' M' σ' H' ∧ Stp M1 H1 M' H' ∧ keep M' ∧ loopU keep gt tb (us.drop i) R su' M',
      ⟨us.length, by simp, Nat.zero_le _, su, M1, a.go s1 d1, Stp.refl _ _, ok.1, q⟩, ?_⟩
    rintro i m σ2 H2 ⟨rfl, hi, su2, M2, a2, s2, k2, q2⟩
    have o2 := ok.2 i M2 H2 s2 a2.hd k2
    have c2 : ClD X.K M2 H2 R D := (c.go s1).go s2
    cases e : us[i]? with
    | none =>
      have hl : us.length ≤ i := List.getElem?_eq_none_iff.mp e
      rw [List.drop_eq_nil_of_le hl] at q2
      exact .inl ⟨o2.2 hl, c2.nx.here q2 a2⟩
    | some u =>
      have hlt : i < us.length := (List.getElem?_eq_some_iff.mp e).1
      rw [drop_at e] at q2
      obtain ⟨go, yl⟩ := o2.1 u e
      refine .inr ⟨go, fun σ' H' => ∃ su' M', At X.K g su' M' σ' H' ∧ Stp M1 H1 M' H' ∧ keep M' ∧ loopU keep gt tb (us.drop (i + 1)) R su' M', fun σ' H' h' => ⟨us.length - (i + 1), by omega, rfl, hlt, h'⟩, fun x H3 y => ?_⟩
      obtain ⟨s3, d3, r3⟩ := yl x H3 y
      refine ⟨u, su2, M2, _, a2.go s3 d3, r3, q2, fun su4 M4 σ4 H4 q4 s4 d4 r4 => ⟨su4, M4, _, ⟨(a2.st.trans s3).trans s4, r4, d4⟩, q4, ?_⟩⟩
      have s24 := s3.trans s4
      have c4 : ClD X.K M4 H4 R D := c2.go s24
      have nxt : ClS X.K M4 H4 (fun s m => keep m ∧ loopU keep gt tb (us.drop (i + 1)) R s m) (fun σ' H' => ∃ su' M', At X.K g su' M' σ' H' ∧ Stp M1 H1 M' H' ∧ keep M' ∧ loopU keep gt tb (us.drop (i + 1)) R su' M') :=
        fun su5 M5 σ5 H5 ⟨k5, q5⟩ s5 d5 r5 => ⟨su5, M5, ⟨(a2.st.trans s24).trans s5, r5, d5⟩, (s2.trans s24).trans s5, k5, q5⟩
      exact ⟨nxt, c4.rt, c4.nx, nxt⟩⟩

/-! ### while -/
def wWhile (c : WT) (tb : WS) : WS := fun D su M => ∃ W : Nat → Sg → Mp → Prop, (∃ m, W m su M) ∧ ∀ m su M, W m su M → c su M fun b M1 => if b = true then
  tb { D with nx := fun s m' => ∃ n, n < m ∧ W n s m', ct := fun s m' => ∃ n, n < m ∧ W n s m', bk := D.nx } su M1 else D.nx su M1
theorem js_while {c : Expr} {body : List Stmt} {tb : WS} (hp : PassesOwn (model X.prog X.w) X.A X.env X.xe) (hc : JT X g c tc) (hb : JSs X g body tb) : JS X g (.While c body [] pos) (wWhile tc tb) :=
  ps_imp (ps_while hp hc hb) fun D σ H ⟨su, M, R, a, ⟨W, ⟨m0, w0⟩, h⟩, c⟩ => by
    refine ⟨fun m σ' H' => ∃ su' M', At X.K g su' M' σ' H' ∧ Stp M H M' H' ∧ W m su' M', ⟨m0, su, M, a, Stp.refl _ _, w0⟩, ?_⟩
    rintro m σ1 H1 ⟨su1, M1, a1, s1, w1⟩
    refine ⟨su1, M1, _, a1, h m su1 M1 w1, fun b M2 H2 q s2 d2 => ?_⟩
    have c2 : ClD X.K M2 H2 R D := (c.go s1).go s2
    have a2 := a1.go s2 d2
    cases b with
    | true =>
      rw [if_pos rfl] at q
      show if true = true then _ else _
      rw [if_pos rfl]
      have nxt : ClS X.K M2 H2 (fun s m' => ∃ n, n < m ∧ W n s m') (fun σ' H' => ∃ n, n < m ∧ ∃ su' M', At X.K g su' M' σ' H' ∧ Stp M H M' H' ∧ W n su' M') :=
        fun su5 M5 σ5 H5 ⟨n, hn, w5⟩ s5 d5 r5 => ⟨n, hn, su5, M5, ⟨a2.st.trans s5, r5, d5⟩, (s1.trans s2).trans s5, w5⟩
      exact ⟨_, fun σ' H' h' => h', su1, M2, _, a2, q, ⟨nxt, c2.rt, c2.nx, nxt⟩⟩
    | false =>
      rw [if_neg Bool.false_ne_true] at q
      show if false = true then _ else _
      rw [if_neg Bool.false_ne_true]
      exact c2.nx.here q a2

/-! ### list comprehensions -/
def wipeU (su : Sg) : List Nat → Sg
  | [] => su
  | v :: vs => (wipeU su vs).set v none
theorem RepS.wipe {K : PySem.W.Frag} {M : Mp} {H : Hp} {su : Sg} {σ : Stt} (r : RepS K M H su σ) : ∀ vs, RepS K M H (wipeU su vs) (wipe σ vs)
  | [] => r
  | v :: vs => by
    have q := RepS.wipe r vs
    unfold wipeU L2.wipe
    refine ⟨by rw [List.length_set, List.length_set]; exact q.1, fun i u e => ?_⟩
    by_cases hi : v = i
    · subst hi
      by_cases hl : v < (wipeU su vs).length
      · rw [List.getElem?_set_self hl] at e; cases e
      · rw [List.getElem?_eq_none (by rw [List.length_set]; omega)] at e; cases e
    · rw [List.getElem?_set_ne hi] at e ⊢
      exact q.2 i u e
def liftTs (K : PySem.W.Frag) (g : Gd) (t : WT) : TT := liftT K g t
def JTs (X : Cx) (g : Gd) (es : List Expr) (t : WT) : Prop := PTs X es (liftT X.K g t)
def wYes : WT := fun _ M R => R true M
theorem jts_nil : JTs X g [] wYes := ⟨fun pins s σ H Q I ⟨su, M, R, a, h, c⟩ => pts_nil.run pins s σ H Q I (c.here h a.hd)⟩
theorem jts_one {c : Expr} (h : JT X g c tc) : JTs X g [c] tc := pts_one h
/-- the list at D so far, item by item; su1: the slots with the block's names wiped -/
def compU (D : Addr) (keep : Mp → Prop) (gt : WG) (tc : WT) (te : WE) (su1 : Sg) : List U → Mp → (List U → Mp → Prop) → Prop
  | [], M, R => ∃ acc, M D = some (.lst acc) ∧ R acc M
  | u :: r, M, R => gt u su1 M fun su2 M1 => tc su2 M1 fun k M2 => if k = true then te su2 M2 fun y M3 => ∃ acc, M3 D = some (.lst acc) ∧ acc.length < sizeLine ∧ keep (put M3 D (.lst (acc ++ [y]))) ∧
      compU D keep gt tc te su1 r (put M3 D (.lst (acc ++ [y]))) R
    else keep M2 ∧ compU D keep gt tc te su1 r M2 R
/-- the end: a frozen list, or (h) a handle -/
def compEnd (h : Bool) (R : UK) (D : Addr) (ys : List U) (M : Mp) : Prop := if h = true then R (.ref D) M else R (.lst ys) (del M D)
def wComp (hd : Bool) (w : WI) (gt : WG) (tc : WT) (te : WE) (vs : List Nat) : WE := fun su M R => w su M fun us keep M1 => ∀ D, M1 D = none → keep (put M1 D (.lst [])) ∧
  compU D keep gt tc te (wipeU su vs) us (put M1 D (.lst [])) (compEnd hd R D)
/-- targets that touch the block's own names alone -/
def liftGo (K : PySem.W.Frag) (g : Gd) (vs : List Nat) (t : WG) : TG := fun v σ H Q => ∃ u su M R, At K g su M σ H ∧ RepV K M H u v ∧ t u su M R ∧
  ∀ su' M' σ' H', R su' M' → Stp M H M' H' → RepM K M' H' → RepS K M' H' su' σ' → wipe σ' vs = wipe σ vs → Q σ' H'
def liftGso (K : PySem.W.Frag) (g : Gd) (vs : List Nat) (t : WGs) : TGs := fun ws σ H Q => ∃ us su M R, At K g su M σ H ∧ RepVs K M H us ws ∧ t us su M R ∧
  ∀ su' M' σ' H', R su' M' → Stp M H M' H' → RepM K M' H' → RepS K M' H' su' σ' → wipe σ' vs = wipe σ vs → Q σ' H'
def JGo (X : Cx) (g : Gd) (vs : List Nat) (e : Expr) (t : WG) : Prop := PG X e (liftGo X.K g vs t)
def JGso (X : Cx) (g : Gd) (vs : List Nat) (es : List Expr) (t : WGs) : Prop := PGs X es (liftGso X.K g vs t)
theorem wipe_set {σ : Stt} {i : Nat} {x : Option V} : ∀ {vs : List Nat}, i ∈ vs → wipe (σ.set i x) vs = wipe σ vs
  | v :: vs, h => by
    unfold L2.wipe
    by_cases hv : i ∈ vs
    · rw [wipe_set hv]
    · have e : i = v := by
        rcases List.mem_cons.mp h with e | e
        · exact e
        · exact absurd e hv
      subst e
      have key : ∀ (ws : List Nat), i ∉ ws → wipe (σ.set i x) ws = (wipe σ ws).set i x := by
        intro ws
        induction ws with
        | nil => intro _; rfl
        | cons b ws ih =>
          intro hn
          unfold L2.wipe
          rw [ih (fun z => hn (List.mem_cons_of_mem _ z)), List.set_comm _ _ (fun z => hn (by rw [z]; exact List.mem_cons_self))]
      rw [key vs hv, List.set_set]
theorem wipe_idem {σ : Stt} {vs : List Nat} : wipe (wipe σ vs) vs = wipe σ vs := by
  have key : ∀ (ws us : List Nat) (σ : Stt), (∀ i ∈ ws, i ∈ us) → wipe (wipe σ ws) us = wipe σ us := by
    intro ws
    induction ws with
    | nil => intro us σ _; rfl
    | cons b ws ih =>
      intro us σ h
      show wipe ((wipe σ ws).set b none) us = _
      rw [wipe_set (h b List.mem_cons_self), ih us σ fun i hi => h i (List.mem_cons_of_mem _ hi)]
  exact key vs vs σ fun _ h => h
theorem jgo_name {i : Nat} {x : Str} {vs : List Nat} (hN : X.N.Nodup) (hi : X.N[i]? = some x) (hx : Loc X.env.scope x) (hf : X.fn x = true ∨ X.env.scope.names.lookup x = some .local) (hv : i ∈ vs) : JGo X g vs (.Name x pos) (wName i) :=
  pg_imp (pg_name hN hi hx hf) fun v σ H Q ⟨u, su, M, R, a, r, h, c⟩ => c _ _ _ _ h (Stp.refl _ _) a.hd (a.set r).sl (wipe_set hv)
theorem jgso_nil {vs : List Nat} : JGso X g vs [] wGnil := pgs_imp pgs_nil fun ws σ H Q ⟨us, su, M, R, a, r, ⟨e, h⟩, c⟩ => by
  subst e
  exact ⟨r.nil_inv, c _ _ _ _ h (Stp.refl _ _) a.hd a.sl rfl⟩
theorem jgso_cons {vs : List Nat} {es : List Expr} {t : WG} {r : WGs} (h1 : JGo X g vs e t) (h2 : JGso X g vs es r) (hs : (assignEach (e :: es) X.env).map (·.2) = assign e X.env :: (assignEach es X.env).map (·.2)) : JGso X g vs (e :: es) (wGcons t r) :=
  pgs_imp (pgs_cons h1 h2 hs) fun ws σ H Q ⟨us, su, M, R, a, r, ⟨u, us', e, h⟩, c⟩ => by
    subst e
    obtain ⟨v, vs', e, r1, r2⟩ := r.uncons
    exact ⟨v, vs', e, u, su, M, _, a, r1, h, fun su1 M1 σ1 H1 q s1 d1 r3 w1 => ⟨us', su1, M1, R, ⟨a.st.trans s1, r3, d1⟩, RepVs.step s1 _ _ r2, q, fun su2 M2 σ2 H2 q2 s2 d2 r4 w2 => c _ _ _ _ q2 (s1.trans s2) d2 r4 (w2.trans w1)⟩⟩
theorem jgo_tup {vs : List Nat} {es : List Expr} {k n : Nat} {t : WGs} (hc : X.calm = true) (h : JGso X g vs es t) (hn : (assignEach es X.env).length = n) (hst : (assignEach es X.env).findIdx? (·.1) = none) : JGo X g vs (.Tuple es k pos) (wGtup n t) :=
  pg_imp (pg_tup hc h hn hst) fun v σ H Q ⟨u, su, M, R, a, r, ⟨us, e, l, h⟩, c⟩ => by
    rcases e with e | e <;> subst e
    · obtain ⟨p, vs, e, f, r⟩ := rep_tup r
      exact ⟨p, vs, e, f.sq, by rw [← r.length]; exact l, us, su, M, R, a, r, h, c⟩
    · obtain ⟨p, vs, e, f, r⟩ := rep_pr r
      exact ⟨p, vs, e, .inl f.1, by rw [← r.length]; exact l, us, su, M, R, a, r, h, c⟩

theorem Stp.chgD {M M' : Mp} {H H' : Hp} {D : Addr} {o : HO} {m : MO} (st : Stp M H M' H') (h : H D = none) : Stp M H (put M' D m) (upd H' D o) := fun a u h1 h2 => by
  have : a ≠ D := fun e => by rw [e, h] at h1; cases h1
  exact ⟨by rw [upd_ne this]; exact (st a u h1 h2).1, by rw [put_ne this]; exact (st a u h1 h2).2⟩
theorem compI {hh : Bool} {σ : Stt} {H : Hp} {Q : VK} {w : WI} {gt : WG} {vs : List Nat} (h : liftE X.K g (wComp hh w gt tc te vs) σ H Q) : tLc (liftI X.K g w) (liftGo X.K g vs gt) (liftT X.K g tc) (liftE X.K g te) vs σ H Q := by
  obtain ⟨su, M, R, a, h, c⟩ := h
  refine ⟨su, M, _, a, h, fun us keep M1 H1 J q s1 d1 ok D hD => ?_⟩
  have a1 := a.go s1 d1
  obtain ⟨kp, q⟩ := q D (d1.free hD)
  have sD : Stp M1 H1 (put M1 D (.lst [])) (upd H1 D (.lst [])) := Stp.newH hD
  have dD : RepM X.K (put M1 D (.lst [])) (upd H1 D (.lst [])) := d1.putL sD .nil
  refine ⟨fun i m H' => m = us.length - i ∧ i ≤ us.length ∧ ∃ M', Stp M1 H1 M' H' ∧ RepM X.K M' H' ∧ keep M' ∧ compU D keep gt tc te (wipeU su vs) (us.drop i) M' (compEnd hh R D),
    ⟨us.length, by simp, Nat.zero_le _, _, sD, dD, kp, q⟩, ?_⟩
  rintro i m H2 ⟨rfl, hi, M2, s2, d2, k2, q2⟩
  have o2 := ok.2 i M2 H2 s2 d2 k2
  cases e : us[i]? with
  | none =>
    have hl : us.length ≤ i := List.getElem?_eq_none_iff.mp e
    rw [List.drop_eq_nil_of_le hl] at q2
    obtain ⟨acc, hm, q2⟩ := q2
    refine .inl ⟨o2.2 hl, ?_⟩
    obtain ⟨ws, hH, rw⟩ := d2 D _ hm
    have s3 : Stp M2 H2 (del M2 D) H2 := Fewer.ofDel.stp H2
    unfold compEnd at q2
    cases hh with
    | true =>
      rw [if_pos rfl] at q2
      exact c _ _ _ _ q2 (s1.trans s2) d2 mk_ref
    | false =>
    rw [if_neg Bool.false_ne_true] at q2
    exact c _ _ _ _ q2 ((s1.trans s2).trans s3) (Fewer.ofDel.repM d2) (mk_lst (.inl ⟨.inl hH, del_same⟩) (RepVs.step s3 _ _ rw))
  | some u =>
    have hlt : i < us.length := (List.getElem?_eq_some_iff.mp e).1
    rw [drop_at e] at q2
    obtain ⟨go, yl⟩ := o2.1 u e
    refine .inr ⟨go, fun H' => ∃ M', Stp M1 H1 M' H' ∧ RepM X.K M' H' ∧ keep M' ∧ compU D keep gt tc te (wipeU su vs) (us.drop (i + 1)) M' (compEnd hh R D),
      fun H' h' => ⟨us.length - (i + 1), by omega, rfl, hlt, h'⟩, fun x H3 y => ?_⟩
    obtain ⟨s3, d3, r3⟩ := yl x H3 y
    have a3 : At X.K g (wipeU su vs) M2 (wipe σ vs) H3 := ⟨a1.st.trans (s2.trans s3), (a1.sl.step (s2.trans s3)).wipe vs, d3⟩
    refine ⟨u, _, M2, _, a3, r3, q2, fun su4 M4 σ4 H4 q4 s4 d4 r4 w4 => ⟨by rw [w4]; exact wipe_idem, su4, M4, _, ⟨a3.st.trans s4, r4, d4⟩, q4, fun k M5 H5 q5 s5 d5 => ?_⟩⟩
    have a4 : At X.K g su4 M5 σ4 H5 := ⟨(a3.st.trans s4).trans s5, r4.step s5, d5⟩
    have s15 : Stp M1 H1 M5 H5 := (((s2.trans s3)).trans s4).trans s5
    cases k with
    | true =>
      rw [if_pos rfl] at q5
      show if true = true then _ else _
      rw [if_pos rfl]
      refine ⟨su4, M5, _, a4, q5, fun y M6 v6 H6 ⟨acc, hm, hz, k6, q6⟩ s6 d6 r6 => ?_⟩
      obtain ⟨ws, hH, rw⟩ := d6 D _ hm
      have s7 : Stp M6 H6 (put M6 D (.lst (acc ++ [y]))) (upd H6 D (.lst (ws ++ [v6]))) := Stp.chg hm
      exact ⟨ws, hH, by rw [← rw.length]; exact hz, _, (s15.trans s6).chgD hD, d6.putL s7 (rw.app (.cons r6 .nil)), k6, q6⟩
    | false =>
      rw [if_neg Bool.false_ne_true] at q5
      show if false = true then _ else _
      rw [if_neg Bool.false_ne_true]
      exact ⟨M5, s15, d5, q5.1, q5.2⟩
end
end Pu

/-! Pu, part 4: promises, calls, exceptions. -/
namespace Pu
open PySem PySem.Spec PyProof.Rows L2

/-! ### the end of a def: handles may be forgotten, a list that is handed out frozen -/
inductive Frz (M : Mp) : U → Mp → U → Prop where
  | same {u : U} {M' : Mp} : Fewer M' M → Frz M u M' u
  | lst {a : Addr} {us : List U} {M' : Mp} : Fewer M' M → M a = some (.lst us) → M' a = none → Frz M (.ref a) M' (.lst us)
  | dct {a : Addr} {ks : List Key} {us : List U} {M' : Mp} : Fewer M' M → M a = some (.dct ks us) → M' a = none → Frz M (.ref a) M' (.dct ks us)
def Fin (R : UK) (u : U) (M : Mp) : Prop := ∃ u' M', Frz M u M' u' ∧ R u' M'
theorem Fin.same {R : UK} {u : U} {M : Mp} (h : R u M) : Fin R u M := ⟨u, M, .same (.refl M), h⟩
theorem Fin.less {R : UK} {u : U} {M M' : Mp} (s : Fewer M' M) (h : R u M') : Fin R u M := ⟨u, M', .same s, h⟩
theorem Fin.lst {R : UK} {a : Addr} {us : List U} {M M' : Mp} (s : Fewer M' M) (h1 : M a = some (.lst us)) (h2 : M' a = none) (h : R (.lst us) M') : Fin R (.ref a) M := ⟨_, M', .lst s h1 h2, h⟩
theorem Fin.dct {R : UK} {a : Addr} {ks : List Key} {us : List U} {M M' : Mp} (s : Fewer M' M) (h1 : M a = some (.dct ks us)) (h2 : M' a = none) (h : R (.dct ks us) M') : Fin R (.ref a) M := ⟨_, M', .dct s h1 h2, h⟩
section
variable {K : PySem.W.Frag} {M M' : Mp} {H H' : Hp} {R : UK} {Q : VK}
theorem Frz.rep {u u' : U} (f : Frz M u M' u') (hd : RepM K M H) {v : V} (r : RepV K M H u v) : Stp M H M' H ∧ RepM K M' H ∧ RepV K M' H u' v := by
  cases f with
  | same s => exact ⟨s.stp H, s.repM hd, r.step (s.stp H)⟩
  | lst s h1 h2 =>
    obtain ⟨vs, hH, q⟩ := hd _ _ h1
    rw [rep_ref r]
    exact ⟨s.stp H, s.repM hd, mk_lst (.inl ⟨.inl hH, h2⟩) (RepVs.step (s.stp H) _ _ q)⟩
  | dct s h1 h2 =>
    obtain ⟨vs, hH, l, q⟩ := hd _ _ h1
    rw [rep_ref r]
    refine ⟨s.stp H, s.repM hd, ?_⟩
    unfold RepV
    exact ⟨_, vs, rfl, hH, h2, l, RepVs.step (s.stp H) _ _ q⟩
theorem Cl.fin (c : Cl K M H R Q) : Cl K M H (Fin R) Q := fun u M1 v H1 ⟨u', M', f, h⟩ s1 d1 r1 => by
  obtain ⟨s2, d2, r2⟩ := f.rep d1 r1
  exact c _ _ _ _ h (s1.trans s2) d2 r2
end

/-! ### exceptions -/
def RepX (K : PySem.W.Frag) (mg : Str → Option Value) (M : Mp) (H : Hp) (ux : UX) (cls : Value) (d : Option Addr) : Prop :=
  mg ux.cls = some cls ∧ (ux.fs = [] ∨ ∃ dd fs, d = some dd ∧ H dd = some (.xd fs) ∧ M dd = none ∧ ∀ f u, ux.fs.lookup f = some u → ∃ v, fs.lookup f = some v ∧ RepV K M H u v)
theorem RepX.step {K : PySem.W.Frag} {mg : Str → Option Value} {M M' : Mp} {H H' : Hp} {ux : UX} {cls : Value} {d : Option Addr} (st : Stp M H M' H') (r : RepX K mg M H ux cls d) : RepX K mg M' H' ux cls d := by
  refine ⟨r.1, ?_⟩
  rcases r.2 with h | ⟨dd, fs, e, h, m, q⟩
  · exact .inl h
  · exact .inr ⟨dd, fs, e, (st _ _ h m).1, (st _ _ h m).2, fun f u z => by
      obtain ⟨v, h1, h2⟩ := q f u z
      exact ⟨v, h1, h2.step st⟩⟩
def ClX (K : PySem.W.Frag) (mg : Str → Option Value) (M : Mp) (H : Hp) (Ru : UXK) (E : XK) : Prop := ∀ ux M' cls d H', Ru ux M' → Stp M H M' H' → RepM K M' H' → RepX K mg M' H' ux cls d → E cls d H'
/-- what is wanted of an exception, with the slots -/
abbrev UWX := UX → Sg → Mp → Prop
def Wof (X : Cx) (g : Gd) (ex : UWX) : WX := fun cls d σ H => ∃ ux su M, At X.K g su M σ H ∧ RepX X.K X.mg M H ux cls d ∧ ex ux su M
theorem takes_no {X : Cx} {g : Gd} : Takes X (Wof X g fun _ _ _ => False) := fun _ _ x => by
  obtain ⟨_, _, _, _, _, _, _, _, _, _, _, _, _, _, _, _, _, _, _, _, _, z⟩ := x
  exact z.elim

/-! ### promises, calls -/
def liftSp (K : PySem.W.Frag) (mg : Str → Option Value) (sp : USp) : Sp := fun vs H Q E => ∃ us M R Ru, RepVs K M H us vs ∧ RepM K M H ∧ sp us M R Ru ∧ Cl K M H R Q ∧ ClX K mg M H Ru E
/-- a def of the text that keeps a promise -/
structure FnU (X : Cx) (k : Nat) (x : Str) (sp : USp) : Prop where
  ex : ∃ (f : Addr) (fd : FuncData) (ps : List Str), FnOk X.prog X.w X.K X.mg X.base (L2.CX X.prog X.w) k f fd ps (liftSp X.K X.mg sp) ∧ X.mg x = some (.ref f) ∧ PySem.W.keepIn X.K (.ref f) = true ∧ Binds X.K fd ps []
section
variable {X : Cx} {g : Gd} {ex : UWX} {e : Expr} {es : List Expr} {pos p : Pos} {tr : WA} {sp : USp} {k : Nat} {x : Str}
def wCall (sp : USp) (ex : UWX) (tr : WA) : WE := fun su M R => tr su M fun us M1 => sp us M1 R fun ux M2 => ex ux su M2
theorem j_call (F : FnU X k x sp) (hr : Room k X.A) (hg : Gl X x) (tk : Takes X (Wof X g ex)) (ha : JA X g (e :: es) tr) (hdb : (x == ("__debug__" : Str)) = false)
    (he : starEach (e :: es) X.env = (false, eval e X.env) :: starEach es X.env) (hpl : (backTo pos (starEach es X.env)).any (·.1) = false) : JE X g (.Call (.Name x p) (e :: es) [] pos) (wCall sp ex tr) := by
  obtain ⟨f, fd, ps, F, hm, hk, hb⟩ := F.ex
  refine pe_imp (pe_callS F hr hg hm hk hb (fun σ => passAt tk σ) ha hdb he hpl) fun σ H Q ⟨su, M, R, a, h, c⟩ => ?_
  refine ⟨su, M, _, a, h, fun us M1 vs H1 q s1 d1 r1 => ⟨us, M1, R, _, r1, d1, q, c.go s1, fun ux M2 cls d H2 q2 s2 d2 r2 => ⟨ux, su, M2, (a.go s1 d1).go s2 d2, r2, q2⟩⟩⟩
end

/-! ### a def, by its body -/
section
variable {P : Program} {w : World} {K : PySem.W.Frag} {mg : Str → Option Value} {base : Heap}
/-- the context of a def's body, as the walk sees it -/
structure DefX (P : Program) (w : World) (K : PySem.W.Frag) (mg : Str → Option Value) (base : Heap) (k : Nat) (N : List Str) (sc : Scope) (X : Cx) : Prop where
  prog : X.prog = P
  wd : X.w = w
  K : X.K = K
  mg : X.mg = mg
  base : X.base = base
  N : X.N = N
  sc : X.env.scope = sc
  calm : X.calm = true
  fn : ∀ x, X.fn x = true
  room : Room k X.A
  stk : X.stack = X.env :: X.outer
  fr : X.env.frame = some X.env.locals
  pass : PassesOwn (model X.prog X.w) X.A X.env X.xe
theorem fn_okU {x qual : Str} {st : Stmt} {f : Addr} {fd : FuncData} {N ps : List Str} {k : Nat} {sp : USp} (F : Fun K x qual st f fd) (S : FnScope N ps (defScope st)) (len : ∀ us M R E, sp us M R E → us.length = ps.length) (t : UXK → WS)
    (hb : ∀ X g E, DefX P w K mg base k N (defScope st) X → Takes X (Wof X g fun ux _ M => E ux M) → JSs X g (defBody st) (t E))
    (h : ∀ us M R E, sp us M R E → t E { nx := fun _ M' => Fin R .non M', rt := Fin R } (us.map some ++ List.replicate (N.length - us.length) none) M) : FnOk P w K mg base (L2.CX P w) (k + 1) f fd ps (liftSp K mg sp) := by
  refine F.okX S (fun vs H Q E ⟨us, M, R, Ru, r, _, q, _, _⟩ => by rw [← r.length]; exact len _ _ _ _ q) fun cdv A outer s H vs Q E hr ⟨us, M, R, Ru, r, d, q, c, cx⟩ => ?_
  have hs : (cxOf (L2.CX P w) P w K mg base N qual (defScope st) f cdv A outer s H E).stack = (cxOf (L2.CX P w) P w K mg base N qual (defScope st) f cdv A outer s H E).env :: (cxOf (L2.CX P w) P w K mg base N qual (defScope st) f cdv A outer s H E).outer := rfl
  refine ⟨liftS K ⟨M, H⟩ (t Ru), hb (cxOf (L2.CX P w) P w K mg base N qual (defScope st) f cdv A outer s H E) ⟨M, H⟩ Ru ⟨rfl, rfl, rfl, rfl, rfl, rfl, rfl, rfl, fun _ => rfl, hr, rfl, rfl, passes_of (X := cxOf (L2.CX P w) P w K mg base N qual (defScope st) f cdv A outer s H E) rfl⟩ ?_, ?_⟩
  · have tk : Takes (cxOf (L2.CX P w) P w K mg base N qual (defScope st) f cdv A outer s H E) (fun cls d _ H => E cls d H) := takes_of rfl rfl rfl rfl
    exact tk.imp fun cls d' σ H' ⟨ux, su, M', a, rx, e⟩ => cx ux M' cls d' H' e a.st a.hd rx
  · refine ⟨_, M, _, ⟨Stp.refl _ _, RepS.start r N.length, d⟩, h us M R Ru q, ⟨fun su M' σ H' q s1 d1 _ => ?_, c.fin, fun _ _ _ _ z => z.elim, fun _ _ _ _ z => z.elim⟩⟩
    exact c.fin _ _ _ _ q s1 d1 mk_non
end

/-! ### raise, try -/
section
variable {X : Cx} {g : Gd} {ex : UWX} {pos : Pos}
/-- an own exception class without own __init__ -/
structure ExC (X : Cx) (x : Str) : Prop where
  ex : ∃ (C : Addr) (bmB : List Value) (B newId initId : String), ExcBaseFacts B newId initId bmB ∧ PySem.W.excIn X.K C bmB newId = true ∧ X.mg x = some (.ref C) ∧ PySem.W.keepIn X.K (.ref C) = true ∧ Raises X (.ref C)
def wRaise (x : Str) (ex : UWX) : WS := fun _ su M => ex ⟨x, []⟩ su M
theorem js_raise {x m : Str} {j : Nat} {p p2 pos' : Pos} (F : ExC X x) (hc : X.calm = true) (hg : Gl X x) (tk : Takes X (Wof X g ex)) (hdb : (x == ("__debug__" : Str)) = false) :
    JS X g (.Raise (some (.Call (.Name x p) [.Constant (.str m) j p2] [] pos)) none pos') (wRaise x ex) := by
  obtain ⟨C, bmB, B, nI, iI, F, q, gC, kC, r⟩ := F.ex
  exact ps_imp (ps_raise hc tk (pmk_own F q gC kC r hg hdb)) fun D σ H ⟨su, M, R, a, h, c⟩ => ⟨⟨x, []⟩, su, M, a, ⟨gC, .inl rfl⟩, h⟩
/-- try: body, except c: suite; sub: which classes c catches -/
def wTry (sub : Str → Option Bool) (tb : UWX → WS) (ts : WS) (ex : UWX) : WS := fun D su M => tb (fun ux su1 M1 => match sub ux.cls with
  | some true => ts D su1 M1
  | some false => ex ux su1 M1
  | none => False) D su M
theorem js_try {x : Str} {c : Value} {body suite : List Stmt} {b₀ : Stmt} {np pos' : Pos} {sub : Str → Option Bool} {tb : UWX → WS} {ts : WS} (hs : X.stack = X.env :: X.outer) (hf : X.env.frame = some X.env.locals) (hc : Names X x c) (tk : Takes X (Wof X g ex))
    (hsub : ∀ n b C, sub n = some b → X.mg n = some C → PySem.W.exmOne X.K C c = some b)
    (hb : ∀ (g' : Gd) (ex' : UWX) (pn : List (Addr × Obj)) (xe : Value → Shared → Prop), Takes (X.tr pn xe) (Wof (X.tr pn xe) g' ex') → PassesOwn (model X.prog X.w) X.A X.env xe → JSs (X.tr pn xe) g' body (tb ex'))
    (hsu : ∀ (a : Addr) (oe : Obj) (pn : List (Addr × Obj)), JSs (X.suite a ((a, oe) :: pn)) g (b₀ :: suite) ts) :
    JS X g (.Try body [.ExceptHandler (some (.Name x np)) none (b₀ :: suite) pos'] [] [] pos) (wTry sub tb ts ex) := by
  refine ps_imp (ps_try_only (ts := fun _ _ _ => liftS X.K g ts) (Wout := Wof X g ex) (tb := fun W D σ H => ∃ (g' : Gd) (ex' : UWX), (∀ ux su M cls d σ H, At X.K g' su M σ H → RepX X.K X.mg M H ux cls d → ex' ux su M → W cls d σ H) ∧ liftS X.K g' (tb ex') D σ H) hs hf hc tk ?_ ?_) fun D σ H ⟨su, M, R, a, h, c⟩ => ?_
  · intro W pn xe tk' hp
    refine ⟨fun pins s σ H D I ⟨g', ex', hW, h⟩ => ?_⟩
    exact (hb g' ex' pn xe (tk'.imp fun cls d σ H ⟨ux, su, M, a, r, e⟩ => hW ux su M cls d σ H a r e) hp).run pins s σ H D I h
  · exact fun a oe cls d pn _ _ => hsu a oe pn
  · refine ⟨⟨M, H⟩, _, fun ux su1 M1 cls d σ1 H1 a1 r1 e1 => ?_, su, M, R, ⟨Stp.refl _ _, a.sl, a.hd⟩, h, c⟩
    have a2 : At X.K g su1 M1 σ1 H1 := ⟨a.st.trans a1.st, a1.sl, a1.hd⟩
    cases q : sub ux.cls with
    | none => simp only [q] at e1
    | some b =>
      refine ⟨b, hsub _ _ _ q r1.1, fun hb1 => ?_, fun hb1 => ?_⟩
      · subst hb1
        simp only [q] at e1
        exact fun _ _ => ⟨su1, M1, R, a2, e1, c.go a1.st⟩
      · subst hb1
        simp only [q] at e1
        exact ⟨ux, su1, M1, a2, r1, e1⟩
end
end Pu

/-! Pu, part 5: order of data. -/
namespace Pu
open PySem PySem.Spec PyProof.Rows L2 PySem.SeqAt

mutual
/-- x < y of data, as Python answers; none where it raises -/
def ltD : PyData → PyData → Option Bool
  | .int i, .int j => some (decide (i < j))
  | .str x, .str y => some (decide (x.cps.toList < y.cps.toList))
  | .tuple xs, .tuple ys => ltDs xs ys
  | _, _ => none
def ltDs : List PyData → List PyData → Option Bool
  | x :: xs, y :: ys => if PyData.eqv x y = true then ltDs xs ys else ltD x y
  | [], [] => some false
  | [], _ :: _ => some true
  | _ :: _, [] => some false
end
theorem range_succ' (n : Nat) : List.range (n + 1) = 0 :: (List.range n).map (· + 1) := List.range_succ_eq_map
theorem firstLt_shift (e r : Nat → Bool) (fin : Bool) : ∀ l : List Nat, firstLt e r fin (l.map (· + 1)) = firstLt (fun j => e (j + 1)) (fun j => r (j + 1)) fin l
  | [] => rfl
  | j :: t => by
    rw [List.map_cons]
    unfold firstLt
    rw [firstLt_shift e r fin t]
theorem ltDs_first : ∀ (xs ys : List PyData) (k : Bool), ltDs xs ys = some k →
    firstLt (fun j => PyData.eqv (xs.getD j .none) (ys.getD j .none)) (fun j => (ltD (xs.getD j .none) (ys.getD j .none)).getD false) (decide (xs.length < ys.length)) (List.range (min xs.length ys.length)) = k
  | [], [], k, h => by unfold ltDs at h; cases h; rfl
  | [], y :: ys, k, h => by unfold ltDs at h; cases h; rfl
  | x :: xs, [], k, h => by unfold ltDs at h; cases h; rfl
  | x :: xs, y :: ys, k, h => by
    unfold ltDs at h
    have e1 : min (x :: xs).length (y :: ys).length = min xs.length ys.length + 1 := by simp only [List.length_cons]; omega
    rw [e1, range_succ']
    have e2 : decide ((x :: xs).length < (y :: ys).length) = decide (xs.length < ys.length) := by
      simp only [List.length_cons, Nat.add_lt_add_iff_right]
    rw [e2]
    by_cases q : PyData.eqv x y = true
    · rw [if_pos q] at h
      rw [firstLt_yes (by simpa using q), firstLt_shift]
      simpa using ltDs_first xs ys k h
    · rw [if_neg q] at h
      have q' : PyData.eqv x y = false := by simpa using q
      rw [firstLt_no (by simpa using q')]
      simp [h]
/-- at the first place that parts, the items' order is told -/
theorem ltDs_at : ∀ (xs ys : List PyData) (k : Bool), ltDs xs ys = some k → ∀ j, (∀ i, i < j → PyData.eqv (xs.getD i .none) (ys.getD i .none) = true) → j < xs.length → j < ys.length →
    PyData.eqv (xs.getD j .none) (ys.getD j .none) = false → ∃ b, ltD (xs.getD j .none) (ys.getD j .none) = some b
  | [], _, _, _, j, _, h1, _, _ => absurd h1 (by simp)
  | _ :: _, [], _, _, j, _, _, h2, _ => absurd h2 (by simp)
  | x :: xs, y :: ys, k, h, j, hb, h1, h2, hn => by
    unfold ltDs at h
    cases j with
    | zero =>
      have hn' : PyData.eqv x y = false := by simpa using hn
      rw [if_neg (by rw [hn']; exact Bool.false_ne_true)] at h
      exact ⟨k, by simpa using h⟩
    | succ j =>
      have h0 := hb 0 (Nat.succ_pos j)
      have h0' : PyData.eqv x y = true := by simpa using h0
      rw [if_pos h0'] at h
      have := ltDs_at xs ys k h j (fun i hi => by simpa using hb (i + 1) (Nat.succ_lt_succ hi)) (by simpa using h1) (by simpa using h2) (by simpa using hn)
      simpa using this

section tupleLess
open AutoSeq1 (wpAny_loadPart')
open MeetsSeq MeetsSeq2 MeetsSeq3 SeqRoads2


/-- what decides y < x of two rows: f the first place whose items part (or the lesser length), k the answer -/
structure Decides (A : Around) (s : Shared) (ys xs : Array Value) (f : Nat) (k : Bool) : Prop where
  le : f ≤ min ys.size xs.size
  before : ∀ j (h1 : j < ys.size) (h2 : j < xs.size), j < f → EqAt A.in1 s ys[j] xs[j] true
  here : ∀ (h1 : f < ys.size) (h2 : f < xs.size), EqAt A.in1 s ys[f] xs[f] false ∧ RcLt A.in1 s ys[f] xs[f] k
  over : f = min ys.size xs.size → k = decide (ys.size < xs.size)

theorem tup_less (l b : Addr) (ys xs : Array Value) (n m : Nat) (d1 d2 : Option Addr) (t1 t2 : Array (Option Value)) (f : Nat) (k : Bool) :
    Meets (Builtin.«tuple.__lt__» ⟨[.ref l, .ref b], []⟩) (fun A R s => s.heap.get? l = some ⟨.type "tuple", d1, .seq ys n, t1⟩ ∧ s.heap.get? b = some ⟨.type "tuple", d2, .seq xs m, t2⟩ ∧ Decides A s ys xs f k ∧ R (.ok (.ret (.bool k))) s) :=
  .of_wp fun prog w A R s h => by
    obtain ⟨hp, gn, dr, tk, os⟩ := s
    obtain ⟨hl, hb, D, hR⟩ := h
    have ftt := AutoSeq1.sub_tuple_tuple
    have hZ : (ys.toList.zip xs.toList).length = min ys.size xs.size := by simp
    wp_walk using wpAny_loadPart' hl, wpAny_loadPart' hb, wpAny_forIn_list _ (fun rest acc s' => acc.1 = none ∧ s' = ⟨hp, gn, dr, tk, os⟩ ∧ ∃ i, i ≤ f ∧ rest = (ys.toList.zip xs.toList).drop i) _
    case turn =>
      rintro ⟨y, x⟩ rest acc s' ⟨hacc, rfl, i, hif, hz⟩
      have hlt : i < (ys.toList.zip xs.toList).length := Nat.lt_of_not_le fun q => by
        rw [List.drop_eq_nil_of_le q] at hz
        cases hz
      have h1 : i < ys.size := by omega
      have h2 : i < xs.size := by omega
      rw [List.drop_eq_getElem_cons hlt] at hz
      injection hz with hyx hrest
      obtain rfl : y = ys[i] := by simpa using congrArg Prod.fst hyx
      obtain rfl : x = xs[i] := by simpa using congrArg Prod.snd hyx
      rcases Nat.lt_or_ge i f with hi | hi
      · refine wpAny_bind (D.before i h1 h2 hi prog w _ _ ?_)
        wp_walk
        exact ⟨rfl, rfl, i + 1, hi, hrest⟩
      · obtain rfl : i = f := Nat.le_antisymm hif hi
        obtain ⟨q1, q2⟩ := D.here h1 h2
        refine wpAny_bind (q1 prog w _ _ ?_)
        have q3 : ∀ {E : Value → Shared → Prop} {Q : Value → Shared → Prop}, Q (.bool k) ⟨hp, gn, dr, tk, os⟩ → wpAny (model prog w) A.in1 (PySem.richCompare .Lt ys[i] xs[i]) Q E ⟨hp, gn, dr, tk, os⟩ := fun q => q2 prog w _ _ q
        wp_walk using q3
        exact ⟨_, rfl, hR⟩
    case fin =>
      rintro ⟨a1, a2⟩ s' ⟨hacc, rfl, i, hif, hz⟩
      simp only at hacc
      subst hacc
      have hge : min ys.size xs.size ≤ i := Nat.le_of_not_lt fun q => by
        rw [List.drop_eq_getElem_cons (by rw [hZ]; exact q)] at hz
        cases hz
      have hf := D.le
      have hk := D.over (by omega)
      wp_walk
      exact ⟨_, rfl, by simpa [Builtin.Tuple.tupleCompareSizes, hk] using hR⟩
    case h =>
      exact ⟨rfl, rfl, 0, Nat.zero_le _, rfl⟩

theorem RcLt.byFirst {A : Around} {s : Shared} {l b : Addr} {ys xs : Array Value} {f : Nat} {k : Bool} (hl : IsTup s.heap l ys) (hb : IsTup s.heap b xs) (hu : A.units < cLine) (D : Decides A s ys xs f k) : RcLt A s (.ref l) (.ref b) k := fun prog w E Q h => by
  obtain ⟨⟨c1, d1, z1, t1⟩, ho, hc, n, hd⟩ := id hl
  obtain ⟨⟨c2, d2, z2, t2⟩, ho2, hc2, m, hd2⟩ := id hb
  simp only at hc hd hc2 hd2
  subst hc hd hc2 hd2
  refine richCompare_meets_room (op := .Lt) ⟨_, ho, rfl⟩ ⟨_, ho2, rfl⟩ F.slot_tuple_lt F.entry_tuple_lt (F.args_tuple_lt_2 _ _) (tup_less l b ys xs n m d1 d2 t1 t2 f k) ⟨ho, ho2, D, ?_⟩ hu
  exact show Value.bool k ≠ Value.notImplemented ∧ Q (.bool k) s from ⟨(fun x => nomatch x), h⟩
end tupleLess

/-! ### data among the values -/
mutual
/-- the datum (handles and types are none of these) -/
def pdT : U → PyData
  | .non => .none
  | .bl b => .bool b
  | .int i => .int i
  | .str x => .str x
  | .tup us => .tuple (pdTs us)
  | .lst us => .list (pdTs us)
  | .ty _ => .none
  | .ref _ => .none
  | .dct _ _ => .none
  | .pr _ => .none
def pdTs : List U → List PyData
  | [] => []
  | u :: us => pdT u :: pdTs us
end
def okStr (x : Str) : Bool := x.cps.all (· < 0x110000)
mutual
def okU : U → Bool
  | .non => true
  | .bl _ => true
  | .int _ => true
  | .str x => okStr x
  | .tup us => okUs us
  | .lst us => okUs us
  | .ty _ => false
  | .ref _ => false
  | .dct _ _ => false
  | .pr _ => false
def okUs : List U → Bool
  | [] => true
  | u :: us => okU u && okUs us
end
mutual
def depU : U → Nat
  | .tup us => depUs us + 1
  | .lst us => depUs us + 1
  | _ => 0
def depUs : List U → Nat
  | [] => 0
  | u :: us => max (depU u) (depUs us)
end
mutual
def eqU : U → U → Bool
  | .non, .non => true
  | .bl a, .bl b => a == b
  | .bl a, .int j => (if a then 1 else 0) == j
  | .int i, .bl b => i == (if b then 1 else 0)
  | .int i, .int j => i == j
  | .str x, .str y => x == y
  | .lst xs, .lst ys => eqUs xs ys
  | .tup xs, .tup ys => eqUs xs ys
  | _, _ => false
def eqUs : List U → List U → Bool
  | [], [] => true
  | x :: xs, y :: ys => eqU x y && eqUs xs ys
  | _, _ => false
end
mutual
def ltU : U → U → Option Bool
  | .int i, .int j => some (decide (i < j))
  | .str x, .str y => some (decide (x.cps.toList < y.cps.toList))
  | .tup xs, .tup ys => ltUs xs ys
  | _, _ => none
def ltUs : List U → List U → Option Bool
  | x :: xs, y :: ys => if eqU x y = true then ltUs xs ys else ltU x y
  | [], [] => some false
  | [], _ :: _ => some true
  | _ :: _, [] => some false
end
/-- what == and < may be asked of -/
def Fit (u : U) : Prop := okU u = true ∧ depU u ≤ 60
mutual
theorem canLay_pd : ∀ u : U, okU u = true → (pdT u).canLay0 = true
  | .non, _ => by unfold pdT PyData.canLay0; rfl
  | .bl _, _ => by unfold pdT PyData.canLay0; rfl
  | .int _, _ => by unfold pdT PyData.canLay0; rfl
  | .str x, h => by unfold okU okStr at h; unfold pdT PyData.canLay0; exact h
  | .tup us, h => by unfold okU at h; unfold pdT PyData.canLay0; exact canLays_pd us h
  | .lst us, h => by unfold okU at h; unfold pdT PyData.canLay0; exact canLays_pd us h
theorem canLays_pd : ∀ us : List U, okUs us = true → PyData.canLayAll0 (pdTs us) = true
  | [], _ => by unfold pdTs PyData.canLayAll0; rfl
  | u :: us, h => by
    unfold okUs at h
    rw [Bool.and_eq_true] at h
    unfold pdTs PyData.canLayAll0
    rw [canLay_pd u h.1, canLays_pd us h.2]
    rfl
end
mutual
theorem dep_pd : ∀ u : U, (pdT u).depth = depU u
  | .non => by simp [pdT, PyData.depth, depU]
  | .bl _ => by simp [pdT, PyData.depth, depU]
  | .int _ => by simp [pdT, PyData.depth, depU]
  | .str _ => by simp [pdT, PyData.depth, depU]
  | .tup us => by simp [pdT, PyData.depth, depU, deps_pd us]
  | .lst us => by simp [pdT, PyData.depth, depU, deps_pd us]
  | .ty _ => by simp [pdT, PyData.depth, depU]
  | .ref _ => by simp [pdT, PyData.depth, depU]
  | .dct _ _ => by simp [pdT, PyData.depth, depU]
  | .pr _ => by simp [pdT, PyData.depth, depU]
theorem deps_pd : ∀ us : List U, PyData.depthAll (pdTs us) = depUs us
  | [] => by simp [pdTs, PyData.depthAll, depUs]
  | u :: us => by simp [pdTs, PyData.depthAll, depUs, dep_pd u, deps_pd us]
end
mutual
theorem eqv_pd : ∀ u w : U, okU u = true → okU w = true → PyData.eqv (pdT u) (pdT w) = eqU u w
  | .non, w, _, h => by cases w <;> simp [okU] at h <;> simp [pdT, PyData.eqv, eqU]
  | .bl _, w, _, h => by cases w <;> simp [okU] at h <;> simp [pdT, PyData.eqv, eqU]
  | .int _, w, _, h => by cases w <;> simp [okU] at h <;> simp [pdT, PyData.eqv, eqU]
  | .str _, w, _, h => by cases w <;> simp [okU] at h <;> simp [pdT, PyData.eqv, eqU]
  | .tup us, w, h1, h => by
    cases w <;> simp [okU] at h <;> simp [pdT, PyData.eqv, eqU]
    exact eqvs_pd us _ (by simpa [okU] using h1) h
  | .lst us, w, h1, h => by
    cases w <;> simp [okU] at h <;> simp [pdT, PyData.eqv, eqU]
    exact eqvs_pd us _ (by simpa [okU] using h1) h
theorem eqvs_pd : ∀ us ws : List U, okUs us = true → okUs ws = true → PyData.eqvAll (pdTs us) (pdTs ws) = eqUs us ws
  | [], [], _, _ => by simp [pdTs, PyData.eqvAll, eqUs]
  | [], _ :: _, _, _ => by simp [pdTs, PyData.eqvAll, eqUs]
  | _ :: _, [], _, _ => by simp [pdTs, PyData.eqvAll, eqUs]
  | u :: us, w :: ws, h1, h2 => by
    unfold okUs at h1 h2
    rw [Bool.and_eq_true] at h1 h2
    simp only [pdTs, PyData.eqvAll, eqUs]
    rw [eqv_pd u w h1.1 h2.1, eqvs_pd us ws h1.2 h2.2]
end
mutual
theorem lt_pd : ∀ u w : U, okU u = true → okU w = true → ∀ k, ltU u w = some k → ltD (pdT u) (pdT w) = some k
  | .non, w, _, _, k, e => by simp [ltU] at e
  | .bl _, w, _, _, k, e => by simp [ltU] at e
  | .int _, w, _, _, k, e => by cases w <;> simp [ltU] at e <;> simp [pdT, ltD, e]
  | .str _, w, _, _, k, e => by cases w <;> simp [ltU] at e <;> simp [pdT, ltD, e]
  | .tup us, w, h1, h, k, e => by
    cases w <;> simp [ltU] at e
    simp only [pdT, ltD]
    exact lts_pd us _ (by simpa [okU] using h1) (by simpa [okU] using h) k e
  | .lst us, w, _, _, k, e => by simp [ltU] at e
theorem lts_pd : ∀ us ws : List U, okUs us = true → okUs ws = true → ∀ k, ltUs us ws = some k → ltDs (pdTs us) (pdTs ws) = some k
  | [], [], _, _, k, e => by simp [ltUs] at e; simp [pdTs, ltDs, e]
  | [], _ :: _, _, _, k, e => by simp [ltUs] at e; simp [pdTs, ltDs, e]
  | _ :: _, [], _, _, k, e => by simp [ltUs] at e; simp [pdTs, ltDs, e]
  | u :: us, w :: ws, h1, h2, k, e => by
    unfold okUs at h1 h2
    rw [Bool.and_eq_true] at h1 h2
    simp only [pdTs, ltDs]
    unfold ltUs at e
    rw [eqv_pd u w h1.1 h2.1]
    by_cases q : eqU u w = true
    · rw [if_pos q] at e ⊢
      exact lts_pd us ws h1.2 h2.2 k e
    · rw [if_neg q] at e ⊢
      exact lt_pd u w h1.1 h2.1 k e
end
section
variable {K : PySem.W.Frag} {M : Mp} {H : Hp}
mutual
theorem dp_of : ∀ (u : U) (v : V), RepV K M H u v → okU u = true → Dp K H v (pdT u)
  | .non, v, r, _ => by rw [rep_non r]; unfold pdT; exact .non
  | .bl b, v, r, _ => by rw [rep_bl r]; unfold pdT; exact .bl b
  | .int i, v, r, _ => by rw [rep_int r]; unfold pdT; exact .int i
  | .str x, v, r, _ => by rw [rep_str r]; unfold pdT; exact .str x
  | .tup us, v, r, h => by
    obtain ⟨a, vs, e, f, q⟩ := rep_tup r
    rw [e]
    unfold pdT
    unfold okU at h
    exact .tup f.sq (dps_of us vs q h)
  | .lst us, v, r, h => by
    obtain ⟨a, vs, e, f, q⟩ := rep_lst r
    rw [e]
    unfold pdT
    unfold okU at h
    exact .lst f.sq (dps_of us vs q h)
  | .ty _, v, r, h => by simp [okU] at h
  | .ref _, v, r, h => by simp [okU] at h
  | .dct _ _, v, r, h => by simp [okU] at h
  | .pr _, v, r, h => by simp [okU] at h
theorem dps_of : ∀ (us : List U) (vs : List V), RepVs K M H us vs → okUs us = true → DpAll K H vs (pdTs us)
  | [], vs, r, _ => by rw [r.nil_inv]; unfold pdTs; exact .nil
  | u :: us, vs, r, h => by
    obtain ⟨v, q, e, h1, h2⟩ := r.uncons
    rw [e]
    unfold okUs at h
    rw [Bool.and_eq_true] at h
    unfold pdTs
    exact .cons (dp_of u v h1 h.1) (dps_of us q h2 h.2)
end
/-- a handle of a list, seen as the list -/
def rs (M : Mp) : U → U
  | .ref a => match M a with
    | some (.lst us) => .lst us
    | _ => .ref a
  | u => u
theorem dp_rs (hd : RepM K M H) {u : U} {v : V} (r : RepV K M H u v) (h : okU (rs M u) = true) : Dp K H v (pdT (rs M u)) := by
  cases u with
  | ref a =>
    rw [rep_ref r]
    cases q : M a with
    | none => simp [rs, q, okU] at h
    | some o =>
      cases o with
      | lst us =>
        simp only [rs, q] at h ⊢
        obtain ⟨vs, e, t⟩ := hd a _ q
        simp only [pdT]
        exact .lst (SqL.of e) (dps_of us vs t (by simpa [okU] using h))
      | dct ks us => simp [rs, q, okU] at h
      | hid P => simp [rs, q, okU] at h
  | _ => exact dp_of _ v r h
end

/-! ### < of data, run -/
theorem getD_of {α : Type} {l : List α} {d x : α} {i : Nat} (h : l[i]? = some x) : l.getD i d = x := by
  rw [List.getD_eq_getElem?_getD, h]
  rfl
theorem reads_each {h : Heap} : ∀ {xs : List PyData} {vs : List Value} {as : List Addr}, ReadsAll h vs xs as → ∀ (j : Nat) (hj : j < vs.length), ∃ bs, Reads h vs[j] (xs.getD j .none) bs
  | _, _, _, .nil, j, hj => absurd hj (by simp)
  | _, _, _, .cons r t, 0, _ => ⟨_, by simpa using r⟩
  | _, _, _, .cons r t, j + 1, hj => by
    obtain ⟨bs, q⟩ := reads_each t j (by simpa using hj)
    exact ⟨bs, by simpa using q⟩
theorem reads_len {h : Heap} : ∀ {xs : List PyData} {vs : List Value} {as : List Addr}, ReadsAll h vs xs as → vs.length = xs.length
  | _, _, _, .nil => rfl
  | _, _, _, .cons r t => by simp [reads_len t]
theorem canLay_each : ∀ {xs : List PyData} (j : Nat), PyData.canLayAll0 xs = true → (xs.getD j .none).canLay0 = true ∧ (xs.getD j .none).depth ≤ PyData.depthAll xs
  | [], j, _ => by simp [PyData.canLay0, PyData.depth]
  | x :: xs, 0, h => by
    simp only [PyData.canLayAll0, Bool.and_eq_true] at h
    simp only [List.getD_cons_zero, PyData.depthAll]
    exact ⟨h.1, Nat.le_max_left _ _⟩
  | x :: xs, j + 1, h => by
    simp only [PyData.canLayAll0, Bool.and_eq_true] at h
    obtain ⟨h1, h2⟩ := canLay_each (xs := xs) j h.2
    simp only [List.getD_cons_succ, PyData.depthAll]
    exact ⟨h1, Nat.le_trans h2 (Nat.le_max_right _ _)⟩
/-- the first place that parts -/
def firstOff : List PyData → List PyData → Nat
  | x :: xs, y :: ys => if PyData.eqv x y = true then firstOff xs ys + 1 else 0
  | _, _ => 0
theorem firstOff_spec : ∀ (xs ys : List PyData) (k : Bool), ltDs xs ys = some k → firstOff xs ys ≤ min xs.length ys.length ∧ (∀ j, j < firstOff xs ys → PyData.eqv (xs.getD j .none) (ys.getD j .none) = true) ∧
    (firstOff xs ys < xs.length → firstOff xs ys < ys.length → PyData.eqv (xs.getD (firstOff xs ys) .none) (ys.getD (firstOff xs ys) .none) = false ∧ ltD (xs.getD (firstOff xs ys) .none) (ys.getD (firstOff xs ys) .none) = some k) ∧
    (firstOff xs ys = min xs.length ys.length → k = decide (xs.length < ys.length))
  | [], [], k, h => by simp [ltDs] at h; simp [firstOff, h]
  | [], y :: ys, k, h => by simp [ltDs] at h; simp [firstOff, h]
  | x :: xs, [], k, h => by simp [ltDs] at h; simp [firstOff, h]
  | x :: xs, y :: ys, k, h => by
    unfold ltDs at h
    by_cases q : PyData.eqv x y = true
    · rw [if_pos q] at h
      obtain ⟨h1, h2, h3, h4⟩ := firstOff_spec xs ys k h
      have e : firstOff (x :: xs) (y :: ys) = firstOff xs ys + 1 := by rw [firstOff, if_pos q]
      rw [e]
      refine ⟨by simp only [List.length_cons]; omega, fun j hj => ?_, fun a b => ?_, fun a => ?_⟩
      · cases j with
        | zero => simpa using q
        | succ j => simpa using h2 j (by omega)
      · simpa using h3 (by simpa using a) (by simpa using b)
      · simp only [List.length_cons] at a ⊢
        rw [h4 (by omega)]
        exact decide_eq_decide.mpr (by omega)
    · have e : firstOff (x :: xs) (y :: ys) = 0 := by rw [firstOff, if_neg q]
      rw [if_neg q] at h
      rw [e]
      refine ⟨Nat.zero_le _, fun j hj => absurd hj (Nat.not_lt_zero _), fun _ _ => ⟨by simpa using q, by simpa using h⟩, fun a => ?_⟩
      simp only [List.length_cons] at a
      omega
theorem rcLt_data : ∀ (n : Nat) (da db : PyData) (A : Around) (s : Shared) (a b : Value) (as bs : List Addr) (k : Bool), da.depth ≤ n → Reads s.heap a da as → Reads s.heap b db bs → da.canLay0 = true → db.canLay0 = true → ltD da db = some k → A.units + n < cLine → RcLt A s a b k := by
  intro n
  induction n with
  | zero =>
    intro da db A s a b as bs k hn ra rb ha hb e hu
    cases da with
    | int i =>
      cases db <;> simp [ltD] at e
      cases ra; cases rb
      subst e
      exact fun prog w E Q h => lt_int h
    | str x =>
      cases db <;> simp only [ltD, Option.some.injEq, reduceCtorEq] at e
      cases ra; cases rb
      subst e
      exact fun prog w E Q h => lt_str h
    | tuple xs => simp [PyData.depth] at hn
    | _ => simp [ltD] at e
  | succ n ih =>
    intro da db A s a b as bs k hn ra rb ha hb e hu
    cases da with
    | int i =>
      cases db <;> simp [ltD] at e
      cases ra; cases rb
      subst e
      exact fun prog w E Q h => lt_int h
    | str x =>
      cases db <;> simp only [ltD, Option.some.injEq, reduceCtorEq] at e
      cases ra; cases rb
      subst e
      exact fun prog w E Q h => lt_str h
    | tuple xs =>
      cases db with
      | tuple ys =>
        simp only [ltD] at e
        cases ra with
        | tuple ho hc hd hr =>
          cases rb with
          | tuple ho2 hc2 hd2 hr2 =>
            obtain ⟨f1, f2, f3, f4⟩ := firstOff_spec xs ys k e
            have l1 := reads_len hr
            have l2 := reads_len hr2
            have cx : PyData.canLayAll0 xs = true := by simpa [PyData.canLay0] using ha
            have cy : PyData.canLayAll0 ys = true := by simpa [PyData.canLay0] using hb
            have dx : PyData.depthAll xs ≤ n := by simp only [PyData.depth] at hn; omega
            have eqs : ∀ j (h1 : j < _) (h2 : j < _), EqAt A.in1 s _ _ (PyData.eqv (xs.getD j .none) (ys.getD j .none)) := fun j h1 h2 => by
              obtain ⟨c1, r1⟩ := reads_each hr j h1
              obtain ⟨c2, r2⟩ := reads_each hr2 j h2
              obtain ⟨g1, g2⟩ := canLay_each (xs := xs) j cx
              obtain ⟨g3, g4⟩ := canLay_each (xs := ys) j cy
              refine eqAt_reads _ _ A.in1 s _ _ c1 c2 r1 r2 g1 g3 ?_
              have := Nat.min_le_left (xs.getD j PyData.none).depth (ys.getD j PyData.none).depth
              show A.units + 1 + _ < cLine
              omega
            refine RcLt.byFirst ⟨_, ho, hc, _, hd⟩ ⟨_, ho2, hc2, _, hd2⟩ (by omega) (f := firstOff xs ys) ⟨?_, fun j h1 h2 hj => ?_, fun h1 h2 => ⟨?_, ?_⟩, fun q => ?_⟩
            · simp only [Array.length_toList] at l1 l2
              rw [l1, l2]; exact f1
            · have := eqs j (by simpa using h1) (by simpa using h2)
              rw [f2 j hj] at this
              simpa using this
            · simp only [Array.length_toList] at l1 l2
              have := eqs (firstOff xs ys) (by simpa using h1) (by simpa using h2)
              rw [(f3 (by omega) (by omega)).1] at this
              simpa using this
            · simp only [Array.length_toList] at l1 l2
              obtain ⟨c1, r1⟩ := reads_each hr (firstOff xs ys) (by simpa using h1)
              obtain ⟨c2, r2⟩ := reads_each hr2 (firstOff xs ys) (by simpa using h2)
              obtain ⟨g1, g2⟩ := canLay_each (xs := xs) (firstOff xs ys) cx
              obtain ⟨g3, g4⟩ := canLay_each (xs := ys) (firstOff xs ys) cy
              have := ih _ _ A.in1 s _ _ c1 c2 k (Nat.le_trans g2 dx) r1 r2 g1 g3 (f3 (by omega) (by omega)).2 (by show A.units + 1 + n < cLine; omega)
              simpa using this
            · simp only [Array.length_toList] at l1 l2
              rw [l1, l2]
              exact f4 (by omega)
      | _ => simp [ltD] at e
    | _ => simp [ltD] at e
end Pu

/-! Pu, part 6: operators. -/
namespace Pu
open PySem PySem.Spec PyProof.Rows L2 PySem.SeqAt

/-- from a rule by values -/
theorem uop_of {X : Cx} {f : Value → Value → Sem Value} {o : O2}
    (h : ∀ (pins : List (Addr × Obj)) (s : Shared) (σ : Stt) (H : Hp) (x y : V) (v u : Value) (Q : VK) (ux uy : U) (M : Mp) (R : UK), Inv X pins σ H s → RelV x v → RelV y u → RepV X.K M H ux x → RepV X.K M H uy y → RepM X.K M H → o ux uy M R → Cl X.K M H R Q →
      wpAny (model X.prog X.w) X.A (f v u) (EP X pins σ Q) X.xe s) : UOp X f o :=
  fun pins s σ H x y v u Q I rx ry ⟨ux, uy, M, R, r1, r2, hd, q, c⟩ => h pins s σ H x y v u Q ux uy M R I rx ry r1 r2 hd q c
section
variable {X : Cx}

/-! ### arithmetic -/
def uInts (C : Int → Int → Prop) (f : Int → Int → Int) : O2
  | .int i, .int j, M, R => C i j ∧ R (.int (f i j)) M
  | _, _, _, _ => False
theorem uop_ints {f : Value → Value → Sem Value} {C : Int → Int → Prop} {g : Int → Int → Int} (h : OpR X f (rI C fun i j => .int (g i j))) : UOp X f (uInts C g) :=
  op_imp h fun x y H Q ⟨ux, uy, M, R, r1, r2, hd, q, c⟩ => by
    cases ux <;> cases uy <;> first | exact q.elim | skip
    obtain ⟨q1, q2⟩ := q
    exact ⟨_, _, rep_int r1, rep_int r2, q1, c.here q2 hd mk_int⟩
theorem uop_ints0 {f : Value → Value → Sem Value} {g : Int → Int → Int} (h : OpR X f (rI0 fun i j => .int (g i j))) : UOp X f (uInts (fun _ _ => True) g) :=
  op_imp h fun x y H Q ⟨ux, uy, M, R, r1, r2, hd, q, c⟩ => by
    cases ux <;> cases uy <;> first | exact q.elim | skip
    exact ⟨_, _, rep_int r1, rep_int r2, c.here q.2 hd mk_int⟩
def uSub : O2 := uInts (fun _ _ => True) fun i j => i - j
def uMod : O2 := uInts (fun _ j => 0 < j) fun i j => i % j
def uFdiv : O2 := uInts CDiv fun i j => i / j
def uPow : O2 := uInts CPow fun i j => i ^ j.toNat
theorem uop_sub : UOp X (binaryOp .Sub) uSub := uop_ints0 op_sub
theorem uop_mod : UOp X (binaryOp .Mod) uMod := uop_ints op_mod
theorem uop_fdiv : UOp X (binaryOp .FloorDiv) uFdiv := uop_ints op_fdiv
theorem uop_pow : UOp X (binaryOp .Pow) uPow := uop_ints op_pow
def uNeg : O1
  | .int i, M, R => R (.int (-i)) M
  | _, _, _ => False
theorem uun_neg : UUn X (unaryOp .USub) uNeg := fun pins s σ H x v Q I rx ⟨ux, M, R, r1, hd, q, c⟩ => by
  cases ux <;> first | exact q.elim | skip
  exact un_neg pins s σ H x v Q I rx ⟨_, rep_int r1, c.here q hd mk_int⟩

/-! ### + -/
theorem list_plus (l b : Addr) (xs ys : Array Value) (n m : Nat) (d1 d2 : Option Addr) (t1 t2 : Array (Option Value)) (hz : xs.size + ys.size ≤ sizeLine) :
    Meets (Builtin.«list.__add__» ⟨[.ref l, .ref b], []⟩) (fun _ R s => s.heap.get? l = some ⟨.type "list", d1, .seq xs n, t1⟩ ∧ s.heap.get? b = some ⟨.type "list", d2, .seq ys m, t2⟩ ∧
      R (.ok (.ret (.ref s.heap.objs.size))) { s with heap := s.heap.push { cls := .type "list", data := .seq (xs ++ ys) } }) :=
  .of_wp fun prog w A R s h => by
    obtain ⟨hp, gn, dr, tk, os⟩ := s
    obtain ⟨hl, hb, hR⟩ := h
    have k1 := AutoSeq1.sub_list_list
    wp_walk using AutoSeq1.wpAny_loadPart' hl, AutoSeq1.wpAny_loadPart' hb
    exact ⟨_, rfl, hR⟩
theorem op_catS : OpR X (binaryOp .Add) (fun x y H Q => ∃ l b xs zs, x = .ref l ∧ y = .ref b ∧ SqL X.K H l xs ∧ SqL X.K H b zs ∧ xs.length + zs.length ≤ sizeLine ∧ ∀ p, H p = none → Q (.ref p) (upd H p (.lst (xs ++ zs)))) := by
  intro pins s σ H x y v u Q I rx ry h
  obtain ⟨l, b, xs, zs, rfl, rfl, h1, h2, hz, q⟩ := h
  cases rx
  cases ry
  obtain ⟨its, r, ⟨⟨c1, d1, z1, t1⟩, n, e, hc, _, hd⟩, _⟩ := I.list h1
  obtain ⟨its2, r2, ⟨⟨c2, d2, z2, t2⟩, m, e2, hc2, _, hd2⟩, _⟩ := I.list h2
  simp only at hc hd hc2 hd2
  subst hc hd hc2 hd2
  have hz' : its.toArray.size + its2.toArray.size ≤ sizeLine := by rw [List.size_toArray, List.size_toArray, ← r.length, ← r2.length]; exact hz
  refine concat_meets ⟨_, e, rfl⟩ ⟨_, e2, rfl⟩ noFill_list_add seq_list_add F.slot_list_add F.entry_list_add (F.args_list_add_2 _ _) (list_plus l b its.toArray its2.toArray n m d1 d2 t1 t2 hz') ⟨e, e2, ?_⟩
  have ea : its.toArray ++ its2.toArray = (its ++ its2).toArray := by simp
  rw [ea]
  exact ⟨.ref _, _, I.lnew (t' := s.toks) (r.append r2) (by rw [List.length_append]; exact hz), rfl, q _ I.fresh⟩
/-- a list's content: a frozen one, or what a handle holds -/
def lstOf (M : Mp) : U → Option (List U)
  | .lst us => some us
  | .ref a => match M a with
    | some (.lst us) => some us
    | _ => none
  | _ => none
theorem lstOf_sq {M : Mp} {H : Hp} (hd : RepM X.K M H) {u : U} {v : V} (r : RepV X.K M H u v) {us : List U} (e : lstOf M u = some us) : ∃ a vs, v = .ref a ∧ SqL X.K H a vs ∧ RepVs X.K M H us vs := by
  cases u with
  | lst ws =>
    simp only [lstOf, Option.some.injEq] at e
    subst e
    obtain ⟨a, vs, e, f, q⟩ := rep_lst r
    exact ⟨a, vs, e, f.sq, q⟩
  | ref a =>
    cases q : M a with
    | none => simp [lstOf, q] at e
    | some o =>
      cases o with
      | lst ws =>
        simp only [lstOf, q, Option.some.injEq] at e
        subst e
        obtain ⟨vs, h, t⟩ := hd a _ q
        exact ⟨a, vs, rep_ref r, .of h, t⟩
      | dct ks ws => simp [lstOf, q] at e
      | hid P => simp [lstOf, q] at e
  | _ => simp [lstOf] at e
/-- t + u, the new object known -/
theorem op_catF : OpR X (binaryOp .Add) (fun x y H Q => ∃ a b xs ys, x = .ref a ∧ y = .ref b ∧ SqT X.K H a xs ∧ SqT X.K H b ys ∧ xs.length + ys.length ≤ sizeLine ∧
    (xs = [] → Q (.ref b) H) ∧ (xs ≠ [] → ys = [] → Q (.ref a) H) ∧ (xs ≠ [] → ys ≠ [] → ∀ p o, o.dict = none → H p = none → Q (.ref p) (upd H p (.frz o (.tup (xs ++ ys)))))) := by
  intro pins s σ H x y v u Q I rx ry h
  obtain ⟨a, b, xs, ys, rfl, rfl, ha, hb, hz, q0, q1, q2⟩ := h
  cases rx
  cases ry
  obtain ⟨its, r1, p1, _⟩ := I.tuple ha
  obtain ⟨its2, r2, p2, _⟩ := I.tuple hb
  by_cases hx : xs = []
  · subst hx
    cases r1
    exact cat_tup0 p1 p2 ⟨.ref b, H, I, rfl, q0 rfl⟩
  · refine HT.cat_tup p1 p2 (fun z => hx (r1.nil_iff.mp z)) (fun z => ⟨.ref a, H, I, rfl, q1 hx (r2.nil_iff.mp z)⟩) (fun z => ?_) (by rw [← r1.length, ← r2.length]; exact hz)
    refine ⟨.ref s.heap.objs.size, _, I.laid (t' := s.toks) (o := .frz { cls := .type "tuple", data := .seq (its ++ its2).toArray } (.tup (xs ++ ys))) (fun b ob q => Heap.get?_push_of_some _ q) (Nat.le_refl _) ?_, rfl, q2 hx (fun w => z (r2.nil_iff.mpr w)) _ { cls := .type "tuple", data := .seq (its ++ its2).toArray } rfl (I.hok.fresh (Nat.le_refl _))⟩
    exact ⟨Heap.get?_push_size _ rfl, by rw [List.length_append]; exact hz, _, r1.append r2, IsTup.new _ _⟩
def uAdd : O2
  | .int i, .int j, M, R => R (.int (i + j)) M
  | .str a, .str b, M, R => a.length + b.length ≤ sizeLine ∧ R (.str (a ++ b)) M
  | .tup a, .tup b, M, R => a.length + b.length ≤ sizeLine ∧ R (.tup (a ++ b)) M
  | .lst a, .lst b, M, R => a.length + b.length ≤ sizeLine ∧ R (.lst (a ++ b)) M
  | x, y, M, R => ∃ a b, lstOf M x = some a ∧ lstOf M y = some b ∧ a.length + b.length ≤ sizeLine ∧ R (.lst (a ++ b)) M
theorem uAdd_lists {pins : List (Addr × Obj)} {s : Shared} {σ : Stt} {H : Hp} {x y : V} {v u : Value} {Q : VK} {ux uy : U} {M : Mp} {R : UK} (I : Inv X pins σ H s) (rx : RelV x v) (ry : RelV y u) (r1 : RepV X.K M H ux x) (r2 : RepV X.K M H uy y) (hd : RepM X.K M H)
    (q : ∃ a b, lstOf M ux = some a ∧ lstOf M uy = some b ∧ a.length + b.length ≤ sizeLine ∧ R (.lst (a ++ b)) M) (c : Cl X.K M H R Q) : wpAny (model X.prog X.w) X.A (binaryOp .Add v u) (EP X pins σ Q) X.xe s := by
  obtain ⟨a, b, e1, e2, z, q⟩ := q
  obtain ⟨p1, vs, rfl, h1, t1⟩ := lstOf_sq hd r1 e1
  obtain ⟨p2, ws, rfl, h2, t2⟩ := lstOf_sq hd r2 e2
  exact op_catS pins s σ H _ _ v u Q I rx ry ⟨p1, p2, vs, ws, rfl, rfl, h1, h2, by rw [← t1.length, ← t2.length]; exact z, fun p hp => c.at_ q (Stp.new hd hp) (hd.new hp) (new_lst hd hp (t1.app t2))⟩
theorem uop_add : UOp X (binaryOp .Add) uAdd := uop_of fun pins s σ H x y v u Q ux uy M R I rx ry r1 r2 hd q c => by
  have gen := fun q => uAdd_lists I rx ry r1 r2 hd q c
  cases ux <;> cases uy <;> first
    | exact gen q
    | skip
  · exact op_add pins s σ H x y v u Q I rx ry ⟨_, _, rep_int r1, rep_int r2, c.here q hd mk_int⟩
  · exact op_add_str pins s σ H x y v u Q I rx ry ⟨_, _, rep_str r1, rep_str r2, q.1, c.here q.2 hd mk_str⟩
  · obtain ⟨p1, vs, rfl, h1, t1⟩ := rep_tup r1
    obtain ⟨p2, ws, rfl, h2, t2⟩ := rep_tup r2
    obtain ⟨z, q⟩ := q
    refine op_catF pins s σ H _ _ v u Q I rx ry ⟨p1, p2, vs, ws, rfl, rfl, h1.sq, h2.sq, by rw [← t1.length, ← t2.length]; exact z, fun e => ?_, fun e1 e2 => ?_, fun e1 e2 p o ho hp => c.at_ q (Stp.new hd hp) (hd.new hp) (new_tup hd hp ho (t1.app t2))⟩
    · subst e
      refine c.here q hd (mk_tup h2 ?_)
      have := t1.app t2
      simpa using this
    · subst e2
      refine c.here q hd (mk_tup h1 ?_)
      have := t1.app t2
      simpa using this
  · obtain ⟨z, q⟩ := q
    exact gen ⟨_, _, rfl, rfl, z, q⟩

/-! ### * -/
def uMul : O2
  | .int i, .int j, M, R => CMul i j ∧ R (.int (i * j)) M
  | _, _, _, _ => False
theorem reps {K : PySem.W.Frag} {M : Mp} {H : Hp} {us : List U} {vs : List V} (h : RepVs K M H us vs) : ∀ n : Nat, RepVs K M H (List.replicate n us).flatten (List.replicate n vs).flatten
  | 0 => .nil
  | n + 1 => by
    rw [List.replicate_succ, List.replicate_succ, List.flatten_cons, List.flatten_cons]
    exact h.app (reps h n)

/-! ### order -/
def Scal : U → Bool
  | .non => true | .bl _ => true | .int _ => true | .str _ => true
  | _ => false
/-- what == may be asked of -/
def EqOk (x y : U) : Prop := (match x, y with
  | .non, .non => True | .non, .int _ => True | .int _, .non => True | .non, .bl _ => True | .bl _, .non => True | .non, .str _ => True | .str _, .non => True
  | .int _, .int _ => True | .bl _, .bl _ => True | .str _, .str _ => True
  | .int _, .str _ => True | .str _, .int _ => True | .bl _, .str _ => True | .str _, .bl _ => True
  | .tup _, .tup [] => True
  | x, y => Fit x ∧ Fit y)
def uEq : O2 := fun x y M R => EqOk (rs M x) (rs M y) ∧ R (.bl (eqU (rs M x) (rs M y))) M
def uNe : O2 := fun x y M R => EqOk (rs M x) (rs M y) ∧ R (.bl (!eqU (rs M x) (rs M y))) M

theorem eqU_scal {x y : U} {vx vy : V} {K : PySem.W.Frag} {M : Mp} {H : Hp} (r1 : RepV K M H x vx) (r2 : RepV K M H y vy) (hs : scal vx vy = true) (h1 : Scal x = true) (h2 : Scal y = true) : decide (vx = vy) = eqU x y := by
  cases x <;> simp [Scal] at h1 <;> cases y <;> simp [Scal] at h2 <;> simp only [RepV] at r1 r2 <;> subst r1 r2 <;> first
    | (simp [scal] at hs; done)
    | (simp [eqU]; done)
    | (simp only [eqU]; rw [Bool.eq_iff_iff]; simp)
theorem shaped_of {u : U} (h : Fit u) : SeqAt.shaped (pdT u) = true := by
  unfold SeqAt.shaped
  rw [canLay_pd u h.1, dep_pd]
  have := h.2
  simp only [Bool.true_and, decide_eq_true_eq]
  omega
/-- the two ways of == over what Fit says -/
theorem eq_run {pins : List (Addr × Obj)} {s : Shared} {σ : Stt} {H : Hp} {x y : V} {v u : Value} {ux uy : U} {M : Mp} (I : Inv X pins σ H s) (rx : RelV x v) (ry : RelV y u) (r1 : RepV X.K M H ux x) (r2 : RepV X.K M H uy y) (hd : RepM X.K M H)
    (h1 : Fit (rs M ux)) (h2 : Fit (rs M uy)) : ∃ as bs, Reads s.heap v (pdT (rs M ux)) as ∧ Reads s.heap u (pdT (rs M uy)) bs := by
  obtain ⟨as, q1⟩ := Dp.reads I _ x v (dp_rs hd r1 h1.1) rx
  obtain ⟨bs, q2⟩ := Dp.reads I _ y u (dp_rs hd r2 h2.1) ry
  exact ⟨as, bs, q1, q2⟩
theorem rs_scal {M : Mp} {u : U} (h : Scal (rs M u) = true) : rs M u = u := by
  cases u with
  | ref a =>
    cases q : M a with
    | none => simp [rs, q]
    | some o => cases o <;> simp [rs, q, Scal] at h ⊢
  | _ => rfl
theorem rs_tup {M : Mp} {u : U} {us : List U} (h : rs M u = .tup us) : u = .tup us := by
  cases u with
  | ref a =>
    cases q : M a with
    | none => simp [rs, q] at h
    | some o => cases o <;> simp [rs, q] at h
  | _ => exact h
inductive EqWay (x y : U) : Prop where
  | scal (a : Scal x = true) (b : Scal y = true) (c : ∀ K M H vx vy, RepV K M H x vx → RepV K M H y vy → L2.scal vx vy = true)
  | empty (us : List U) (a : x = .tup us) (b : y = .tup [])
  | fit (a : Fit x) (b : Fit y)
theorem EqOk.way {x y : U} (h : EqOk x y) : EqWay x y := by
  unfold EqOk at h
  cases x with
  | tup us =>
    cases y with
    | tup ws =>
      cases ws with
      | nil => exact .empty us rfl rfl
      | cons w ws => exact .fit h.1 h.2
    | _ => exact .fit h.1 h.2
  | non => cases y <;> first | exact .fit h.1 h.2 | exact .scal rfl rfl fun K M H vx vy q1 q2 => by { simp only [RepV] at q1 q2; subst q1 q2; rfl }
  | bl b => cases y <;> first | exact .fit h.1 h.2 | exact .scal rfl rfl fun K M H vx vy q1 q2 => by { simp only [RepV] at q1 q2; subst q1 q2; rfl }
  | int i => cases y <;> first | exact .fit h.1 h.2 | exact .scal rfl rfl fun K M H vx vy q1 q2 => by { simp only [RepV] at q1 q2; subst q1 q2; rfl }
  | str z => cases y <;> first | exact .fit h.1 h.2 | exact .scal rfl rfl fun K M H vx vy q1 q2 => by { simp only [RepV] at q1 q2; subst q1 q2; rfl }
  | _ => exact .fit h.1 h.2

theorem uop_mul : UOp X (binaryOp .Mult) uMul := op_imp op_mul fun x y H Q ⟨ux, uy, M, R, r1, r2, hd, q, c⟩ => by
  cases ux <;> cases uy <;> first | exact q.elim | skip
  exact ⟨_, _, rep_int r1, rep_int r2, q.1, c.here q.2 hd mk_int⟩
theorem eqU_empty (us : List U) : eqU (.tup us) (.tup []) = us.isEmpty := by
  cases us <;> simp [eqU, eqUs]
theorem isEmpty_eq {us : List U} {vs : List V} {its : List Value} {K : PySem.W.Frag} {M : Mp} {H : Hp} (r : RepVs K M H us vs) (q : Vals vs its) : ((List.range (min its.toArray.size (#[] : Array Value).size)).all (fun _ => true) && its.toArray.size == (#[] : Array Value).size) = us.isEmpty := by
  have e : its.length = us.length := by rw [← q.length, ← r.length]
  cases us <;> cases its <;> simp at e ⊢
theorem uop_eq (hu : X.A.units + 64 < cLine) : UOp X (compareOp .Eq) uEq := uop_of fun pins s σ H x y v u Q ux uy M R I rx ry r1 r2 hd ⟨ok, q⟩ c => by
  cases ok.way with
  | scal a b z =>
    have e1 := rs_scal a
    have e2 := rs_scal b
    rw [e1, e2] at q z
    rw [e1] at a
    rw [e2] at b
    refine op_eq pins s σ H x y v u Q I rx ry ⟨z _ _ _ _ _ r1 r2, ?_⟩
    rw [eqU_scal r1 r2 (z _ _ _ _ _ r1 r2) a b]
    exact c.here q hd mk_bl
  | empty us a b =>
    have e1 := rs_tup a
    have e2 := rs_tup b
    subst e1 e2
    obtain ⟨p1, vs, rfl, h1, t1⟩ := rep_tup r1
    obtain ⟨p2, ws, rfl, h2, t2⟩ := rep_tup r2
    rw [t2.nil_inv] at h2
    cases rx
    cases ry
    obtain ⟨its, k1, i1, _⟩ := I.tuple h1.sq
    obtain ⟨its2, k2, i2, _⟩ := I.tuple h2.sq
    cases k2
    refine SeqAt.eq_tupleAt (e := fun _ => true) i1 i2 (by omega) (fun j _ h => absurd h (by simp)) ⟨.bl _, H, I, rfl, ?_⟩
    rw [show ([] : List Value).toArray = #[] from rfl, isEmpty_eq t1 k1]
    simp only [rs, eqU_empty] at q
    exact c.here q hd mk_bl
  | fit a b =>
    obtain ⟨as, bs, q1, q2⟩ := eq_run I rx ry r1 r2 hd a b
    refine SeqAt.compareEq_shaped q1 q2 (shaped_of a) (shaped_of b) hu ⟨.bl _, H, I, rfl, ?_⟩
    rw [eqv_pd _ _ a.1 b.1]
    exact c.here q hd mk_bl
theorem uop_ne (hu : X.A.units + 64 < cLine) : UOp X (compareOp .NotEq) uNe := uop_of fun pins s σ H x y v u Q ux uy M R I rx ry r1 r2 hd ⟨ok, q⟩ c => by
  cases ok.way with
  | scal a b z =>
    have e1 := rs_scal a
    have e2 := rs_scal b
    rw [e1, e2] at q z
    rw [e1] at a
    rw [e2] at b
    refine op_ne pins s σ H x y v u Q I rx ry ⟨z _ _ _ _ _ r1 r2, ?_⟩
    rw [eqU_scal r1 r2 (z _ _ _ _ _ r1 r2) a b]
    exact c.here q hd mk_bl
  | empty us a b =>
    have e1 := rs_tup a
    have e2 := rs_tup b
    subst e1 e2
    obtain ⟨p1, vs, rfl, h1, t1⟩ := rep_tup r1
    obtain ⟨p2, ws, rfl, h2, t2⟩ := rep_tup r2
    rw [t2.nil_inv] at h2
    cases rx
    cases ry
    obtain ⟨its, k1, i1, _⟩ := I.tuple h1.sq
    obtain ⟨its2, k2, i2, _⟩ := I.tuple h2.sq
    cases k2
    refine SeqAt.RcNeAt.tuples (e := fun _ => true) i1 i2 (by omega) (fun j _ h => absurd h (by simp)) X.prog X.w _ _ ⟨.bl _, H, I, rfl, ?_⟩
    rw [show ([] : List Value).toArray = #[] from rfl, isEmpty_eq t1 k1]
    simp only [rs, eqU_empty] at q
    exact c.here q hd mk_bl
  | fit a b =>
    obtain ⟨as, bs, q1, q2⟩ := eq_run I rx ry r1 r2 hd a b
    refine SeqAt.compareNe_shaped q1 q2 (shaped_of a) (shaped_of b) hu ⟨.bl _, H, I, rfl, ?_⟩
    rw [eqv_pd _ _ a.1 b.1]
    exact c.here q hd mk_bl

/-! ### < and its kin -/
def uCmp (fi : Int → Int → Bool) (fs : Str → Str → Bool) : O2
  | .int i, .int j, M, R => R (.bl (fi i j)) M
  | .str a, .str b, M, R => R (.bl (fs a b)) M
  | _, _, _, _ => False
def strLt (a b : Str) : Bool := decide (a.cps.toList < b.cps.toList)
def uLt : O2
  | .int i, .int j, M, R => R (.bl (decide (i < j))) M
  | .str a, .str b, M, R => R (.bl (strLt a b)) M
  | .tup a, .tup b, M, R => Fit (.tup a) ∧ Fit (.tup b) ∧ ∃ k, ltUs a b = some k ∧ R (.bl k) M
  | _, _, _, _ => False
def uLe : O2 := uCmp (fun i j => decide (i ≤ j)) fun a b => !strLt b a
def uGt : O2 := uCmp (fun i j => decide (j < i)) fun a b => strLt b a
def uGe : O2 := uCmp (fun i j => decide (j ≤ i)) fun a b => !strLt a b
theorem uop_cmp {op : CmpOp} {fi : Int → Int → Bool} {fs : Str → Str → Bool} (h1 : OpR X (compareOp op) (rI0 fun i j => .bl (fi i j)))
    (h2 : OpR X (compareOp op) (fun x y H Q => ∃ i j, x = .str i ∧ y = .str j ∧ Q (.bl (fs i j)) H)) : UOp X (compareOp op) (uCmp fi fs) := uop_of fun pins s σ H x y v u Q ux uy M R I rx ry r1 r2 hd q c => by
  cases ux <;> cases uy <;> first | exact q.elim | skip
  · exact h1 pins s σ H x y v u Q I rx ry ⟨_, _, rep_int r1, rep_int r2, c.here q hd mk_bl⟩
  · exact h2 pins s σ H x y v u Q I rx ry ⟨_, _, rep_str r1, rep_str r2, c.here q hd mk_bl⟩
theorem uop_le : UOp X (compareOp .LtE) uLe := uop_cmp op_le op_le_str
theorem uop_gt : UOp X (compareOp .Gt) uGt := uop_cmp op_gt op_gt_str
theorem uop_ge : UOp X (compareOp .GtE) uGe := uop_cmp op_ge op_ge_str
theorem uop_lt (hu : X.A.units + 64 < cLine) : UOp X (compareOp .Lt) uLt := uop_of fun pins s σ H x y v u Q ux uy M R I rx ry r1 r2 hd q c => by
  cases ux <;> cases uy <;> first | exact q.elim | skip
  · exact op_lt pins s σ H x y v u Q I rx ry ⟨_, _, rep_int r1, rep_int r2, c.here q hd mk_bl⟩
  · exact op_lt_str pins s σ H x y v u Q I rx ry ⟨_, _, rep_str r1, rep_str r2, c.here q hd mk_bl⟩
  · obtain ⟨a, b, k, e, q⟩ := q
    obtain ⟨as, bs, q1, q2⟩ := eq_run (ux := .tup _) (uy := .tup _) I rx ry r1 r2 hd a b
    have := rcLt_data 60 _ _ X.A s v u as bs k (by rw [dep_pd]; exact a.2) q1 q2 (canLay_pd _ a.1) (canLay_pd _ b.1) (lt_pd _ _ a.1 b.1 k (by simp only [rs, ltU]; exact e)) (by omega)
    exact this X.prog X.w _ _ ⟨.bl k, H, I, rfl, c.here q hd mk_bl⟩

/-! ### is -/
def isNonU : U → Bool
  | .non => true
  | _ => false
def uIs : O2
  | .bl a, .bl b, M, R => R (.bl (a == b)) M
  | x, .non, M, R => R (.bl (isNonU x)) M
  | _, _, _, _ => False
def uIsNot : O2
  | .bl a, .bl b, M, R => R (.bl (!(a == b))) M
  | x, .non, M, R => R (.bl (!isNonU x)) M
  | _, _, _, _ => False
theorem isNon_rep {K : PySem.W.Frag} {M : Mp} {H : Hp} {u : U} {v : V} (r : RepV K M H u v) : decide (v = .non) = isNonU u := by
  cases u <;> unfold RepV at r <;> first
    | (subst r; simp [isNonU]; done)
    | (obtain ⟨a, vs, e, _⟩ := r; subst e; simp [isNonU]; done)
theorem uop_is : UOp X (compareOp .Is) uIs := uop_of fun pins s σ H x y v u Q ux uy M R I rx ry r1 r2 hd q c => by
  cases uy with
  | non =>
    have q' : R (.bl (isNonU ux)) M := by cases ux <;> exact q
    exact op_isN1 pins s σ H x y v u Q I rx ry ⟨rep_non r2, by rw [isNon_rep r1]; exact c.here q' hd mk_bl⟩
  | bl b =>
    cases ux <;> first | exact q.elim | skip
    exact op_isBl pins s σ H x y v u Q I rx ry ⟨_, _, rep_bl r1, rep_bl r2, by rw [← Bool.beq_eq_decide_eq]; exact c.here q hd mk_bl⟩
  | _ => cases ux <;> exact q.elim
theorem uop_isNot : UOp X (compareOp .IsNot) uIsNot := uop_of fun pins s σ H x y v u Q ux uy M R I rx ry r1 r2 hd q c => by
  cases uy with
  | non =>
    have q' : R (.bl (!isNonU ux)) M := by cases ux <;> exact q
    exact op_notN1 pins s σ H x y v u Q I rx ry ⟨rep_non r2, by rw [isNon_rep r1]; exact c.here q' hd mk_bl⟩
  | bl b =>
    cases ux <;> first | exact q.elim | skip
    exact op_notBl pins s σ H x y v u Q I rx ry ⟨_, _, rep_bl r1, rep_bl r2, by rw [← Bool.beq_eq_decide_eq]; exact c.here q hd mk_bl⟩
  | _ => cases ux <;> exact q.elim
end
end Pu

/-! Pu, part 7: membership, subscripts, slices. -/
namespace Pu
open PySem PySem.Spec PyProof.Rows L2 PySem.SeqAt

/-- a key of a dict -/
def keyOf : U → Option Key
  | .int i => some (.inl i)
  | .str x => some (.inr x)
  | _ => none
theorem keyOf_rep {K : PySem.W.Frag} {M : Mp} {H : Hp} {u : U} {v : V} {k : Key} (r : RepV K M H u v) (e : keyOf u = some k) : v = kV k := by
  cases u <;> simp only [keyOf, Option.some.injEq, reduceCtorEq] at e
  · subst e; rw [rep_int r]; rfl
  · subst e; rw [rep_str r]; rfl
def lookU : List Key → List U → Key → Option U
  | k :: ks, u :: us, q => if k = q then some u else lookU ks us q
  | _, _, _ => none
theorem look_rep {K : PySem.W.Frag} {M : Mp} {H : Hp} : ∀ {ks : List Key} {us : List U} {vs : List V} (q : Key), ks.length = vs.length → RepVs K M H us vs →
    (∀ u, lookU ks us q = some u → ∃ v, valV (ks.zip vs) q = some v ∧ RepV K M H u v) ∧ (valV (ks.zip vs) q).isSome = (lookU ks us q).isSome
  | [], us, [], q, _, r => by simp [lookU, valV_nil]
  | k :: ks, [], v :: vs, q, l, r => by have := r.length; simp at this
  | k :: ks, u :: us, v :: vs, q, l, r => by
    obtain ⟨v', vs', e, h1, h2⟩ := r.uncons
    cases e
    by_cases h : k = q
    · rw [List.zip_cons_cons, valV_pos (p := (k, v)) h]
      simp only [lookU, h, if_true]
      exact ⟨fun w hw => ⟨v, rfl, by cases hw; exact h1⟩, rfl⟩
    · rw [List.zip_cons_cons, valV_neg (p := (k, v)) h]
      simp only [lookU, h, if_false]
      exact look_rep q (by simpa using l) h2
/-- a dict's content: keys, values -/
def dctOf (M : Mp) : U → Option (List Key × List U)
  | .dct ks us => some (ks, us)
  | .ref a => match M a with
    | some (.dct ks us) => some (ks, us)
    | _ => none
  | _ => none
theorem dctOf_rep {K : PySem.W.Frag} {M : Mp} {H : Hp} (hd : RepM K M H) {u : U} {v : V} {ks : List Key} {us : List U} (r : RepV K M H u v) (e : dctOf M u = some (ks, us)) : ∃ a vs, v = .ref a ∧ H a = some (.dK (ks.zip vs)) ∧ ks.length = vs.length ∧ RepVs K M H us vs := by
  cases u with
  | dct k2 u2 =>
    simp only [dctOf, Option.some.injEq, Prod.mk.injEq] at e
    obtain ⟨rfl, rfl⟩ := e
    unfold RepV at r
    obtain ⟨a, vs, e, f, _, l, q⟩ := r
    exact ⟨a, vs, e, f, l, q⟩
  | ref a =>
    cases q : M a with
    | none => simp [dctOf, q] at e
    | some o =>
      cases o with
      | lst ws => simp [dctOf, q] at e
      | hid P => simp [dctOf, q] at e
      | dct k2 u2 =>
        simp only [dctOf, q, Option.some.injEq, Prod.mk.injEq] at e
        obtain ⟨rfl, rfl⟩ := e
        obtain ⟨vs, h, l, t⟩ := hd a _ q
        exact ⟨a, vs, rep_ref r, h, l, t⟩
  | _ => simp [dctOf] at e
/-- a list's or a tuple's content -/
def seqOf (M : Mp) : U → Option (List U)
  | .tup us => some us
  | u => lstOf M u
theorem seqOf_rep {X : Cx} {M : Mp} {H : Hp} (hd : RepM X.K M H) {u : U} {v : V} (r : RepV X.K M H u v) {us : List U} (e : seqOf M u = some us) : ∃ a vs, v = .ref a ∧ (SqL X.K H a vs ∨ SqT X.K H a vs) ∧ RepVs X.K M H us vs := by
  cases u with
  | tup ws =>
    simp only [seqOf, Option.some.injEq] at e
    subst e
    obtain ⟨a, vs, e, f, q⟩ := rep_tup r
    exact ⟨a, vs, e, .inr f.sq, q⟩
  | _ =>
    obtain ⟨a, vs, e, f, q⟩ := lstOf_sq hd r (show lstOf M _ = some us from e)
    exact ⟨a, vs, e, .inl f, q⟩
/-- written dicts with text keys: what stands at a key -/
abbrev WD := Addr → Option (List (Str × U))
/-- a written dict, as it stands -/
structure WdOk (X : Cx) (d : Addr) (kvs : List (Str × U)) : Prop where
  at_ : ∃ es n, KDict X.K X.w d es n
  look : ∀ z, ∃ o, PySem.W.nsIn X.K d z = some o ∧ match kvs.lookup z with
    | some u => ∃ u0 v, o = some u0 ∧ RelV v u0 ∧ ∀ M H, RepV X.K M H u v
    | none => o = none
def WdsOk (X : Cx) (W : WD) : Prop := ∀ d kvs, W d = some kvs → WdOk X d kvs

section
variable {X : Cx} {W : WD}
/-! ### in -/
def InOk (x : U) (us : List U) : Prop := (Scal x = true ∧ us.all Scal = true) ∨ (Fit x ∧ Fit (.tup us))
def uIn (W : WD) (neg : Bool) : O2
  | .str x, .str z, M, R => ∃ c, x = ⟨#[c]⟩ ∧ R (.bl (if neg then !decide (c ∈ z.cps.toList) else decide (c ∈ z.cps.toList))) M
  | x, y, M, R => (∃ us, seqOf M y = some us ∧ InOk x us ∧ R (.bl (if neg then !us.any fun z => eqU z x else us.any fun z => eqU z x)) M) ∨
    (∃ ks us k, dctOf M y = some (ks, us) ∧ keyOf x = some k ∧ R (.bl (if neg then !(lookU ks us k).isSome else (lookU ks us k).isSome)) M) ∨
    (∃ d kvs z, y = .ref d ∧ W d = some kvs ∧ x = .str z ∧ R (.bl (if neg then !(kvs.lookup z).isSome else (kvs.lookup z).isSome)) M)
theorem eqV_rep {K : PySem.W.Frag} {M : Mp} {H : Hp} {u w : U} {v x : V} (r1 : RepV K M H u v) (r2 : RepV K M H w x) (h1 : Scal u = true) (h2 : Scal w = true) : eqV v x = eqU u w := by
  cases u <;> simp [Scal] at h1 <;> cases w <;> simp [Scal] at h2 <;> simp only [RepV] at r1 r2 <;> subst r1 r2 <;> simp [eqV, eqU]
theorem flat_rep {K : PySem.W.Frag} {M : Mp} {H : Hp} {u : U} {v : V} (r : RepV K M H u v) (h : Scal u = true) : flatV v = true := by
  cases u <;> simp [Scal] at h <;> simp only [RepV] at r <;> subst r <;> rfl
theorem flats_rep {K : PySem.W.Frag} {M : Mp} {H : Hp} : ∀ {us : List U} {vs : List V}, RepVs K M H us vs → us.all Scal = true → vs.all flatV = true
  | [], _, r, _ => by rw [r.nil_inv]; rfl
  | u :: us, _, r, h => by
    obtain ⟨v, q, e, h1, h2⟩ := r.uncons
    subst e
    simp only [List.all_cons, Bool.and_eq_true] at h ⊢
    exact ⟨flat_rep h1 h.1, flats_rep h2 h.2⟩
theorem inV_rep {K : PySem.W.Frag} {M : Mp} {H : Hp} {w : U} {x : V} (rw' : RepV K M H w x) (hw : Scal w = true) : ∀ {us : List U} {vs : List V}, RepVs K M H us vs → us.all Scal = true → inV x vs = us.any fun z => eqU z w
  | [], _, r, _ => by rw [r.nil_inv]; rfl
  | u :: us, _, r, h => by
    obtain ⟨v, q, e, h1, h2⟩ := r.uncons
    subst e
    simp only [List.all_cons, Bool.and_eq_true] at h
    have ih := inV_rep rw' hw h2 h.2
    unfold inV at ih ⊢
    simp only [List.any_cons, ih, eqV_rep h1 rw' h.1 hw]
theorem any_pd (x : U) (hx : okU x = true) : ∀ us : List U, okUs us = true → ((pdTs us).any fun z => PyData.eqv z (pdT x)) = us.any fun z => eqU z x
  | [], _ => by simp [pdTs]
  | u :: us, h => by
    unfold okUs at h
    rw [Bool.and_eq_true] at h
    simp only [pdTs, List.any_cons, any_pd x hx us h.2, eqv_pd u x h.1 hx]
theorem in_seq {neg : Bool} {pins : List (Addr × Obj)} {s : Shared} {σ : Stt} {H : Hp} {x y : V} {v u : Value} {Q : VK} {ux uy : U} {M : Mp} {R : UK} (hu : X.A.units + 65 < cLine) (I : Inv X pins σ H s) (rx : RelV x v) (ry : RelV y u) (r1 : RepV X.K M H ux x) (r2 : RepV X.K M H uy y) (hd : RepM X.K M H)
    {us : List U} (e : seqOf M uy = some us) (ok : InOk ux us) (q : R (.bl (if neg then !us.any fun z => eqU z ux else us.any fun z => eqU z ux)) M) (c : Cl X.K M H R Q) : wpAny (model X.prog X.w) X.A (compareOp (if neg then .NotIn else .In) v u) (EP X pins σ Q) X.xe s := by
  obtain ⟨a, vs, rfl, hs, t⟩ := seqOf_rep hd r2 e
  rcases ok with ⟨k1, k2⟩ | ⟨k1, k2⟩
  · cases neg with
    | true => exact op_notIn_seq pins s σ H x _ v u Q I rx ry ⟨a, vs, rfl, hs, flat_rep r1 k1, flats_rep t k2, by rw [inV_rep r1 k1 t k2]; exact c.here q hd mk_bl⟩
    | false => exact op_in_seq pins s σ H x _ v u Q I rx ry ⟨a, vs, rfl, hs, flat_rep r1 k1, flats_rep t k2, by rw [inV_rep r1 k1 t k2]; exact c.here q hd mk_bl⟩
  · obtain ⟨as, q1⟩ := Dp.reads I _ x v (dp_of _ _ r1 k1.1) rx
    have k3 : okUs us = true := by simpa [okU] using k2.1
    have k4 : PyData.canLayAll0 (pdTs us) = true := canLays_pd us k3
    have room : X.A.units + 1 + min (PyData.depthAll (pdTs us)) (pdT ux).depth < cLine := by
      have := Nat.min_le_right (PyData.depthAll (pdTs us)) (pdT ux).depth
      rw [dep_pd] at this
      have := k1.2
      rw [dep_pd]
      omega
    cases ry
    rcases hs with hs | hs
    · obtain ⟨bs, q2⟩ := Dp.reads I (.list (pdTs us)) _ _ (.lst hs (dps_of us vs t k3)) rfl
      cases neg with
      | true => exact SeqAt.notIn_list_reads q2 q1 k4 (canLay_pd _ k1.1) room ⟨.bl _, H, I, rfl, by rw [any_pd _ k1.1 us k3]; exact c.here q hd mk_bl⟩
      | false => exact SeqAt.in_list_reads q2 q1 k4 (canLay_pd _ k1.1) room ⟨.bl _, H, I, rfl, by rw [any_pd _ k1.1 us k3]; exact c.here q hd mk_bl⟩
    · obtain ⟨bs, q2⟩ := Dp.reads I (.tuple (pdTs us)) _ _ (.tup hs (dps_of us vs t k3)) rfl
      cases neg with
      | true => exact SeqAt.notIn_tuple_reads q2 q1 k4 (canLay_pd _ k1.1) room ⟨.bl _, H, I, rfl, by rw [any_pd _ k1.1 us k3]; exact c.here q hd mk_bl⟩
      | false => exact SeqAt.in_tuple_reads q2 q1 k4 (canLay_pd _ k1.1) room ⟨.bl _, H, I, rfl, by rw [any_pd _ k1.1 us k3]; exact c.here q hd mk_bl⟩
theorem uop_in (neg : Bool) (hW : WdsOk X W) (hu : X.A.units + 65 < cLine) : UOp X (compareOp (if neg then .NotIn else .In)) (uIn W neg) := uop_of fun pins s σ H x y v u Q ux uy M R I rx ry r1 r2 hd q c => by
  have gen : ((∃ us, seqOf M uy = some us ∧ InOk ux us ∧ R (.bl (if neg then !us.any fun z => eqU z ux else us.any fun z => eqU z ux)) M) ∨
    (∃ ks us k, dctOf M uy = some (ks, us) ∧ keyOf ux = some k ∧ R (.bl (if neg then !(lookU ks us k).isSome else (lookU ks us k).isSome)) M) ∨
    (∃ d kvs z, uy = .ref d ∧ W d = some kvs ∧ ux = .str z ∧ R (.bl (if neg then !(kvs.lookup z).isSome else (kvs.lookup z).isSome)) M)) → wpAny (model X.prog X.w) X.A (compareOp (if neg then .NotIn else .In) v u) (EP X pins σ Q) X.xe s := by
    rintro (⟨us, e, ok, q⟩ | ⟨ks, us, k, e, ek, q⟩ | ⟨d, kvs, z, rfl, e, rfl, qq⟩)
    · exact in_seq hu I rx ry r1 r2 hd e ok q c
    · obtain ⟨a, vs, rfl, hh, l, t⟩ := dctOf_rep hd r2 e
      have g : DGet H a x (valV (ks.zip vs) k) := by rw [keyOf_rep r1 ek]; exact DGet.k hh
      have e2 := (look_rep k l t).2
      cases ry
      cases neg with
      | true => exact d_notIn (by omega) I g rx fun s3 I3 => ⟨.bl _, H, I3, rfl, by rw [e2]; exact c.here q hd mk_bl⟩
      | false => exact d_in (by omega) I g rx fun s3 I3 => ⟨.bl _, H, I3, rfl, by rw [e2]; exact c.here q hd mk_bl⟩
    · obtain ⟨⟨es, n, D⟩, lk⟩ := hW _ _ e
      obtain ⟨o, e1, e2⟩ := lk z
      have e3 : o.isSome = (kvs.lookup z).isSome := by
        cases h : kvs.lookup z with
        | none => rw [h] at e2; rw [e2]; rfl
        | some w => rw [h] at e2; obtain ⟨u0, v0, e2, _⟩ := e2; rw [e2]; rfl
      cases neg with
      | true => exact op_notIn_kd D pins s σ H x y v u Q I rx ry ⟨z, o, rep_str r1, rep_ref r2, e1, by rw [e3]; exact c.here qq hd mk_bl⟩
      | false => exact op_in_kd D pins s σ H x y v u Q I rx ry ⟨z, o, rep_str r1, rep_ref r2, e1, by rw [e3]; exact c.here qq hd mk_bl⟩
  cases ux <;> cases uy <;> first
    | exact gen q
    | skip
  obtain ⟨cc, rfl, q⟩ := q
  cases neg with
  | true => exact op_notInS pins s σ H x y v u Q I rx ry ⟨cc, _, rep_str r1, rep_str r2, c.here q hd mk_bl⟩
  | false => exact op_inS pins s σ H x y v u Q I rx ry ⟨cc, _, rep_str r1, rep_str r2, c.here q hd mk_bl⟩
end
end Pu

/-! Pu, part 8: subscripts, slices. -/
namespace Pu
open PySem PySem.Spec PyProof.Rows L2 PySem.SeqAt

section rev
variable {prog : Program} {w : World} {A : Around} {E : Value → Shared → Prop} {s : Shared}
theorem adjust_back (n : Nat) : Builtin.Slice.sliceAdjust none none (-1) (n : Int) = ((n : Int) - 1, -1) := rfl
theorem places_back (n : Nat) : Builtin.Slice.slicePlaces ((n : Int) - 1) (-1) (-1) = n := by
  unfold Builtin.Slice.slicePlaces
  rw [if_neg (by decide)]
  by_cases h : (n : Int) - 1 > -1
  · rw [if_pos h, show -(-1 : Int) = 1 from rfl, Int.ediv_one]
    omega
  · rw [if_neg h]
    omega
theorem applied_back {sl : Addr} {t : Tok} {n : Nat} {Q : Int × Int × Nat → Shared → Prop} (hs : s.heap.IsSliceOf sl .none .none (.int (-1) t)) (h : Q ((n : Int) - 1, -1, n) s) :
    wpAny (model prog w) A (Builtin.Slice.sliceApplied (.ref sl) (pure (n : Int))) Q E s := by
  obtain ⟨ob, h1, _, h3⟩ := hs
  unfold Builtin.Slice.sliceApplied Builtin.Slice.sliceFields
  refine wpAny_bind (wpAny_bind (wpAny_field h1 h3 (x := .none) rfl (wpAny_bind (wpAny_field h1 h3 (x := .none) rfl (wpAny_bind (wpAny_field h1 h3 (x := .int (-1) t) rfl (wpAny_pure ?_)))))))
  refine wpAny_bind (slicePart_int ?_)
  show wpAny _ _ (if ((-1 : Int) == 0) = true then _ else _) _ _ s
  rw [if_neg (by decide)]
  refine wpAny_bind (slicePart_none (wpAny_bind (slicePart_none (wpAny_bind (wpAny_pure ?_)))))
  show wpAny _ _ (match Builtin.Slice.sliceAdjust none none (-1) (n : Int) with | (a, b) => pure (a, (-1 : Int), Builtin.Slice.slicePlaces a b (-1))) _ _ s
  rw [adjust_back]
  show wpAny _ _ (pure ((n : Int) - 1, (-1 : Int), Builtin.Slice.slicePlaces ((n : Int) - 1) (-1) (-1))) _ _ s
  rw [places_back]
  exact wpAny_pure h
theorem filterMap_some {α β : Type} {f : α → Option β} {k : α → β} : ∀ {l : List α}, (∀ x ∈ l, f x = some (k x)) → l.filterMap f = l.map k
  | [], _ => rfl
  | x :: l, h => by
    rw [List.filterMap_cons, h x List.mem_cons_self, List.map_cons, filterMap_some fun y hy => h y (List.mem_cons_of_mem _ hy)]
theorem map_getD {α : Type} (d : α) (l : List α) : (List.range l.length).map (fun k => l.getD k d) = l := by
  apply List.ext_getElem
  · simp
  · intro i h1 h2
    simp [List.getD_eq_getElem?_getD, List.getElem?_eq_getElem h2]
theorem pick_back (xs : Array Value) : ((List.range xs.size).filterMap fun (k : Nat) => xs[(((xs.size : Nat) : Int) - 1 + (k : Int) * -1).toNat]?).toArray = xs.toList.reverse.toArray := by
  congr 1
  have e : (List.range xs.size).filterMap (fun (k : Nat) => xs[(((xs.size : Nat) : Int) - 1 + (k : Int) * -1).toNat]?) = (List.range xs.size).map fun k => xs.toList.reverse.getD k .none := by
    apply filterMap_some
    intro k hk
    have hk' : k < xs.size := List.mem_range.mp hk
    have e1 : (((xs.size : Nat) : Int) - 1 + (k : Int) * -1).toNat = xs.size - 1 - k := by omega
    rw [e1, Array.getElem?_eq_getElem (by omega), List.getD_eq_getElem?_getD, List.getElem?_reverse (by simpa using hk')]
    simp [Array.getElem?_eq_getElem (show xs.size - 1 - k < xs.size by omega)]
  have e2 := map_getD Value.none xs.toList.reverse
  rw [List.length_reverse, Array.length_toList] at e2
  rw [e, e2]
theorem tup_back {t sl : Addr} {xs : Array Value} {tk : Tok} {Q : Value → Shared → Prop} (ht : IsTup s.heap t xs) (hs : s.heap.IsSliceOf sl .none .none (.int (-1) tk))
    (h : Q (.ref s.heap.objs.size) { s with heap := s.heap.push { cls := .type "tuple", data := .seq xs.toList.reverse.toArray } }) (hz : xs.size ≤ sizeLine) : wpAny (model prog w) A (getItem (.ref t) (.ref sl)) Q E s := by
  have hz2 : sizeOk (.seq xs.toList.reverse.toArray) := by
    show xs.toList.reverse.toArray.size ≤ sizeLine
    simpa using hz
  obtain ⟨ob, h1, h2, h3⟩ := id hs
  have hT : s.TypeIs (.ref sl) "slice" := ⟨ob, h1, h2⟩
  unfold getItem
  try with_reducible refine wpAny_holding ?_
  first | refine wpAny_bind (wpAny_pure ?_) | skip
  refine wpAny_bind (wpAny_sequenceKey ht.typeIs (by decide) ?_)
  refine wpAny_bind (wpAny_callSpecial?_slot (name := Str.ofString "__getitem__") ht.typeIs PyProof.Rows.slot_tuple_getitem
    (wpAny_call_entry PyProof.Rows.slot_tuple_getitem ht.typeIs PyProof.Rows.entry_tuple_getitem ?_ (PyProof.Rows.args_tuple_getitem _ _)))
  show wpAny _ _ (Builtin.Tuple.tupleItemsOf (.ref t) >>= _) _ _ s
  refine wpAny_bind (tupleItemsOf_ ht ?_)
  refine wpAny_bind (wpAny_typeOf hT ?_)
  rw [if_pos (by decide)]
  refine wpAny_bind (applied_back (n := xs.size) hs ?_)
  show wpAny _ _ (if (((xs.size : Nat) : Int) - 1 == 0 && (-1 : Int) == 1 && xs.size == xs.size) = true then _ else _) _ _ s
  rw [if_neg (by simp), pick_back]
  first
    | exact wpAny_bind (m := Builtin.Tuple.tupleExact _) (wpAny_newObj_type (wpAny_pure ⟨_, rfl, wpAny_pure h⟩) hz2)
    | exact wpAny_bind (m := Builtin.Tuple.tupleExact _) (wpAny_newObj_type (wpAny_bind (wpAny_pure (wpAny_pure ⟨_, rfl, wpAny_pure h⟩))) hz2)
    | exact wpAny_bind (wpAny_bind (m := Builtin.Tuple.tupleExact _) (wpAny_newObj_type (wpAny_pure (wpAny_pure ⟨_, rfl, wpAny_pure h⟩)) hz2))
    | exact wpAny_bind (wpAny_bind (m := Builtin.Tuple.tupleExact _) (wpAny_newObj_type (wpAny_pure ⟨_, rfl, wpAny_pure h⟩) hz2))
end rev

/-! ### x[i] -/
section
variable {X : Cx} {W : WD} {g : Gd} {a b e : Expr} {ta tb te : WE} {pos p2 : Pos}
def UIx (X : Cx) (o : O2) : Prop := IxR X (liftO X.K o)
def dItem (ks : List Key) (us : List U) (y : U) (M : Mp) (R : UK) : Prop := ∃ k u, keyOf y = some k ∧ lookU ks us k = some u ∧ R u M
def lItem (us : List U) (y : U) (M : Mp) (R : UK) : Prop := ∃ i u, y = .int i ∧ atI us i = some u ∧ R u M
def uIdx (W : WD) : O2
  | .tup us, y, M, R => lItem us y M R
  | .lst us, y, M, R => lItem us y M R
  | .dct ks us, y, M, R => dItem ks us y M R
  | .str z, y, M, R => z.length ≤ sizeLine ∧ ∃ i c, y = .int i ∧ atI z.cps.toList i = some c ∧ R (.str ⟨#[c]⟩) M
  | .ref d, y, M, R => match M d with
    | some (.lst us) => lItem us y M R
    | some (.dct ks us) => dItem ks us y M R
    | some (.hid _) => False
    | none => ∃ kvs z u, W d = some kvs ∧ y = .str z ∧ kvs.lookup z = some u ∧ R u M
  | _, _, _, _ => False
theorem at_rep {K : PySem.W.Frag} {M : Mp} {H : Hp} {us : List U} {vs : List V} {i : Int} {u : U} (r : RepVs K M H us vs) (e : atI us i = some u) : ∃ v, atI vs i = some v ∧ RepV K M H u v := by
  unfold atI at e ⊢
  rw [← r.length]
  cases q : ixN us.length i with
  | none => rw [q] at e; cases e
  | some j =>
    rw [q] at e
    exact r.get e
theorem uix (hW : WdsOk X W) (hu : X.A.units + 65 < cLine) : UIx X (uIdx W) := by
  intro value slice pins s σ H x y v u Q I rx ry ⟨ux, uy, M, R, r1, r2, hd, q, c⟩ hs
  have seq : ∀ us, seqOf M ux = some us → lItem us uy M R → wpAny (model X.prog X.w) X.A (subscriptTail value slice v u) (EP X pins σ Q) X.xe s := fun us e ⟨i, w, e1, e2, qq⟩ => by
    obtain ⟨p, vs, rfl, h, t⟩ := seqOf_rep hd r1 e
    subst e1
    obtain ⟨vv, e3, r3⟩ := at_rep t e2
    rcases h with h | h
    · exact ix_list value slice pins s σ H _ _ v u Q I rx ry ⟨p, vs, i, vv, rfl, rep_int r2, h, e3, c.here qq hd r3⟩ hs
    · exact ix_tup value slice pins s σ H _ _ v u Q I rx ry ⟨p, vs, i, vv, rfl, rep_int r2, h, e3, c.here qq hd r3⟩ hs
  have dct : ∀ ks us, dctOf M ux = some (ks, us) → dItem ks us uy M R → wpAny (model X.prog X.w) X.A (subscriptTail value slice v u) (EP X pins σ Q) X.xe s := fun ks us e ⟨k, w, e1, e2, q⟩ => by
    obtain ⟨p, vs, rfl, hh, l, t⟩ := dctOf_rep hd r1 e
    obtain ⟨vv, e3, r3⟩ := (look_rep k l t).1 w e2
    have gg : DGet H p y (some vv) := by rw [keyOf_rep r2 e1, ← e3]; exact DGet.k hh
    cases rx
    exact tail_any (dict_typeIs I gg) PySem.F.slot_dict_getitem.lookup (d_getItem (by omega) I gg ry fun w' s3 I3 rw' => ⟨vv, H, I3, rw', c.here q hd r3⟩) hs
  cases ux with
  | tup us => exact seq us rfl q
  | lst us => exact seq us rfl q
  | dct ks us => exact dct ks us rfl q
  | str z =>
    obtain ⟨hz, i, cc, rfl, e, q⟩ := q
    exact ix_str value slice pins s σ H x y v u Q I rx ry ⟨z, i, cc, rep_str r1, rep_int r2, hz, e, c.here q hd mk_str⟩ hs
  | ref d =>
    cases m : M d with
    | some o =>
      cases o with
      | lst us => simp only [uIdx, m] at q; exact seq us (by simp [seqOf, lstOf, m]) q
      | dct ks us => simp only [uIdx, m] at q; exact dct ks us (by simp [dctOf, m]) q
      | hid P => simp [uIdx, m] at q
    | none =>
      simp only [uIdx, m] at q
      obtain ⟨kvs, z, w, e1, rfl, e2, q⟩ := q
      obtain ⟨⟨es, n, D⟩, lk⟩ := hW _ _ e1
      obtain ⟨o, e3, e4⟩ := lk z
      rw [e2] at e4
      obtain ⟨u0, v0, rfl, rv, rr⟩ := e4
      exact ix_kdict value slice pins s σ H x y v u Q I rx ry ⟨d, z, v0, rep_ref r1, rep_str r2, ⟨es, n, u0, D.at_, D.lit, e3, rv⟩, c.here q hd (rr _ _)⟩ hs
  | _ => exact q.elim
theorem j_idx {o : O2} (hr : UIx X o) (ha : JE X g a ta) (hb : JE X g b tb) (hs : PlainIx b) : JE X g (.Subscript a b pos) (wBin o ta tb) := pe_imp (pe_ix hr ha hb hs) fun σ H Q h => two h

/-! ### x[lo:hi] -/
def cutU {α : Type} (xs : List α) (lo hi : Option Int) : List α := (xs.drop (HT.sIx xs.length 0 lo)).take (HT.sIx xs.length xs.length hi - HT.sIx xs.length 0 lo)
def cutStr (z : Str) (lo hi : Option Int) : Str := ⟨(cutU z.cps.toList lo hi).toArray⟩
theorem cutStr_eq (z : Str) (lo hi : Option Int) : cutStr z lo hi = cutS z lo hi := by
  unfold cutStr cutS cutU Str.length
  simp
theorem cut_rep {K : PySem.W.Frag} {M : Mp} {H : Hp} {us : List U} {vs : List V} (r : RepVs K M H us vs) (lo hi : Option Int) : RepVs K M H (cutU us lo hi) (cutV vs lo hi) := by
  unfold cutU cutV
  rw [r.length]
  exact (r.drop _).take _
theorem cutV_whole {vs : List V} {lo hi : Option Int} (h : HT.sIx vs.length 0 lo = 0 ∧ HT.sIx vs.length vs.length hi = vs.length) : cutV vs lo hi = vs := by
  unfold cutV
  rw [h.1, h.2]
  simp
def uSl : U → Option Int → Option Int → Mp → UK → Prop
  | .tup us, lo, hi, M, R => R (.tup (cutU us lo hi)) M
  | .str z, lo, hi, M, R => z.length ≤ sizeLine ∧ R (.str (cutStr z lo hi)) M
  | u, lo, hi, M, R => ∃ us, lstOf M u = some us ∧ R (.lst (cutU us lo hi)) M
def liftSl (K : PySem.W.Frag) (o : U → Option Int → Option Int → Mp → UK → Prop) : V → Option Int → Option Int → Hp → VK → Prop := fun x lo hi H Q => ∃ ux M R, RepV K M H ux x ∧ RepM K M H ∧ o ux lo hi M R ∧ Cl K M H R Q
theorem sl_tupF : SlR X (fun x lo hi H Q => ∃ a xs, x = .ref a ∧ SqT X.K H a xs ∧
    (HT.sIx xs.length 0 lo = 0 ∧ HT.sIx xs.length xs.length hi = xs.length → Q (.ref a) H) ∧ (¬ (HT.sIx xs.length 0 lo = 0 ∧ HT.sIx xs.length xs.length hi = xs.length) → ∀ p o, o.dict = none → H p = none → Q (.ref p) (upd H p (.frz o (.tup (cutV xs lo hi)))))) := by
  intro pins s σ H x v vl vu lo hi sl Q I rx hs pl pu h
  obtain ⟨a, xs, rfl, hx, q1, q2⟩ := h
  cases rx
  obtain ⟨its, r, ht, hz⟩ := I.tuple hx
  have hlen : its.toArray.size = xs.length := by rw [List.size_toArray]; exact r.length.symm
  refine ⟨"tuple", _, PyProof.Rows.slot_tuple_getitem.lookup, ht.typeIs, ?_⟩
  by_cases hw : HT.sIx xs.length 0 lo = 0 ∧ HT.sIx xs.length xs.length hi = xs.length
  · exact getItem_tuple_whole ht hs pl pu (by rw [hlen]; exact hw) ⟨.ref a, H, I, rfl, q1 hw⟩
  · have q2' := q2 hw
    refine HT.getItem_tuple_cut ht hs pl pu (by rw [hlen]; exact hw) ?_ (by rw [hlen]; exact hz)
    rw [hlen]
    exact laidF I ((r.drop (HT.sIx xs.length 0 lo)).take (HT.sIx xs.length xs.length hi - HT.sIx xs.length 0 lo)) (Nat.le_trans (cutV_length xs lo hi) hz) q2'
theorem usl : SlR X (liftSl X.K uSl) := by
  intro pins s σ H x v vl vu lo hi sl Q I rx hs pl pu ⟨ux, M, R, r1, hd, q, c⟩
  have lst : (∃ us, lstOf M ux = some us ∧ R (.lst (cutU us lo hi)) M) → ∃ T id, typeLookup (.type T) "__getitem__" = pure (some (.builtin id)) ∧ s.TypeIs v T ∧ wpAny (model X.prog X.w) X.A (getItem v (.ref sl)) (EP X pins σ Q) X.xe s := fun ⟨us, e, q⟩ => by
    obtain ⟨p, vs, rfl, h, t⟩ := lstOf_sq hd r1 e
    exact sl_list pins s σ H _ v vl vu lo hi sl Q I rx hs pl pu ⟨p, vs, rfl, h, fun p hp => c.at_ q (Stp.new hd hp) (hd.new hp) (new_lst hd hp (cut_rep t lo hi))⟩
  cases ux with
  | tup us =>
    obtain ⟨p, vs, rfl, h, t⟩ := rep_tup r1
    refine sl_tupF pins s σ H _ v vl vu lo hi sl Q I rx hs pl pu ⟨p, vs, rfl, h.sq, fun hw => ?_, fun _ p o ho hp => c.at_ q (Stp.new hd hp) (hd.new hp) (new_tup hd hp ho (cut_rep t lo hi))⟩
    refine c.here q hd (mk_tup h ?_)
    have := cut_rep t lo hi
    rw [cutV_whole hw] at this
    exact this
  | str z =>
    obtain ⟨hz, q⟩ := q
    exact sl_str pins s σ H x v vl vu lo hi sl Q I rx hs pl pu ⟨z, rep_str r1, hz, by rw [← cutStr_eq]; exact c.here q hd mk_str⟩
  | _ => exact lst q
/-- a bound that is told, or none -/
def wOpt (t : Option WE) : Sg → Mp → (Option Int → Mp → Prop) → Prop := fun su M R => match t with
  | none => R none M
  | some t => t su M fun u M1 => ∃ i, u = .int i ∧ R (some i) M1
def wSl (te : WE) (tl th : Option WE) : WE := fun su M R => te su M fun x M1 => wOpt tl su M1 fun lo M2 => wOpt th su M2 fun hi M3 => uSl x lo hi M3 R
def JO (X : Cx) (g : Gd) : Option Expr → Option WE → Prop
  | none, none => True
  | some e, some t => JE X g e t
  | _, _ => False
theorem po_of {lo : Option Expr} {tl : Option WE} (h : JO X g lo tl) : PO X lo (fun σ H Q => ∃ su M R, At X.K g su M σ H ∧ wOpt tl su M R ∧ ∀ o M' H', R o M' → Stp M H M' H' → RepM X.K M' H' → Q o H') := by
  cases lo with
  | none =>
    cases tl with
    | none => exact ⟨fun pins s σ H Q I ⟨su, M, R, a, q, c⟩ => po_none.run pins s σ H Q I (c none M H q (Stp.refl _ _) a.hd)⟩
    | some t => exact h.elim
  | some e =>
    cases tl with
    | none => exact h.elim
    | some t =>
      refine ⟨fun pins s σ H Q I ⟨su, M, R, a, q, c⟩ => (po_some (te := liftE X.K g t) h).run pins s σ H Q I ⟨su, M, _, a, q, fun u M1 v H1 ⟨i, e, q1⟩ s1 d1 r1 => ?_⟩⟩
      subst e
      exact ⟨i, rep_int r1, c _ _ _ q1 s1 d1⟩
theorem j_slice {lo hi : Option Expr} {tl th : Option WE} (he : JE X g e te) (hl : JO X g lo tl) (hu : JO X g hi th) : JE X g (.Subscript e (.Slice lo hi none p2) pos) (wSl te tl th) :=
  pe_imp (pe_slice usl he (po_of hl) (po_of hu)) fun σ H Q ⟨su, M, R, a, h, c⟩ => ⟨su, M, _, a, h, fun x M1 v H1 q1 s1 d1 r1 => ⟨su, M1, _, a.go s1 d1, q1, fun l M2 H2 q2 s2 d2 => ⟨su, M2, _, (a.go s1 d1).go s2 d2, q2, fun o M3 H3 q3 s3 d3 =>
    ⟨x, M3, R, (r1.step s2).step s3, d3, q3, ((c.go s1).go s2).go s3⟩⟩⟩⟩

/-! ### x[::-1] -/
def uBack : O1
  | .tup us, M, R => R (.tup us.reverse) M
  | u, M, R => ∃ us, lstOf M u = some us ∧ R (.lst us.reverse) M
theorem pe_back {k : Nat} {p1 p3 p4 : Pos} {t : TE} (he : PE X e t) : PE X (.Subscript e (.Slice none none (some (.UnaryOp .USub (.Constant (.int 1) k p1) p3)) p4) pos) (fun σ H Q => t σ H fun x H1 =>
    (∃ a xs, x = .ref a ∧ SqL X.K H1 a xs ∧ ∀ p, H1 p = none → Q (.ref p) (upd H1 p (.lst xs.reverse))) ∨ (∃ a xs, x = .ref a ∧ SqT X.K H1 a xs ∧ ∀ p o, o.dict = none → H1 p = none → Q (.ref p) (upd H1 p (.frz o (.tup xs.reverse))))) := by
  refine ⟨fun pins s σ H Q I h => ?_⟩
  refine Subscript_ (thn (he.run pins s σ H _ I h) fun v s1 ⟨x, H1, I1, r1, q1⟩ => ?_)
  have hst : PO X (some (.UnaryOp .USub (.Constant (.int 1) k p1) p3)) (tPart (tUn (rU fun i => .int (-i)) (tC (.int 1)))) := po_some (pe_un un_neg pe_int)
  refine wpAny_Slice (thn (po_none.run pins s1 σ H1 (fun o H2 => o = none ∧ H2 = H1) I1 ⟨rfl, rfl⟩) fun vl s2 ⟨l, H2, I2, pl, el, e2⟩ => ?_)
  subst el e2
  refine thn (po_none.run pins s2 σ H2 (fun o H3 => o = none ∧ H3 = H2) I2 ⟨rfl, rfl⟩) fun vu s3 ⟨u, H3, I3, pu, eu, e3⟩ => ?_
  subst eu e3
  refine thn (hst.run pins s3 σ H3 (fun o H4 => o = some (-1) ∧ H4 = H3) I3 ⟨1, rfl, -1, rfl, rfl, rfl⟩) fun vs s4 ⟨o, H4, I4, ps, eo, e4⟩ => ?_
  subst eo e4
  have I5 : Inv X pins σ H4 { s4 with heap := s4.heap.push { cls := .type "slice", data := .fields #[vl, vu, vs] } } := I4.kept (t' := s4.toks) fun b ob q => Heap.get?_push_of_some _ q
  rcases q1 with ⟨a, xs, rfl, hx, q⟩ | ⟨a, xs, rfl, hx, q⟩
  · obtain rfl : v = Value.ref a := r1
    obtain ⟨its, r, ht, hz⟩ := I5.list hx
    have hlen := r.length
    refine tail_any (ops := [.ref a, .ref s4.heap.objs.size]) ht.isList.typeIs (PySem.slot_list_getitem.lookup) ?_ (by with_unfolding_all rfl)
    refine wpAny_getItem_list_slice ht.isList (Heap.IsSliceOf.new _ vl vu vs) pl pu ps (by decide) ?_ (by rw [List.size_toArray]; omega)
    rw [PySem.W.krv_pick]
    refine ⟨.ref _, _, I5.laid (t' := s4.toks) (o := .lst xs.reverse) (fun b ob q => Heap.get?_push_of_some _ q) (Nat.le_refl _) ?_, rfl, q _ I5.fresh⟩
    exact ⟨by simpa using hz, _, 0, r.reverse, Heap.get?_push_size _ rfl⟩
  · obtain rfl : v = Value.ref a := r1
    obtain ⟨its, r, ht, hz⟩ := I5.tuple hx
    have hlen := r.length
    refine tail_any (ops := [.ref a, .ref s4.heap.objs.size]) ht.typeIs (PyProof.Rows.slot_tuple_getitem.lookup) ?_ (by with_unfolding_all rfl)
    cases pl
    cases pu
    cases ps
    refine tup_back ht (Heap.IsSliceOf.new _ _ _ _) ?_ (by rw [List.size_toArray]; omega)
    exact laidF I5 r.reverse (by simpa using hz) q
theorem j_back {k : Nat} {p1 p3 p4 : Pos} (he : JE X g e te) : JE X g (.Subscript e (.Slice none none (some (.UnaryOp .USub (.Constant (.int 1) k p1) p3)) p4) pos) (wUn uBack te) :=
  pe_imp (pe_back he) fun σ H Q ⟨su, M, R, a, h, c⟩ => ⟨su, M, _, a, h, fun x M1 v H1 q s1 d1 r1 => by
    have lst : (∃ us, lstOf M1 x = some us ∧ R (.lst us.reverse) M1) → (∃ a xs, v = .ref a ∧ SqL X.K H1 a xs ∧ ∀ p, H1 p = none → Q (.ref p) (upd H1 p (.lst xs.reverse))) := fun ⟨us, e, q⟩ => by
      obtain ⟨p, vs, rfl, h, t⟩ := lstOf_sq d1 r1 e
      exact ⟨p, vs, rfl, h, fun p hp => c.at_ q (s1.trans (Stp.new d1 hp)) (d1.new hp) (new_lst d1 hp t.rev)⟩
    cases x with
    | tup us =>
      obtain ⟨p, vs, rfl, h, t⟩ := rep_tup r1
      exact .inr ⟨p, vs, rfl, h.sq, fun p o ho hp => c.at_ q (s1.trans (Stp.new d1 hp)) (d1.new hp) (new_tup d1 hp ho t.rev)⟩
    | _ => exact .inl (lst q)⟩
end
end Pu

/-! Pu, part 9: built-ins by values. -/
namespace Pu
open PySem PySem.Spec PyProof.Rows L2 PySem.SeqAt

/-- a built-in's answer, by values -/
abbrev OC := List U → Mp → UK → Prop
def liftC (K : PySem.W.Frag) (o : OC) : List V → Hp → VK → Prop := fun xs H Q => ∃ us M R, RepVs K M H us xs ∧ RepM K M H ∧ o us M R ∧ Cl K M H R Q
def UCal (X : Cx) (f : Value) (o : OC) : Prop := CallR X f (liftC X.K o)
def wCB (o : OC) (t : WA) : WE := fun su M R => t su M fun us M1 => o us M1 R
theorem call_imp {X : Cx} {f : Value} {r r' : List V → Hp → VK → Prop} (h : CallR X f r) (i : ∀ xs H Q, r' xs H Q → r xs H Q) : CallR X f r' := fun pins s σ H xs us Q I rx q => h pins s σ H xs us Q I rx (i _ _ _ q)
theorem RepVs.one {K : PySem.W.Frag} {M : Mp} {H : Hp} {u : U} {xs : List V} (h : RepVs K M H [u] xs) : ∃ v, xs = [v] ∧ RepV K M H u v := by
  obtain ⟨v, r, e, h1, h2⟩ := h.uncons
  rw [h2.nil_inv] at e
  exact ⟨v, e, h1⟩
theorem RepVs.two {K : PySem.W.Frag} {M : Mp} {H : Hp} {u w : U} {xs : List V} (h : RepVs K M H [u, w] xs) : ∃ v y, xs = [v, y] ∧ RepV K M H u v ∧ RepV K M H w y := by
  obtain ⟨v, r, e, h1, h2⟩ := h.uncons
  obtain ⟨y, e2, h3⟩ := h2.one
  exact ⟨v, y, by rw [e, e2], h1, h3⟩
section
variable {X : Cx} {g : Gd} {e : Expr} {es : List Expr} {tr : WA} {o : OC} {x : Str} {p pos : Pos} {id : String}
theorem j_callB (hc : UCal X (.builtin id) o) (hg : Gl X x) (hm : X.mg x = none) (hv : bootBuiltins x = some (.builtin id)) (ha : JA X g (e :: es) tr) (hn : x ≠ "__name__") (hdb : (x == ("__debug__" : Str)) = false)
    (he : starEach (e :: es) X.env = (false, eval e X.env) :: starEach es X.env) (hpl : (backTo pos (starEach es X.env)).any (·.1) = false) : JE X g (.Call (.Name x p) (e :: es) [] pos) (wCB o tr) :=
  pe_imp (pe_callB hc hg hm hv ha hn hdb he hpl) fun σ H Q ⟨su, M, R, a, h, c⟩ => ⟨su, M, _, a, h, fun us M1 vs H1 q s1 d1 r1 => ⟨us, M1, R, r1, d1, q, c.go s1⟩⟩
theorem j_callTy (hc : UCal X (.type id) o) (hg : Gl X x) (hm : X.mg x = none) (hv : bootBuiltins x = some (.type id)) (ha : JA X g (e :: es) tr) (hn : x ≠ "__name__") (hdb : (x == ("__debug__" : Str)) = false)
    (he : starEach (e :: es) X.env = (false, eval e X.env) :: starEach es X.env) (hpl : (backTo pos (starEach es X.env)).any (·.1) = false) : JE X g (.Call (.Name x p) (e :: es) [] pos) (wCB o tr) :=
  pe_imp (pe_callTy hc hg hm hv ha hn hdb he hpl) fun σ H Q ⟨su, M, R, a, h, c⟩ => ⟨su, M, _, a, h, fun us M1 vs H1 q s1 d1 r1 => ⟨us, M1, R, r1, d1, q, c.go s1⟩⟩
/-- a type's name as a value -/
theorem j_ty {n : String} (hg : Gl X x) (hm : X.mg x = none) (hv : bootBuiltins x = some (.type n)) (hn : x ≠ "__name__") (hdb : (x == ("__debug__" : Str)) = false) : JE X g (.Name x pos) (wC (.ty n)) :=
  pe_imp (pe_bltn (v := .ty n) hg hm hv rfl hn hdb) fun σ H Q ⟨su, M, R, a, h, c⟩ => c.here h a.hd mk_ty

/-! ### len -/
def lenU (M : Mp) : U → Option Nat
  | .str z => if z.length ≤ sizeLine then some z.length else none
  | .dct ks _ => some ks.length
  | .tup us => some us.length
  | .lst us => some us.length
  | .ref a => match M a with
    | some (.lst us) => some us.length
    | some (.dct ks _) => some ks.length
    | some (.hid _) => none
    | none => none
  | _ => none
def uLen : OC := fun us M R => ∃ u n, us = [u] ∧ lenU M u = some n ∧ R (.int (n : Int)) M
theorem call_or {f : Value} {r r' : List V → Hp → VK → Prop} (h : CallR X f r) (h' : CallR X f r') : CallR X f (fun xs H Q => r xs H Q ∨ r' xs H Q) := fun pins s σ H xs us Q I rx q => q.elim (h pins s σ H xs us Q I rx) (h' pins s σ H xs us Q I rx)
theorem ucal_len : UCal X (.builtin "len") uLen := call_imp (call_or call_len call_lenD) fun xs H Q ⟨us, M, R, r, hd, ⟨u, n, eu, en, q⟩, c⟩ => by
  subst eu
  obtain ⟨v, rfl, r1⟩ := r.one; replace r := r1
  have seq : ∀ ws, seqOf M u = some ws → n = ws.length → (∃ x n, [v] = [x] ∧ LenV X.K x H n ∧ Q (.int n) H) := fun ws e en => by
    obtain ⟨a, vs, rfl, h, t⟩ := seqOf_rep hd r e
    refine ⟨_, vs.length, rfl, ?_, ?_⟩
    · rcases h with h | h
      · exact .inl ⟨vs, h, rfl⟩
      · exact .inr ⟨vs, h, rfl⟩
    · rw [← t.length, ← en]
      exact c.here q hd mk_int
  have dct : ∀ ks ws, dctOf M u = some (ks, ws) → n = ks.length → (∃ a kvs, [v] = [V.ref a] ∧ H a = some (.dK kvs) ∧ Q (.int kvs.length) H) := fun ks ws e en => by
    obtain ⟨a, vs, rfl, h, l, t⟩ := dctOf_rep hd r e
    refine ⟨a, _, rfl, h, ?_⟩
    rw [List.length_zip, ← l, Nat.min_self, ← en]
    exact c.here q hd mk_int
  cases u with
  | str z =>
    simp only [lenU] at en
    split at en
    · rename_i hz
      cases en
      rw [rep_str r]
      exact .inl ⟨_, _, rfl, ⟨hz, rfl⟩, c.here q hd mk_int⟩
    · cases en
  | tup ws => exact .inl (seq ws rfl (by simpa [lenU] using en.symm))
  | lst ws => exact .inl (seq ws rfl (by simpa [lenU] using en.symm))
  | dct ks ws => exact .inr (dct ks ws rfl (by simpa [lenU] using en.symm))
  | ref a =>
    cases m : M a with
    | none => simp [lenU, m] at en
    | some oo =>
      cases oo with
      | lst ws => exact .inl (seq ws (by simp [seqOf, lstOf, m]) (by simpa [lenU, m] using en.symm))
      | dct ks ws => exact .inr (dct ks ws (by simp [dctOf, m]) (by simpa [lenU, m] using en.symm))
      | hid P => simp [lenU, m] at en
  | _ => simp [lenU] at en

/-! ### int, max, min, sum, any, all -/
def uInt1 : OC := fun us M R => (∃ i, us = [.int i] ∧ R (.int i) M) ∨ ∃ k, us = [.bl k] ∧ R (.int (if k then 1 else 0)) M
theorem ucal_int : UCal X (.type "int") uInt1 := call_imp call_int1 fun xs H Q ⟨us, M, R, r, hd, q, c⟩ => by
  rcases q with ⟨i, rfl, q⟩ | ⟨k, rfl, q⟩
  · obtain ⟨v, rfl, r1⟩ := r.one; replace r := r1
    rw [rep_int r]
    exact .inl ⟨i, rfl, c.here q hd mk_int⟩
  · obtain ⟨v, rfl, r1⟩ := r.one; replace r := r1
    rw [rep_bl r]
    exact .inr ⟨k, rfl, c.here q hd mk_int⟩
def intsU (M : Mp) (u : U) (ns : List Int) : Prop := lstOf M u = some (ns.map .int)
def blsU (M : Mp) (u : U) (bs : List Bool) : Prop := lstOf M u = some (bs.map .bl)
theorem ints_rep {M : Mp} {H : Hp} (hd : RepM X.K M H) {u : U} {v : V} (r : RepV X.K M H u v) {ns : List Int} (e : intsU M u ns) : ∃ a, v = .ref a ∧ SqL X.K H a (ns.map V.int) := by
  obtain ⟨a, vs, e1, h, t⟩ := lstOf_sq hd r e
  refine ⟨a, e1, ?_⟩
  have : vs = ns.map V.int := by
    have q := t.vmap (f := fun u => match u with | .int i => V.int i | _ => V.non) fun w hw v hv => by
      obtain ⟨i, _, rfl⟩ := List.mem_map.mp hw
      exact rep_int hv
    rw [q, List.map_map]
    rfl
  rwa [this] at h
theorem bls_rep {M : Mp} {H : Hp} (hd : RepM X.K M H) {u : U} {v : V} (r : RepV X.K M H u v) {ns : List Bool} (e : blsU M u ns) : ∃ a, v = .ref a ∧ SqL X.K H a (ns.map V.bl) := by
  obtain ⟨a, vs, e1, h, t⟩ := lstOf_sq hd r e
  refine ⟨a, e1, ?_⟩
  have : vs = ns.map V.bl := by
    have q := t.vmap (f := fun u => match u with | .bl i => V.bl i | _ => V.non) fun w hw v hv => by
      obtain ⟨i, _, rfl⟩ := List.mem_map.mp hw
      exact rep_bl hv
    rw [q, List.map_map]
    rfl
  rwa [this] at h
theorem strs_rep {M : Mp} {H : Hp} {us : List Str} {vs : List V} (t : RepVs X.K M H (us.map .str) vs) : vs = us.map V.str := by
  have q := t.vmap (f := fun u => match u with | .str i => V.str i | _ => V.non) fun w hw v hv => by
    obtain ⟨i, _, rfl⟩ := List.mem_map.mp hw
    exact rep_str hv
  rw [q, List.map_map]
  rfl
theorem reps_of_strs {M : Mp} {H : Hp} : ∀ us : List Str, RepVs X.K M H (us.map .str) (us.map V.str)
  | [] => .nil
  | u :: us => .cons mk_str (reps_of_strs us)
theorem reps_of_ints {M : Mp} {H : Hp} : ∀ us : List Int, RepVs X.K M H (us.map .int) (us.map V.int)
  | [] => .nil
  | u :: us => .cons mk_int (reps_of_ints us)
def uSum : OC := fun us M R => ∃ u ns, us = [u] ∧ intsU M u ns ∧ R (.int ns.sum) M
theorem ucal_sum (hc : X.calm = true) : UCal X (.builtin "sum") uSum := call_imp (cr_sum hc) fun xs H Q ⟨us, M, R, r, hd, ⟨u, ns, eu, en, q⟩, c⟩ => by
  subst eu
  obtain ⟨v, rfl, r1⟩ := r.one; replace r := r1
  obtain ⟨a, rfl, h⟩ := ints_rep hd r en
  exact ⟨a, ns, rfl, h, c.here q hd mk_int⟩
def uMax : OC := fun us M R => (∃ u ns, us = [u] ∧ intsU M u ns ∧ ns ≠ [] ∧ ∀ m, m ∈ ns → (∀ y, y ∈ ns → y ≤ m) → R (.int m) M) ∨ ∃ i j : Int, us = [.int i, .int j] ∧ R (.int (max i j)) M
def uMin : OC := fun us M R => (∃ u ns, us = [u] ∧ intsU M u ns ∧ ns ≠ [] ∧ ∀ m, m ∈ ns → (∀ y, y ∈ ns → m ≤ y) → R (.int m) M) ∨ ∃ i j : Int, us = [.int i, .int j] ∧ R (.int (min i j)) M
theorem ucal_max (hc : X.calm = true) : UCal X (.builtin "max") uMax := call_imp (call_or (cr_max hc) (call_max2 hc)) fun xs H Q ⟨us, M, R, r, hd, q, c⟩ => by
  rcases q with ⟨u, ns, rfl, en, hn, q⟩ | ⟨i, j, rfl, q⟩
  · obtain ⟨v, rfl, r1⟩ := r.one; replace r := r1
    obtain ⟨a, rfl, h⟩ := ints_rep hd r en
    exact .inl ⟨a, ns, rfl, h, List.length_pos_iff.mpr hn, fun m h1 h2 => c.here (q m h1 h2) hd mk_int⟩
  · obtain ⟨v, w, rfl, r1, r2⟩ := r.two
    rw [rep_int r1, rep_int r2]
    refine .inr ⟨i, j, rfl, ?_⟩
    rw [show (if j > i then j else i) = max i j by split <;> omega]
    exact c.here q hd mk_int
theorem ucal_min (hc : X.calm = true) : UCal X (.builtin "min") uMin := call_imp (call_or (cr_min hc) (call_min2 hc)) fun xs H Q ⟨us, M, R, r, hd, q, c⟩ => by
  rcases q with ⟨u, ns, rfl, en, hn, q⟩ | ⟨i, j, rfl, q⟩
  · obtain ⟨v, rfl, r1⟩ := r.one; replace r := r1
    obtain ⟨a, rfl, h⟩ := ints_rep hd r en
    exact .inl ⟨a, ns, rfl, h, List.length_pos_iff.mpr hn, fun m h1 h2 => c.here (q m h1 h2) hd mk_int⟩
  · obtain ⟨v, w, rfl, r1, r2⟩ := r.two
    rw [rep_int r1, rep_int r2]
    refine .inr ⟨i, j, rfl, ?_⟩
    rw [show (if j < i then j else i) = min i j by split <;> omega]
    exact c.here q hd mk_int
def uAll : OC := fun us M R => ∃ u bs, us = [u] ∧ blsU M u bs ∧ R (.bl (bs.all fun b => b)) M
def uAny : OC := fun us M R => ∃ u bs, us = [u] ∧ blsU M u bs ∧ R (.bl (bs.any fun b => b)) M
theorem ucal_all (hc : X.calm = true) : UCal X (.builtin "all") uAll := call_imp (cr_all hc) fun xs H Q ⟨us, M, R, r, hd, ⟨u, bs, eu, en, q⟩, c⟩ => by
  subst eu
  obtain ⟨v, rfl, r1⟩ := r.one; replace r := r1
  obtain ⟨a, rfl, h⟩ := bls_rep hd r en
  exact ⟨a, bs, rfl, h, c.here q hd mk_bl⟩
theorem ucal_any (hc : X.calm = true) : UCal X (.builtin "any") uAny := call_imp (cr_any hc) fun xs H Q ⟨us, M, R, r, hd, ⟨u, bs, eu, en, q⟩, c⟩ => by
  subst eu
  obtain ⟨v, rfl, r1⟩ := r.one; replace r := r1
  obtain ⟨a, rfl, h⟩ := bls_rep hd r en
  exact ⟨a, bs, rfl, h, c.here q hd mk_bl⟩

/-! ### tuple, list -/
theorem call_tupleF : CallR X (.type "tuple") (fun xs H Q => ∃ p ys, xs = [.ref p] ∧ ((SqL X.K H p ys ∧ ∀ l o, o.dict = none → H l = none → Q (.ref l) (upd H l (.frz o (.tup ys)))) ∨ (SqT X.K H p ys ∧ Q (.ref p) H))) := by
  intro pins s σ H xs us Q I r h
  obtain ⟨p, ys, rfl, h⟩ := h
  obtain ⟨u, rfl, rx⟩ := vals1 r
  rcases h with ⟨hq, q⟩ | ⟨hq, q⟩
  · cases rx
    obtain ⟨its, r', pl, hz⟩ := I.list hq
    have hlen := r'.length
    refine call_tuple_list pl.isList (fun h' kp => ?_) (by simp only [List.size_toArray] <;> omega)
    have I1 : Inv X pins σ H { s with heap := h' } := I.kept (t' := s.toks) kp
    have I2 : Inv X pins σ (upd H h'.objs.size (.frz { cls := .type "tuple", data := .seq its.toArray } (.tup ys))) { s with heap := h'.push { cls := .type "tuple", data := .seq its.toArray } } :=
      I1.laid (t' := s.toks) (fun b o e => Heap.get?_push_of_some _ e) (Nat.le_refl _) (show ObjOk X.prog X.w _ _ _ (.frz _ (.tup ys)) from ⟨Heap.get?_push_size _ rfl, hz, its, r', IsTup.new _ _⟩)
    exact ⟨.ref h'.objs.size, _, I2, rfl, q _ _ rfl (I1.hok.fresh (Nat.le_refl _))⟩
  · exact call_tupleT pins s σ H _ _ Q I (.cons rx .nil) ⟨p, ys, rfl, hq, q⟩
def uTuple : OC := fun us M R => ∃ u ws, us = [u] ∧ seqOf M u = some ws ∧ R (.tup ws) M
theorem ucal_tuple : UCal X (.type "tuple") uTuple := call_imp call_tupleF fun xs H Q ⟨us, M, R, r, hd, ⟨u, ws, eu, en, q⟩, c⟩ => by
  subst eu
  obtain ⟨v, rfl, r1⟩ := r.one; replace r := r1
  have lst : lstOf M u = some ws → ∃ p ys, [v] = [V.ref p] ∧ ((SqL X.K H p ys ∧ ∀ l o, o.dict = none → H l = none → Q (.ref l) (upd H l (.frz o (.tup ys)))) ∨ (SqT X.K H p ys ∧ Q (.ref p) H)) := fun e => by
    obtain ⟨a, vs, rfl, h, t⟩ := lstOf_sq hd r e
    exact ⟨a, vs, rfl, .inl ⟨h, fun l o ho hl => c.at_ q (Stp.new hd hl) (hd.new hl) (new_tup hd hl ho t)⟩⟩
  cases u with
  | tup zs =>
    simp only [seqOf, Option.some.injEq] at en
    subst en
    obtain ⟨a, vs, rfl, f, t⟩ := rep_tup r
    exact ⟨a, vs, rfl, .inr ⟨f.sq, c.here q hd (mk_tup f t)⟩⟩
  | _ => exact lst (by simpa [seqOf] using en)
/-- list(..): a frozen one; a handle -/
def uList : OC := fun us M R => ∃ u ws, us = [u] ∧ seqOf M u = some ws ∧ R (.lst ws) M
def uListH : OC := fun us M R => ∃ u ws, us = [u] ∧ seqOf M u = some ws ∧ ∀ p, M p = none → R (.ref p) (put M p (.lst ws))
theorem ucal_list : UCal X (.type "list") uList := call_imp call_list_of fun xs H Q ⟨us, M, R, r, hd, ⟨u, ws, eu, en, q⟩, c⟩ => by
  subst eu
  obtain ⟨v, rfl, r1⟩ := r.one; replace r := r1
  obtain ⟨a, vs, rfl, h, t⟩ := seqOf_rep hd r en
  exact ⟨a, vs, rfl, h, fun l hl => c.at_ q (Stp.new hd hl) (hd.new hl) (new_lst hd hl t)⟩
theorem ucal_listH : UCal X (.type "list") uListH := call_imp call_list_of fun xs H Q ⟨us, M, R, r, hd, ⟨u, ws, eu, en, q⟩, c⟩ => by
  subst eu
  obtain ⟨v, rfl, r1⟩ := r.one; replace r := r1
  obtain ⟨a, vs, rfl, h, t⟩ := seqOf_rep hd r en
  exact ⟨a, vs, rfl, h, fun l hl => c.at_ (q l (hd.free hl)) (Stp.newH hl) (hd.putL (Stp.newH hl) t) mk_ref⟩

/-! ### isinstance -/
def tyN (M : Mp) : U → String
  | .non => "NoneType" | .bl _ => "bool" | .int _ => "int" | .str _ => "str" | .ty _ => "type"
  | .tup _ => "tuple" | .lst _ => "list" | .dct _ _ => "dict" | .pr _ => "pair"
  | .ref a => match M a with
    | some (.lst _) => "list" | some (.dct _ _) => "dict" | some (.hid _) => "list" | none => "object"
def isA (t n : String) : Bool := t == n || (t == "bool" && n == "int")
def tyOk (M : Mp) (u : U) (n : String) : Prop := (n = "int" ∨ n = "bool" ∨ n = "str" ∨ n = "list" ∨ n = "tuple" ∨ n = "dict") ∧ match u with
  | .ty _ => False
  | .pr _ => False
  | .ref a => (M a).isSome = true
  | _ => True
theorem tyx_of {M : Mp} {H : Hp} (hd : RepM X.K M H) {u : U} {v : V} (r : RepV X.K M H u v) {n : String} (k : tyOk M u n) : TyX X.K H v (.type (tyN M u)) := by
  cases u with
  | non => rw [rep_non r]; exact .base .non
  | bl b => rw [rep_bl r]; exact .base (.bl b)
  | int b => rw [rep_int r]; exact .base (.int b)
  | str b => rw [rep_str r]; exact .base (.str b)
  | ty n => exact k.2.elim
  | pr n => exact k.2.elim
  | tup us =>
    obtain ⟨a, vs, rfl, f, t⟩ := rep_tup r
    rcases f with ⟨⟨o, f, _⟩, _⟩ | ⟨o, its, m, e, h, _⟩
    · exact .fTuple f
    · exact .kTuple e h
  | lst us =>
    obtain ⟨a, vs, rfl, f, t⟩ := rep_lst r
    rcases f with ⟨f | ⟨o, f⟩, _⟩ | ⟨o, its, m, e, h, _⟩
    · exact .base (.lst f)
    · exact .base (.frz f)
    · exact .kList e h
  | dct ks us =>
    unfold RepV at r
    obtain ⟨a, vs, rfl, f, _⟩ := r
    exact .base (.dK f)
  | ref a =>
    rw [rep_ref r]
    cases m : M a with
    | none => have := k.2; simp [m] at this
    | some o =>
      cases o with
      | lst us =>
        obtain ⟨vs, h, _⟩ := hd a _ m
        simp only [tyN, m]
        exact .base (.lst h)
      | dct ks us =>
        obtain ⟨vs, h, _⟩ := hd a _ m
        simp only [tyN, m]
        exact .base (.dK h)
      | hid P =>
        obtain ⟨vs, h, _⟩ := hd a _ m
        simp only [tyN, m]
        exact .base (.lst h)
theorem kit_isA {M : Mp} {u : U} {n : String} (k : tyOk M u n) : PySem.W.kitOne X.K (.type (tyN M u)) (.type n) = some (isA (tyN M u) n) := by
  apply kit_ty
  have hn := k.1
  have t : tyN M u = "NoneType" ∨ tyN M u = "bool" ∨ tyN M u = "int" ∨ tyN M u = "str" ∨ tyN M u = "tuple" ∨ tyN M u = "list" ∨ tyN M u = "dict" := by
    cases u with
    | ref a =>
      cases m : M a with
      | none => have := k.2; simp [m] at this
      | some o => cases o <;> simp [tyN, m]
    | ty n => exact k.2.elim
    | pr n => exact k.2.elim
    | _ => simp [tyN]
  rcases t with e | e | e | e | e | e | e <;> rw [e] <;> rcases hn with h | h | h | h | h | h <;> subst h <;> decide +kernel
/-- isinstance(x, (T, ..)), the tuple a frozen value -/
def tysOf : List U → Option (List String)
  | [] => some []
  | .ty n :: r => (tysOf r).map (n :: ·)
  | _ => none
theorem tys_rep {M : Mp} {H : Hp} : ∀ {us : List U} {ns : List String} {vs : List V}, tysOf us = some ns → RepVs X.K M H us vs → Paired ClsV vs (ns.map Value.type)
  | [], ns, vs, e, r => by
    simp only [tysOf, Option.some.injEq] at e
    subst e
    rw [r.nil_inv]
    exact .nil
  | u :: us, ns, vs, e, r => by
    cases u <;> simp only [tysOf, Option.map_eq_some_iff, reduceCtorEq] at e
    obtain ⟨ns', e, rfl⟩ := e
    obtain ⟨v, vs', rfl, r1, r2⟩ := r.uncons
    unfold RepV at r1
    subst r1
    exact .cons (.ty _) (tys_rep e r2)
theorem kit_isAs {M : Mp} {u : U} : ∀ {ns : List String}, (∀ n ∈ ns, tyOk M u n) → PySem.W.kitAny X.K (.type (tyN M u)) (ns.map Value.type) = some (ns.any fun n => isA (tyN M u) n)
  | [], _ => kitAny_nil
  | n :: ns, h => by
    have ih := kit_isAs (u := u) (M := M) fun m hm => h m (List.mem_cons_of_mem _ hm)
    refine kitAny_cons (kit_isA (h n List.mem_cons_self)) (fun e => ?_) fun e => ?_
    · rw [List.any_cons, e, Bool.false_or]
      exact ih
    · rw [List.any_cons, e, Bool.true_or]
theorem call_isiS : CallR X (.builtin "isinstance") (fun xs H Q => ∃ (x : V) (tp : Addr) (cs : List V) (t : Value) (us : List Value) (b : Bool), xs = [x, .ref tp] ∧ SqT X.K H tp cs ∧ Paired ClsV cs us ∧ TyX X.K H x t ∧ PySem.W.kitAny X.K t us = some b ∧ Q (.bl b) H) := by
  intro pins s σ H xs us Q I r h
  obtain ⟨x, tp, cs, t, ws, b, rfl, hT, k, ty, e, q⟩ := h
  obtain ⟨u1, u2, rfl, r1, r2⟩ := vals2 r
  cases (show u2 = Value.ref tp from r2)
  obtain ⟨P, Z, p, hx⟩ := kit_of I r1 ty
  obtain ⟨its, rv, ⟨o, h1, h2, n, h3⟩, _⟩ := I.tuple hT
  have e3 := ClsV.all k rv
  subst e3
  obtain ⟨oc, od, dt, sl⟩ := o
  simp only at h2 h3
  subst h2 h3
  exact PySem.W.kia_tup Z I.kIn p h1 e hx fun tk => ⟨.bl b, H, I.tok tk, rfl, q⟩
def uIsi : OC := fun us M R => (∃ u n, us = [u, .ty n] ∧ tyOk M u n ∧ R (.bl (isA (tyN M u) n)) M) ∨ ∃ u ws ns, us = [u, .tup ws] ∧ tysOf ws = some ns ∧ ns ≠ [] ∧ (∀ n ∈ ns, tyOk M u n) ∧ R (.bl (ns.any fun n => isA (tyN M u) n)) M
theorem ucal_isi : UCal X (.builtin "isinstance") uIsi := call_imp (call_or call_isi call_isiS) fun xs H Q ⟨us, M, R, r, hd, q, c⟩ => by
  rcases q with ⟨u, n, rfl, k, q⟩ | ⟨u, ws, ns, rfl, e, hne, k, q⟩
  · obtain ⟨v, w, rfl, r1, r2⟩ := r.two
    obtain rfl : w = .ty n := by unfold RepV at r2; exact r2
    exact .inl ⟨v, .ty n, _, _, _, rfl, .ty n, tyx_of hd r1 k, kit_isA k, c.here q hd mk_bl⟩
  · obtain ⟨v, w, rfl, r1, r2⟩ := r.two
    obtain ⟨a, vs, rfl, f, t⟩ := rep_tup r2
    cases ns with
    | nil => exact absurd rfl hne
    | cons n ns => exact .inr ⟨v, a, vs, _, _, _, rfl, f.sq, tys_rep e t, tyx_of hd r1 (k n List.mem_cons_self), kit_isAs k, c.here q hd mk_bl⟩
end
end Pu

/-! Pu, part 10: what a for walks; comprehensions as expressions. -/
namespace Pu
open PySem PySem.Spec PyProof.Rows L2 PySem.SeqAt

/-! ### enumerate(tuple) -/
def IteT (K : PySem.W.Frag) (a : Addr) : It :=
  ⟨fun i H => ∃ (xs : List V) (x : V), SqT K H a xs ∧ xs[i]? = some x, fun i H v H' => ∃ T x, v = .ref T ∧ H T = none ∧ H' = upd H T (.tup [.int (i : Nat), x]) ∧ ∀ xs, SqT K H a xs → xs[i]? = some x, fun i H => ∃ xs : List V, SqT K H a xs ∧ xs.length ≤ i⟩
theorem iter_apart {h : Heap} {it a : Addr} {i : Nat} {its : Array Value} (hi : h.IsTupleIter it a i) (ht : h.IsTuple a its) : a ≠ it := fun e => by
  subst e
  obtain ⟨o, h1, h2, _⟩ := hi
  obtain ⟨o', h1', h2', _⟩ := ht
  rw [h1] at h1'
  cases h1'
  rw [h2] at h2'
  exact absurd h2' (by decide)
theorem turn_enumT {P : Program} {w : World} {K : PySem.W.Frag} {elts : List Expr} {kk : Nat} {tpos : Pos} (a e it : Addr) :
    Turn P w K (.Tuple elts kk tpos) (IteT K a) [e, it] e (fun i h => (∃ old, IsEnum h e it ((i : Nat) : Int) old) ∧ h.IsTupleIter it a i ∧ e ≠ it) where
  mem := by simp
  obj := fun i h st b hb => by
    obtain ⟨⟨old, he⟩, ⟨o, ho, hc, hd⟩, _⟩ := st
    have e' : b = e ∨ b = it := by simpa using hb
    rcases e' with z | z
    · rw [z]; exact ⟨_, he, fun v q => nomatch q⟩
    · rw [z]; exact ⟨o, ho, fun v q => by rw [hd] at q; cases q⟩
  keep := fun i h h' st k => let ⟨⟨old, he⟩, hi, hne⟩ := st; ⟨⟨old, k e (by simp) _ he⟩, hi.at fun o q => k it (by simp) o q, hne⟩
  item := by
    intro X hP hw hK hc i pins s σ H E I hf st hg
    subst hP hw hK
    obtain ⟨⟨old, he⟩, hit, hne⟩ := st
    obtain ⟨xs, x, hq, hx⟩ := hg
    obtain ⟨its, rv, p, hz⟩ := I.tuple hq
    obtain ⟨u, hu, ru⟩ := rv.get hx
    have hel : e < s.heap.objs.size := Heap.lt_size he
    have hil : it < s.heap.objs.size := by obtain ⟨_, q, _⟩ := hit; exact Heap.lt_size q
    have pt : s.heap.IsTuple a its.toArray := p
    have hai := iter_apart hit pt
    have hlt : i < its.toArray.size := by
      have := (List.getElem?_eq_some_iff.mp hu).1
      simpa using this
    have hea : e ≠ a := fun z => by
      subst z
      obtain ⟨o', h1', h2', _⟩ := pt
      rw [he] at h1'
      cases h1'
      exact absurd (show Value.type "enumerate" = Value.type "tuple" from h2') (by decide)
    have D := Draws.tuple (prog := X.prog) (w := X.w) (A := X.A.in1) (I.ok.hd hc) it a hai its.toArray
    refine wpAny_pyNext_enum_itemD D he ⟨hit, pt⟩ hlt hne (by simp [hne, hea]) fun x2 h' tk hP ho hst' hT hsz hk => ?_
    obtain rfl : x2 = u := by
      have : its.toArray[i]? = some u := by simpa using hu
      rw [this] at hP
      exact (Option.some.inj hP).symm
    have hit' := hst'.1
    refine ⟨_, rfl, wpAny_letOwnedTupleGo_enum (s := { s with heap := h', toks := tk + 1 }) ho fun h'' he' sb => ?_⟩
    have hT2 : h''.get? s.heap.objs.size = some { cls := .type "tuple", data := .seq #[.int i tk, x2] } := (sb.2 _ (Nat.ne_of_gt hel)).trans hT
    have new : ObjOk X.prog X.w (upd H s.heap.objs.size (.tup [.int (i : Nat), x])) h'' s.heap.objs.size (.tup [.int (i : Nat), x]) :=
      ⟨by show 2 ≤ sizeLine; decide, [.int i tk, x2], .cons ⟨_, rfl⟩ (.cons ru .nil), ⟨_, hT2, rfl, _, rfl⟩⟩
    have I1 : Inv X pins σ (upd H s.heap.objs.size (.tup [.int (i : Nat), x])) { s with heap := h'', toks := tk + 1 } :=
      I.turnedNew (ch := [e, it]) (fun b ob hb q => (sb.2 b (fun z => hb (by simp [z]))).trans (hk b ob (fun z => hb (by simp [z])) (fun z => hb (by simp [z])) q)) hf (Nat.le_refl _) new
    refine ⟨.ref s.heap.objs.size, _, I1, rfl, ⟨_, x, rfl, I.hok.fresh (Nat.le_refl _), rfl, fun ys hy => by rw [I.tuple_inj hy hq]; exact hx⟩, ⟨⟨x2, ?_⟩, hit'.at fun o q => (sb.2 it (Ne.symm hne)).trans q, hne⟩, fun b hb => ?_⟩
    · have e1 : ((i + 1 : Nat) : Int) = (i : Int) + 1 := by omega
      rw [e1]; exact he'
    · have hb' : b < s.heap.objs.size := by
        have e' : b = e ∨ b = it := by simpa using hb
        rcases e' with z | z
        · rw [z]; exact hel
        · rw [z]; exact hil
      rw [upd_ne (Nat.ne_of_lt hb')]
      exact (hf b hb).1
  done := by
    intro X hP hw hK hc i pins s σ H E I hf st hg
    subst hP hw hK
    obtain ⟨⟨old, he⟩, hit, hne⟩ := st
    obtain ⟨xs, hq, hx⟩ := hg
    obtain ⟨its, rv, p, hz⟩ := I.tuple hq
    obtain ⟨f0, f1, f2, f3, f4, f5⟩ := hf it (by simp)
    have hl := rv.length
    have pt : s.heap.IsTuple a its.toArray := p
    have D := Draws.tuple (prog := X.prog) (w := X.w) (A := X.A.in1) (I.ok.hd hc) it a (iter_apart hit pt) its.toArray
    have hT : s.TypeIs (.ref e) "enumerate" := ⟨_, he, rfl⟩
    unfold pyNext
    refine wpAny_bind (wpAny_attempt (wpAny_callSpecial?_slot (name := Str.ofString "__next__") hT F.slot_enumerate_next
      (wpAny_call_entry F.slot_enumerate_next hT F.entry_enumerate_next ?_ (F.args_enumerate_next_1 _))))
    show wpAny _ _ (field (.ref e) 2 >>= _) _ _ _
    refine wpAny_bind (wpAny_field he rfl (x := .ref it) rfl ?_)
    refine wpAny_bind (wpAny_nextOf_tuple_end (I.ok.hd hc) hit pt (by simp; omega) fun h' x he' hx' => ?_)
    obtain ⟨o, ho, hc2⟩ := hx'
    refine wpAny_bind (wpAny_isInstance (T := "StopIteration") (b := true) ⟨o, ho, hc2⟩ isSubtype_stop ?_)
    exact wpAny_pure ⟨rfl, I.turned (t' := s.toks) (fun b o hb q => he' b o hb q) f0 f1 f3 f4 f5⟩
  self := fun A i s Q E st h => let ⟨⟨_, he⟩, _⟩ := st; wpAny_pyIter_enum he h
set_option maxHeartbeats 1000000 in
theorem meets_enumerate_newT (l : Addr) (items : Array Value) :
    Meets (Builtin.«enumerate.__new__» ⟨[.type "enumerate", .ref l], []⟩) (fun _ R s => s.heap.IsTuple l items ∧
      R (.ok (.ret (.ref (s.heap.push { cls := .type "tuple_iterator", data := .fields #[.ref l, .int 0 0] }).objs.size)))
        { s with heap := (s.heap.push { cls := .type "tuple_iterator", data := .fields #[.ref l, .int 0 0] }).push { cls := .type "enumerate", data := .fields #[.none, .bool false, .ref s.heap.objs.size, rawInt 0, .none, .none] } }) :=
  .of_wp fun prog w A R s h => by
    obtain ⟨hp, g, d, tk, os⟩ := s; obtain ⟨hl, h⟩ := h
    have hsub := sub_enumerate
    have hL : Heap.IsTuple (Shared.heap ⟨hp, g, d, tk, os⟩) l items := hl
    wp_walk
    refine wpAny_stack_any fun st => wpAny_pure ?_
    split
    · rename_i c _ _ _ _ _
      cases (c == Value.type "enumerate")
      · wp_walk using wpAny_pyIter_tuple hL
        exact ⟨_, rfl, h⟩
      · wp_walk using wpAny_pyIter_tuple hL
        exact ⟨_, rfl, h⟩
    · wp_walk using wpAny_pyIter_tuple hL
      exact ⟨_, rfl, h⟩
section
variable {prog : Program} {w : World} {A : Around} {E : Value → Shared → Prop} {s : Shared}
theorem call_enumT {l : Addr} {items : Array Value} {Q : Value → Shared → Prop} (hL : s.heap.IsTuple l items)
    (h : ∀ h', IsEnum h' (s.heap.objs.size + 1) s.heap.objs.size 0 .none → h'.IsTupleIter s.heap.objs.size l 0 → h'.objs.size = s.heap.objs.size + 2 →
      (∀ b o, s.heap.get? b = some o → h'.get? b = some o) → Q (.ref (s.heap.objs.size + 1)) { s with heap := h' }) :
    wpAny (model prog w) A (call (.type "enumerate") [.ref l]) Q E s := by
  refine callType_new F.called_enumerate (by decide) (F.typeCall_enumerate_1 _) (F.newCall_enumerate_1 _) (fun obj => F.args_object_init_2 obj _) F.entry_enumerate_new
    (meets_enumerate_newT l items) ⟨hL, ?_⟩
  have hz : (s.heap.push { cls := .type "tuple_iterator", data := .fields #[.ref l, .int 0 0] }).objs.size = s.heap.objs.size + 1 := Heap.size_push ..
  show _ ∧ _
  rw [hz]
  have he : IsEnum ((s.heap.push { cls := .type "tuple_iterator", data := .fields #[.ref l, .int 0 0] }).push
      { cls := .type "enumerate", data := .fields #[.none, .bool false, .ref s.heap.objs.size, rawInt 0, .none, .none] }) (s.heap.objs.size + 1) s.heap.objs.size 0 .none := by
    have := Heap.get?_push_size (s.heap.push { cls := .type "tuple_iterator", data := .fields #[.ref l, .int 0 0] })
      (o := { cls := .type "enumerate", data := .fields #[.none, .bool false, .ref s.heap.objs.size, rawInt 0, .none, .none] }) rfl
    rw [hz] at this; exact this
  refine ⟨⟨_, he, rfl⟩, h _ he ⟨_, Heap.get?_push_of_some _ (Heap.get?_push_size _ rfl), rfl, rfl⟩ (by rw [Heap.size_push, hz]) fun b o x => Heap.get?_push_of_some _ (Heap.get?_push_of_some _ x)⟩
end
section
variable {X : Cx} {g : Gd}
def iEnumA (K : PySem.W.Frag) (ta : TA) : TI := fun σ H R => ta σ H fun vs H1 => ∃ a xs, vs = [.ref a] ∧ ((SqL K H1 a xs ∧ R (Ite K a) H1) ∨ (SqT K H1 a xs ∧ R (IteT K a) H1))
theorem pi_enumA {e : Expr} {ta : TA} {p pos tpos : Pos} {elts : List Expr} {kk : Nat} (hg : Gl X "enumerate") (hm : X.mg "enumerate" = none) (ha : PA X [e] ta) (hs : starEach [e] X.env = [(false, eval e X.env)]) :
    PI X (.Tuple elts kk tpos) (.Call (.Name "enumerate" p) [e] [] pos) (iEnumA X.K ta) := by
  refine ⟨fun pins s σ H R I h => ?_⟩
  refine Call_ (ld_blt I hg hm boot_enumerate (PyProof.Rows.callWith_type1 (thn (ha.run pos pins s σ H _ I h) fun us s1 ⟨vs, H1, I1, r1, q1⟩ => ?_) hs rfl))
  obtain ⟨a, xs, ex, q1⟩ := q1
  subst ex
  cases r1 with
  | cons r rr =>
    cases rr
    cases r
    have two : ∀ b, b ∈ [s1.heap.objs.size + 1, s1.heap.objs.size] → FpOk X pins H1 b := fun b hb => by
      have e' : b = s1.heap.objs.size + 1 ∨ b = s1.heap.objs.size := by simpa using hb
      have hle : s1.heap.objs.size ≤ b := by
        rcases e' with z | z
        · rw [z]; exact Nat.le_add_right _ _
        · rw [z]; exact Nat.le_refl _
      exact I1.fpOk hle (I1.hok.fresh hle)
    rcases q1 with ⟨hq, q⟩ | ⟨hq, q⟩
    · obtain ⟨its, rv, p', hz⟩ := I1.list hq
      refine call_enumerate_list p'.isList fun h' he hit hsz hk => wpAny_pyIter_enum he ?_
      have I2 : Inv X pins σ H1 { s1 with heap := h' } := I1.kept (t' := s1.toks) hk
      exact ⟨s1.heap.objs.size + 1, [s1.heap.objs.size + 1, s1.heap.objs.size], _, _, H1, rfl, I2, turn_enum a (s1.heap.objs.size + 1) s1.heap.objs.size, ⟨⟨.none, he⟩, hit, Nat.succ_ne_self _⟩, two, q⟩
    · obtain ⟨its, rv, p', hz⟩ := I1.tuple hq
      refine call_enumT (show s1.heap.IsTuple a its.toArray from p') fun h' he hit hsz hk => wpAny_pyIter_enum he ?_
      have I2 : Inv X pins σ H1 { s1 with heap := h' } := I1.kept (t' := s1.toks) hk
      exact ⟨s1.heap.objs.size + 1, [s1.heap.objs.size + 1, s1.heap.objs.size], _, _, H1, rfl, I2, turn_enumT a (s1.heap.objs.size + 1) s1.heap.objs.size, ⟨⟨.none, he⟩, hit, Nat.succ_ne_self _⟩, two, q⟩
end
end Pu

/-! Pu, part 11: iterables by values, comprehensions, range. -/
namespace Pu
open PySem PySem.Spec PyProof.Rows L2 PySem.SeqAt
section
variable {X : Cx} {g : Gd} {tg e : Expr} {te : WE} {p pos : Pos}
theorem it_list {pins : List (Addr × Obj)} {σ : Stt} {H : Hp} {s : Shared} {R : It → Hp → Prop} {a : Addr} {xs : List V} (I : Inv X pins σ H s) (hq : SqL X.K H a xs) (q : R (Itl X.K a) H) : wpAny (model X.prog X.w) X.A (pyIter (.ref a)) (PIE X pins σ tg R) X.xe s := by
  obtain ⟨its, rv, p, hz⟩ := I.list hq
  refine wpAny_pyIter_list p.isList ?_
  refine ⟨s.heap.objs.size, [s.heap.objs.size], _, _, H, rfl, I.kept (t' := s.toks) fun b o e => Heap.get?_push_of_some _ e, turn_list a _, ⟨_, Heap.get?_push_size _ rfl, rfl, rfl⟩, fun b hb => ?_, q⟩
  have e : b = s.heap.objs.size := by simpa using hb
  subst e
  exact I.fpOk (Nat.le_refl _) (I.hok.fresh (Nat.le_refl _))
theorem it_tup {pins : List (Addr × Obj)} {σ : Stt} {H : Hp} {s : Shared} {R : It → Hp → Prop} {a : Addr} {xs : List V} (I : Inv X pins σ H s) (hq : SqT X.K H a xs) (q : R (Itt X.K a) H) : wpAny (model X.prog X.w) X.A (pyIter (.ref a)) (PIE X pins σ tg R) X.xe s := by
  obtain ⟨its, rv, p, hz⟩ := I.tuple hq
  refine wpAny_pyIter_tuple (show s.heap.IsTuple a its.toArray from p) ?_
  refine ⟨s.heap.objs.size, [s.heap.objs.size], _, _, H, rfl, I.kept (t' := s.toks) fun b o e => Heap.get?_push_of_some _ e, turn_tuple a _, ⟨_, Heap.get?_push_size _ rfl, rfl, rfl⟩, fun b hb => ?_, q⟩
  have e : b = s.heap.objs.size := by simpa using hb
  subst e
  exact I.fpOk (Nat.le_refl _) (I.hok.fresh (Nat.le_refl _))
theorem it_str {pins : List (Addr × Obj)} {σ : Stt} {H : Hp} {s : Shared} {R : It → Hp → Prop} {x : Str} {t : Tok} (I : Inv X pins σ H s) (q : R (Its x) H) : wpAny (model X.prog X.w) X.A (pyIter (.str x t)) (PIE X pins σ tg R) X.xe s := by
  cases ha : x.cps.all (· < 128)
  · exact wpAny_pyIter_wide ha (pi_one (tk := s.toks) I _ (turn_str _ x t "str_iterator" (.inr rfl)) ⟨_, Heap.get?_push_size _ rfl, rfl, rfl⟩ q)
  · exact wpAny_pyIter_ascii ha (pi_one (tk := s.toks) I _ (turn_str _ x t "str_ascii_iterator" (.inl rfl)) ⟨_, Heap.get?_push_size _ rfl, rfl, rfl⟩ q)
/-- the signs of a text, each a text -/
def signsU (z : Str) : List U := z.cps.toList.map fun c => .str ⟨#[c]⟩
def Any : Mp → Prop := fun _ => True
def wItU (u : U) (M : Mp) (R : List U → (Mp → Prop) → Mp → Prop) : Prop := match u with
  | .tup us => R us Any M
  | .lst us => R us Any M
  | .str z => R (signsU z) Any M
  | .ref a => ∃ us, M a = some (.lst us) ∧ R us (fun M' => M' a = some (.lst us)) M
  | _ => False
def wIt (te : WE) : WI := fun su M R => te su M fun u M1 => wItU u M1 R
theorem itl_ok {M : Mp} {H : Hp} {a : Addr} {us : List U} {vs : List V} {K : PySem.W.Frag} {keep : Mp → Prop} (hk : keep M) (h : ∀ M' H', Stp M H M' H' → RepM K M' H' → keep M' → ∃ vs, SqL K H' a vs ∧ RepVs K M' H' us vs) : ItOk K (Itl K a) us keep M H := by
  refine ⟨hk, fun i M' H' st d k => ?_⟩
  obtain ⟨vs, hq, r⟩ := h M' H' st d k
  refine ⟨fun u e => ?_, fun hl => ⟨vs, hq, by rw [← r.length]; exact hl⟩⟩
  obtain ⟨v, e2, r2⟩ := r.get e
  refine ⟨⟨vs, v, hq, e2⟩, fun x H'' y => ?_⟩
  obtain ⟨rfl, y⟩ := y
  have := y vs hq
  rw [e2] at this
  cases this
  exact ⟨Stp.refl _ _, d, r2⟩
theorem itt_ok {M : Mp} {H : Hp} {a : Addr} {us : List U} {vs : List V} {K : PySem.W.Frag} (f : FzT K M H a vs) (r : RepVs K M H us vs) : ItOk K (Itt K a) us Any M H := by
  refine ⟨trivial, fun i M' H' st d k => ?_⟩
  have hq := (f.step st).sq
  have r' := RepVs.step st _ _ r
  refine ⟨fun u e => ?_, fun hl => ⟨vs, hq, by rw [← r.length]; exact hl⟩⟩
  obtain ⟨v, e2, r2⟩ := r'.get e
  refine ⟨⟨vs, v, hq, e2⟩, fun x H'' y => ?_⟩
  obtain ⟨rfl, y⟩ := y
  have := y vs hq
  rw [e2] at this
  cases this
  exact ⟨Stp.refl _ _, d, r2⟩
theorem its_ok {M : Mp} {H : Hp} {z : Str} {K : PySem.W.Frag} : ItOk K (Its z) (signsU z) Any M H := by
  refine ⟨trivial, fun i M' H' st d k => ⟨fun u e => ?_, fun hl => ?_⟩⟩
  · unfold signsU at e
    rw [List.getElem?_map] at e
    obtain ⟨c, e1, rfl⟩ := Option.map_eq_some_iff.mp e
    rw [Array.getElem?_toList] at e1
    have hlt := (Array.getElem?_eq_some_iff.mp e1).1
    refine ⟨hlt, fun x H'' y => ?_⟩
    obtain ⟨rfl, c', e2, rfl⟩ := y
    rw [e1] at e2
    cases e2
    exact ⟨Stp.refl _ _, d, mk_str⟩
  · unfold signsU at hl
    have : z.cps.size ≤ i := by simpa using hl
    exact this
theorem itr_ok {M : Mp} {H : Hp} {lo : Int} {n : Nat} {K : PySem.W.Frag} : ItOk K (Itr lo n) ((List.range n).map fun i => U.int (lo + (i : Nat))) Any M H := by
  refine ⟨trivial, fun i M' H' st d k => ⟨fun u e => ?_, fun hl => show n ≤ i by simpa using hl⟩⟩
  rw [List.getElem?_map] at e
  obtain ⟨c, e1, rfl⟩ := Option.map_eq_some_iff.mp e
  have hlt : i < n := by simpa using (List.getElem?_eq_some_iff.mp e1).1
  rw [List.getElem?_range hlt] at e1
  cases e1
  refine ⟨hlt, fun x H'' y => ?_⟩
  obtain ⟨rfl, rfl⟩ := y
  exact ⟨Stp.refl _ _, d, mk_int⟩
theorem ji_it (ha : JE X g e te) : JI X g tg e (wIt te) := by
  refine ⟨fun pins s σ H R I ⟨su, M, Ru, a, h, c⟩ => ?_⟩
  refine thn (ha.run pins s σ H (fun v H' => ∃ u M', wItU u M' Ru ∧ Stp M H M' H' ∧ RepM X.K M' H' ∧ RepV X.K M' H' u v) I ⟨su, M, _, a, h, fun u M1 v H1 q s1 d1 r1 => ⟨u, M1, q, s1, d1, r1⟩⟩) fun v s1 ⟨y, H1, I1, r1, u, M1, q, s, d, r⟩ => ?_
  have c2 : ∀ us keep J, Ru us keep M1 → ItOk X.K J us keep M1 H1 → R J H1 := fun us keep J q ok => c us keep M1 H1 J q s d ok
  cases u with
  | tup us =>
    obtain ⟨p, vs, rfl, f, t⟩ := rep_tup r
    cases r1
    exact it_tup I1 f.sq (c2 _ _ _ q (itt_ok f t))
  | lst us =>
    obtain ⟨p, vs, rfl, f, t⟩ := rep_lst r
    cases r1
    exact it_list I1 f.sq (c2 _ _ _ q (itl_ok (vs := vs) trivial fun M' H' st d k => ⟨vs, (f.step st).sq, RepVs.step st _ _ t⟩))
  | str z =>
    rw [rep_str r] at r1
    obtain ⟨t, rfl⟩ := r1
    exact it_str I1 (c2 _ _ _ q its_ok)
  | ref p =>
    obtain ⟨us, m, q⟩ := q
    rw [rep_ref r] at r1
    cases r1
    obtain ⟨vs, hh, t⟩ := d p _ m
    exact it_list I1 (.of hh) (c2 _ _ _ q (itl_ok (vs := vs) m fun M' H' st d k => by
      obtain ⟨vs', h', t'⟩ := d p _ k
      exact ⟨vs', .of h', t'⟩))
  | _ => exact q.elim
/-- range(n), range(i, j) -/
def wRng1 (t : WA) : WI := fun su M R => t su M fun us M1 => ∃ j : Int, us = [.int j] ∧ -(2 ^ 62) ≤ j ∧ j < 2 ^ 62 ∧ R ((List.range j.toNat).map fun i => U.int ((i : Nat) : Int)) Any M1
def wRng2 (t : WA) : WI := fun su M R => t su M fun us M1 => ∃ i j : Int, us = [.int i, .int j] ∧ (-(2 ^ 62) ≤ i ∧ i < 2 ^ 62 ∧ -(2 ^ 62) ≤ j ∧ j < 2 ^ 62) ∧ R ((List.range (j - i).toNat).map fun k => U.int (i + (k : Nat))) Any M1
theorem ji_range1 {a : Expr} {t : WA} (hg : Gl X "range") (hm : X.mg "range" = none) (ha : JA X g [a] t) (hs : starEach [a] X.env = [(false, eval a X.env)]) : JI X g tg (.Call (.Name "range" p) [a] [] pos) (wRng1 t) :=
  pi_imp (pi_range1 hg hm ha hs) fun σ H R ⟨su, M, Ru, a, h, c⟩ => ⟨su, M, _, a, h, fun us M1 vs H1 ⟨j, e, q1, q2, q⟩ s1 d1 r1 => by
    subst e
    obtain ⟨v, rfl, r⟩ := r1.one
    refine ⟨j, by rw [rep_int r], q1, q2, c _ _ M1 H1 _ q s1 d1 ?_⟩
    have := itr_ok (K := X.K) (M := M1) (H := H1) (lo := 0) (n := j.toNat)
    simpa using this⟩
theorem ji_range2 {a b : Expr} {t : WA} (hg : Gl X "range") (hm : X.mg "range" = none) (ha : JA X g [a, b] t) (hs : starEach [a, b] X.env = [(false, eval a X.env), (false, eval b X.env)]) (hs2 : starEach [b] X.env = [(false, eval b X.env)]) :
    JI X g tg (.Call (.Name "range" p) [a, b] [] pos) (wRng2 t) :=
  pi_imp (pi_range2 hg hm ha hs hs2) fun σ H R ⟨su, M, Ru, a, h, c⟩ => ⟨su, M, _, a, h, fun us M1 vs H1 ⟨i, j, e, q1, q⟩ s1 d1 r1 => by
    subst e
    obtain ⟨v, w, rfl, r, r'⟩ := r1.two
    exact ⟨i, j, by rw [rep_int r, rep_int r'], q1, c _ _ M1 H1 _ q s1 d1 itr_ok⟩⟩
/-- enumerate(..) -/
def numbered (us : List U) : List U := us.zipIdx.map fun p => .pr [.int (p.2 : Nat), p.1]
theorem numbered_get {us : List U} {i : Nat} {u : U} (e : (numbered us)[i]? = some u) : ∃ x, us[i]? = some x ∧ u = .pr [.int (i : Nat), x] := by
  unfold numbered at e
  rw [List.getElem?_map, List.getElem?_zipIdx] at e
  cases h : us[i]? with
  | none => simp [h] at e
  | some x => simp [h] at e; exact ⟨x, rfl, e.symm⟩
def wEnum (t : WA) : WI := fun su M R => t su M fun us M1 => match us with
  | [.ref a] => ∃ ws, M1 a = some (.lst ws) ∧ R (numbered ws) (fun M' => M' a = some (.lst ws)) M1
  | [.tup ws] => R (numbered ws) Any M1
  | [.lst ws] => R (numbered ws) Any M1
  | _ => False
theorem pair_ok {K : PySem.W.Frag} {M : Mp} {H : Hp} {T : Addr} {x y : V} {ux uy : U} (d : RepM K M H) (hT : H T = none) (r1 : RepV K M H ux x) (r2 : RepV K M H uy y) : Stp M H M (upd H T (.tup [x, y])) ∧ RepM K M (upd H T (.tup [x, y])) ∧ RepV K M (upd H T (.tup [x, y])) (.pr [ux, uy]) (.ref T) :=
  ⟨Stp.new d hT, d.new hT, new_pr d hT (.cons r1 (.cons r2 .nil))⟩
theorem ite_ok {M : Mp} {H : Hp} {a : Addr} {us : List U} {K : PySem.W.Frag} {keep : Mp → Prop} (hk : keep M) (h : ∀ M' H', Stp M H M' H' → RepM K M' H' → keep M' → ∃ vs, SqL K H' a vs ∧ RepVs K M' H' us vs) : ItOk K (Ite K a) (numbered us) keep M H := by
  refine ⟨hk, fun i M' H' st d k => ?_⟩
  obtain ⟨vs, hq, r⟩ := h M' H' st d k
  refine ⟨fun u e => ?_, fun hl => ⟨vs, hq, by rw [← r.length]; simpa [numbered] using hl⟩⟩
  obtain ⟨x, e1, rfl⟩ := numbered_get e
  obtain ⟨v, e2, r2⟩ := r.get e1
  refine ⟨⟨vs, v, hq, e2⟩, fun y H'' yl => ?_⟩
  obtain ⟨T, z, rfl, hT, rfl, yl⟩ := yl
  have := yl vs hq
  rw [e2] at this
  cases this
  exact pair_ok d hT mk_int r2
theorem iteT_ok {M : Mp} {H : Hp} {a : Addr} {us : List U} {vs : List V} {K : PySem.W.Frag} (f : FzT K M H a vs) (t : RepVs K M H us vs) : ItOk K (IteT K a) (numbered us) Any M H := by
  refine ⟨trivial, fun i M' H' st d k => ?_⟩
  have hq := (f.step st).sq
  have r := RepVs.step st _ _ t
  refine ⟨fun u e => ?_, fun hl => ⟨vs, hq, by rw [← r.length]; simpa [numbered] using hl⟩⟩
  obtain ⟨x, e1, rfl⟩ := numbered_get e
  obtain ⟨v, e2, r2⟩ := r.get e1
  refine ⟨⟨vs, v, hq, e2⟩, fun y H'' yl => ?_⟩
  obtain ⟨T, z, rfl, hT, rfl, yl⟩ := yl
  have := yl vs hq
  rw [e2] at this
  cases this
  exact pair_ok d hT mk_int r2
theorem ji_enum {a : Expr} {t : WA} {elts : List Expr} {kk : Nat} {tpos : Pos} (hg : Gl X "enumerate") (hm : X.mg "enumerate" = none) (ha : JA X g [a] t) (hs : starEach [a] X.env = [(false, eval a X.env)]) : JI X g (.Tuple elts kk tpos) (.Call (.Name "enumerate" p) [a] [] pos) (wEnum t) :=
  pi_imp (pi_enumA hg hm ha hs) fun σ H R ⟨su, M, Ru, a, h, c⟩ => ⟨su, M, _, a, h, fun us M1 vs H1 q s1 d1 r1 => by
    match us, q, r1 with
    | [.ref p], ⟨ws, m, q⟩, r1 =>
      obtain ⟨v, rfl, r⟩ := r1.one
      obtain ⟨vs, hh, t⟩ := d1 p _ m
      exact ⟨p, vs, by rw [rep_ref r], .inl ⟨.of hh, c _ _ M1 H1 _ q s1 d1 (ite_ok m fun M' H' st d k => by
        obtain ⟨vs', h', t'⟩ := d p _ k
        exact ⟨vs', .of h', t'⟩)⟩⟩
    | [.tup ws], q, r1 =>
      obtain ⟨v, rfl, r⟩ := r1.one
      obtain ⟨p, vs, rfl, f, t⟩ := rep_tup r
      exact ⟨p, vs, rfl, .inr ⟨f.sq, c _ _ M1 H1 _ q s1 d1 (iteT_ok f t)⟩⟩
    | [.lst ws], q, r1 =>
      obtain ⟨v, rfl, r⟩ := r1.one
      obtain ⟨p, vs, rfl, f, t⟩ := rep_lst r
      exact ⟨p, vs, rfl, .inl ⟨f.sq, c _ _ M1 H1 _ q s1 d1 (ite_ok trivial fun M' H' st d k => ⟨vs, (f.step st).sq, RepVs.step st _ _ t⟩)⟩⟩⟩

/-! ### a comprehension as a value -/
theorem j_comp {elt iter : Expr} {ifs : List Expr} {scope : Scope} {own : List (Str × Nat)} {w : WI} {gt : WG} {tc : WT} (hh : Bool) (hc : X.calm = true) (hN : X.N.Nodup) (hi : JI X g tg iter w) (ok : BlkOk X.N X.env.scope scope own)
    (hg : ∀ (s : Shared) (H : Hp) (C : Addr) (cl : List (Str × Addr)) (fp : List Addr), JGo (X.blk s H scope (compEnvC scope cl C X.env) fp) g (own.map (·.2)) tg gt)
    (ht : ∀ (s : Shared) (H : Hp) (C : Addr) (cl : List (Str × Addr)) (fp : List Addr), JTs (X.blk s H scope (compEnvC scope cl C X.env) fp) g ifs tc)
    (he : ∀ (s : Shared) (H : Hp) (C : Addr) (cl : List (Str × Addr)) (fp : List Addr), JE (X.blk s H scope (compEnvC scope cl C X.env) fp) g elt te) (hs : ∀ x, foldedSetIterable iter X.env x = pure x) :
    JE X g (.ListComp elt [⟨tg, iter, ifs, 0⟩] scope pos) (wComp hh w gt tc te (own.map (·.2))) :=
  pe_imp (pe_lc (g := liftGo X.K g (own.map fun p : Str × Nat => p.2) gt) (tt := liftT X.K g tc) (te := liftE X.K g te) hc hN hi ok hg ht he hs) fun σ H Q h => compI h
/-- name = [..] -/
theorem js_setComp {i : Nat} {y : Str} {py spos : Pos} {elt iter : Expr} {ifs : List Expr} {scope : Scope} {own : List (Str × Nat)} {w : WI} {gt : WG} {tc : WT} (hh : Bool) (hc : X.calm = true) (hN : X.N.Nodup) (hy : X.N[i]? = some y) (hyl : X.env.scope.names.lookup y = some .local)
    (hsw : swapsWith (.ListComp elt [⟨tg, iter, ifs, 0⟩] scope pos) (some (.Name y py)) spos.line X.env = pure true) (hi : JI X g tg iter w) (ok : BlkOk X.N X.env.scope scope own)
    (hg : ∀ (s : Shared) (H : Hp) (C : Addr) (cl : List (Str × Addr)) (fp : List Addr), JGo (X.blk s H scope (compEnvC scope cl C X.env) fp) g (own.map (·.2)) tg gt)
    (ht : ∀ (s : Shared) (H : Hp) (C : Addr) (cl : List (Str × Addr)) (fp : List Addr), JTs (X.blk s H scope (compEnvC scope cl C X.env) fp) g ifs tc)
    (he : ∀ (s : Shared) (H : Hp) (C : Addr) (cl : List (Str × Addr)) (fp : List Addr), JE (X.blk s H scope (compEnvC scope cl C X.env) fp) g elt te) (hs : ∀ x, foldedSetIterable iter X.env x = pure x) :
    JS X g (.Assign [.Name y py] (.ListComp elt [⟨tg, iter, ifs, 0⟩] scope pos) spos) (wSet i (wComp hh w gt tc te (own.map (·.2)))) :=
  ps_imp (ps_setLc (g := liftGo X.K g (own.map fun p : Str × Nat => p.2) gt) (tt := liftT X.K g tc) (te := liftE X.K g te) hc hN hy hyl hsw hi ok hg ht he hs) fun D σ H ⟨su, M, R, a, h, c⟩ => compI ⟨su, M, _, a, h, fun u M1 v H1 q s1 d1 r1 => (c.go s1).nx.here q ((a.go s1 d1).set r1)⟩
end
end Pu

/-! Pu, part 12: methods, stores, new dicts, lists times a number, zip. -/
namespace Pu
open PySem PySem.Spec PyProof.Rows L2 PySem.SeqAt

/-! ### methods of built-ins by values -/
abbrev OM := U → List U → Mp → UK → Prop
def liftM (K : PySem.W.Frag) (o : OM) : V → List V → Hp → VK → Prop := fun x xs H Q => ∃ ux us M R, RepV K M H ux x ∧ RepVs K M H us xs ∧ RepM K M H ∧ o ux us M R ∧ Cl K M H R Q
def UMt (X : Cx) (id : String) (o : OM) : Prop := MtR X id (liftM X.K o)
theorem mt_imp {X : Cx} {id : String} {r r' : V → List V → Hp → VK → Prop} (h : MtR X id r) (i : ∀ x xs H Q, r' x xs H Q → r x xs H Q) : MtR X id r' := fun pins s σ H x xs v us Q I rx rs q => h pins s σ H x xs v us Q I rx rs (i _ _ _ _ q)
def tyU (T : String) (M : Mp) : U → Prop
  | .str _ => T = "str"
  | .int _ => T = "int"
  | .lst _ => T = "list"
  | .dct _ _ => T = "dict"
  | .ref a => (T = "list" ∧ ∃ us, M a = some (.lst us)) ∨ (T = "dict" ∧ ∃ ks us, M a = some (.dct ks us))
  | _ => False
theorem tyU_rep {K : PySem.W.Frag} {M : Mp} {H : Hp} (hd : RepM K M H) {u : U} {v : V} (r : RepV K M H u v) {T : String} (t : tyU T M u) : tyV K T v H := by
  cases u with
  | str z => rw [rep_str r]; exact t
  | int z => rw [rep_int r]; exact t
  | lst us =>
    obtain ⟨a, vs, rfl, f, q⟩ := rep_lst r
    exact .inl ⟨t, vs, f.sq⟩
  | dct ks us =>
    unfold RepV at r
    obtain ⟨a, vs, rfl, f, _⟩ := r
    exact .inr (.inr (.inl ⟨t, .inl ⟨_, f⟩⟩))
  | ref a =>
    rw [rep_ref r]
    rcases t with ⟨t, us, m⟩ | ⟨t, ks, us, m⟩
    · obtain ⟨vs, h, _⟩ := hd a _ m
      exact .inl ⟨t, vs, .of h⟩
    · obtain ⟨vs, h, _⟩ := hd a _ m
      exact .inr (.inr (.inl ⟨t, .inl ⟨_, h⟩⟩))
  | _ => exact t.elim
section
variable {X : Cx} {g : Gd} {o e : Expr} {es : List Expr} {to te : WE} {tr : WA} {om : OM} {x name : Str} {p pos apos cpos : Pos} {id T : String}
def wBM (T : String) (om : OM) (to : WE) (tr : WA) : WE := fun su M R => to su M fun x M1 => tyU T M1 x ∧ tr su M1 fun xs M2 => om x xs M2 R
theorem j_bm0 (pa : PlainAttrs T) (slot : Slot T name id) (hty : typeOf (.builtin id) = pure (.type "method_descriptor")) (hm : UMt X id om) (ho : JE X g o to)
    (hbase : attributeBase o name X.env (eval o X.env) = eval o X.env) (hline : (apos.endLine == cpos.line) = true) : JE X g (.Call (.Attribute o name apos) [] [] cpos) (wBM T om to wNil) :=
  pe_imp (pe_bm0 pa slot hty hm ho hbase hline) fun σ H Q ⟨su, M, R, a, h, c⟩ => ⟨su, M, _, a, h, fun x M1 v H1 ⟨t, q⟩ s1 d1 r1 => ⟨tyU_rep d1 r1 t, x, [], M1, R, r1, .nil, d1, q, c.go s1⟩⟩
theorem j_bm (pa : PlainAttrs T) (slot : Slot T name id) (hty : typeOf (.builtin id) = pure (.type "method_descriptor")) (hm : UMt X id om) (ho : JE X g o to) (ha : JA X g (e :: es) tr)
    (hbase : attributeBase o name X.env (eval o X.env) = eval o X.env)
    (hfew : ((backTo cpos (starEach (e :: es) X.env)).all (fun x => !x.1) && (backToKw cpos (keywordEach [] X.env)).all (fun x => x.1.isSome)
      && decide ((e :: es).length + ([] : List Keyword).length + (if ([] : List Keyword).isEmpty then 0 else 1) < 30)) = true)
    (hline : (apos.endLine == cpos.line) = true) (hs : starEach (e :: es) X.env = (false, eval e X.env) :: starEach es X.env) (hplain : (backTo cpos (starEach es X.env)).any (·.1) = false) :
    JE X g (.Call (.Attribute o name apos) (e :: es) [] cpos) (wBM T om to tr) :=
  pe_imp (pe_bm pa slot hty hm ho ha hbase hfew hline hs hplain) fun σ H Q ⟨su, M, R, a, h, c⟩ => ⟨su, M, _, a, h, fun x M1 v H1 ⟨t, q⟩ s1 d1 r1 => ⟨tyU_rep d1 r1 t, su, M1, _, a.go s1 d1, q, fun xs M2 vs H2 q2 s2 d2 r2 =>
    ⟨x, xs, M2, R, r1.step s2, r2, d2, q2, (c.go s1).go s2⟩⟩⟩
def uAppend : OM := fun x xs M R => ∃ a us y, x = .ref a ∧ xs = [y] ∧ M a = some (.lst us) ∧ us.length < sizeLine ∧ R .non (put M a (.lst (us ++ [y])))
theorem umt_append : UMt X "list.append" uAppend := mt_imp mt_append fun x xs H Q ⟨ux, us, M, R, r1, r2, hd, ⟨a, zs, y, e1, e2, m, hz, q⟩, c⟩ => by
  subst e1 e2
  obtain ⟨v, rfl, r2'⟩ := r2.one; replace r2 := r2'
  obtain ⟨vs, h, t⟩ := hd a _ m
  rw [rep_ref r1]
  exact ⟨a, vs, v, rfl, rfl, h, by rw [← t.length]; exact hz, c.at_ q (Stp.chg m) (hd.putL (Stp.chg m) (t.app (.cons r2 .nil))) mk_non⟩
theorem list_ext (l : Addr) (items : Array Value) (n : Nat) (b : Addr) (items2 : Array Value) (n2 : Nat) (d2 : Option Addr) (t2 : Array (Option Value)) (hs0 : ¬(!items.isEmpty && Builtin.List.listTooLong (items.size + items2.size)) = true) (hs1 : items.size ≤ sizeLine) (hs2 : items.size + items2.size ≤ sizeLine + 1) :
    Meets (Builtin.«list.extend» ⟨[.ref l, .ref b], []⟩) (fun _ R s => s.heap.get? l = some { cls := .type "list", dict := none, data := .seq items n, slots := #[] } ∧ s.heap.get? b = some { cls := .type "list", dict := d2, data := .seq items2 n2, slots := t2 } ∧ R (.ok (.ret Value.none)) { s with heap := s.heap.update l (Obj.mapSeq fun x => x ++ items2), toks := s.toks }) :=
  .of_wp fun prog w A R s h => by
    obtain ⟨hp, g, d, tk, os⟩ := s; obtain ⟨hl, hb, h⟩ := h; have f1 := AutoSeq1.idx_int; have f2 := AutoSeq1.sub_tuple_tuple; have f3 := AutoSeq1.sub_list_list; have f4 := AutoSeq1.sub_tuple_list; have f5 := AutoSeq1.sub_list_tuple;
    have hz' : (items ++ items2).size ≤ sizeLine + 1 := by rw [Array.size_append]; exact hs2
    wp_walk using (wpAny_updateSeq hl rfl (hz := hs1) (_hz' := hz')), AutoSeq1.wpAny_loadPart' hl, AutoSeq1.wpAny_loadPart' hb; exact ⟨_, rfl, h⟩
theorem list_extT (l : Addr) (items : Array Value) (n : Nat) (b : Addr) (items2 : Array Value) (n2 : Nat) (d2 : Option Addr) (t2 : Array (Option Value)) (hs0 : ¬(!items.isEmpty && Builtin.List.listTooLong (items.size + items2.size)) = true) (hs1 : items.size ≤ sizeLine) (hs2 : items.size + items2.size ≤ sizeLine + 1) :
    Meets (Builtin.«list.extend» ⟨[.ref l, .ref b], []⟩) (fun _ R s => s.heap.get? l = some { cls := .type "list", dict := none, data := .seq items n, slots := #[] } ∧ s.heap.get? b = some { cls := .type "tuple", dict := d2, data := .seq items2 n2, slots := t2 } ∧ R (.ok (.ret Value.none)) { s with heap := s.heap.update l (Obj.mapSeq fun x => x ++ items2), toks := s.toks }) :=
  .of_wp fun prog w A R s h => by
    obtain ⟨hp, g, d, tk, os⟩ := s; obtain ⟨hl, hb, h⟩ := h; have f1 := AutoSeq1.idx_int; have f2 := AutoSeq1.sub_tuple_tuple; have f3 := AutoSeq1.sub_list_list; have f4 := AutoSeq1.sub_tuple_list; have f5 := AutoSeq1.sub_list_tuple;
    have hz' : (items ++ items2).size ≤ sizeLine + 1 := by rw [Array.size_append]; exact hs2
    wp_walk using (wpAny_updateSeq hl rfl (hz := hs1) (_hz' := hz')), AutoSeq1.wpAny_loadPart' hl, AutoSeq1.wpAny_loadPart' hb; exact ⟨_, rfl, h⟩
theorem mt_ext : MtR X "list.extend" (fun x vs H Q => ∃ l b xs zs, x = .ref l ∧ vs = [.ref b] ∧ H l = some (.lst xs) ∧ (SqL X.K H b zs ∨ SqT X.K H b zs) ∧ xs.length + zs.length ≤ sizeLine ∧ Q .non (upd H l (.lst (xs ++ zs)))) := by
  intro pins s σ H x vs v us Q I rx rv h
  obtain ⟨l, b, xs, zs, rfl, rfl, hH, hB, hz, q⟩ := h
  cases rx
  obtain ⟨u, rfl, ru⟩ := rv.one
  cases ru
  obtain ⟨z, its, n, r, hl, e⟩ := I.lstM hH
  have fin : ∀ its2 : List Value, Vals zs its2 → EP X pins σ Q .none { s with heap := s.heap.update l (Obj.mapSeq fun x => x ++ its2.toArray), toks := s.toks } := fun its2 r2 =>
    ⟨.non, _, I.lset (its' := its ++ its2) hH e (by simp) (r.append r2) (by rw [List.length_append]; exact hz), rfl, q⟩
  rcases hB with hB | hB
  · obtain ⟨its2, r2, ⟨⟨c2, d2, z2, t2⟩, m, e2, hc2, _, hd2⟩, _⟩ := I.list hB
    simp only at hc2 hd2
    subst hc2 hd2
    have l2 := r2.length
    have hsz : its.toArray.size + its2.toArray.size ≤ sizeLine := by rw [List.size_toArray, List.size_toArray]; omega
    have hlong : ¬ (!its.toArray.isEmpty && Builtin.List.listTooLong (its.toArray.size + its2.toArray.size)) = true := by
      rw [notLongL hsz, Bool.and_false]
      exact Bool.false_ne_true
    exact call_meets F.slot_list_extend ⟨_, e, rfl⟩ F.entry_list_extend (F.args_list_extend_2 _ _) (list_ext l its.toArray n b its2.toArray m d2 t2 hlong (by rw [List.size_toArray]; omega) (by omega)) ⟨e, e2, fin its2 r2⟩
  · obtain ⟨its2, r2, ⟨⟨c2, d2, z2, t2⟩, e2, hc2, m, hd2⟩, _⟩ := I.tuple hB
    simp only at hc2 hd2
    subst hc2 hd2
    have l2 := r2.length
    have hsz : its.toArray.size + its2.toArray.size ≤ sizeLine := by rw [List.size_toArray, List.size_toArray]; omega
    have hlong : ¬ (!its.toArray.isEmpty && Builtin.List.listTooLong (its.toArray.size + its2.toArray.size)) = true := by
      rw [notLongL hsz, Bool.and_false]
      exact Bool.false_ne_true
    exact call_meets F.slot_list_extend ⟨_, e, rfl⟩ F.entry_list_extend (F.args_list_extend_2 _ _) (list_extT l its.toArray n b its2.toArray m d2 t2 hlong (by rw [List.size_toArray]; omega) (by omega)) ⟨e, e2, fin its2 r2⟩
def uExtend : OM := fun x xs M R => ∃ a us y zs, x = .ref a ∧ xs = [y] ∧ M a = some (.lst us) ∧ seqOf M y = some zs ∧ us.length + zs.length ≤ sizeLine ∧ R .non (put M a (.lst (us ++ zs)))
theorem umt_extend : UMt X "list.extend" uExtend := mt_imp mt_ext fun x xs H Q ⟨ux, us, M, R, r1, r2, hd, ⟨a, ws, y, zs, e1, e2, m, e3, hz, q⟩, c⟩ => by
  subst e1 e2
  obtain ⟨v, rfl, r2'⟩ := r2.one; replace r2 := r2'
  obtain ⟨vs, h, t⟩ := hd a _ m
  obtain ⟨b, vs2, rfl, h2, t2⟩ := seqOf_rep hd r2 e3
  rw [rep_ref r1]
  exact ⟨a, b, vs, vs2, rfl, rfl, h, h2, by rw [← t.length, ← t2.length]; exact hz, c.at_ q (Stp.chg m) (hd.putL (Stp.chg m) (t.app t2)) mk_non⟩
theorem reps_erase {K : PySem.W.Frag} {M : Mp} {H : Hp} : ∀ {us : List U} {vs : List V} (i : Nat), RepVs K M H us vs → RepVs K M H (us.eraseIdx i) (vs.eraseIdx i)
  | [], _, _, h => by rw [h.nil_inv]; exact .nil
  | u :: us, _, 0, h => by
    obtain ⟨v, q, e, h1, h2⟩ := h.uncons
    subst e
    exact h2
  | u :: us, _, i + 1, h => by
    obtain ⟨v, q, e, h1, h2⟩ := h.uncons
    subst e
    exact .cons h1 (reps_erase i h2)
/-- xs.pop(), xs.pop(i) -/
def uPop : OM := fun x xs M R => ∃ a us y, x = .ref a ∧ xs = [] ∧ M a = some (.lst us) ∧ us.getLast? = some y ∧ R y (put M a (.lst us.dropLast))
theorem reps_dropLast {K : PySem.W.Frag} {M : Mp} {H : Hp} {us : List U} {vs : List V} (h : RepVs K M H us vs) : RepVs K M H us.dropLast vs.dropLast := by
  rw [List.dropLast_eq_take, List.dropLast_eq_take, h.length]
  exact h.take _
theorem umt_pop : UMt X "list.pop" uPop := mt_imp mt_pop fun x xs H Q ⟨ux, us, M, R, r1, r2, hd, ⟨a, ws, y, e1, e2, m, e3, q⟩, c⟩ => by
  subst e1 e2
  rw [r2.nil_inv]
  obtain ⟨vs, h, t⟩ := hd a _ m
  rw [List.getLast?_eq_getElem?] at e3
  obtain ⟨v, e4, r4⟩ := t.get e3
  rw [rep_ref r1]
  exact ⟨a, vs, v, rfl, rfl, h, by rw [← t.length]; exact e4, c.at_ q (Stp.chg m) (hd.putL (Stp.chg m) (reps_dropLast t)) (r4.step (Stp.chg m))⟩
def uPopAt : OM := fun x xs M R => ∃ a us i k y, x = .ref a ∧ xs = [.int i] ∧ M a = some (.lst us) ∧ -(2 ^ 63) ≤ i ∧ i < 2 ^ 63 ∧ seqIndex? i us.length = some k ∧ us[k]? = some y ∧ R y (put M a (.lst (us.eraseIdx k)))
theorem umt_popAt : UMt X "list.pop" uPopAt := mt_imp mt_popAt fun x xs H Q ⟨ux, us, M, R, r1, r2, hd, ⟨a, ws, i, k, y, e1, e2, m, h1, h2, hk, e3, q⟩, c⟩ => by
  subst e1 e2
  obtain ⟨v, rfl, r2'⟩ := r2.one; replace r2 := r2'
  obtain ⟨vs, h, t⟩ := hd a _ m
  obtain ⟨w, e4, r4⟩ := t.get e3
  rw [rep_ref r1, rep_int r2]
  exact ⟨a, vs, i, k, w, rfl, rfl, h, h1, h2, by rw [← t.length]; exact hk, e4, c.at_ q (Stp.chg m) (hd.putL (Stp.chg m) (reps_erase k t)) (r4.step (Stp.chg m))⟩
def uReverse : OM := fun x xs M R => ∃ a us, x = .ref a ∧ xs = [] ∧ M a = some (.lst us) ∧ R .non (put M a (.lst us.reverse))
theorem umt_reverse : UMt X "list.reverse" uReverse := mt_imp mt_reverse fun x xs H Q ⟨ux, us, M, R, r1, r2, hd, ⟨a, ws, e1, e2, m, q⟩, c⟩ => by
  subst e1 e2
  rw [r2.nil_inv]
  obtain ⟨vs, h, t⟩ := hd a _ m
  rw [rep_ref r1]
  exact ⟨a, vs, rfl, rfl, h, c.at_ q (Stp.chg m) (hd.putL (Stp.chg m) t.rev) mk_non⟩
/-- sep.join(..) -/
def uJoin : OM := fun x xs M R => ∃ a u ys, x = .str a ∧ xs = [u] ∧ seqOf M u = some (ys.map .str) ∧ (ys.map (·.length)).sum + ys.length * a.length ≤ 16777216 ∧ R (.str (Txt.join a ys)) M
theorem umt_join : UMt X "str.join" uJoin := mt_imp mt_join fun x xs H Q ⟨ux, us, M, R, r1, r2, hd, ⟨a, u, ys, e1, e2, m, hz, q⟩, c⟩ => by
  subst e1 e2
  obtain ⟨v, rfl, r2'⟩ := r2.one; replace r2 := r2'
  obtain ⟨b, vs, rfl, h, t⟩ := seqOf_rep hd r2 m
  rw [strs_rep t] at h
  rw [rep_str r1]
  exact ⟨a, b, ys, rfl, rfl, h, hz, c.here q hd mk_str⟩

/-! ### stores -/
def uSetL : WSet := fun o i v M R => ∃ a us k j, o = .ref a ∧ i = .int k ∧ M a = some (.lst us) ∧ ixN us.length k = some j ∧ R (put M a (.lst (us.set j v)))
theorem set_imp {t t' : TSet} (h : PSet X t) (im : ∀ o i v H Q, t' o i v H Q → t o i v H Q) : PSet X t' := fun pins s σ H o i v ov iv u Q I ro ri rv q => h pins s σ H o i v ov iv u Q I ro ri rv (im _ _ _ _ _ q)
theorem uset_list : USet X uSetL := set_imp set_list fun o i v H Q ⟨uo, ui, uv, M, R, r1, r2, r3, hd, ⟨a, us, k, j, e1, e2, m, hj, q⟩, c⟩ => by
  subst e1 e2
  obtain ⟨vs, h, t⟩ := hd a _ m
  rw [rep_ref r1, rep_int r2]
  exact ⟨a, vs, k, j, rfl, rfl, h, by rw [← t.length]; exact hj, c _ _ q (Stp.chg m) (hd.putL (Stp.chg m) (t.set j r3))⟩

/-! ### [..] * n -/
def wRepL (tr : WA) (tb : WE) : WE := fun su M R => tr su M fun xs M1 => xs.length ≤ sizeLine ∧ tb su M1 fun y M2 => ∃ k : Int, y = .int k ∧ -(2 ^ 63) ≤ k ∧ k < 2 ^ 63 ∧ xs.length * k.toNat ≤ sizeLine ∧ R (.lst (List.replicate k.toNat xs).flatten) M2
theorem j_repL {b : Expr} {tb : WE} {p1 : Pos} (ha : JA X g es tr) (hb : JE X g b tb) : JE X g (.BinOp (.List es p1) .Mult b pos) (wRepL tr tb) :=
  pe_imp (pe_op op_rep (pe_lst ha) hb) fun σ H Q ⟨su, M, R, a, h, c⟩ => ⟨su, M, _, a, h, fun xs M1 vs H1 ⟨hz, q⟩ s1 d1 r1 => ⟨by rw [← r1.length]; exact hz, fun p hp => by
    have s2 := Stp.new (o := .lst vs) d1 hp
    refine ⟨su, M1, _, (a.go s1 d1).go s2 (d1.new hp), q, fun y M2 v H2 ⟨k, e, k1, k2, kz, q2⟩ s3 d3 r3 => ?_⟩
    subst e
    have hh := (s3 p _ upd_same (d1.free hp)).1
    have r4 := RepVs.step (s2.trans s3) _ _ r1
    exact ⟨p, k, vs, rfl, rep_int r3, hh, k1, k2, by rw [← r1.length]; exact kz, fun p2 hp2 => c.at_ q2 (((s1.trans s2).trans s3).trans (Stp.new d3 hp2)) (d3.new hp2) (new_lst d3 hp2 (reps r4 k.toNat))⟩⟩⟩

/-! ### {} -/
def wDict0 : WE := fun _ M R => R (.dct [] []) M
def wDict0H : WE := fun _ M R => ∀ p, M p = none → R (.ref p) (put M p (.dct [] []))
theorem j_dict0 : JE X g (.Dict [] [] pos) wDict0 := pe_imp pe_dnewK fun σ H Q ⟨su, M, R, a, h, c⟩ p hp =>
  c.at_ h (Stp.new a.hd hp) (a.hd.new hp) (by unfold RepV; exact ⟨p, [], rfl, upd_same, a.hd.free hp, rfl, .nil⟩)
theorem j_dict0H : JE X g (.Dict [] [] pos) wDict0H := pe_imp pe_dnewK fun σ H Q ⟨su, M, R, a, h, c⟩ p hp =>
  c.at_ (h p (a.hd.free hp)) (Stp.newH hp) (a.hd.putD (vs := []) (us := []) (ks := []) (Stp.newH hp) rfl .nil) mk_ref
end
end Pu

/-! Pu, part 13: the context of a text: names checked by one Bool; defs by their promises. -/
namespace Pu
open PySem PySem.Spec PyProof.Rows L2 PySem.SeqAt

/-- a def of the text that keeps a promise -/
structure FnV (P : Program) (w : World) (K : PySem.W.Frag) (mg : Str → Option Value) (base : Heap) (k : Nat) (x : Str) (st : Stmt) (ps : List Str) (sp : USp) : Prop where
  ex : ∃ (f : Addr) (fd : FuncData), FnOk P w K mg base (L2.CX P w) k f fd ps (liftSp K mg sp) ∧ mg x = some (.ref f) ∧ PySem.W.keepIn K (.ref f) = true ∧ (∃ nm : Str, FunD K nm nm (defArgs st) (defBody st) (defScope st) [] [] f fd) ∧ Binds K fd ps []
/-- a promise that asks more is kept too -/
theorem FnV.weak {P : Program} {w : World} {K : PySem.W.Frag} {mg : Str → Option Value} {base : Heap} {k : Nat} {x : Str} {st : Stmt} {ps : List Str} {sp sp' : USp} (F : FnV P w K mg base k x st ps sp) (h : ∀ us M R E, sp' us M R E → sp us M R E) : FnV P w K mg base k x st ps sp' := by
  obtain ⟨f, fd, F, r⟩ := F.ex
  refine ⟨f, fd, ⟨?_, ?_⟩, r⟩
  · exact fun vs H Q E ⟨us, M, R, Ru, r, d, q, c⟩ => F.len vs H Q E ⟨us, M, R, Ru, r, d, h _ _ _ _ q, c⟩
  · exact fun A outer s H args us vs Q E a b c d ⟨zs, M, R, Ru, r, dd, q, cc⟩ => F.run A outer s H args us vs Q E a b c d ⟨zs, M, R, Ru, r, dd, h _ _ _ _ q, cc⟩

/-- the walk's context: of a def's body, of a block in it; S: the names as written -/
structure Wk (X : Cx) (P : Program) (w : World) (K : PySem.W.Frag) (mg : Str → Option Value) (base : Heap) (k : Nat) (N : List Str) (S : Scope) : Prop where
  prog : X.prog = P
  wd : X.w = w
  K : X.K = K
  mg : X.mg = mg
  base : X.base = base
  N : X.N = N
  nd : X.N.Nodup
  dp : X.A.depth + 3 * k + 5 < recursionLimit
  un : X.A.units + 16 * k + 200 < cLine
  hd : X.calm = true → X.A.handled = none
  look : ∀ x c, S.names.lookup x = some c → (c ≠ .free → X.env.scope.names.lookup x = some c) ∧ (c = .free → X.env.scope.names.lookup x = some .free ∨ X.env.scope.names.lookup x = some .cell)
  st : ∀ x, S.names.lookup x = some .local ∨ S.names.lookup x = some .cell → X.fn x = true ∨ X.env.scope.names.lookup x = some .local
def visB (S : Scope) (x : Str) : Bool := match S.names.lookup x with
  | some .local => true | some .cell => true | some .free => true
  | _ => false
def locB (S : Scope) (x : Str) : Bool := match S.names.lookup x with
  | some .local => true | some .cell => true
  | _ => false
def glB (S : Scope) (x : Str) : Bool := S.names.lookup x == some .globalImplicit && !(x == ("__debug__" : Str))
def varB (N : List Str) (S : Scope) (i : Nat) (x : Str) : Bool := N[i]? == some x && (visB S x && (!(x == ("__debug__" : Str)) && !(x == ("__classdict__" : Str))))
def stoB (N : List Str) (S : Scope) (i : Nat) (x : Str) : Bool := N[i]? == some x && locB S x
/-- a block's own names (with their slots), the rest global or captured -/
def blkB (N : List Str) (S scope : Scope) (own : List (Str × Nat)) : Bool :=
  scope.kind == .function && (scope.names.all (fun y => scope.names.lookup y.1 == some y.2) && (own.all (fun p => N[p.2]? == some p.1) &&
    (scope.names.all (fun y => !(y.2 == .free) || (S.names.lookup y.1 == some .cell || S.names.lookup y.1 == some .free)) && scope.names.all fun y => !(y.2 == .local || y.2 == .cell) || ((own.map (·.1)).contains y.1 || !N.contains y.1))))

section
variable {X : Cx} {P : Program} {w : World} {K : PySem.W.Frag} {mg : Str → Option Value} {base : Heap} {k : Nat} {N : List Str} {S : Scope} {g : Gd}
theorem and2 {a b : Bool} (h : (a && b) = true) : a = true ∧ b = true := Bool.and_eq_true_iff.mp h
theorem Wk.vis (W : Wk X P w K mg base k N S) {x : Str} (h : visB S x = true) : Vis X.env.scope x := by
  unfold visB at h
  split at h
  · rename_i e; exact .inl ((W.look x _ e).1 (by decide))
  · rename_i e; exact .inr (.inl ((W.look x _ e).1 (by decide)))
  · rename_i e
    rcases (W.look x _ e).2 rfl with q | q
    · exact .inr (.inr q)
    · exact .inr (.inl q)
  · cases h
theorem locB_of {x : Str} (h : locB S x = true) : S.names.lookup x = some .local ∨ S.names.lookup x = some .cell := by
  unfold locB at h
  split at h
  · rename_i e; exact .inl e
  · rename_i e; exact .inr e
  · cases h
theorem Wk.loc (W : Wk X P w K mg base k N S) {x : Str} (h : locB S x = true) : Loc X.env.scope x ∧ (X.fn x = true ∨ X.env.scope.names.lookup x = some .local) := by
  refine ⟨?_, W.st x (locB_of h)⟩
  rcases locB_of h with e | e
  · exact .inl ((W.look x _ e).1 (by decide))
  · exact .inr ((W.look x _ e).1 (by decide))
theorem Wk.gl (W : Wk X P w K mg base k N S) {x : Str} (h : glB S x = true) : Gl X x ∧ (x == ("__debug__" : Str)) = false := by
  obtain ⟨h1, h2⟩ := and2 h
  exact ⟨(W.look x _ (by simpa using h1)).1 (by decide), by simpa using h2⟩
theorem Wk.at_ (W : Wk X P w K mg base k N S) {i : Nat} {x : Str} (h : (N[i]? == some x) = true) : X.N[i]? = some x := by
  rw [W.N]
  simpa using h
theorem Wk.u64 (W : Wk X P w K mg base k N S) : X.A.units + 64 < cLine := by
  have := W.un
  omega
theorem Wk.room (W : Wk X P w K mg base k N S) (h : X.calm = true) : Room k X.A := ⟨W.hd h, W.dp, W.un⟩
theorem Wk.u65 (W : Wk X P w K mg base k N S) : X.A.units + 65 < cLine := by
  have := W.un
  omega
/-- a block of it -/
theorem Wk.blk (W : Wk X P w K mg base k N S) {scope : Scope} {own : List (Str × Nat)} (h : blkB N S scope own = true) (s : Shared) (H : Hp) (C : Addr) (cl : List (Str × Addr)) (fp : List Addr) : Wk (X.blk s H scope (compEnvC scope cl C X.env) fp) P w K mg base k N scope where
  prog := W.prog
  wd := W.wd
  K := W.K
  mg := W.mg
  base := W.base
  N := W.N
  nd := W.nd
  dp := W.dp
  un := W.un
  hd := W.hd
  look := fun x c e => by
    show (c ≠ .free → (relS scope X.env.scope).names.lookup x = some c) ∧ (c = .free → (relS scope X.env.scope).names.lookup x = some .free ∨ (relS scope X.env.scope).names.lookup x = some .cell)
    refine ⟨fun hc => lookup_relS_keep hc e, fun hc => ?_⟩
    subst hc
    have key : ∀ (names : List (Str × NameKind)), names.lookup x = some .free →
        (names.map fun (n, k) => if (k == NameKind.free && X.env.scope.kind == .function && X.env.scope.names.lookup n == some .cell) then (n, NameKind.cell) else (n, k)).lookup x = some .free ∨
        (names.map fun (n, k) => if (k == NameKind.free && X.env.scope.kind == .function && X.env.scope.names.lookup n == some .cell) then (n, NameKind.cell) else (n, k)).lookup x = some .cell := by
      intro names
      induction names with
      | nil => intro h; cases h
      | cons y r ih =>
        obtain ⟨n, kk⟩ := y
        intro h
        rw [List.lookup_cons] at h
        show List.lookup x ((if (kk == NameKind.free && X.env.scope.kind == .function && X.env.scope.names.lookup n == some .cell) = true then (n, NameKind.cell) else (n, kk)) :: (r.map _)) = _ ∨ List.lookup x ((if (kk == NameKind.free && X.env.scope.kind == .function && X.env.scope.names.lookup n == some .cell) = true then (n, NameKind.cell) else (n, kk)) :: (r.map _)) = _
        cases hx : x == n with
        | true =>
          rw [hx] at h
          simp only [Option.some.injEq] at h
          subst h
          split
          · right; rw [List.lookup_cons, hx]
          · left; rw [List.lookup_cons, hx]
        | false =>
          rw [hx] at h
          split <;> (rw [List.lookup_cons, hx]; exact ih h)
    exact key _ e
  st := fun x hx => by
    rcases hx with e | e
    · exact .inr (lookup_relS_keep (by decide) e)
    · exact .inl (by show (scope.names.lookup x == some NameKind.cell) = true; rw [e]; rfl)
theorem Wk.blkOk (W : Wk X P w K mg base k N S) {scope : Scope} {own : List (Str × Nat)} (h : blkB N S scope own = true) : BlkOk X.N X.env.scope scope own := by
  obtain ⟨h1, h⟩ := and2 h
  obtain ⟨h2, h⟩ := and2 h
  obtain ⟨h3, h⟩ := and2 h
  obtain ⟨h4, h5⟩ := and2 h
  refine ⟨by simpa using h1, fun y hy => by simpa using List.all_eq_true.mp h2 y hy, fun p hp => W.at_ (List.all_eq_true.mp h3 p hp), fun y hy e => ?_, fun y hy e => ?_⟩
  · have q := List.all_eq_true.mp h4 y hy
    rw [e] at q
    simp only [beq_self_eq_true, Bool.not_true, Bool.false_or, Bool.or_eq_true, beq_iff_eq] at q
    rcases q with q | q
    · exact .inl ((W.look _ _ q).1 (by decide))
    · exact ((W.look _ _ q).2 rfl).symm
  · have q := List.all_eq_true.mp h5 y hy
    have e' : (y.2 == NameKind.local || y.2 == NameKind.cell) = true := by
      rcases e with e | e <;> rw [e] <;> decide
    rw [e'] at q
    simp only [Bool.not_true, Bool.false_or, Bool.or_eq_true] at q
    rcases q with q | q
    · exact .inl (by simpa using q)
    · refine .inr ?_
      rw [W.N]
      simpa using q

/-! ### the rules, packed -/
variable {e a b : Expr} {es : List Expr} {te ta tb : WE} {tr : WA} {tc : WT} {x : Str} {p pos : Pos}
theorem k_var (W : Wk X P w K mg base k N S) (i : Nat) (h : varB N S i x = true) : JE X g (.Name x pos) (wVar i) := by
  obtain ⟨h1, h⟩ := and2 h
  obtain ⟨h2, h⟩ := and2 h
  obtain ⟨h3, h4⟩ := and2 h
  exact j_var (W.at_ h1) (W.vis h2) (by simpa using h3) (by simpa using h4)
/-- a constant of the module, the same at every moment -/
structure Cst (K : PySem.W.Frag) (mg : Str → Option Value) (x : Str) (u : U) : Prop where
  ex : ∃ (v : V) (z : Value), mg x = some z ∧ RelV v z ∧ ∀ M H, RepV K M H u v
theorem k_cst (W : Wk X P w K mg base k N S) {u : U} (C : Cst K mg x u) (h : glB S x = true) : JE X g (.Name x pos) (wC u) := by
  obtain ⟨v, z, h1, h2, h3⟩ := C.ex
  obtain ⟨q1, q2⟩ := W.gl h
  exact j_glob q1 (by rw [W.mg]; exact h1) h2 (by rw [W.K]; exact h3) q2
theorem k_ty (W : Wk X P w K mg base k N S) {n : String} (hm : mg x = none) (h : glB S x = true) (hv : bootBuiltins x = some (.type n)) (hn : x ≠ "__name__") : JE X g (.Name x pos) (wC (.ty n)) := by
  obtain ⟨q1, q2⟩ := W.gl h
  exact j_ty q1 (by rw [W.mg]; exact hm) hv hn q2
theorem Wk.fnU (W : Wk X P w K mg base k N S) {k' : Nat} {st : Stmt} {ps : List Str} {sp : USp} (F : FnV P w K mg base k' x st ps sp) : FnU X k' x sp := by
  obtain ⟨f, fd, F, hm, hk, _, hb⟩ := F.ex
  obtain ⟨rfl, rfl, rfl, rfl, rfl, _⟩ := W
  exact ⟨f, fd, ps, F, hm, hk, hb⟩
theorem k_call (W : Wk X P w K mg base k N S) (hc : X.calm = true) {k' : Nat} {st : Stmt} {ps : List Str} {sp : USp} {ex : UWX} (F : FnV P w K mg base k' x st ps sp) (hk : k' ≤ k) (tk : Takes X (Wof X g ex)) (h : glB S x = true) (ha : JA X g (e :: es) tr)
    (he : starEach (e :: es) X.env = (false, eval e X.env) :: starEach es X.env) (hpl : (backTo pos (starEach es X.env)).any (·.1) = false) : JE X g (.Call (.Name x p) (e :: es) [] pos) (wCall sp ex tr) := by
  obtain ⟨q1, q2⟩ := W.gl h
  exact j_call (W.fnU F) ((W.room hc).mono hk) q1 tk ha q2 he hpl
theorem k_callB (W : Wk X P w K mg base k N S) {id : String} {o : OC} (hc : UCal X (.builtin id) o) (hm : mg x = none) (h : glB S x = true) (hv : bootBuiltins x = some (.builtin id)) (hn : x ≠ "__name__") (ha : JA X g (e :: es) tr)
    (he : starEach (e :: es) X.env = (false, eval e X.env) :: starEach es X.env) (hpl : (backTo pos (starEach es X.env)).any (·.1) = false) : JE X g (.Call (.Name x p) (e :: es) [] pos) (wCB o tr) := by
  obtain ⟨q1, q2⟩ := W.gl h
  exact j_callB hc q1 (by rw [W.mg]; exact hm) hv ha hn q2 he hpl
theorem k_callTy (W : Wk X P w K mg base k N S) {id : String} {o : OC} (hc : UCal X (.type id) o) (hm : mg x = none) (h : glB S x = true) (hv : bootBuiltins x = some (.type id)) (hn : x ≠ "__name__") (ha : JA X g (e :: es) tr)
    (he : starEach (e :: es) X.env = (false, eval e X.env) :: starEach es X.env) (hpl : (backTo pos (starEach es X.env)).any (·.1) = false) : JE X g (.Call (.Name x p) (e :: es) [] pos) (wCB o tr) := by
  obtain ⟨q1, q2⟩ := W.gl h
  exact j_callTy hc q1 (by rw [W.mg]; exact hm) hv ha hn q2 he hpl
theorem k_range1 (W : Wk X P w K mg base k N S) {tg : Expr} (hm : mg "range" = none) (h : glB S "range" = true) (ha : JA X g [a] tr) (hs : starEach [a] X.env = [(false, eval a X.env)]) : JI X g tg (.Call (.Name "range" p) [a] [] pos) (wRng1 tr) :=
  ji_range1 (W.gl h).1 (by rw [W.mg]; exact hm) ha hs
theorem k_range2 (W : Wk X P w K mg base k N S) {tg : Expr} (hm : mg "range" = none) (h : glB S "range" = true) (ha : JA X g [a, b] tr) (hs : starEach [a, b] X.env = [(false, eval a X.env), (false, eval b X.env)]) (hs2 : starEach [b] X.env = [(false, eval b X.env)]) :
    JI X g tg (.Call (.Name "range" p) [a, b] [] pos) (wRng2 tr) :=
  ji_range2 (W.gl h).1 (by rw [W.mg]; exact hm) ha hs hs2
theorem k_enum (W : Wk X P w K mg base k N S) {elts : List Expr} {kk : Nat} {tpos : Pos} (hm : mg "enumerate" = none) (h : glB S "enumerate" = true) (ha : JA X g [a] tr) (hs : starEach [a] X.env = [(false, eval a X.env)]) : JI X g (.Tuple elts kk tpos) (.Call (.Name "enumerate" p) [a] [] pos) (wEnum tr) :=
  ji_enum (W.gl h).1 (by rw [W.mg]; exact hm) ha hs
theorem k_name (W : Wk X P w K mg base k N S) (i : Nat) (h : stoB N S i x = true) : JG X g (.Name x pos) (wName i) := by
  obtain ⟨h1, h2⟩ := and2 h
  obtain ⟨q1, q2⟩ := W.loc h2
  exact jg_name W.nd (W.at_ h1) q1 q2
theorem k_nameo (W : Wk X P w K mg base k N S) (vs : List Nat) (i : Nat) (h : stoB N S i x = true) (hv : i ∈ vs) : JGo X g vs (.Name x pos) (wName i) := by
  obtain ⟨h1, h2⟩ := and2 h
  obtain ⟨q1, q2⟩ := W.loc h2
  exact jgo_name W.nd (W.at_ h1) q1 q2 hv
theorem k_set (W : Wk X P w K mg base k N S) (i : Nat) {pos' : Pos} (h : stoB N S i x = true) (he : JE X g e te) (hs : swapsWith e (some (.Name x pos')) pos.line X.env = pure false) : JS X g (.Assign [.Name x pos'] e pos) (wSet i te) := by
  obtain ⟨h1, h2⟩ := and2 h
  obtain ⟨q1, q2⟩ := W.loc h2
  exact js_set W.nd (W.at_ h1) q1 he hs q2
theorem k_comp (W : Wk X P w K mg base k N S) (hc : X.calm = true) (hh : Bool) {tg iter elt : Expr} {ifs : List Expr} {scope : Scope} {ww : WI} {gt : WG} (own : List (Str × Nat)) (ok : blkB N S scope own = true) (hi : JI X g tg iter ww)
    (hb : ∀ Y, Wk Y P w K mg base k N scope → Y.calm = true → JGo Y g (own.map (·.2)) tg gt ∧ JTs Y g ifs tc ∧ JE Y g elt te) (hs : ∀ x, foldedSetIterable iter X.env x = pure x) :
    JE X g (.ListComp elt [⟨tg, iter, ifs, 0⟩] scope pos) (wComp hh ww gt tc te (own.map (·.2))) :=
  j_comp hh hc W.nd hi (W.blkOk ok) (fun s H C cl fp => (hb _ (W.blk ok s H C cl fp) hc).1) (fun s H C cl fp => (hb _ (W.blk ok s H C cl fp) hc).2.1) (fun s H C cl fp => (hb _ (W.blk ok s H C cl fp) hc).2.2) hs
/-- name = [..]: swS tells the line's places and that the block has no such name -/
def swB (S scope : Scope) (y : Str) (py pos : Pos) (l : Nat) : Bool := S.kind == .function && (S.names.lookup y == some .local && (py.line == pos.line && !(scope.names.any fun (n, k) => n == y && (k == .local || k == .cell))))
theorem k_setComp (W : Wk X P w K mg base k N S) (hc : X.calm = true) (hk : X.env.scope.kind = .function) (hh : Bool) (i : Nat) {y : Str} {py spos : Pos} {tg iter elt : Expr} {ifs : List Expr} {scope : Scope} {ww : WI} {gt : WG} (own : List (Str × Nat)) (hy : stoB N S i y = true) (hsw : swB S scope y py pos spos.line = true) (ok : blkB N S scope own = true) (hi : JI X g tg iter ww)
    (hb : ∀ Y, Wk Y P w K mg base k N scope → Y.calm = true → JGo Y g (own.map (·.2)) tg gt ∧ JTs Y g ifs tc ∧ JE Y g elt te) (hs : ∀ x, foldedSetIterable iter X.env x = pure x) :
    JS X g (.Assign [.Name y py] (.ListComp elt [⟨tg, iter, ifs, 0⟩] scope pos) spos) (wSet i (wComp hh ww gt tc te (own.map (·.2)))) := by
  obtain ⟨h1, h2⟩ := and2 hy
  obtain ⟨s1, s2⟩ := and2 hsw
  obtain ⟨s2, s3⟩ := and2 s2
  obtain ⟨s3, s4⟩ := and2 s3
  have hyl : X.env.scope.names.lookup y = some .local := (W.look y _ (by simpa using s2)).1 (by decide)
  exact js_setComp hh hc W.nd (W.at_ h1) hyl (sw_true hk hyl s3 (by simpa using s4)) hi (W.blkOk ok) (fun s H C cl fp => (hb _ (W.blk ok s H C cl fp) hc).1) (fun s H C cl fp => (hb _ (W.blk ok s H C cl fp) hc).2.1) (fun s H C cl fp => (hb _ (W.blk ok s H C cl fp) hc).2.2) hs
end
end Pu

/-! Pu, part 14: calls with keywords, stores of pairs, raise, try, written dicts; a def of the text. -/
namespace Pu
open PySem PySem.Spec PyProof.Rows L2 PySem.SeqAt

section
variable {X : Cx} {P : Program} {w : World} {K : PySem.W.Frag} {mg : Str → Option Value} {base : Heap} {k : Nat} {N : List Str} {S : Scope} {g : Gd} {e a b : Expr} {es : List Expr} {te ta tb : WE} {tr tk : WA} {tc : WT} {x : Str} {p pos : Pos}
/-! ### calls with keywords, in the parameters' order -/
def JK (X : Cx) (g : Gd) (kws : List Keyword) (t : WA) : Prop := PK X kws (liftA X.K g t)
theorem pk_imp {kws : List Keyword} {t t' : TA} (h : PK X kws t) (i : ∀ σ H Q, t' σ H Q → t σ H Q) : PK X kws t' := ⟨fun pos pins s σ H Q I q => h.run pos pins s σ H Q I (i σ H Q q)⟩
theorem jk_nil : JK X g [] wNil := pk_imp pk_nil fun σ H Q ⟨su, M, R, a, h, c⟩ => c _ _ _ _ h (Stp.refl _ _) a.hd .nil
theorem jk_cons {nm : Option Str} {kpos : Pos} {kws : List Keyword} (ha : JE X g e te) (hr : JK X g kws tr) : JK X g (⟨nm, e, kpos⟩ :: kws) (wCons te tr) :=
  pk_imp (pk_cons ha hr) fun σ H Q ⟨su, M, R, a, h, c⟩ => ⟨su, M, _, a, h, fun x M1 v H1 q s1 d1 r1 => ⟨su, M1, _, a.go s1 d1, q, fun xs M2 vs H2 q2 s2 d2 r2 =>
    c _ _ _ _ q2 (s1.trans s2) d2 (.cons (r1.step s2) r2)⟩⟩
theorem run_kwS {CX : CXT} {n k : Nat} {f : Addr} {fd : FuncData} {ps ks : List Str} {sp : Sp} {E : Stt → XK} {pins : List (Addr × Obj)} {σ : Stt} {H : Hp} {s : Shared} {Q : VK} {us ws : List Value} {vs zs : List V} (F : FnOk X.prog X.w X.K X.mg X.base CX k f fd ps sp) (hr : Room k X.A)
    (hb : ∀ (s : Shared) (us ws : List Value), us.length = n → ws.length = ks.length → BindsTo s fd ⟨us, ks.zip ws⟩ (ps.zip (us ++ ws))) (hx : PassesAt CX X σ (E σ))
    (I : Inv X pins σ H s) (r : Vals vs us) (rz : Vals zs ws) (l1 : vs.length = n) (l2 : zs.length = ks.length) (h : sp (vs ++ zs) H Q (E σ)) : wpAny (model X.prog X.w) X.A (call (.ref f) us (ks.zip ws)) (EP X pins σ Q) X.xe s := by
  refine wpAny_call (codeAny_mono (F.run X.A X.stack s H ⟨us, ks.zip ws⟩ (us ++ ws) (vs ++ zs) Q (E σ) hr I.env0 (hb s us ws (r.length.symm.trans l1) (rz.length.symm.trans l2)) (r.append rz) h) fun r s' hq => ?_)
  cases r with
  | error e => exact hx pins H s e s' I hq
  | ok fl =>
    cases fl with
    | ret u => exact I.after hq
    | next => exact False.elim hq
    | brk => exact False.elim hq
    | cont => exact False.elim hq
def wCallK (n m : Nat) (sp : USp) (ex : UWX) (tr tk : WA) : WE := fun su M R => tr su M fun us M1 => tk su M1 fun zs M2 => us.length = n ∧ zs.length = m ∧ sp (us ++ zs) M2 R fun ux M3 => ex ux su M3
/-- how a def without defaults is called with keywords -/
abbrev KwB (x : Str) (st : Stmt) (ps ks : List Str) (n : Nat) : Prop := ∀ (nm : Str) (kV doc pm : Value) (an : Option Addr) (cdv ct : Value) (us ws : List Value), us.length = n → ws.length = ks.length →
  bindArgs (PySem.W.fnOf nm nm (defArgs st) (defBody st) (defScope st) .none kV doc pm an cdv ct) ⟨us, ks.zip ws⟩ = pure (ps.zip (us ++ ws))
theorem KwB.to {K : PySem.W.Frag} {st : Stmt} {ps ks : List Str} {n : Nat} {f : Addr} {fd : FuncData} {nm : Str} (F : FunD K nm nm (defArgs st) (defBody st) (defScope st) [] [] f fd) (h : KwB x st ps ks n) (s : Shared) (us ws : List Value) (h1 : us.length = n) (h2 : ws.length = ks.length) : BindsTo s fd ⟨us, ks.zip ws⟩ (ps.zip (us ++ ws)) := by
  obtain ⟨oc, od, dV, kV, doc, pm, an, cdv, ct, osl, rfl, lk, hcd, hD, hK⟩ := F.ex
  rcases hD with ⟨_, rfl⟩ | ⟨e, _⟩
  · exact .of_eq (h nm kV doc pm an cdv ct us ws h1 h2)
  · exact absurd rfl e
theorem k_callK (W : Wk X P w K mg base k N S) (hc : X.calm = true) {k' n : Nat} {st : Stmt} {ps ks : List Str} {sp : USp} {ex : UWX} {kws : List Keyword} (F : FnV P w K mg base k' x st ps sp) (hk : k' ≤ k) (B : KwB x st ps ks n) (tk' : Takes X (Wof X g ex)) (h : glB S x = true) (ha : JA X g (e :: es) tr) (hkw : JK X g kws tk)
    (hall : (backToKw pos (keywordEach kws X.env)).all (·.1.isSome) = true) (hks : (backToKw pos (keywordEach kws X.env)).filterMap (·.1) = ks)
    (he : starEach (e :: es) X.env = (false, eval e X.env) :: starEach es X.env) (hpl : ((backTo pos (starEach (e :: es) X.env)).any (·.1) || (backToKw pos (keywordEach kws X.env)).any (·.1.isNone)) = false) :
    JE X g (.Call (.Name x p) (e :: es) kws pos) (wCallK n ks.length sp ex tr tk) := by
  obtain ⟨q1, q2⟩ := W.gl h
  have hr := (W.room hc).mono hk
  obtain ⟨rfl, rfl, rfl, rfl, rfl, _⟩ := W
  obtain ⟨f, fd, F, hm, hkp, ⟨nm, FD⟩, _⟩ := F.ex
  refine ⟨fun pins s σ H Q I ⟨su, M, R, a, q, c⟩ => ?_⟩
  refine wpAny_Call_Name_kw (ld_glob I q1 hm ?_ q2)
  refine PySem.W.callWith_KW (h₀ := X.base) I.ok.mod.kin hkp hall (thn (ha.run pos pins s σ H (fun vs H1 => ∃ us M1, Stp M H M1 H1 ∧ RepM X.K M1 H1 ∧ RepVs X.K M1 H1 us vs ∧ tk su M1 fun zs M2 => us.length = n ∧ zs.length = ks.length ∧ sp (us ++ zs) M2 R fun ux M3 => ex ux su M3) I
    ⟨su, M, _, a, q, fun us M1 vs H1 q s1 d1 r1 => ⟨us, M1, s1, d1, r1, q⟩⟩) fun us s1 ⟨vs, H1, I1, r, zu, M1, st1, d1, r1, q1⟩ => ?_) hpl he
  refine thn (hkw.run pos pins s1 σ H1 (fun zs H2 => ∃ wu M2, Stp M1 H1 M2 H2 ∧ RepM X.K M2 H2 ∧ RepVs X.K M2 H2 wu zs ∧ zu.length = n ∧ wu.length = ks.length ∧ sp (zu ++ wu) M2 R fun ux M3 => ex ux su M3) I1
    ⟨su, M1, _, a.go st1 d1, q1, fun wu M2 zs H2 q s2 d2 r2 => ⟨wu, M2, s2, d2, r2, q⟩⟩) fun ws s2 ⟨zs, H2, I2, rz, wu, M2, st2, d2, r2, l1, l2, q2⟩ => ⟨I2.kIn, ?_⟩
  rw [hks]
  refine run_kwS (E := L2.WE (Wof X g ex)) F hr (fun s us ws => B.to FD s us ws) (passAt tk' σ) I2 r rz (by rw [← r1.length]; exact l1) (by rw [← r2.length]; exact l2) ⟨zu ++ wu, M2, R, _, (RepVs.step st2 _ _ r1).app r2, d2, q2, (c.go st1).go st2, fun ux M3 cls d H3 q3 s3 d3 r3 => ⟨ux, su, M3, ((a.go st1 d1).go st2 d2).go s3 d3, r3, q3⟩⟩
/-- keywords alone -/
theorem k_callK0 (W : Wk X P w K mg base k N S) (hc : X.calm = true) {k' : Nat} {st : Stmt} {ps ks : List Str} {sp : USp} {ex : UWX} {kws : List Keyword} (F : FnV P w K mg base k' x st ps sp) (hk : k' ≤ k) (B : KwB x st ps ks 0) (tk' : Takes X (Wof X g ex)) (h : glB S x = true) (hkw : JK X g kws tk)
    (hall : (backToKw pos (keywordEach kws X.env)).all (·.1.isSome) = true) (hks : (backToKw pos (keywordEach kws X.env)).filterMap (·.1) = ks)
    (hpl : ((backTo pos (starEach [] X.env)).any (·.1) || (backToKw pos (keywordEach kws X.env)).any (·.1.isNone)) = false) :
    JE X g (.Call (.Name x p) [] kws pos) (wCallK 0 ks.length sp ex wNil tk) := by
  obtain ⟨q1, q2⟩ := W.gl h
  have hr := (W.room hc).mono hk
  obtain ⟨rfl, rfl, rfl, rfl, rfl, _⟩ := W
  obtain ⟨f, fd, F, hm, hkp, ⟨nm, FD⟩, _⟩ := F.ex
  refine ⟨fun pins s σ H Q I ⟨su, M, R, a, q, c⟩ => ?_⟩
  refine wpAny_Call_Name_kw (ld_glob I q1 hm ?_ q2)
  refine PySem.W.callWith_KW0 (h₀ := X.base) I.ok.mod.kin hkp hall (thn (hkw.run pos pins s σ H (fun zs H2 => ∃ wu M2, Stp M H M2 H2 ∧ RepM X.K M2 H2 ∧ RepVs X.K M2 H2 wu zs ∧ wu.length = ks.length ∧ sp wu M2 R fun ux M3 => ex ux su M3) I
    ⟨su, M, _, a, q, fun wu M2 zs H2 ⟨_, q1, q⟩ s2 d2 r2 => ⟨wu, M2, s2, d2, r2, q1, q⟩⟩) fun ws s2 ⟨zs, H2, I2, rz, wu, M2, st2, d2, r2, l2, q2⟩ => ⟨I2.kIn, ?_⟩) hpl
  rw [hks]
  exact run_kwS (E := L2.WE (Wof X g ex)) (vs := []) F hr (fun s us ws => B.to FD s us ws) (passAt tk' σ) I2 .nil rz rfl (by rw [← r2.length]; exact l2) ⟨wu, M2, R, _, r2, d2, q2, c.go st2, fun ux M3 cls d H3 q3 s3 d3 r3 => ⟨ux, su, M3, (a.go st2 d2).go s3 d3, r3, q3⟩⟩

/-! ### written dicts, by their names -/
structure CDict (K : PySem.W.Frag) (w : World) (mg : Str → Option Value) (x : Str) (kvs : List (Str × U)) : Prop where
  ex : ∃ (d : Addr), mg x = some (.ref d) ∧ (∃ es n, KDict K w d es n) ∧ ∀ z, ∃ o, PySem.W.nsIn K d z = some o ∧ match kvs.lookup z with
    | some u => ∃ u0 v, o = some u0 ∧ RelV v u0 ∧ ∀ M H, RepV K M H u v
    | none => o = none
def uInD (kvs : List (Str × U)) (neg : Bool) : O1 := fun x M R => ∃ z, x = .str z ∧ R (.bl (if neg then !(kvs.lookup z).isSome else (kvs.lookup z).isSome)) M
def uIdxD (kvs : List (Str × U)) : O1 := fun x M R => ∃ z u, x = .str z ∧ kvs.lookup z = some u ∧ R u M
theorem k_inD (W : Wk X P w K mg base k N S) {kvs : List (Str × U)} (D : CDict K w mg x kvs) (h : glB S x = true) (ha : JE X g a ta) : JE X g (.Compare a [.In] [.Name x p] pos) (wUn (uInD kvs false) ta) := by
  obtain ⟨q1, q2⟩ := W.gl h
  obtain ⟨rfl, rfl, rfl, rfl, rfl, _⟩ := W
  obtain ⟨d, m1, ⟨es, n, D⟩, lk⟩ := D.ex
  refine pe_imp (pe_cmpR (op_in_kd D) ha (pe_glob (v := .ref d) q1 m1 rfl q2) rfl) fun σ H Q ⟨su, M, R, a, h, c⟩ => ⟨su, M, _, a, h, fun y M1 v H1 ⟨z, e, q⟩ s1 d1 r1 => ?_⟩
  subst e
  obtain ⟨o, e1, e2⟩ := lk z
  refine ⟨z, o, rep_str r1, rfl, e1, ?_⟩
  have e3 : o.isSome = (kvs.lookup z).isSome := by
    cases h : kvs.lookup z with
    | none => rw [h] at e2; rw [e2]; rfl
    | some w => rw [h] at e2; obtain ⟨u0, v0, e2, _⟩ := e2; rw [e2]; rfl
  rw [e3]
  exact c.at_ q s1 d1 mk_bl
theorem k_ninD (W : Wk X P w K mg base k N S) {kvs : List (Str × U)} (D : CDict K w mg x kvs) (h : glB S x = true) (ha : JE X g a ta) : JE X g (.Compare a [.NotIn] [.Name x p] pos) (wUn (uInD kvs true) ta) := by
  obtain ⟨q1, q2⟩ := W.gl h
  obtain ⟨rfl, rfl, rfl, rfl, rfl, _⟩ := W
  obtain ⟨d, m1, ⟨es, n, D⟩, lk⟩ := D.ex
  refine pe_imp (pe_cmpR (op_notIn_kd D) ha (pe_glob (v := .ref d) q1 m1 rfl q2) rfl) fun σ H Q ⟨su, M, R, a, h, c⟩ => ⟨su, M, _, a, h, fun y M1 v H1 ⟨z, e, q⟩ s1 d1 r1 => ?_⟩
  subst e
  obtain ⟨o, e1, e2⟩ := lk z
  refine ⟨z, o, rep_str r1, rfl, e1, ?_⟩
  have e3 : o.isSome = (kvs.lookup z).isSome := by
    cases h : kvs.lookup z with
    | none => rw [h] at e2; rw [e2]; rfl
    | some w => rw [h] at e2; obtain ⟨u0, v0, e2, _⟩ := e2; rw [e2]; rfl
  rw [e3]
  exact c.at_ q s1 d1 mk_bl
theorem k_idxD (W : Wk X P w K mg base k N S) {kvs : List (Str × U)} (D : CDict K w mg x kvs) (h : glB S x = true) (ha : JE X g e te) (hs : PlainIx e) : JE X g (.Subscript (.Name x p) e pos) (wUn (uIdxD kvs) te) := by
  obtain ⟨q1, q2⟩ := W.gl h
  obtain ⟨rfl, rfl, rfl, rfl, rfl, _⟩ := W
  obtain ⟨d, m1, ⟨es, n, D⟩, lk⟩ := D.ex
  refine pe_imp (pe_ix ix_kdict (pe_glob (v := .ref d) q1 m1 rfl q2) ha hs) fun σ H Q ⟨su, M, R, a, h, c⟩ => ⟨su, M, _, a, h, fun y M1 v H1 ⟨z, u, e, l, q⟩ s1 d1 r1 => ?_⟩
  subst e
  obtain ⟨o, e1, e2⟩ := lk z
  rw [l] at e2
  obtain ⟨u0, v0, rfl, rv, rr⟩ := e2
  exact ⟨d, z, v0, rfl, rep_str r1, ⟨es, n, u0, D.at_, D.lit, e1, rv⟩, c.at_ q s1 d1 (rr _ _)⟩
end

/-! ### a def's context -/
section
variable {X : Cx} {P : Program} {w : World} {K : PySem.W.Frag} {mg : Str → Option Value} {base : Heap} {k : Nat} {N : List Str} {S : Scope} {g : Gd} {e a b c : Expr} {es : List Expr} {te ta tb : WE} {tr tk : WA} {tc : WT} {x y z : Str} {p pos : Pos}
theorem DefX.wk (D : DefX P w K mg base k N S X) (nd : N.Nodup) : Wk X P w K mg base k N S where
  prog := D.prog
  wd := D.wd
  K := D.K
  mg := D.mg
  base := D.base
  N := D.N
  nd := by rw [D.N]; exact nd
  dp := D.room.dp
  un := D.room.un
  hd := fun _ => D.room.hd
  look := fun x c e => by rw [D.sc]; exact ⟨fun _ => e, fun h => .inl (by rw [e, h])⟩
  st := fun x _ => .inl (D.fn x)
/-- the same names, nothing else -/
def dEnv (sc : Scope) : Env := { scope := sc, locals := 0, globals := 0, cells := [] }
theorem sw_dEnv (T : List Expr) (v : Expr) (env : Env) : swappedStores T v env = swappedStores T v (dEnv env.scope) := rfl
/-- targets whose values are packed -/
theorem k_asg (D : DefX P w K mg base k N S X) {tg : Expr} {gt : WG} (he : JE X g e te) (hg : JG X g tg gt) (hs : swapsWithSole [tg] e pos.line X.env = pure false) (hw : swappedStores [tg] e (dEnv S) = pure none)
    (h1 : (assignEach [tg] X.env).map (·.2) = [assign tg X.env]) : JS X g (.Assign [tg] e pos) (wAsg te gt) :=
  js_asg he hg hs (by rw [sw_dEnv, D.sc]; exact hw) h1
def locOnly (S : Scope) (x : Str) : Bool := S.names.lookup x == some .local
theorem DefX.lo (D : DefX P w K mg base k N S X) (h : locOnly S x = true) : X.env.scope.names.lookup x = some .local := by
  rw [D.sc]
  simpa [locOnly] using h
theorem k_par (D : DefX P w K mg base k N S X) (nd : N.Nodup) (i j : Nat) {px py pt : Pos} {kt k2 pt2} (h : ((N[i]? == some x && N[j]? == some y) && (!(i == j) && (locOnly S x && locOnly S y))) = true) (ha : JA X g [a, b] tr)
    (hw : swappedStores [.Tuple [.Name x px, .Name y py] kt pt] (.Tuple [a, b] k2 pt2) (dEnv S) = pure (some [x, y])) (hs : swapsWithSole [.Tuple [.Name x px, .Name y py] kt pt] (.Tuple [a, b] k2 pt2) pos.line X.env = pure false) :
    JS X g (.Assign [.Tuple [.Name x px, .Name y py] kt pt] (.Tuple [a, b] k2 pt2) pos) (wPar i j tr) := by
  obtain ⟨h1, h2⟩ := and2 h
  obtain ⟨h1, h1'⟩ := and2 h1
  obtain ⟨h2, h3⟩ := and2 h2
  obtain ⟨h3, h4⟩ := and2 h3
  have W := D.wk nd
  exact js_par D.calm W.nd (W.at_ h1) (W.at_ h1') (by simpa using h2) (D.lo h3) (D.lo h4) ha (by rw [sw_dEnv, D.sc]; exact hw) hs
def wPar3 (i j l : Nat) (ta : WA) : WS := fun D su M => ta su M fun us M1 => ∃ x y z, us = [x, y, z] ∧ D.nx (((su.set i (some x)).set j (some y)).set l (some z)) M1
theorem k_par3 (D : DefX P w K mg base k N S X) (nd : N.Nodup) (i j l : Nat) {px py pz pt : Pos} {kt k2 pt2} (h : ((N[i]? == some x && (N[j]? == some y && N[l]? == some z)) && (!(i == j) && (!(i == l) && (!(j == l) && (locOnly S x && (locOnly S y && locOnly S z)))))) = true) (ha : JA X g [a, b, c] tr)
    (hw : swappedStores [.Tuple [.Name x px, .Name y py, .Name z pz] kt pt] (.Tuple [a, b, c] k2 pt2) (dEnv S) = pure (some [x, y, z])) (hs : swapsWithSole [.Tuple [.Name x px, .Name y py, .Name z pz] kt pt] (.Tuple [a, b, c] k2 pt2) pos.line X.env = pure false) :
    JS X g (.Assign [.Tuple [.Name x px, .Name y py, .Name z pz] kt pt] (.Tuple [a, b, c] k2 pt2) pos) (wPar3 i j l tr) := by
  obtain ⟨h1, h2⟩ := and2 h
  obtain ⟨h1, h1'⟩ := and2 h1
  obtain ⟨h1', h1''⟩ := and2 h1'
  obtain ⟨h2, h3⟩ := and2 h2
  obtain ⟨h3, h4⟩ := and2 h3
  obtain ⟨h4, h5⟩ := and2 h4
  obtain ⟨h5, h6⟩ := and2 h5
  obtain ⟨h6, h7⟩ := and2 h6
  have W := D.wk nd
  exact ps_imp (ps_par3 D.calm W.nd (W.at_ h1) (W.at_ h1') (W.at_ h1'') (by simpa using h2) (by simpa using h3) (by simpa using h4) (D.lo h5) (D.lo h6) (D.lo h7) ha (by rw [sw_dEnv, D.sc]; exact hw) hs) fun D σ H ⟨su, M, R, a, h, c⟩ => ⟨su, M, _, a, h, fun us M1 vs H1 ⟨x, y, z, e, q⟩ s1 d1 r1 => by
    subst e
    obtain ⟨v, r, e, k1, k2⟩ := r1.uncons
    obtain ⟨v2, v3, e2, k3, k4⟩ := k2.two
    subst e e2
    exact ⟨v, v2, v3, rfl, (c.nx.go s1).here q ((((a.go s1 d1).set k1).set k3).set k4)⟩⟩
/-- an own exception class without own __init__ -/
structure ExV (K : PySem.W.Frag) (mg : Str → Option Value) (x : Str) : Prop where
  ex : ∃ (C : Addr) (bmB : List Value) (B newId initId : String), ExcBaseFacts B newId initId bmB ∧ PySem.W.excIn K C bmB newId = true ∧ mg x = some (.ref C) ∧ PySem.W.keepIn K (.ref C) = true ∧ PySem.W.subIn K (.ref C) (.type "BaseException") = some true ∧ PySem.W.typeIn K (.ref C) = some (.type "type")
theorem k_raise (W : Wk X P w K mg base k N S) (hc : X.calm = true) {ex : UWX} {m : Str} {j : Nat} {p2 pos' : Pos} (F : ExV K mg x) (h : glB S x = true) (tk : Takes X (Wof X g ex)) :
    JS X g (.Raise (some (.Call (.Name x p) [.Constant (.str m) j p2] [] pos)) none pos') (wRaise x ex) := by
  obtain ⟨q1, q2⟩ := W.gl h
  obtain ⟨rfl, rfl, rfl, rfl, rfl, _⟩ := W
  obtain ⟨C, bmB, B, nI, iI, F, q, gC, kC, r1, r2⟩ := F.ex
  exact js_raise ⟨C, bmB, B, nI, iI, F, q, gC, kC, raises_own r1 r2⟩ hc q1 tk q2
/-- which classes the class x catches -/
structure Catch (K : PySem.W.Frag) (mg : Str → Option Value) (x : Str) (sub : Str → Option Bool) : Prop where
  ex : ∃ C : Addr, mg x = some (.ref C) ∧ ∀ n b D, sub n = some b → mg n = some D → PySem.W.exmOne K D (.ref C) = some b
theorem k_try (D : DefX P w K mg base k N S X) (nd : N.Nodup) {body suite : List Stmt} {b₀ : Stmt} {np pos' : Pos} {sub : Str → Option Bool} {ex : UWX} {tb : UWX → WS} {ts : WS} (F : Catch K mg x sub) (h : glB S x = true) (tk : Takes X (Wof X g ex))
    (hb : ∀ (Y : Cx) (g' : Gd) (ex' : UWX), DefX P w K mg base k N S Y → Takes Y (Wof Y g' ex') → JSs Y g' body (tb ex')) (hsu : ∀ (Y : Cx), Wk Y P w K mg base k N S → Y.env.scope = S → JSs Y g (b₀ :: suite) ts) :
    JS X g (.Try body [.ExceptHandler (some (.Name x np)) none (b₀ :: suite) pos'] [] [] pos) (wTry sub tb ts ex) := by
  have W := D.wk nd
  obtain ⟨q1, q2⟩ := W.gl h
  obtain ⟨C, m, cat⟩ := F.ex
  refine js_try (c := .ref C) D.stk D.fr ⟨q1, q2, .inl (by rw [D.mg]; exact m)⟩ tk (fun n b D' h1 h2 => by rw [D.K]; exact cat n b D' h1 (by rw [← D.mg]; exact h2)) (fun g' ex' pn xe tk' hp => ?_) fun a oe pn => ?_
  · exact hb _ g' ex' ⟨D.prog, D.wd, D.K, D.mg, D.base, D.N, D.sc, D.calm, D.fn, D.room, D.stk, D.fr, hp⟩ tk'
  · refine hsu _ ⟨W.prog, W.wd, W.K, W.mg, W.base, W.N, W.nd, W.dp, W.un, (fun z => by cases z), W.look, W.st⟩ D.sc
/-- THE RULE of a def -/
theorem fn_okV {nm : Str} {st : Stmt} {ps : List Str} {sp : USp} (F : ∃ (f : Addr) (fd : FuncData), FunD K nm nm (defArgs st) (defBody st) (defScope st) [] [] f fd ∧ mg x = some (.ref f)) (S : FnScope N ps (defScope st)) (len : ∀ us M R E, sp us M R E → us.length = ps.length)
    (bind : ∀ (kV doc pm : Value) (an : Option Addr) (cdv ct : Value) (us : List Value), us.length = ps.length → bindArgs (PySem.W.fnOf nm nm (defArgs st) (defBody st) (defScope st) .none kV doc pm an cdv ct) ⟨us, []⟩ = pure (ps.zip us))
    (t : UXK → WS) (hb : ∀ X g E, DefX P w K mg base k N (defScope st) X → Takes X (Wof X g fun ux _ M => E ux M) → JSs X g (defBody st) (t E))
    (h : ∀ us M R E, sp us M R E → t E { nx := fun _ M' => Fin R .non M', rt := Fin R } (us.map some ++ List.replicate (N.length - us.length) none) M) : FnV P w K mg base (k + 1) x st ps sp := by
  obtain ⟨f, fd, F, m⟩ := F
  refine ⟨f, fd, ?_, m, F.kp, ⟨_, F⟩, F.bindsN bind⟩
  refine F.ok (CX := L2.CX P w) S (fun vs H Q E ⟨us, M, R, Ru, r, _, q, _, _⟩ => by rw [← r.length]; exact len _ _ _ _ q) fun cdv A outer s H vs Q E hr ⟨us, M, R, Ru, r, d, q, c, cx⟩ => ?_
  refine ⟨liftS K ⟨M, H⟩ (t Ru), hb (cxOf (L2.CX P w) P w K mg base N nm (defScope st) f cdv A outer s H E) ⟨M, H⟩ Ru ⟨rfl, rfl, rfl, rfl, rfl, rfl, rfl, rfl, fun _ => rfl, hr, rfl, rfl, passes_of (X := cxOf (L2.CX P w) P w K mg base N nm (defScope st) f cdv A outer s H E) rfl⟩ ?_, ?_⟩
  · have tk : Takes (cxOf (L2.CX P w) P w K mg base N nm (defScope st) f cdv A outer s H E) (fun cls d _ H => E cls d H) := takes_of rfl rfl rfl rfl
    exact tk.imp fun cls d' σ H' ⟨ux, su, M', a, rx, e⟩ => cx ux M' cls d' H' e a.st a.hd rx
  · refine ⟨_, M, _, ⟨Stp.refl _ _, RepS.start r N.length, d⟩, h us M R Ru q, ⟨fun su M' σ H' q s1 d1 _ => ?_, c.fin, fun _ _ _ _ z => z.elim, fun _ _ _ _ z => z.elim⟩⟩
    exact c.fin _ _ _ _ q s1 d1 mk_non
end
end Pu

/-! Pu, part 15: what stands behind the top; a law's end. -/
namespace Pu
open PySem PySem.Spec PyProof.Rows L2

/-! ### constants that K holds -/
mutual
def repB (K : PySem.W.Frag) : U → Value → Bool
  | .non, .none => true
  | .bl b, .bool c => b == c
  | .int i, .int j _ => decide (i = j)
  | .str x, .str y _ => decide (x = y)
  | .tup us, .ref a => (match K.lookup a with
    | some ⟨.type c, none, .seq its _, _⟩ => decide (c = "tuple") && (decide (its.size ≤ sizeLine) && repBs K us its.toList)
    | _ => false)
  | .lst us, .ref a => (match K.lookup a with
    | some ⟨.type c, none, .seq its _, _⟩ => decide (c = "list") && (decide (its.size ≤ sizeLine) && repBs K us its.toList)
    | _ => false)
  | _, _ => false
def repBs (K : PySem.W.Frag) : List U → List Value → Bool
  | [], [] => true
  | u :: us, v :: vs => repB K u v && repBs K us vs
  | _, _ => false
end
mutual
theorem repB_ok {K : PySem.W.Frag} : ∀ (u : U) (z : Value), repB K u z = true → ∃ v, RelV v z ∧ ∀ M H, RepV K M H u v
  | .non, z, h => by
    cases z <;> simp [repB] at h
    exact ⟨.non, rfl, fun _ _ => mk_non⟩
  | .bl b, z, h => by
    cases z <;> simp [repB] at h
    subst h
    exact ⟨.bl b, rfl, fun _ _ => mk_bl⟩
  | .int i, z, h => by
    cases z <;> simp [repB] at h
    subst h
    exact ⟨.int i, ⟨_, rfl⟩, fun _ _ => mk_int⟩
  | .str x, z, h => by
    cases z <;> simp [repB] at h
    subst h
    exact ⟨.str x, ⟨_, rfl⟩, fun _ _ => mk_str⟩
  | .ty n, z, h => by cases z <;> simp [repB] at h
  | .ref a, z, h => by cases z <;> simp [repB] at h
  | .dct ks us, z, h => by cases z <;> simp [repB] at h
  | .pr us, z, h => by cases z <;> simp [repB] at h
  | .tup us, z, h => by
    cases z <;> simp only [repB, Bool.false_eq_true] at h
    rename_i a
    split at h
    · rename_i c its n sl q
      obtain ⟨h1, h⟩ := Bool.and_eq_true_iff.mp h
      obtain ⟨h2, h3⟩ := Bool.and_eq_true_iff.mp h
      obtain ⟨vs, r, k⟩ := repBs_ok us its.toList h3
      exact ⟨.ref a, rfl, fun M H => mk_tup (.inr ⟨_, its, n, q, congrArg Value.type (of_decide_eq_true h1), rfl, rfl, of_decide_eq_true h2, r⟩) (k M H)⟩
    · cases h
  | .lst us, z, h => by
    cases z <;> simp only [repB, Bool.false_eq_true] at h
    rename_i a
    split at h
    · rename_i c its n sl q
      obtain ⟨h1, h⟩ := Bool.and_eq_true_iff.mp h
      obtain ⟨h2, h3⟩ := Bool.and_eq_true_iff.mp h
      obtain ⟨vs, r, k⟩ := repBs_ok us its.toList h3
      exact ⟨.ref a, rfl, fun M H => mk_lst (.inr ⟨_, its, n, q, congrArg Value.type (of_decide_eq_true h1), rfl, rfl, of_decide_eq_true h2, r⟩) (k M H)⟩
    · cases h
theorem repBs_ok {K : PySem.W.Frag} : ∀ (us : List U) (zs : List Value), repBs K us zs = true → ∃ vs, Vals vs zs ∧ ∀ M H, RepVs K M H us vs
  | [], zs, h => by
    cases zs <;> simp [repBs] at h
    exact ⟨[], .nil, fun _ _ => .nil⟩
  | u :: us, zs, h => by
    cases zs <;> simp only [repBs, Bool.false_eq_true] at h
    obtain ⟨h1, h2⟩ := Bool.and_eq_true_iff.mp h
    obtain ⟨v, r, k⟩ := repB_ok u _ h1
    obtain ⟨vs, r2, k2⟩ := repBs_ok us _ h2
    exact ⟨v :: vs, .cons r r2, fun M H => .cons (k M H) (k2 M H)⟩
end
def cstB (K : PySem.W.Frag) (q : Str × U) : Bool := match PySem.W.nsIn K mainGlobals q.1 with
  | some (some z) => repB K q.2 z
  | _ => false
theorem cst_ok {K : PySem.W.Frag} {h : Heap} {mg : Str → Option Value} (X : K.In h) (G : h.Ns mainGlobals mg) {x : Str} {u : U} (c : cstB K (x, u) = true) : Cst K mg x u := by
  unfold cstB at c
  split at c
  · rename_i z e
    obtain ⟨v, r, k⟩ := repB_ok u z c
    exact ⟨v, z, PySem.W.mg_of X G e, r, k⟩
  · cases c
/-! ### written dicts -/
def entsB (K : PySem.W.Frag) : List (Str × U) → List DictEntry → Bool
  | [], [] => true
  | (x, u) :: r, e :: es => (match e.key with
    | .str y _ => decide (y = x)
    | _ => false) && (repB K u e.val && entsB K r es)
  | _, _ => false
theorem ents_ok {K : PySem.W.Frag} (z : Str) : ∀ (kvs : List (Str × U)) (es : List DictEntry), entsB K kvs es = true →
    (match kvs.lookup z with
    | some u => ∃ e v, es.find? (·.key.isStr z) = some e ∧ RelV v e.val ∧ ∀ M H, RepV K M H u v
    | none => es.find? (·.key.isStr z) = none) ∧ es.any (·.refKey) = false
  | [], es, h => by
    cases es <;> simp [entsB] at h
    exact ⟨rfl, rfl⟩
  | (x, u) :: r, es, h => by
    cases es with
    | nil => simp [entsB] at h
    | cons e es =>
      simp only [entsB, Bool.and_eq_true] at h
      obtain ⟨h1, h2, h3⟩ := h
      obtain ⟨ih1, ih2⟩ := ents_ok z r es h3
      cases ek : e.key with
      | str y t =>
        rw [ek] at h1
        have e1 : y = x := of_decide_eq_true h1
        subst e1
        have k1 : e.key.isStr z = (y == z) := by rw [ek]; rfl
        refine ⟨?_, by rw [List.any_cons, ih2]; simp [DictEntry.refKey, ek]⟩
        rw [List.lookup_cons]
        by_cases hz : z = y
        · subst hz
          have e2 : (z == z) = true := by simp
          rw [e2]
          obtain ⟨v, rv, k⟩ := repB_ok u _ h2
          exact ⟨e, v, by rw [List.find?_cons, k1, e2], rv, k⟩
        · have e2 : (z == y) = false := by simpa using hz
          have e3 : (y == z) = false := by simpa using Ne.symm hz
          rw [e2]
          simp only [List.find?_cons, k1, e3]
          exact ih1
      | _ => rw [ek] at h1; cases h1
def dicB (K : PySem.W.Frag) (q : Str × List (Str × U)) : Bool := match K.lookup (He.ga K q.1) with
  | some ⟨_, _, .dict es _, _⟩ => entsB K q.2 es.toList
  | _ => false
theorem dic_ok {K : PySem.W.Frag} {w : World} {mg : Str → Option Value} {x : Str} {kvs : List (Str × U)} (m : mg x = some (.ref (He.ga K x))) (D : ∃ es n, KDict K w (He.ga K x) es n) (c : dicB K (x, kvs) = true) : CDict K w mg x kvs := by
  refine ⟨_, m, D, fun z => ?_⟩
  obtain ⟨es, n, D⟩ := D
  unfold dicB at c
  simp only [D.at_] at c
  obtain ⟨h1, h2⟩ := ents_ok z kvs es.toList c
  unfold PySem.W.nsIn
  rw [D.at_]
  simp only
  cases h : kvs.lookup z with
  | some u =>
    rw [h] at h1
    obtain ⟨e, v, e1, r, k⟩ := h1
    rw [e1]
    exact ⟨_, rfl, e.val, v, rfl, r, k⟩
  | none =>
    rw [h] at h1
    rw [h1, h2]
    exact ⟨none, rfl, rfl⟩
/-! ### the facts of a law's text -/
structure Tx where
  free : List Str
  csts : List (Str × U) := []
  dics : List (Str × List (Str × U)) := []
  excs : List Str := []
  exms : List (Str × Str × Bool) := []
  defs : List (Str × Str × Stmt)
  als : List (Str × Str) := []
def Tx.fa (T : Tx) : List He.Fa := T.free.map .free ++ (T.dics.map (fun d => .glo d.1) ++ (T.excs.map .glo ++ (T.excs.map .exc ++ (T.exms.map (fun e => .exm e.1 e.2.1 e.2.2) ++ (T.defs.map (fun d => .glo d.1) ++ (T.als.map (fun a => .glo a.1) ++ T.als.map fun a => .glo a.2))))))
def defD (d : Str × Str × Stmt) : He.DefD := ⟨(d.1, none), d.2.1, d.2.1, defArgs d.2.2, defBody d.2.2, defScope d.2.2, [], []⟩
def Tx.fn (T : Tx) : List He.DefD := T.defs.map defD
def Tx.ts (T : Tx) : List He.Tab := T.dics.map fun d => ((fun K => He.ga K d.1), d.2.map (·.1))
def Tx.ex (T : Tx) (K : PySem.W.Frag) : Bool := (T.csts.all (cstB K) && T.dics.all (dicB K)) && T.als.all fun a => decide (He.ga K a.1 = He.ga K a.2)
abbrev Tx.hk (T : Tx) : PySem.W.Hook := He.hookX 4 T.fa T.fn T.ts [] T.ex
def Tx.ob (T : Tx) (s : PySem.W.SharedT) : He.AlX := He.obsX 4 T.fa T.fn T.ts [] T.ex (HandSHeadRun.getT s)
theorem Tx.ob_eq (T : Tx) (s : PySem.W.SharedT) : T.ob s = T.hk.obs s.abs := He.obsX_eq (HandSHeadRun.getT_eq s)
/-- .. as the walk takes them -/
structure Txt (T : Tx) (w : World) (K : PySem.W.Frag) (mg : Str → Option Value) : Prop where
  free : ∀ x ∈ T.free, mg x = none
  cst : ∀ q ∈ T.csts, Cst K mg q.1 q.2
  dic : ∀ q ∈ T.dics, CDict K w mg q.1 q.2
  exc : ∀ x ∈ T.excs, ExV K mg x
  exm : ∀ q ∈ T.exms, ∃ C D : Addr, mg q.1 = some (.ref C) ∧ mg q.2.1 = some (.ref D) ∧ PySem.W.exmOne K (.ref C) (.ref D) = some q.2.2
  glo : ∀ x ∈ T.excs, ∃ C, mg x = some (.ref C)
  def_ : ∀ d ∈ T.defs, ∃ (f : Addr) (fd : FuncData), FunD K d.2.1 d.2.1 (defArgs d.2.2) (defBody d.2.2) (defScope d.2.2) [] [] f fd ∧ mg d.1 = some (.ref f)
  al : ∀ a ∈ T.als, ∃ f : Addr, mg a.1 = some (.ref f) ∧ mg a.2 = some (.ref f)
theorem Tx.says {T : Tx} {w : World} {K : PySem.W.Frag} {mg : Str → Option Value} {h : Heap} (X : K.In h) (G : h.Ns mainGlobals mg) (c : He.SaysX T.fa T.fn T.ts [] T.ex w h K) (hx : T.exms.all (fun e => T.excs.contains e.1 && T.excs.contains e.2.1) = true) : Txt T w K mg := by
  have fact : ∀ f ∈ T.fa, f.ok K = true := fun f hf => c.t.d.facts hf
  have me : ∀ f, f ∈ T.free.map He.Fa.free → f ∈ T.fa := fun f hf => List.mem_append_left _ hf
  have gd : ∀ d ∈ T.dics, He.Fa.glo d.1 ∈ T.fa := fun d hd => List.mem_append_right _ (List.mem_append_left _ (List.mem_map.mpr ⟨d, hd, rfl⟩))
  have ge : ∀ x ∈ T.excs, He.Fa.glo x ∈ T.fa := fun x hx => List.mem_append_right _ (List.mem_append_right _ (List.mem_append_left _ (List.mem_map.mpr ⟨x, hx, rfl⟩)))
  have xe : ∀ x ∈ T.excs, He.Fa.exc x ∈ T.fa := fun x hx => List.mem_append_right _ (List.mem_append_right _ (List.mem_append_right _ (List.mem_append_left _ (List.mem_map.mpr ⟨x, hx, rfl⟩))))
  have xm : ∀ e ∈ T.exms, He.Fa.exm e.1 e.2.1 e.2.2 ∈ T.fa := fun e he => List.mem_append_right _ (List.mem_append_right _ (List.mem_append_right _ (List.mem_append_right _ (List.mem_append_left _ (List.mem_map.mpr ⟨e, he, rfl⟩)))))
  have gf : ∀ d ∈ T.defs, He.Fa.glo d.1 ∈ T.fa := fun d hd => List.mem_append_right _ (List.mem_append_right _ (List.mem_append_right _ (List.mem_append_right _ (List.mem_append_right _ (List.mem_append_left _ (List.mem_map.mpr ⟨d, hd, rfl⟩))))))
  have ga1 : ∀ a ∈ T.als, He.Fa.glo a.1 ∈ T.fa := fun a ha => List.mem_append_right _ (List.mem_append_right _ (List.mem_append_right _ (List.mem_append_right _ (List.mem_append_right _ (List.mem_append_right _ (List.mem_append_left _ (List.mem_map.mpr ⟨a, ha, rfl⟩)))))))
  have ga2 : ∀ a ∈ T.als, He.Fa.glo a.2 ∈ T.fa := fun a ha => List.mem_append_right _ (List.mem_append_right _ (List.mem_append_right _ (List.mem_append_right _ (List.mem_append_right _ (List.mem_append_right _ (List.mem_append_right _ (List.mem_map.mpr ⟨a, ha, rfl⟩)))))))
  have gx : ∀ x ∈ T.excs, mg x = some (.ref (He.ga K x)) := fun x hx => He.glo_ok X G (fact _ (ge x hx))
  obtain ⟨m12, m3⟩ := Bool.and_eq_true_iff.mp (show ((T.csts.all (cstB K) && T.dics.all (dicB K)) && T.als.all fun a => decide (He.ga K a.1 = He.ga K a.2)) = true from c.more)
  obtain ⟨m1, m2⟩ := Bool.and_eq_true_iff.mp m12
  refine ⟨fun x hx => He.free_ok X G (fact _ (me _ (List.mem_map.mpr ⟨x, hx, rfl⟩))), fun q hq => cst_ok X G (List.all_eq_true.mp m1 q hq), fun q hq => ?_, fun x hx => ?_, fun q hq => ?_, fun x hx => ⟨_, gx x hx⟩, fun d hd => ?_, fun a ha => ⟨_, He.glo_ok X G (fact _ (ga1 a ha)), by rw [of_decide_eq_true (List.all_eq_true.mp m3 a ha)]; exact He.glo_ok X G (fact _ (ga2 a ha))⟩⟩
  · refine dic_ok (He.glo_ok X G (fact _ (gd q hq))) ?_ (List.all_eq_true.mp m2 q hq)
    obtain ⟨i, hi, e⟩ := List.mem_iff_getElem.mp hq
    refine c.t.tab i (t := ((fun K => He.ga K q.1), q.2.map (·.1))) ?_
    show (T.dics.map fun d => ((fun K => He.ga K d.1), d.2.map (·.1)))[i]? = _
    rw [List.getElem?_map, List.getElem?_eq_getElem hi, e]
    rfl
  · obtain ⟨c1, c2, c3, c4⟩ := He.exc_ok (fact _ (xe x hx))
    exact ⟨_, _, _, _, _, PySem.F.excBase_ValueError, c1, gx x hx, c2, c3, c4⟩
  · have z := List.all_eq_true.mp hx q hq
    obtain ⟨z1, z2⟩ := Bool.and_eq_true_iff.mp z
    exact ⟨_, _, gx q.1 (by simpa using z1), gx q.2.1 (by simpa using z2), He.exm_ok (fact _ (xm q hq))⟩
  · obtain ⟨fd, F⟩ := c.t.d.defs (d := defD d) (List.mem_map.mpr ⟨d, hd, rfl⟩)
    exact ⟨_, fd, F, He.glo_ok X G (fact _ (gf d hd))⟩
theorem Txt.alias {T : Tx} {P : Program} {w : World} {K : PySem.W.Frag} {mg : Str → Option Value} {base : Heap} {k : Nat} {x y : Str} {st : Stmt} {ps : List Str} {sp : USp} (t : Txt T w K mg) (h : (y, x) ∈ T.als) (F : FnV P w K mg base k x st ps sp) : FnV P w K mg base k y st ps sp := by
  obtain ⟨f, fd, F, m, r⟩ := F.ex
  obtain ⟨f', m1, m2⟩ := t.al _ h
  rw [m] at m2
  cases m2
  exact ⟨f, fd, F, m1, r⟩
theorem Txt.catch {T : Tx} {w : World} {K : PySem.W.Frag} {mg : Str → Option Value} (t : Txt T w K mg) {x : Str} (hx : x ∈ T.excs) {sub : Str → Option Bool} (h : ∀ n b, sub n = some b → (n, x, b) ∈ T.exms) : Catch K mg x sub := by
  obtain ⟨C, m⟩ := t.glo x hx
  refine ⟨C, m, fun n b D e1 e2 => ?_⟩
  obtain ⟨C', D', q1, q2, q3⟩ := t.exm _ (h n b e1)
  rw [q1] at e2
  cases e2
  rw [q2] at m
  cases m
  exact q3

/-! ### a law's end -/
theorem reps_of_intsK {K : PySem.W.Frag} {M : Mp} {H : Hp} : ∀ us : List Int, RepVs K M H (us.map .int) (us.map V.int)
  | [] => .nil
  | u :: us => .cons mk_int (reps_of_intsK us)
theorem walk_U {l : PySem.W.OpenLaw} {n k : Nat} {q : Program} {loose : List Str} {XP : (Str → Option Value) → Heap → Prop} {YP : World → Heap → Prop} {d : DefRec} {x : Str}
    (hn : l.most = some n) (hn2 : n ≤ sizeLine) (hdf : d.params.defaults = []) (hr : Room k callerA)
    (F : ∀ (w : World) (mg : Str → Option Value) (fa : Addr) (h : Heap), YP w h → h.Ns mainGlobals mg → mg d.name = some (.ref fa) →
      ∃ (K : PySem.W.Frag) (fd : FuncData) (sp : Sp), K.In h ∧ (∀ (s : Shared) (u : Value), BindsTo s fd ⟨[u], []⟩ [(x, u)]) ∧
        (∀ (H : Hp) (a : Addr) (ns : List Int), ns.length ≤ n → SqL K H a (ns.map V.int) → sp [.ref a] H (fun v _ => v = .bl true) fun _ _ _ => False) ∧
        ∀ base : Heap, K.In base → base.Ns mainGlobals mg → FnOk l.prog w K mg base (L2.CX l.prog w) k fa fd [x] sp) :
    PySem.W.WalkO q loose XP YP l.row.toRowW d [] (fun f vs => PySem.call f vs) := by
  refine Att.attach_call hn hdf fun w s₀ s₁ mg mb fa o pm cd doc a vs ns G Y ho hd hcd hmg hobj hints hlen hg => ?_
  obtain ⟨K, fd, sp, KX, hb, hsp, hF⟩ := F w mg fa _ Y G.T.g hmg
  exact law_call (CX := L2.CX l.prog w) KX G.T.g G.T.b G.T.builtins G.T.nolimit hg hobj hints (Nat.le_trans hlen hn2) hr hF hb (fun H hO hS => hsp H a ns hlen hS) fun H e s' ⟨_, _, _, _, _, _, _, _, _, _, _, _, z⟩ => z
/-- the promise of every law: True of every script -/
def spLaw : USp := fun us M R _ => ∃ ns : List Int, us = [.lst (ns.map .int)] ∧ ns.length ≤ 63 ∧ R (.bl true) M
theorem walk_T {l : PySem.W.OpenLaw} {T : Tx} {k : Nat} {q : Program} {loose : List Str} {XP : (Str → Option Value) → Heap → Prop} {d : DefRec} {st : Stmt} (hn : l.most = some 63) (hdf : d.params.defaults = []) (hr : Room k callerA) (hd : d.name = ("law" : Str))
    (hx : T.exms.all (fun e => T.excs.contains e.1 && T.excs.contains e.2.1) = true) (hm : (("law" : Str), ("law" : Str), st) ∈ T.defs)
    (bind : ∀ (kV doc pm : Value) (an : Option Addr) (cdv ct : Value) (us : List Value), us.length = 1 → bindArgs (PySem.W.fnOf "law" "law" (defArgs st) (defBody st) (defScope st) .none kV doc pm an cdv ct) ⟨us, []⟩ = pure ((["script"] : List Str).zip us))
    (F : ∀ (w : World) (K : PySem.W.Frag) (mg : Str → Option Value) (base : Heap), Txt T w K mg → FnV l.prog w K mg base k "law" st ["script"] spLaw) :
    PySem.W.WalkO q loose XP T.hk.says l.row.toRowW d [] (fun f vs => PySem.call f vs) := by
  refine walk_U (n := 63) (k := k) (x := "script") hn (by decide) hdf hr fun w mg fa h Y G hmg => ?_
  obtain ⟨K, KX, c⟩ := Y
  have t := T.says KX G c hx
  obtain ⟨f, fd, FD, m⟩ := t.def_ _ hm
  rw [hd] at hmg
  have e : f = fa := by
    have := m.symm.trans hmg
    cases this
    rfl
  subst e
  refine ⟨K, fd, liftSp K mg spLaw, KX, fun s u => FD.bindsA (ps := ["script"]) (fun kV doc pm an cdv ct us hl => bind kV doc pm an cdv ct us hl) s [u] rfl, fun H a ns hl hS => ?_, fun base _ _ => ?_⟩
  · refine ⟨[.lst (ns.map .int)], fun _ => none, fun u _ => u = .bl true, fun _ _ => False, .cons (mk_lst ?_ (reps_of_intsK ns)) .nil, (fun a o e => by cases e), ⟨ns, rfl, hl, rfl⟩, fun u M' v H' e _ _ r => ?_, fun _ _ _ _ _ z _ _ _ => z⟩
    · rcases hS with h | h
      · exact .inl ⟨h, rfl⟩
      · exact .inr h
    · subst e
      exact rep_bl r
  · obtain ⟨f', fd', F', m', _, ⟨nm', FD'⟩, _⟩ := (F w K mg base t).ex
    have e1 : f' = f := by
      have := m'.symm.trans m
      cases this
      rfl
    subst e1
    have e2 : fd' = fd := by
      obtain ⟨_, _, _, _, _, _, _, _, _, _, _, l1, _⟩ := FD'.ex
      obtain ⟨_, _, _, _, _, _, _, _, _, _, _, l2, _⟩ := FD.ex
      rw [l1] at l2
      cases l2
      rfl
    rw [← e2]
    exact F'
end Pu

/-! Sets of texts made of a list, sorted. -/
namespace Pu
open PySem PySem.Spec PyProof.Rows L2 PySem.Froz
/-- the set of the texts l at a, that can be walked -/
def TSet (P : Program) (w : World) (h : Heap) (a : Addr) (l : List Str) : Prop :=
  ∃ D : SD, h.get? a = some (sObj "set" D) ∧ TxOk P w D l ∧ l.Nodup ∧ Ris D.2.2.place.toList ∧ (w.params.followText "set-order" = true ∨ D.2.2.led = true)
section
variable {P : Program} {w : World} {h h' : Heap} {a : Addr} {l : List Str} {A : Around} {E : Value → Shared → Prop} {s : Shared}
theorem TSet.at (T : TSet P w h a l) (k : ∀ o, h.get? a = some o → h'.get? a = some o) : TSet P w h' a l := by
  obtain ⟨D, ho, r⟩ := T
  exact ⟨D, k _ ho, r⟩
theorem tail_walk {ep : Nat} {es1 : Array (Int × Value)} {t2 : SetTable} {wd : Bool} (r : Ris t2.place.toList) {p : Prop} (hl : p ∨ t2.led = true) : Ris (tailTx ep es1 t2 wd).2.2.place.toList ∧ (p ∨ (tailTx ep es1 t2 wd).2.2.led = true) := by
  unfold tailTx
  split
  · exact ⟨relayAll_ris _ _ _, hl.imp id fun z => by show (relayAll t2 es1 _).2.1.led = true; rw [relayAll_led]; exact z⟩
  · exact ⟨r, hl⟩
theorem add_walk {hs : Int} {v : Value} {D : SD} (r : Ris D.2.2.place.toList) {p : Prop} (hl : p ∨ D.2.2.led = true) : Ris (addTx hs v D).2.2.place.toList ∧ (p ∨ (addTx hs v D).2.2.led = true) := by
  obtain ⟨es, ep, t⟩ := D
  have r1 := layNew_ris t es hs v r
  have l1 := layNew_led t es hs v
  unfold addTx
  refine tail_walk ?_ ?_
  · split
    · exact r1
    · exact r1
  · refine hl.imp id fun z => ?_
    split
    · show (layNew t es hs v).2.1.led = true
      rw [l1]; exact z
    · show (layNew t es hs v).2.1.led = true
      rw [l1]; exact z
/-- a text that is in already -/
theorem add_old {D : SD} {k : Str} {u : Tok} {Q : Bool → Shared → Prop} (ho : s.heap.get? a = some (sObj "set" D)) (F : TxOk P w D l) (hk : k ∈ l) (hb : l.length < scanBound) (q : Q false s) : wpAny (model P w) A (setAddHashed a (.str k u) (hashStr w k)) Q E s := by
  obtain ⟨es, ep, t⟩ := D
  have hd : (sObj "set" (es, ep, t)).data = .set es ep t := rfl
  have hf : t.fits es.size = true := F.fit
  have hel : ElemsOf (PySem.strKind P w) es.toList := F.el
  have hsz : es.size = l.length := F.sz
  have hb0 : es.size < scanBound := by omega
  have hkey : (PySem.strKind P w).is k (.str k u) = true := is_str k u
  unfold setAddHashed setAddHashedIn
  refine wpAny_holding (wpAny_bind (wpAny_setState_of ho hd hf ?_))
  dsimp only
  rw [byScan_of rfl hb0 hel]
  simp only [↓reduceIte]
  unfold setAddByScan
  refine wpAny_bind ?_
  refine wpAny_bind (wpAny_rule ?_)
  refine wpAny_bind (wpAny_setScan_of (knd := PySem.strKind P w) (k := k) hkey ho hd hf hel ?_)
  cases hfi : List.findIdx? (fun e => (PySem.strKind P w).is k e.2) es.toList with
  | some j =>
    dsimp only
    exact wpAny_pure (wpAny_pure q)
  | none =>
    obtain ⟨e, he, q⟩ := (F.mem k).mp hk
    have c := List.findIdx?_eq_none_iff.mp hfi e he
    rw [q] at c
    cases c
/-- one more text -/
theorem tset_add {k : Str} {u : Tok} {Q : Bool → Shared → Prop} (T : TSet P w s.heap a l) (hb : l.length + 1 < scanBound)
    (hQ : ∀ b h' l', Heap.SameBut a s.heap h' → TSet P w h' a l' → (∀ x, x ∈ l' ↔ x = k ∨ x ∈ l) → l'.length ≤ l.length + 1 → Q b { s with heap := h' }) : wpAny (model P w) A (setAddHashed a (.str k u) (hashStr w k)) Q E s := by
  obtain ⟨D, ho, F, nd, r, hl⟩ := T
  by_cases hk : k ∈ l
  · exact add_old ho F hk (by omega) (hQ false s.heap l (Heap.SameBut.refl a s.heap) ⟨D, ho, F, nd, r, hl⟩ (fun x => ⟨.inr, fun z => z.elim (fun e => e ▸ hk) id⟩) (Nat.le_succ _))
  · obtain ⟨r2, l2⟩ := add_walk (hs := hashStr w k) (v := .str k u) r hl
    refine add_x ho F hk hb (hQ true _ (k :: l) (Heap.SameBut.update s.heap a _) ⟨_, get_upd _ ho rfl, add_ok u F, List.nodup_cons.mpr ⟨hk, nd⟩, r2, l2⟩ (fun x => List.mem_cons) (Nat.le_refl _))
theorem set_update_txt {I : Addr} {fp wr : List Addr} {G : Array GenState → Array GenState → Prop} {n : Nat} {Pv : Nat → Value → Prop} {St : Nat → Shared → Prop} {R : Result → Shared → Prop}
    (W : WalksS P w A.in1 I fp wr G n Pv St) (S : Addr) (hSf : S ∉ fp) (ns : List Str) (hn : n = ns.length) (hb : ns.length + 1 < scanBound) (hval : ∀ i v, Pv i v → ∃ k t, ns[i]? = some k ∧ v = .str k t) :
    ∀ (k i : Nat) (s : Shared), n - i = k → i ≤ n → St i s → (∃ l, l.length ≤ i ∧ (∀ x, x ∈ l ↔ x ∈ ns.take i) ∧ TSet P w s.heap S l) →
      (∀ s' l, Moved (S :: wr) G s s' → l.length ≤ n → (∀ x, x ∈ l ↔ x ∈ ns) → TSet P w s'.heap S l → R (.ok (.ret .none)) s') →
      codeAny (model P w) A (.builtin "set.update.loop" ⟨[.ref S, .ref I], []⟩) R s := by
  have hSw : S ∉ wr := fun h => hSf (W.sub _ h)
  have hsub : ∀ b ∈ wr, b ∈ S :: wr := fun b hb => List.mem_cons_of_mem _ hb
  intro k
  induction k with
  | zero =>
    intro i s hk' hi hst ⟨l, hc, hm0, hS⟩ hR
    have hin : i = n := by omega
    subst hin
    refine codeAny_builtin F.entry_set_update_loop ?_
    rw [Around.under_plainId F.plain_set_update_loop _]
    show wpAny _ A.in1 (pyNext (.ref I) >>= _) _ _ s
    refine wpAny_bind (W.done s _ _ hst fun s' hm => ?_)
    show wpAny _ A.in1 (ret Value.none) _ _ s'
    have e : ns.take i = ns := List.take_of_length_le (by omega)
    rw [e] at hm0
    exact wpAny_pure (hR s' l (hm.mono hsub) hc hm0 (hS.at fun o e => hm.heap S o hSw e))
  | succ k ih =>
    intro i s hk' hi hst ⟨l, hc, hm0, hS⟩ hR
    have hlt : i < n := by omega
    refine codeAny_builtin F.entry_set_update_loop ?_
    rw [Around.under_plainId F.plain_set_update_loop _]
    show wpAny _ A.in1 (pyNext (.ref I) >>= _) _ _ s
    refine wpAny_bind (W.item i s _ _ hlt hst fun v s' hP hst' hm => ?_)
    obtain ⟨z, t, hz, rfl⟩ := hval i v hP
    have hS' : TSet P w s'.heap S l := hS.at fun o e => hm.heap S o hSw e
    show wpAny _ A.in1 (holding [Value.str z t] (setAdd S (.str z t)) >>= _) _ _ s'
    refine wpAny_bind (wpAny_holding ?_)
    unfold setAdd
    refine wpAny_holding ?_
    refine wpAny_bind ((PySem.strKind P w).pyHash (k := z) (is_str z t) ?_)
    refine tset_add (s := { s' with toks := s'.toks + 1 }) hS' (by omega) fun b h' l' hsb hS2 hm2 hl2 => ?_
    refine wpAny_pure ⟨plainId_quiet F.plain_set_update_loop _, ih (i + 1) _ (by omega) hlt (W.frame _ s' _ _ hst' (Nat.le_succ _) fun b hb o e => ?_) ⟨l', by omega, fun x => ?_, hS2⟩ fun s'' c2 hm'' hc'' hx hS'' => ?_⟩
    · rw [hsb.2 b (fun h : b = S => hSf (by rw [← h]; exact hb))]; exact e
    · rw [hm2, List.take_add_one, hz, hm0]
      simp [or_comm]
    · refine hR s'' c2 (Moved.trans W.gtrans ((hm.mono hsub).then_heap (Nat.le_succ _) fun b o hb e => ?_) hm'') hc'' hx hS''
      rw [hsb.2 b (fun h : b = S => hb (by rw [h]; exact List.mem_cons_self))]; exact e
theorem str_at {us : List Value} {ns : List Str} (h : StrsAre us ns) : ∀ (i : Nat) (v : Value), us[i]? = some v → ∃ k t, ns[i]? = some k ∧ v = Value.str k t := by
  induction h with
  | nil => intro i v h; simp at h
  | cons y t r ih =>
    intro i v h
    cases i with
    | zero => simp at h; exact ⟨y, t, rfl, h.symm⟩
    | succ i => simpa using ih i v (by simpa using h)
theorem tset_new {b : Bool} (hb : b = !w.params.followText "set-order") (ho : h.get? a = some { cls := .type "set", dict := none, data := .set #[] 0 (.fresh 0 0 b) }) : TSet P w h a [] :=
  ⟨(#[], 0, .fresh 0 0 b), ho, TxOk.nil rfl, List.nodup_nil, List.Pairwise.nil, by
    show _ ∨ b = true
    rw [hb]
    cases w.params.followText "set-order"
    · exact .inr rfl
    · exact .inl rfl⟩
set_option maxHeartbeats 8000000 in
/-- set(l) of a list of texts -/
theorem call_set_txt {l : Addr} {items : Array Value} (ns : List Str) {Q : Value → Shared → Prop} (hh : A.handled = none) (hl : s.heap.IsList l items) (hit : StrsAre items.toList ns) (hb : ns.length + 1 < scanBound)
    (h : ∀ (h' : Heap) (tk : Nat) (l' : List Str), TSet P w h' s.heap.objs.size l' → (∀ x, x ∈ l' ↔ x ∈ ns) → l'.length ≤ ns.length → (∀ b o, s.heap.get? b = some o → h'.get? b = some o) → Q (.ref s.heap.objs.size) { s with heap := h', toks := tk }) :
    wpAny (model P w) A (call (.type "set") [.ref l]) Q E s := by
  have hisz : items.size = ns.length := by
    have q := StrsAre.length hit
    rw [Array.length_toList] at q
    exact q
  obtain ⟨c, tl, hmro⟩ := F.called_set.mro
  have hmade := F.called_set.made
  have hsub := F.called_set.sub
  refine wpAny_call (codeAny_of_tree ?_)
  show wpAny _ _ (callAny (.type "set") _) _ _ _
  refine wpAny_pure ⟨Code.quiet_builtin _ (by decide +kernel), codeAny_builtin F.entry_type_call ?_⟩
  rw [Around.under_plain (weight_type_call_type "set" [.ref l] []) rfl]
  have h1 := F.called_set.notType
  have h2 := F.called_set.canCreate
  have hct := F.typeCall_set_1 (.ref l)
  repeat (any_goals (first | assumption | wp_step))

  refine codeAny_mono (code_set_led1 (.ref l) (E := E) (Q₁ := fun obj s₁ => obj = .ref s.heap.objs.size ∧ s₁ = { s with heap := s.heap.push { cls := .type "set", dict := none, data := .set #[] 0 (.fresh 0 0 (!w.params.followText "set-order")) } }) ⟨rfl, rfl⟩) fun r s₁ hr => ?_
  cases r with
  | error e => exact hr
  | ok fl =>
    cases fl with
    | ret obj =>
      obtain ⟨rfl, rfl⟩ := hr
      generalize hled : (!w.params.followText "set-order") = led
      have hS : (s.heap.push { cls := .type "set", dict := none, data := .set #[] 0 (.fresh 0 0 led) }).get? s.heap.objs.size = some { cls := .type "set", dict := none, data := .set #[] 0 (.fresh 0 0 led) } := Heap.get?_push_size _ rfl
      have hT : Shared.TypeIs { s with heap := s.heap.push { cls := .type "set", dict := none, data := .set #[] 0 (.fresh 0 0 led) } } (.ref s.heap.objs.size) "set" := ⟨_, hS, rfl⟩
      have hli := F.called_set.init.lookup
      have hbi := F.called_set.init.bind (.ref s.heap.objs.size)
      repeat (any_goals (first | assumption | wp_step))

      refine codeAny_mono (codeAny_call_builtin (R := wants (fun r s₂ => r = .none ∧ ∃ h' tk l', s₂ = { s with heap := h', toks := tk } ∧ TSet P w h' s.heap.objs.size l' ∧ (∀ x, x ∈ l' ↔ x ∈ ns) ∧ l'.length ≤ ns.length ∧
          (∀ b o, s.heap.get? b = some o → h'.get? b = some o)) E) F.called_set.init.plain F.entry_set_init (check_set_init_1 hT ?_)) fun r₂ s₂ hr₂ => ?_
      · obtain ⟨ol, hol, hcl, nl, hdl⟩ := hl
        obtain ⟨ocls, odict, odata, oslots⟩ := ol
        simp only at hcl hdl
        subst hcl; subst hdl
        have hol' : (s.heap.push { cls := .type "set", dict := none, data := .set #[] 0 (.fresh 0 0 led) }).get? l = some { cls := .type "list", dict := odict, data := .seq items nl, slots := oslots } := Heap.get?_push_of_some _ hol
        have hsls := F.sub_list_set
        have hslf := F.sub_list_frozenset
        have hne : (Value.type "list" == Value.type "dict") = false := by decide
        have hl1 : (s.heap.push { cls := .type "set", dict := none, data := .set #[] 0 (.fresh 0 0 led) }).IsList l items := ⟨_, hol', rfl, nl, rfl⟩
        unfold Builtin.«set.__init__» noKeywords Builtin.Frozenset.updateFrom
        generalize hPI : pyIter = PI
        wp_walk
        subst hPI

        refine wpAny_pyIter_list hl1 ?_
        refine wpAny_bind (wpAny_runValue ?_)
        have hlS : l < s.heap.objs.size := Heap.lt_size hol
        have hh3 : A.in1.in1.in1.handled = none := by simp [hh]
        have hneI : l ≠ (s.heap.push { cls := .type "set", dict := none, data := .set #[] 0 (.fresh 0 0 led) }).objs.size := by
          rw [Heap.size_push]; exact Nat.ne_of_lt (Nat.lt_succ_of_lt hlS)
        have hSf : s.heap.objs.size ∉ [(s.heap.push { cls := .type "set", dict := none, data := .set #[] 0 (.fresh 0 0 led) }).objs.size, l] := by
          rw [Heap.size_push]; simp only [List.mem_cons, List.mem_singleton, List.not_mem_nil, or_false, not_or]
          exact ⟨Nat.ne_of_lt (Nat.lt_succ_self _), Nat.ne_of_gt hlS⟩
        have hval : ∀ (i : Nat) (v : Value), items[i]? = some v → ∃ k t, ns[i]? = some k ∧ v = .str k t := fun i v hv => str_at hit i v (by rw [Array.getElem?_toList]; exact hv)
        refine set_update_txt ((Walks.list hh3 _ l hneI items).toS) s.heap.objs.size
          hSf ns hisz hb hval (items.size - 0) 0 _ (by omega) (Nat.zero_le _)
          ⟨⟨_, Heap.get?_push_size _ rfl, rfl, rfl⟩, (hl1.push _)⟩ ?hS0 ?hR
        case hS0 =>
          have hget : ((s.heap.push { cls := .type "set", dict := none, data := .set #[] 0 (.fresh 0 0 led) }).push { cls := .type "list_iterator", data := .fields #[.ref l, .int 0 0] }).get? s.heap.objs.size
              = some { cls := .type "set", dict := none, data := .set #[] 0 (.fresh 0 0 led) } := Heap.get?_push_of_some _ hS
          exact ⟨[], Nat.le_refl 0, fun x => by simp, tset_new hled.symm hget⟩
        case hR =>
          intro s' l' hm hl' hx hS'
          obtain ⟨h', g2, d', tk', os'⟩ := s'
          have eg : g2 = s.gens := hm.gens
          have ed : d' = s.drawn := hm.drawn
          have eo : os' = s.os := hm.os
          subst eg; subst ed; subst eo
          show wpAny _ _ _ _ _ _
          refine wpAny_pure ?_
          show wpAny _ _ (ret Value.none) _ _ _
          rw [hisz] at hl'
          refine wpAny_pure ⟨rfl, h', tk', l', rfl, hS', hx, hl', fun b o e => ?_⟩
          have hb0 : b < s.heap.objs.size := Heap.lt_size e
          have hb1 : b ≠ s.heap.objs.size := Nat.ne_of_lt hb0
          have hb2 : b ≠ (s.heap.push { cls := .type "set", dict := none, data := .set #[] 0 (.fresh 0 0 led) }).objs.size := by
            rw [Heap.size_push]; exact Nat.ne_of_lt (Nat.lt_succ_of_lt hb0)
          exact hm.heap b o (by simp only [List.mem_cons, List.mem_singleton, List.not_mem_nil, or_false, not_or]; exact ⟨hb1, hb2⟩) (Heap.get?_push_of_some _ (Heap.get?_push_of_some _ e))

      · cases r₂ with
        | error e => exact hr₂
        | ok fl₂ =>
          cases fl₂ with
          | ret r =>
            obtain ⟨rfl, h', tk, l', rfl, hS', hx, hl', hk'⟩ := hr₂
            repeat (any_goals (first | assumption | wp_step))
            exact h _ _ _ hS' hx hl' hk'
          | _ => exact hr₂.elim
    | _ => exact hr.elim
end
end Pu

namespace Pu
open PySem PySem.Spec PyProof.Rows L2 PySem.Froz
def TSetO (P : Program) (w : World) (a : Addr) (l : List Str) : HO := .ext fun h => TSet P w h a l
section
variable {X : Cx}
theorem tsetO_new {w : World} {P : Program} {H : Hp} {h : Heap} {a : Addr} {l : List Str} (R : TSet P w h a l) : ObjOk P w H h a (TSetO P w a l) := by
  have ⟨D, ho, _⟩ := R
  exact ⟨R, ⟨_, ho⟩, fun h1 h2 p k => TSet.at p k⟩
theorem tsetO_get {pins : List (Addr × Obj)} {σ : L2.St} {H : Hp} {s : Shared} {a : Addr} {l : List Str} (I : Inv X pins σ H s) (ha : H a = some (TSetO X.prog X.w a l)) : TSet X.prog X.w s.heap a l := (I.hok a _ ha).1
/-- set(xs) of a list of texts -/
def rSetT (X : Cx) : List V → Hp → VK → Prop := fun vs H Q => ∃ (a : Addr) (xs : List Str), vs = [V.ref a] ∧ SqL X.K H a (xs.map V.str) ∧ xs.length < 4000 ∧
  ∀ (l : List Str) (p : Addr), (∀ x, x ∈ l ↔ x ∈ xs) → l.length ≤ xs.length → H p = none → Q (.ref p) (upd H p (TSetO X.prog X.w p l))
theorem cr_setT (hc : X.calm = true) : CallR X (.type "set") (rSetT X) := by
  intro pins s σ H vs us Q I r h
  obtain ⟨a, xs, rfl, hs, hz, q⟩ := h
  obtain ⟨its, rv, hl, _⟩ := I.list hs
  rw [Vals.ref1 r]
  refine call_set_txt xs (I.ok.hd hc) hl.isList rv.strs (by unfold scanBound; omega) fun h' tk l' T hm hlen hk => ?_
  exact ⟨.ref _, upd H s.heap.objs.size (TSetO X.prog X.w s.heap.objs.size l'), I.laid (t' := tk) hk (Nat.le_refl _) (tsetO_new T), rfl, q l' _ hm hlen (I.hok.fresh (Nat.le_refl _))⟩
theorem nodup_is {P : Program} {w : World} {l : List Str} {D : SD} (F : TxOk P w D l) : ∃ ks : List Str, StrsAre (D.1.toList.map (·.2)) ks := by
  have : ∀ es : List (Int × Value), ElemsOf (PySem.strKind P w) es → ∃ ks : List Str, StrsAre (es.map (·.2)) ks := by
    intro es
    induction es with
    | nil => intro _; exact ⟨[], .nil⟩
    | cons e es ih =>
      intro h
      obtain ⟨ks, r⟩ := ih fun x hx => h x (List.mem_cons_of_mem _ hx)
      obtain ⟨⟨k, hk, _⟩, _⟩ := h e List.mem_cons_self
      have hk' : Value.isStrOf k e.2 = true := hk
      cases hv : e.2 with
      | str y t =>
        refine ⟨y :: ks, ?_⟩
        rw [List.map_cons, hv]
        exact .cons y t r
      | _ => rw [hv] at hk'; simp [Value.isStrOf] at hk'
  exact this _ F.el
theorem strs_all : ∀ {vs : List Value}, (∀ v ∈ vs, ∃ x t, v = Value.str x t) → ∃ ks, StrsAre vs ks
  | [], _ => ⟨[], .nil⟩
  | v :: vs, h => by
    obtain ⟨x, t, rfl⟩ := h v List.mem_cons_self
    obtain ⟨ks, r⟩ := strs_all fun u hu => h u (List.mem_cons_of_mem _ hu)
    exact ⟨x :: ks, .cons x t r⟩
theorem strsAre_mem {vs : List Value} {ks : List Str} (h : StrsAre vs ks) : ∀ k, k ∈ ks ↔ ∃ t, Value.str k t ∈ vs := by
  induction h with
  | nil => intro k; simp
  | cons y t r ih =>
    intro k
    constructor
    · intro hk
      rcases List.mem_cons.mp hk with e | hk
      · exact ⟨t, by rw [e]; exact List.mem_cons_self⟩
      · obtain ⟨u, hu⟩ := (ih k).mp hk
        exact ⟨u, List.mem_cons_of_mem _ hu⟩
    · rintro ⟨u, hu⟩
      rcases List.mem_cons.mp hu with e | hu
      · cases e; exact List.mem_cons_self
      · exact List.mem_cons_of_mem _ ((ih k).mpr ⟨u, hu⟩)
theorem same_perm {α : Type} [DecidableEq α] : ∀ {l ks : List α}, l.Nodup → (∀ x ∈ l, x ∈ ks) → ks.length ≤ l.length → l.Perm ks
  | [], ks, _, _, h => by
    have : ks = [] := List.eq_nil_of_length_eq_zero (by simpa using h)
    rw [this]
  | x :: l, ks, nd, hs, h => by
    obtain ⟨h1, h2⟩ := List.nodup_cons.mp nd
    have hx : x ∈ ks := hs x List.mem_cons_self
    have pe := List.perm_cons_erase hx
    have hl := pe.length_eq
    simp at h hl
    refine ((same_perm h2 (fun y hy => ?_) (by omega)).cons x).trans pe.symm
    rcases List.mem_cons.mp (pe.mem_iff.mp (hs y (List.mem_cons_of_mem _ hy))) with e | m
    · exact absurd (e ▸ hy) h1
    · exact m
/-- sorted(found) of a set of texts -/
def rSortedT (X : Cx) : List V → Hp → VK → Prop := fun vs H Q => ∃ (a : Addr) (l : List Str), vs = [V.ref a] ∧ H a = some (TSetO X.prog X.w a l) ∧ l.length < 4000 ∧
  ∀ (ys : List Str) (p : Addr), sortedS ys = true → (∀ x, x ∈ ys ↔ x ∈ l) → ys.length = l.length → ys.Nodup → H p = none → Q (.ref p) (upd H p (.lst (ys.map V.str)))
theorem sorted_tset {P : Program} {w : World} {A : Around} {E : Value → Shared → Prop} {s : Shared} {a : Addr} {l : List Str} {Q : Value → Shared → Prop} (T : TSet P w s.heap a l) (hh : A.handled = none) (hz : l.length < 4000)
    (hQ : ∀ s' p (out : Array Value) (c : Nat) (ys : List Str), (∀ b o, s.heap.get? b = some o → s'.heap.get? b = some o) → s'.gens = s.gens → s'.os = s.os → s.heap.objs.size ≤ p →
      s'.heap.get? p = some (seqObj "list" out c) → StrsAre out.toList ys → sortedS ys = true → (∀ k, k ∈ ys ↔ k ∈ l) → ys.length = l.length → ys.Nodup → Q (.ref p) s') :
    wpAny (model P w) A (call (.builtin "sorted") [.ref a]) Q E s := by
  obtain ⟨D, ho, F, nd, hr, hl⟩ := T
  obtain ⟨es, ep, t⟩ := D
  have hsz : es.size = l.length := F.sz
  have hb : es.size < scanBound := by unfold scanBound; omega
  refine Calls.call_function_entry kind_sorted plain_sorted entry_sorted (args_sorted1 _) ?_
  unfold Builtin.«sorted»
  refine wpAny_bind (m := checkCount "sorted" 1 1 _) (wpAny_pure ?_)
  refine wpAny_bind (collect_set (A := A.in1) hh ⟨_, ho, rfl, rfl⟩ F.fit hb hr hl fun s1 vs k1 hz1 g1 o1 pm => ?_)
  have hvl : vs.length = l.length := by rw [pm.length_eq, List.length_map, Array.length_toList]; exact hsz
  have hall : ∀ v ∈ vs, ∃ x t, v = Value.str x t := fun v hv => by
    obtain ⟨ks, r⟩ := nodup_is F
    exact StrsAre.all r v (pm.mem_iff.mp hv)
  obtain ⟨ks, hS⟩ := strs_all hall
  have hmem : ∀ k, k ∈ ks ↔ k ∈ l := fun k => by
    rw [strsAre_mem hS, F.mem]
    constructor
    · rintro ⟨t, ht⟩
      obtain ⟨e, he, q⟩ := List.mem_map.mp (pm.mem_iff.mp ht)
      exact ⟨e, he, by rw [q]; exact is_str k t⟩
    · rintro ⟨e, he, q⟩
      have q' : Value.isStrOf k e.2 = true := q
      have hm : e.2 ∈ vs := pm.mem_iff.mpr (List.mem_map.mpr ⟨e, he, rfl⟩)
      obtain ⟨x, t, ex⟩ := hall _ hm
      rw [ex] at q' hm
      have : x = k := by simpa [Value.isStrOf] using q'
      subst this
      exact ⟨t, hm⟩
  have hL : vs.length ≤ sizeLine := by rw [hvl, sizeLine_eq]; omega
  refine wpAny_bind (wpAny_newList ?_ hL)
  have hoL : (s1.heap.push (seqObj "list" vs.toArray 0)).get? s1.heap.objs.size = some (seqObj "list" vs.toArray 0) := Heap.get?_push_size _ rfl
  refine wpAny_bind (wpAny_holding (wpAny_call_entry slot_list_sort ⟨_, hoL, rfl⟩ entry_list_sort (list_sort_treeKAny strKind_oneLt hoL hS.keysOf (fun v₁ v₂ rest e => keyKind_strs (by rw [← e]; exact hS)) hL fun st' a1 a2 => ⟨_, rfl, ?_⟩) (args_list_sort _)))
  obtain ⟨ys, b1, b2, b3⟩ := sorted_out_str hS a1 a2
  obtain ⟨c, hc⟩ := sortedHeap_at (vs := vs) (out := (arrOf st').map (·.2)) hoL
  refine wpAny_pure ⟨_, rfl, hQ _ s1.heap.objs.size _ c ys (fun b u e => ?_) g1 o1 hz1 hc b1 b3 (fun k => b2.mem_iff.trans (hmem k)) (by rw [b2.length_eq, ← StrsAre.length hS]; exact hvl) ((same_perm nd (fun x => ((hmem x).symm.trans b2.mem_iff.symm).mp) (by rw [b2.length_eq, ← StrsAre.length hS]; omega)).nodup_iff.mp nd)⟩
  have q := k1 b u e
  have hlt := Heap.lt_size q
  show (sortedHeap (s1.heap.push (seqObj "list" vs.toArray 0)) s1.heap.objs.size vs _).get? b = some u
  rw [sortedHeap_old (Nat.ne_of_lt hlt) (by rw [size_push']; exact Nat.lt_succ_of_lt hlt)]
  exact Heap.get?_push_of_some _ q
theorem cr_sortedT (hc : X.calm = true) : CallR X (.builtin "sorted") (rSortedT X) := by
  intro pins s σ H vs us Q I r h
  obtain ⟨a, l, rfl, ha, hz, q⟩ := h
  have R := tsetO_get I ha
  rw [Vals.ref1 r]
  refine sorted_tset R (I.ok.hd hc) hz fun s' p out c ys k g o hp hg hi hs hm hl hnd => ?_
  have hlen : (ys.map V.str).length ≤ sizeLine := by rw [List.length_map, hl, sizeLine_eq]; omega
  have hn : H p = none := I.hok.fresh hp
  have J : Inv X pins σ (upd H p (.lst (ys.map V.str))) { s with heap := s'.heap, gens := s'.gens, drawn := s'.drawn, toks := s'.toks } :=
    I.call (ch := []) (Un.laid k hp hn) (I.hok.laid k hp ⟨hlen, out.toList, c, vals_of_strs hi, hg⟩) (by rw [g]; exact I.bare) (fun _ z => nomatch z)
  have e : s' = { s with heap := s'.heap, gens := s'.gens, drawn := s'.drawn, toks := s'.toks } := by
    cases s'
    cases s
    cases o
    rfl
  rw [e]
  exact ⟨.ref p, _, J, rfl, q ys p hs hm hl hnd hn⟩
end
end Pu

/-! The order of data that are ints, texts, tuples of these. -/
namespace Pu
open PySem PySem.Spec PyProof.Rows L2
mutual
def ordU : U → Bool
  | .int _ => true
  | .str _ => true
  | .tup us => ordUs us
  | _ => false
def ordUs : List U → Bool
  | [] => true
  | u :: us => ordU u && ordUs us
end
theorem str_eq_of {a b : Str} (h : a.cps.toList = b.cps.toList) : a = b := by
  cases a; cases b; simp at h; subst h; rfl
mutual
theorem eqU_ord : ∀ u w : U, ordU u = true → ordU w = true → (eqU u w = true ↔ u = w)
  | .int i, w, h1, h2 => by cases w <;> simp [ordU] at h2 <;> simp [eqU]
  | .str x, w, h1, h2 => by cases w <;> simp [ordU] at h2 <;> simp [eqU]
  | .tup us, w, h1, h2 => by
    cases w <;> simp [ordU] at h2 <;> simp [eqU]
    rename_i ws
    exact eqUs_ord us ws (by simpa [ordU] using h1) h2
  | .non, _, h1, _ => by simp [ordU] at h1
  | .bl _, _, h1, _ => by simp [ordU] at h1
  | .lst _, _, h1, _ => by simp [ordU] at h1
  | .dct _ _, _, h1, _ => by simp [ordU] at h1
  | .ty _, _, h1, _ => by simp [ordU] at h1
  | .ref _, _, h1, _ => by simp [ordU] at h1
theorem eqUs_ord : ∀ us ws : List U, ordUs us = true → ordUs ws = true → (eqUs us ws = true ↔ us = ws)
  | [], ws, _, _ => by cases ws <;> simp [eqUs]
  | u :: us, [], _, _ => by simp [eqUs]
  | u :: us, w :: ws, h1, h2 => by
    simp [ordUs] at h1 h2
    simp [eqUs, eqU_ord u w h1.1 h2.1, eqUs_ord us ws h1.2 h2.2]
end
mutual
/-- both ways not less: equal -/
theorem ltU_tot : ∀ u w : U, ordU u = true → ordU w = true → ltU u w = some false → ltU w u = some false → u = w
  | .int i, w, h1, h2, a, b => by
    cases w <;> simp [ordU] at h2 <;> simp [ltU] at a b
    rename_i j
    have : i = j := by omega
    rw [this]
  | .str x, w, h1, h2, a, b => by
    cases w <;> simp [ordU] at h2 <;> simp only [ltU, Option.some.injEq, decide_eq_false_iff_not, reduceCtorEq] at a b
    rename_i y
    exact congrArg U.str (str_eq_of (List.le_antisymm (List.not_lt.mp b) (List.not_lt.mp a)))
  | .tup us, w, h1, h2, a, b => by
    cases w <;> simp [ordU] at h2 <;> simp [ltU] at a b
    rename_i ws
    rw [ltUs_tot us ws (by simpa [ordU] using h1) h2 a b]
  | .non, _, h1, _, _, _ => by simp [ordU] at h1
  | .bl _, _, h1, _, _, _ => by simp [ordU] at h1
  | .lst _, _, h1, _, _, _ => by simp [ordU] at h1
  | .dct _ _, _, h1, _, _, _ => by simp [ordU] at h1
  | .ty _, _, h1, _, _, _ => by simp [ordU] at h1
  | .ref _, _, h1, _, _, _ => by simp [ordU] at h1
theorem ltUs_tot : ∀ us ws : List U, ordUs us = true → ordUs ws = true → ltUs us ws = some false → ltUs ws us = some false → us = ws
  | [], [], _, _, _, _ => rfl
  | [], w :: ws, _, _, a, _ => by simp [ltUs] at a
  | u :: us, [], _, _, _, b => by simp [ltUs] at b
  | u :: us, w :: ws, h1, h2, a, b => by
    simp [ordUs] at h1 h2
    simp only [ltUs] at a b
    by_cases e : eqU u w = true
    · have e1 := (eqU_ord u w h1.1 h2.1).mp e
      subst e1
      rw [if_pos e] at a b
      rw [ltUs_tot us ws h1.2 h2.2 a b]
    · have e2 : ¬ eqU w u = true := fun z => e ((eqU_ord u w h1.1 h2.1).mpr ((eqU_ord w u h2.1 h1.1).mp z).symm)
      rw [if_neg e] at a
      rw [if_neg e2] at b
      exact absurd ((eqU_ord u w h1.1 h2.1).mpr (ltU_tot u w h1.1 h2.1 a b)) e
end
mutual
theorem ltU_asym : ∀ u w : U, ordU u = true → ordU w = true → ltU u w = some true → ltU w u = some true → False
  | .int i, w, h1, h2, a, b => by
    cases w <;> simp [ordU] at h2 <;> simp [ltU] at a b
    omega
  | .str x, w, h1, h2, a, b => by
    cases w <;> simp [ordU] at h2 <;> simp [ltU] at a b
    exact List.lt_irrefl _ (List.lt_trans a b)
  | .tup us, w, h1, h2, a, b => by
    cases w <;> simp [ordU] at h2 <;> simp [ltU] at a b
    exact ltUs_asym us _ (by simpa [ordU] using h1) h2 a b
  | .non, _, h1, _, _, _ => by simp [ordU] at h1
  | .bl _, _, h1, _, _, _ => by simp [ordU] at h1
  | .lst _, _, h1, _, _, _ => by simp [ordU] at h1
  | .dct _ _, _, h1, _, _, _ => by simp [ordU] at h1
  | .ty _, _, h1, _, _, _ => by simp [ordU] at h1
  | .ref _, _, h1, _, _, _ => by simp [ordU] at h1
theorem ltUs_asym : ∀ us ws : List U, ordUs us = true → ordUs ws = true → ltUs us ws = some true → ltUs ws us = some true → False
  | [], [], _, _, a, _ => by simp [ltUs] at a
  | [], w :: ws, _, _, _, b => by simp [ltUs] at b
  | u :: us, [], _, _, a, _ => by simp [ltUs] at a
  | u :: us, w :: ws, h1, h2, a, b => by
    simp [ordUs] at h1 h2
    simp only [ltUs] at a b
    by_cases e : eqU u w = true
    · have e1 := (eqU_ord u w h1.1 h2.1).mp e
      subst e1
      rw [if_pos e] at a b
      exact ltUs_asym us ws h1.2 h2.2 a b
    · have e2 : ¬ eqU w u = true := fun z => e ((eqU_ord u w h1.1 h2.1).mpr ((eqU_ord w u h2.1 h1.1).mp z).symm)
      rw [if_neg e] at a
      rw [if_neg e2] at b
      exact ltU_asym u w h1.1 h2.1 a b
end
mutual
/-- not less, not less: not less -/
theorem ltU_tr : ∀ x y z : U, ordU x = true → ordU y = true → ordU z = true → ltU y x = some false → ltU z y = some false → ltU z x = some true → False
  | .int i, y, z, h1, h2, h3, a, b, c => by
    cases y <;> simp [ordU] at h2 <;> simp [ltU] at a
    cases z <;> simp [ordU] at h3 <;> simp [ltU] at b c
    omega
  | .str i, y, z, h1, h2, h3, a, b, c => by
    cases y <;> simp [ordU] at h2 <;> simp only [ltU, Option.some.injEq, decide_eq_false_iff_not, reduceCtorEq] at a
    cases z <;> simp [ordU] at h3 <;> simp only [ltU, Option.some.injEq, decide_eq_false_iff_not, decide_eq_true_eq, reduceCtorEq] at b c
    exact List.not_lt.mpr (List.le_trans (List.not_lt.mp a) (List.not_lt.mp b)) c
  | .tup us, y, z, h1, h2, h3, a, b, c => by
    cases y <;> simp [ordU] at h2 <;> simp [ltU] at a
    cases z <;> simp [ordU] at h3 <;> simp [ltU] at b c
    exact ltUs_tr us _ _ (by simpa [ordU] using h1) h2 h3 a b c
  | .non, _, _, h1, _, _, _, _, _ => by simp [ordU] at h1
  | .bl _, _, _, h1, _, _, _, _, _ => by simp [ordU] at h1
  | .lst _, _, _, h1, _, _, _, _, _ => by simp [ordU] at h1
  | .dct _ _, _, _, h1, _, _, _, _, _ => by simp [ordU] at h1
  | .ty _, _, _, h1, _, _, _, _, _ => by simp [ordU] at h1
  | .ref _, _, _, h1, _, _, _, _, _ => by simp [ordU] at h1
theorem ltUs_tr : ∀ x y z : List U, ordUs x = true → ordUs y = true → ordUs z = true → ltUs y x = some false → ltUs z y = some false → ltUs z x = some true → False
  | [], [], [], _, _, _, _, _, c => by simp [ltUs] at c
  | [], [], z :: zs, _, _, _, _, _, c => by simp [ltUs] at c
  | [], y :: ys, [], _, _, _, _, b, _ => by simp [ltUs] at b
  | [], y :: ys, z :: zs, _, _, _, _, _, c => by simp [ltUs] at c
  | x :: xs, [], _, _, _, _, a, _, _ => by simp [ltUs] at a
  | x :: xs, y :: ys, [], _, _, _, _, b, _ => by simp [ltUs] at b
  | x :: xs, y :: ys, z :: zs, h1, h2, h3, a, b, c => by
    simp [ordUs] at h1 h2 h3
    simp only [ltUs] at a b c
    by_cases e1 : eqU y x = true
    · have q1 := (eqU_ord y x h2.1 h1.1).mp e1
      subst q1
      rw [if_pos e1] at a
      by_cases e2 : eqU z y = true
      · rw [if_pos e2] at b c
        exact ltUs_tr xs ys zs h1.2 h2.2 h3.2 a b c
      · rw [if_neg e2] at b c
        rw [b] at c
        cases c
    · rw [if_neg e1] at a
      by_cases e2 : eqU z y = true
      · have q2 := (eqU_ord z y h3.1 h2.1).mp e2
        subst q2
        rw [if_neg e1] at c
        rw [a] at c
        cases c
      · rw [if_neg e2] at b
        by_cases e3 : eqU z x = true
        · have q3 := (eqU_ord z x h3.1 h1.1).mp e3
          subst q3
          exact e1 ((eqU_ord y z h2.1 h3.1).mpr (ltU_tot y z h2.1 h3.1 a b))
        · rw [if_neg e3] at c
          exact ltU_tr x y z h1.1 h2.1 h3.1 a b c
end
/-- how many of ds are less -/
def rankU (ds : List U) (u : U) : Nat := ds.countP fun e => ltU e u == some true
theorem count_le {α : Type} {p q : α → Bool} : ∀ {l : List α}, (∀ x ∈ l, p x = true → q x = true) → l.countP p ≤ l.countP q
  | [], _ => Nat.le_refl _
  | x :: l, h => by
    have ih := count_le (l := l) fun y hy => h y (List.mem_cons_of_mem _ hy)
    have hx := h x List.mem_cons_self
    rw [List.countP_cons, List.countP_cons]
    cases hp : p x <;> cases hq : q x <;> simp [hp, hq] at hx ⊢ <;> omega
theorem count_lt {α : Type} {p q : α → Bool} : ∀ {l : List α}, (∀ x ∈ l, p x = true → q x = true) → ∀ a ∈ l, p a = false → q a = true → l.countP p < l.countP q
  | [], _, a, ha, _, _ => by cases ha
  | x :: l, h, a, ha, hpa, hqa => by
    have hx := h x List.mem_cons_self
    rw [List.countP_cons, List.countP_cons]
    rcases List.mem_cons.mp ha with e | ha
    · subst e
      have := count_le (l := l) fun y hy => h y (List.mem_cons_of_mem _ hy)
      simp [hpa, hqa]
      omega
    · have ih := count_lt (l := l) (fun y hy => h y (List.mem_cons_of_mem _ hy)) a ha hpa hqa
      cases hp : p x <;> cases hq : q x <;> simp [hp, hq] at hx ⊢ <;> omega
/-- the order of ds by number -/
theorem rank_lt {ds : List U} (ho : ∀ u ∈ ds, ordU u = true) (hc : ∀ u ∈ ds, ∀ w ∈ ds, ∃ k, ltU u w = some k) {a b : U} (ha : a ∈ ds) (hb : b ∈ ds) : ltU a b = some (decide (rankU ds a < rankU ds b)) := by
  obtain ⟨k, hk⟩ := hc a ha b hb
  rw [hk]
  cases k with
  | true =>
    have hba : ltU b a = some false := by
      obtain ⟨k, hk2⟩ := hc b hb a ha
      cases k with
      | true => exact (ltU_asym a b (ho a ha) (ho b hb) hk hk2).elim
      | false => exact hk2
    have haa : ltU a a = some false := by
      obtain ⟨k, hk2⟩ := hc a ha a ha
      cases k with
      | true => exact (ltU_asym a a (ho a ha) (ho a ha) hk2 hk2).elim
      | false => exact hk2
    have : rankU ds a < rankU ds b := by
      refine count_lt (fun x hx h => ?_) a ha (by simp [haa]) (by simp [hk])
      obtain ⟨k, hk2⟩ := hc x hx b hb
      cases k with
      | true => simp [hk2]
      | false => exact (ltU_tr a b x (ho a ha) (ho b hb) (ho x hx) hba hk2 (by simpa using h)).elim
    simp [this]
  | false =>
    have : rankU ds b ≤ rankU ds a := by
      refine count_le fun x hx h => ?_
      obtain ⟨k, hk2⟩ := hc x hx a ha
      cases k with
      | true => simp [hk2]
      | false => exact (ltU_tr b a x (ho b hb) (ho a ha) (ho x hx) hk hk2 (by simpa using h)).elim
    simp
    omega
end Pu

/-! sorted(xs, key=f): the keys, compared. -/
namespace Pu
open PySem PySem.Spec PyProof.Rows L2 SeqAt PySem.W Srt SrtO
mutual
theorem pdT_inj : ∀ u w : U, ordU u = true → ordU w = true → pdT u = pdT w → u = w
  | .int i, w, h1, h2, e => by cases w <;> simp [ordU] at h2 <;> simp [pdT] at e; rw [e]
  | .str x, w, h1, h2, e => by cases w <;> simp [ordU] at h2 <;> simp [pdT] at e; rw [e]
  | .tup us, w, h1, h2, e => by
    cases w <;> simp [ordU] at h2 <;> simp [pdT] at e
    rw [pdTs_inj us _ (by simpa [ordU] using h1) h2 e]
  | .non, _, h1, _, _ => by simp [ordU] at h1
  | .bl _, _, h1, _, _ => by simp [ordU] at h1
  | .lst _, _, h1, _, _ => by simp [ordU] at h1
  | .dct _ _, _, h1, _, _ => by simp [ordU] at h1
  | .ty _, _, h1, _, _ => by simp [ordU] at h1
  | .ref _, _, h1, _, _ => by simp [ordU] at h1
theorem pdTs_inj : ∀ us ws : List U, ordUs us = true → ordUs ws = true → pdTs us = pdTs ws → us = ws
  | [], [], _, _, _ => rfl
  | [], w :: ws, _, _, e => by simp [pdTs] at e
  | u :: us, [], _, _, e => by simp [pdTs] at e
  | u :: us, w :: ws, h1, h2, e => by
    simp [ordUs] at h1 h2
    simp [pdTs] at e
    rw [pdT_inj u w h1.1 h2.1 e.1, pdTs_inj us ws h1.2 h2.2 e.2]
end
section
variable {prog : Program} {w : World} {A : Around} {s : Shared}
theorem lex_run (hu : A.units + 64 < cLine) : ∀ (xs ys : List PyData) (vs ws : List Value) (k fin : Bool) (i : Nat) (as bs : List Addr), ReadsAll s.heap vs xs as → ReadsAll s.heap ws ys bs → PyData.canLayAll0 xs = true → PyData.canLayAll0 ys = true → PyData.depthAll xs ≤ 60 →
    ltDs xs ys = some k → fin = decide (vs.length < ws.length) → (i = 0 → ∃ a b ta tb, vs[0]? = some (.int a ta) ∧ ws[0]? = some (.int b tb)) → KatLex prog w A true fin (fun r s' => s' = s ∧ r = k) (vs.zip ws) i s
  | [], [], vs, ws, k, fin, i, as, bs, r1, r2, _, _, _, e, hf, _ => by
    cases r1; cases r2
    simp [ltDs] at e hf
    subst e hf
    exact kat_nil ⟨rfl, rfl⟩
  | [], y :: ys, vs, ws, k, fin, i, as, bs, r1, r2, _, _, _, e, hf, _ => by
    cases r1; cases r2
    simp [ltDs] at e hf
    subst e hf
    exact kat_nil ⟨rfl, rfl⟩
  | x :: xs, [], vs, ws, k, fin, i, as, bs, r1, r2, _, _, _, e, hf, _ => by
    cases r1; cases r2
    simp [ltDs] at e hf
    subst e hf
    exact kat_nil ⟨rfl, rfl⟩
  | x :: xs, y :: ys, vs, ws, k, fin, i, as, bs, r1, r2, c1, c2, hd, e, hf, hi => by
    cases r1 with
    | @cons v vs _ _ as1 as2 q1 q2 =>
    cases r2 with
    | @cons z ws _ _ bs1 bs2 p1 p2 =>
    simp only [PyData.canLayAll0, Bool.and_eq_true] at c1 c2
    simp only [PyData.depthAll] at hd
    have hm := Nat.min_le_left x.depth y.depth
    have hx : x.depth ≤ 60 := by omega
    refine kat_cons (eqAt_reads x y A s v z as1 bs1 q1 p1 c1.1 c2.1 (by omega) prog w _ _ ?_)
    simp only [ltDs] at e
    refine kat_go (fun h => ?_) (fun h => ?_)
    · rw [if_pos h] at e
      exact kat_yes (lex_run hu xs ys vs ws k fin (i + 1) as2 bs2 q2 p2 c1.2 c2.2 (by omega) e (by rw [hf]; simp) (fun h => absurd h (by omega)))
    · rw [if_neg (by rw [h]; exact Bool.false_ne_true)] at e
      refine kat_no ?_
      by_cases h0 : i = 0
      · obtain ⟨a, b, ta, tb, e1, e2⟩ := hi h0
        simp at e1 e2
        subst h0 e1 e2
        cases q1; cases p1
        simp [ltD] at e
        exact oneLt_int ⟨rfl, e⟩
      · have hb : (true && i == 0) = false := by simp [h0]
        rw [hb]
        refine kat_one _ _ (rcLt_data 60 x y A s v z as1 bs1 k hx q1 p1 c1.1 c2.1 e (by omega) prog w _ _ ?_)
        exact ⟨rfl, rfl⟩
/-- the key at v: a tuple that begins with an int -/
structure KeyAt (h : Heap) (v : Value) (u : U) : Prop where
  at_ : ∃ a o vs n us i t as, v = .ref a ∧ h.get? a = some o ∧ o.cls = .type "tuple" ∧ o.data = .seq vs n ∧ u = .tup us ∧ ReadsAll h vs.toList (pdTs us) as ∧ vs[0]? = some (.int i t)
theorem KeyAt.reads {h : Heap} {v : Value} {u : U} (k : KeyAt h v u) : ∃ as, Reads h v (pdT u) as := by
  obtain ⟨a, o, vs, n, us, i, t, as, rfl, ho, hc, hd, rfl, r, _⟩ := k.at_
  exact ⟨as, by unfold pdT; exact .tuple ho hc hd r⟩
theorem key_lt' {v z : Value} {u y : U} {k : Bool} (hu : A.units + 64 < cLine) (h1 : KeyAt s.heap v u) (h2 : KeyAt s.heap z y) (f1 : Fit u) (f2 : Fit y) (e : ltU u y = some k) :
    wpAny (model prog w) A (keyLt' (tuples' true) v z) (fun r s' => s' = s ∧ r = k) (fun _ _ => False) s := by
  obtain ⟨a, o, vs, n, us, i, t, as, rfl, ho, hc, hd, rfl, r, hi⟩ := h1.at_
  obtain ⟨b, o2, ws, m, ys, j, t2, bs, rfl, ho2, hc2, hd2, rfl, r2, hj⟩ := h2.at_
  have o1 : okUs us = true := by simpa [okU] using f1.1
  have o2' : okUs ys = true := by simpa [okU] using f2.1
  refine kat_lt ho hd ho2 hd2 (lex_run hu (pdTs us) (pdTs ys) _ _ k _ 0 as bs r r2 (canLays_pd us o1) (canLays_pd ys o2') ?_ (lts_pd us ys o1 o2' k (by simpa [ltU] using e)) (by simp) fun _ => ⟨i, j, t, t2, by rw [Array.getElem?_toList]; exact hi, by rw [Array.getElem?_toList]; exact hj⟩)
  rw [deps_pd]
  have := f1.2
  simp only [depU] at this
  omega
open Classical in
noncomputable def rkV (h : Heap) (ds : List U) (v : Value) : Nat := if c : ∃ u, u ∈ ds ∧ KeyAt h v u then rankU ds (Classical.choose c) else 0
theorem rkV_eq {h : Heap} {ds : List U} (ho : ∀ u ∈ ds, ordU u = true) (hk : ∀ u ∈ ds, okU u = true) {v : Value} {u : U} (hu : u ∈ ds) (k : KeyAt h v u) : rkV h ds v = rankU ds u := by
  have c : ∃ u, u ∈ ds ∧ KeyAt h v u := ⟨u, hu, k⟩
  unfold rkV
  rw [dif_pos c]
  obtain ⟨h1, h2⟩ := Classical.choose_spec c
  obtain ⟨as, r1⟩ := k.reads
  obtain ⟨bs, r2⟩ := h2.reads
  have : u = Classical.choose c := pdT_inj _ _ (ho u hu) (ho _ h1) (Reads.unique _ _ v as bs (canLay_pd u (hk u hu)) r1 r2)
  rw [← this]
theorem cmp_keys (hu : A.units + 64 < cLine) {ds : List U} (ho : ∀ u ∈ ds, ordU u = true) (hf : ∀ u ∈ ds, Fit u) (hc : ∀ u ∈ ds, ∀ y ∈ ds, ∃ k, ltU u y = some k) :
    Cmp prog w A s (tuples' true) (fun p => ∃ u ∈ ds, KeyAt s.heap p.1 u) (fun p q => decide (rkV s.heap ds p.1 < rkV s.heap ds q.1)) := by
  rintro p q ⟨u, hu1, k1⟩ ⟨y, hy, k2⟩
  have h := rank_lt ho hc hu1 hy
  have hk : ∀ u ∈ ds, okU u = true := fun u hu => (hf u hu).1
  dsimp only
  rw [rkV_eq ho hk hu1 k1, rkV_eq ho hk hy k2]
  exact key_lt' hu k1 k2 (hf u hu1) (hf y hy) h
theorem kind_keys {M : Model} {E : Value → Shared → Prop} {ks : List Value} {Q : SortKind → Shared → Prop} (hne : 0 < ks.length) (hk : ∀ v ∈ ks, ∃ u, KeyAt s.heap v u) (q : Q (tuples' true) s) : wpAny M A (keyKind' ks.toArray) Q E s := by
  have hh : ∀ ks : List Value, (∀ v ∈ ks, ∃ u, KeyAt s.heap v u) → ∃ fs : List Value, KatTups s.heap ks fs ∧ fs.length = ks.length ∧ ∀ v ∈ fs, ∃ i t, v = .int i t := by
    intro ks
    induction ks with
    | nil => intro _; exact ⟨[], .nil, rfl, fun v hv => by cases hv⟩
    | cons v r ih =>
      intro h
      obtain ⟨fs, k1, k2, k3⟩ := ih fun z hz => h z (List.mem_cons_of_mem _ hz)
      obtain ⟨u, k⟩ := h v List.mem_cons_self
      obtain ⟨a, o, vs, n, us, i, t, as, rfl, ho, hc, hd, rfl, rr, hi⟩ := k.at_
      exact ⟨.int i t :: fs, .cons ho hc hd hi k1, by simp [k2], fun z hz => by
        rcases List.mem_cons.mp hz with e | hz
        · exact ⟨i, t, e⟩
        · exact k3 z hz⟩
  obtain ⟨fs, k1, k2, k3⟩ := hh ks hk
  refine kat_kind (T := .type "int") k1 (by omega) (fun v hv => ?_) (by decide) q
  obtain ⟨i, t, rfl⟩ := k3 v hv
  exact .now
end
end Pu

/-! sorted(xs, key=f): run. -/
namespace Pu
open PySem PySem.Spec PyProof.Rows L2 SeqAt PySem.W Srt SrtO
section
variable {prog : Program} {w : World} {A : Around} {E : Value → Shared → Prop} {s : Shared}
theorem key_tail {a kS : Addr} {e e1 : Nat} {keys : Array Value} {st : SortSt} {P : PySem.Fin → Shared → Prop} (hne : kS ≠ a) (hk : s.heap.get? kS = some (seqObj "list" keys e)) (ha : s.heap.get? a = some (seqObj "list" #[] e1)) (hkz : keys.size ≤ sizeLine)
    (hz : ((arrOf st).map (·.2)).size ≤ sizeLine) (hf : failedOf st = none)
    (h : ∀ h' c, h'.get? a = some (seqObj "list" ((arrOf st).map (·.2)) c) → (∀ b o, b ≠ a → b ≠ kS → s.heap.get? b = some o → h'.get? b = some o) → P (.done (.ret .none)) { s with heap := h' }) :
    wpAny (model prog w) A (ksk_tail a false e1 (.ref kS) st) P E s := by
  have s1 := Heap.SameBut.update s.heap kS (Obj.mapSeq fun _ => (#[] : Array Value))
  have ha1 : (s.heap.update kS (Obj.mapSeq fun _ => (#[] : Array Value))).get? a = some (seqObj "list" #[] e1) := by rw [s1.2 a (Ne.symm hne)]; exact ha
  have s2 := Heap.SameBut.update (s.heap.update kS (Obj.mapSeq fun _ => (#[] : Array Value))) a (Obj.mapSeq fun _ => (arrOf st).map (·.2))
  obtain ⟨c2, hc2⟩ : ∃ c2, ((s.heap.update kS (Obj.mapSeq fun _ => (#[] : Array Value))).update a (Obj.mapSeq fun _ => (arrOf st).map (·.2))).get? a = some (seqObj "list" ((arrOf st).map (·.2)) c2) := ⟨_, get?_update_seq ha1 fun _ => (arrOf st).map (·.2)⟩
  unfold ksk_tail
  try dsimp only
  refine wpAny_bind (listUpdate_at hk rfl ?_ hkz (Nat.zero_le _))
  refine wpAny_bind (wpAny_letGo ?_)
  refine wpAny_bind (seqEpoch_at ha1 rfl ?_)
  refine wpAny_bind (listUpdate_at ha1 rfl ?_ (Nat.zero_le _) (Nat.le_trans hz (Nat.le_succ _)))
  rw [hf]
  simp only [bne_self_eq_false, Bool.false_eq_true, if_false]
  refine wpAny_pure (h _ c2 hc2 fun b o hb hb2 q => ?_)
  rw [s2.2 b hb, s1.2 b hb2]
  exact q
theorem key_end {a kS : Addr} {e e1 : Nat} {ks vs : List Value} {κ : SortKind} {Pk : Keyed → Prop} {lt : Keyed → Keyed → Bool} {P : PySem.Fin → Shared → Prop} (hne : kS ≠ a) (hl : ks.length = vs.length) (hz : vs.length ≤ sizeLine) (hk : s.heap.get? kS = some (seqObj "list" ks.toArray e)) (ha : s.heap.get? a = some (seqObj "list" #[] e1))
    (O : Swo lt) (hkind : 2 ≤ vs.length → ∀ (Q : SortKind → Shared → Prop), Q κ s → wpAny (model prog w) A (keyKind' ks.toArray) Q E s) (T : Cmp prog w A s κ Pk lt) (hP : ∀ p ∈ ks.zip vs, Pk p)
    (h : ∀ (out : List Keyed) h' c, out.Perm (ks.zip vs) → Srtd lt out → h'.get? a = some (seqObj "list" (out.map (·.2)).toArray c) → (∀ b o, b ≠ a → b ≠ kS → s.heap.get? b = some o → h'.get? b = some o) → P (.done (.ret .none)) { s with heap := h' }) :
    wpAny (model prog w) A (ksk_end a false vs.toArray e1 (.ref kS) ks.toArray) P E s := by
  have ez : (ks.toArray.zip vs.toArray).toList = ks.zip vs := by rw [ksk_zip]
  have hzl : (ks.zip vs).length = vs.length := by rw [List.length_zip]; omega
  have fin : ∀ st' : SortSt, Srtd lt (arrOf st').toList → (arrOf st').toList.Perm (ks.zip vs) → failedOf st' = none → wpAny (model prog w) A (ksk_tail a false e1 (.ref kS) st') P E s := fun st' h1 h2 h3 => by
    have hlen := h2.length_eq
    rw [Array.length_toList] at hlen
    refine key_tail hne hk ha (by rw [List.size_toArray]; omega) (by rw [Array.size_map]; omega) h3 fun h' c q1 q2 => h _ h' c h2 h1 ?_ q2
    rw [q1]
    congr 2
    apply Array.ext'
    simp
  unfold ksk_end
  try dsimp only
  simp only [Bool.false_eq_true, if_false]
  have hsz : vs.toArray.size = vs.length := by simp
  by_cases h2 : vs.toArray.size < 2
  · rw [if_pos h2, if_pos h2]
    refine wpAny_bind (wpAny_pure ?_)
    rw [StateT.run_pure]
    refine wpAny_bind (wpAny_pure ?_)
    refine fin (SortSt.mk' general' (ks.toArray.zip vs.toArray) #[] 7 none) ?_ ?_ rfl
    · show Srtd lt (ks.toArray.zip vs.toArray).toList
      rw [ez]
      have : (ks.zip vs).length < 2 := by omega
      match ks.zip vs, this with
      | [], _ => exact List.Pairwise.nil
      | [v], _ => exact List.pairwise_singleton _ _
      | _ :: _ :: l, h => exact absurd h (by simp)
    · show (ks.toArray.zip vs.toArray).toList.Perm _
      rw [ez]
  · rw [if_neg h2, if_neg h2]
    refine wpAny_bind (hkind (by omega) _ ?_)
    have hall : AllL Pk (ks.toArray.zip vs.toArray).toList := fun p hm => hP p (by rwa [ez] at hm)
    refine wpAny_bind (wpAny_mono (wpS_sortO (st0 := SortSt.mk' κ (ks.toArray.zip vs.toArray) #[] 7 none)
      (Q := fun _ st' => Srtd lt (arrOf st').toList ∧ (arrOf st').toList.Perm (ks.zip vs) ∧ failedOf st' = none) O T rfl hall rfl rfl fun st' a1 a2 a3 => ⟨a1, by have := a2.perm; rwa [show arrOf (SortSt.mk' κ (ks.toArray.zip vs.toArray) #[] 7 none) = ks.toArray.zip vs.toArray from rfl, ez] at this, a3⟩) ?_ fun _ _ e => e)
    rintro ⟨⟨⟩, st'⟩ s' ⟨rfl, h1, h2, hf⟩
    try dsimp only
    exact fin st' h1 h2 hf
theorem fold_keys {vs : List Value} {J : List Value → Shared → Prop} {body : Value → PUnit → Sem (ForInStep PUnit)}
    (hb : ∀ x ks (s : Shared), J ks s → vs[ks.length]? = some x → wpAny (model prog w) A (body x ⟨⟩) (fun r s' => r = .yield ⟨⟩ ∧ ∃ k, J (ks ++ [k]) s') E s) : ∀ (r ks : List Value) (s : Shared), vs.drop ks.length = r → ks.length ≤ vs.length → J ks s →
      wpAny (model prog w) A (forIn r PUnit.unit body) (fun _ s' => ∃ ks, ks.length = vs.length ∧ J ks s') E s
  | [], ks, s, hd, hl, j => by
    rw [List.forIn_nil]
    have := congrArg List.length hd
    simp at this
    exact wpAny_pure ⟨ks, by omega, j⟩
  | x :: r, ks, s, hd, hl, j => by
    have hx : vs[ks.length]? = some x := by
      have e : (vs.drop ks.length)[0]? = (x :: r)[0]? := by rw [hd]
      rw [List.getElem?_drop] at e
      exact e
    have hlt : ks.length < vs.length := by
      have := (List.getElem?_eq_some_iff.mp hx).1
      exact this
    rw [List.forIn_cons]
    refine wpAny_bind (wpAny_mono (hb x ks s j hx) (fun q s' hq => ?_) fun _ _ x => x)
    obtain ⟨rfl, k, j'⟩ := hq
    show wpAny (model prog w) A (forIn r PUnit.unit body) _ E s'
    refine fold_keys hb r (ks ++ [k]) s' ?_ (by simp; omega) j'
    have e := congrArg (List.drop 1) hd
    rw [List.drop_drop] at e
    simp only [List.length_append, List.length_singleton]
    first
      | exact e
      | (rw [Nat.add_comm] at e; exact e)
theorem key_rest {a kS fa : Addr} {e1 : Nat} {vs : List Value} {J : List Value → Shared → Prop} {P : PySem.Fin → Shared → Prop} (hz : vs.length < sizeLine)
    (hJ : ∀ ks s, J ks s → ∃ e, s.heap.get? kS = some (seqObj "list" ks.toArray e))
    (hcall : ∀ x ks (s : Shared), J ks s → vs[ks.length]? = some x → wpAny (model prog w) A (call (.ref fa) [x]) (fun k s' => (∃ e, s'.heap.get? kS = some (seqObj "list" ks.toArray e)) ∧ ∀ h' c, Heap.SameBut kS s'.heap h' → h'.get? kS = some (seqObj "list" (ks ++ [k]).toArray c) → J (ks ++ [k]) { s' with heap := h' }) (fun _ _ => False) s)
    (hend : ∀ ks s, ks.length = vs.length → J ks s → wpAny (model prog w) A (ksk_end a false vs.toArray e1 (.ref kS) ks.toArray) P E s) (j : J [] s) :
    wpAny (model prog w) A (ksk_rest a (.ref fa) false vs.toArray e1 (.ref kS)) P E s := by
  unfold ksk_rest
  refine wpAny_bind (wpAny_rule ?_)
  first
    | rw [List.forIn_toArray]
    | (rw [← Array.forIn_toList]; simp only [List.toList_toArray])
    | rw [← Array.forIn_toList]
  refine wpAny_bind (wpAny_mono (fold_keys (vs := vs) (J := J) (fun x ks s' j hx => ?_) vs [] s (by simp) (by simp) j) (fun _ s' hd => ?_) fun _ _ x => x)
  · have hlt : ks.length < vs.length := (List.getElem?_eq_some_iff.mp hx).1
    refine wpAny_bind (wpAny_attempt (wpAny_mono (hcall x ks s' j hx) (fun k s'' hk => ?_) fun _ _ hF => hF.elim))
    obtain ⟨⟨e, he⟩, c⟩ := hk
    have s1 := Heap.SameBut.update s''.heap kS (Obj.mapSeq (·.push k))
    have ea : (List.toArray ks).push k = List.toArray (ks ++ [k]) := by simp
    obtain ⟨c2, hc2⟩ : ∃ c2, (s''.heap.update kS (Obj.mapSeq (·.push k))).get? kS = some (seqObj "list" (List.toArray (ks ++ [k])) c2) := ⟨_, by rw [← ea]; exact get?_update_seq he (·.push k)⟩
    try dsimp only
    refine wpAny_bind (listUpdate_at he rfl ?_ (by rw [List.size_toArray]; omega) (Nat.le_trans (Nat.le_of_eq (Array.size_push ..)) (by rw [List.size_toArray]; omega)))
    exact wpAny_pure ⟨rfl, k, c _ c2 s1 hc2⟩
  · obtain ⟨ks, hl, j'⟩ := hd
    obtain ⟨e, he⟩ := hJ ks s' j'
    try dsimp only
    refine wpAny_bind (listItems_at he rfl ?_)
    exact hend ks s' hl j'
end
end Pu

namespace Pu
open PySem PySem.Spec PyProof.Rows L2 SeqAt PySem.W Srt SrtO FbM
section
variable {X : Cx} {pins : List (Addr × Obj)} {σ : L2.St} {H : Hp} {s : Shared} {M : Mp} {k : Nat} {fa : Addr} {fd : FuncData} {ps : List Str} {sp : USp}
/-- an untracked record of ours, tracked from now on -/
theorem Rec.adopt {a : Addr} {o : HO} (r : Rec X pins a) (I : Inv X pins σ H s) (n : H a = none) (new : ObjOk X.prog X.w (upd H a o) s.heap a o) : Inv X pins σ (upd H a o) s := by
  have ne : ∀ b u, H b = some u → b ≠ a := fun b u e z => by rw [z, n] at e; cases e
  have hok : HOk X.prog X.w (upd H a o) s.heap := I.hok.laidN (fun _ _ q => q) n new
  have J := I.step (H' := upd H a o) (h' := s.heap) (g' := s.gens) (d' := s.drawn) (t' := s.toks) (ch := [a]) (fun b hb => by
      have e : b = a := by simpa using hb
      subst e
      exact ⟨.inr r.ge, r.nl, r.ce, r.pn⟩) (fun b o _ _ _ e _ => e) (fun b o _ _ _ e _ => ⟨o.slots, e⟩)
    (fun b u hc _ e => by rw [upd_ne (fun z => hc (by simp [z]))]; exact e) (fun b u _ e => ⟨u, e⟩)
    (fun b xs e => by rw [upd_ne (ne b _ e)]; exact e) (fun b u w e => by rw [upd_ne (ne b _ e)]; exact e) (fun b ps e => ⟨#[], by rw [upd_ne (ne b _ e), e]; simp⟩) (fun m hm => hm) hok I.bare
  exact J
/-- one key -/
theorem key_call {A : Around} {M : Mp} (F : FnOk X.prog X.w X.K X.mg X.base (L2.CX X.prog X.w) k fa fd ps (liftSp X.K X.mg sp)) (hb : Binds X.K fd ps []) (hr : Room k A) (hA : A.frames = some X.stack) (I : Inv X pins σ H s) (hd : RepM X.K M H)
    {x y : U} {xv : V} {v : Value} (rx : RepV X.K M H x xv) (rv : RelV xv v) (h : ∀ R' : UK, R' y M → sp [x] M R' fun _ _ => False) :
    wpAny (model X.prog X.w) A (call (.ref fa) [v]) (fun kv s' => ∃ v' H', Inv X pins σ H' s' ∧ RelV v' kv ∧ RepV X.K M H' y v' ∧ Stp M H M H' ∧ RepM X.K M H' ∧ ∀ b o, Rec X pins b → H b = none → s.heap.get? b = some o → s'.heap.get? b = some o ∧ H' b = none) (fun _ _ => False) s := by
  have e0 := I.env0
  have e1 : Env0 X.prog X.w X.K X.mg X.base A X.stack s H := ⟨hA, e0.mod, e0.bs, e0.bsz, e0.funs, e0.frf, e0.hok, e0.bare⟩
  have q : liftSp X.K X.mg sp [xv] H (fun v' H' => RepV X.K M H' y v' ∧ Stp M H M H' ∧ RepM X.K M H') (fun _ _ _ => False) :=
    ⟨[x], M, fun u M' => u = y ∧ M' = M, fun _ _ => False, .cons rx .nil, hd, h _ ⟨rfl, rfl⟩, fun u M' v' H' ⟨e, em⟩ st hd' r => by subst e em; exact ⟨r, st, hd'⟩, fun _ _ _ _ _ z => z.elim⟩
  have hl : ([v] ++ [] : List Value).length = ps.length := by
    have := F.len _ _ _ _ q
    simpa using this
  refine wpAny_call (codeAny_mono (F.run A X.stack s H ⟨[v], []⟩ ([v] ++ []) [xv] _ _ hr e1 (hb s [v] I.kIn hl) (.cons rv .nil) q) fun rr s2 hrr => ?_)
  cases rr with
  | error e =>
    obtain ⟨_, _, _, _, _, _, _, _, _, _, _, _, z⟩ := (show L2.CX X.prog X.w X.stack H s (fun _ _ _ => False) e s2 from hrr)
    exact z.elim
  | ok fl =>
    cases fl with
    | next => exact False.elim hrr
    | brk => exact False.elim hrr
    | cont => exact False.elim hrr
    | ret kv =>
      obtain ⟨v', H', os, bare, un, hok, rv', rk, st, hd'⟩ := (show CE X.stack X.prog X.w H s _ kv s2 from hrr)
      exact ⟨v', H', I.call' os un hok bare (fun b y => absurd y List.not_mem_nil), rv', rk, st, hd', fun b o rb ub eb => ⟨un.keep _ _ eb ub rb.fr List.not_mem_nil, un.free _ _ eb ub List.not_mem_nil⟩⟩
/-- from a key as a value to the key at its address -/
theorem keyAt_of {K : PySem.W.Frag} (I : Inv X pins σ H s) {i : Int} {us : List U} {v : V} {kv : Value} (r : RepV X.K M H (.tup (.int i :: us)) v) (rv : RelV v kv) (ok : okU (.tup (.int i :: us)) = true) : KeyAt s.heap kv (.tup (.int i :: us)) := by
  obtain ⟨as, rd⟩ := Dp.reads I _ v kv (dp_of _ _ r ok) rv
  unfold pdT at rd
  cases rd with
  | @tuple a o vs n xs as ho hc hd hr =>
    have hr' := hr
    simp only [pdTs] at hr'
    generalize hvl : vs.toList = vl at hr'
    cases hr' with
    | @cons z zs d ds as1 bs1 q1 q2 =>
      unfold pdT at q1
      cases q1 with
      | int _ t => exact ⟨a, o, vs, n, .int i :: us, i, t, _, rfl, ho, hc, hd, rfl, hr, by rw [← Array.getElem?_toList, hvl]; rfl⟩
end
end Pu

/-! Pu, part 16: names of built-ins, sorted. -/
namespace Pu
open PySem PySem.Spec PyProof.Rows L2
def uIn0 : O2 := uIn (fun _ => none) false
def uNotIn0 : O2 := uIn (fun _ => none) true
def uIdx0 : O2 := uIdx (fun _ => none)
section
variable {X : Cx}
theorem wds0 : WdsOk X (fun _ => none) := fun _ _ e => by cases e
theorem uop_in0 (hu : X.A.units + 65 < cLine) : UOp X (compareOp .In) uIn0 := uop_in false wds0 hu
theorem uop_notIn0 (hu : X.A.units + 65 < cLine) : UOp X (compareOp .NotIn) uNotIn0 := uop_in true wds0 hu
theorem uix0 (hu : X.A.units + 65 < cLine) : UIx X uIdx0 := uix wds0 hu
end
theorem boot_ty_int : bootBuiltins ("int" : Str) = some (.type "int") := by kernel_rfl
theorem boot_ty_str : bootBuiltins ("str" : Str) = some (.type "str") := by kernel_rfl
theorem boot_ty_bool : bootBuiltins ("bool" : Str) = some (.type "bool") := by kernel_rfl
theorem boot_ty_list : bootBuiltins ("list" : Str) = some (.type "list") := by kernel_rfl
theorem boot_ty_tuple : bootBuiltins ("tuple" : Str) = some (.type "tuple") := by kernel_rfl
theorem boot_ty_dict : bootBuiltins ("dict" : Str) = some (.type "dict") := by kernel_rfl
theorem boot_ty_set : bootBuiltins ("set" : Str) = some (.type "set") := by kernel_rfl
theorem boot_fn_len : bootBuiltins ("len" : Str) = some (.builtin "len") := by kernel_rfl
theorem boot_fn_isinstance : bootBuiltins ("isinstance" : Str) = some (.builtin "isinstance") := by kernel_rfl
theorem boot_fn_all : bootBuiltins ("all" : Str) = some (.builtin "all") := by kernel_rfl
theorem boot_fn_any : bootBuiltins ("any" : Str) = some (.builtin "any") := by kernel_rfl
theorem boot_fn_sum : bootBuiltins ("sum" : Str) = some (.builtin "sum") := by kernel_rfl
theorem boot_fn_max : bootBuiltins ("max" : Str) = some (.builtin "max") := by kernel_rfl
theorem boot_fn_min : bootBuiltins ("min" : Str) = some (.builtin "min") := by kernel_rfl
theorem boot_fn_sorted : bootBuiltins ("sorted" : Str) = some (.builtin "sorted") := by kernel_rfl
theorem boot_fn_repr : bootBuiltins ("repr" : Str) = some (.builtin "repr") := by kernel_rfl

/-! ### sorted(texts) -/
def uSorted : OC := fun us M R => ∃ u xs, us = [u] ∧ lstOf M u = some (xs.map .str) ∧ xs.length < 64 ∧ ∀ ys, ys.Perm xs → sortedS ys = true → R (.lst (ys.map .str)) M
theorem ucal_sorted {X : Cx} (hu : X.A.units + 64 < cLine) : UCal X (.builtin "sorted") uSorted := call_imp cr_sortedS fun xs H Q ⟨us, M, R, r, hd, ⟨u, ns, eu, en, hz, q⟩, c⟩ => by
  subst eu
  obtain ⟨v, rfl, r1⟩ := r.one
  obtain ⟨a, vs, rfl, h, t⟩ := lstOf_sq hd r1 en
  rw [strs_rep t] at h
  exact ⟨a, ns, rfl, h, hz, fun ys p k1 k2 hp => c.at_ (q ys k1 k2) (Stp.new hd hp) (hd.new hp) (new_lst hd hp (reps_of_strs ys))⟩
/-! ### sorted(set(texts)) -/
def insS (x : Str) : List Str → List Str
  | [] => [x]
  | y :: ys => if x = y then y :: ys else if x.cps.toList < y.cps.toList then x :: y :: ys else y :: insS x ys
def sortSetS (xs : List Str) : List Str := xs.foldr insS []
def wSortSet (te : WE) : WE := fun su M R => te su M fun u M1 => ∃ xs : List Str, lstOf M1 u = some (xs.map .str) ∧ xs.length < 64 ∧ R (.lst ((sortSetS xs).map .str)) M1
theorem str_ext {a b : Str} (h : a.cps.toList = b.cps.toList) : a = b := by
  obtain ⟨⟨a⟩⟩ := a
  obtain ⟨⟨b⟩⟩ := b
  simp at h
  rw [h]
theorem insS_mem {x y : Str} : ∀ {l : List Str}, y ∈ insS x l ↔ y = x ∨ y ∈ l
  | [] => by simp [insS]
  | z :: r => by
    unfold insS
    split
    · rename_i e; subst e; simp
    · split
      · simp
      · simp [insS_mem (l := r)]
        constructor
        · rintro (h | h | h) <;> simp [h]
        · rintro (h | h | h) <;> simp [h]
theorem sortSet_mem {y : Str} : ∀ {l : List Str}, y ∈ sortSetS l ↔ y ∈ l
  | [] => by simp [sortSetS]
  | x :: r => by
    show y ∈ insS x (sortSetS r) ↔ _
    rw [insS_mem, sortSet_mem (l := r)]
    simp
def StrictS : List Str → Prop := List.Pairwise fun a b => a.cps.toList < b.cps.toList
theorem lt_total (a b : Str) (h : ¬ a = b) (h2 : ¬ a.cps.toList < b.cps.toList) : b.cps.toList < a.cps.toList := by
  have h3 : b.cps.toList ≤ a.cps.toList := by simpa using h2
  rcases List.le_iff_lt_or_eq.mp h3 with h4 | h4
  · exact h4
  · exact absurd (str_ext h4.symm) h
theorem insS_strict {x : Str} : ∀ {l : List Str}, StrictS l → StrictS (insS x l)
  | [], _ => List.pairwise_singleton _ _
  | z :: r, h => by
    obtain ⟨h1, h2⟩ := List.pairwise_cons.mp h
    unfold insS
    split
    · exact h
    · rename_i ne
      split
      · rename_i lt
        refine List.pairwise_cons.mpr ⟨fun y hy => ?_, h⟩
        rcases List.mem_cons.mp hy with e | hy
        · subst e; exact lt
        · exact List.lt_trans lt (h1 y hy)
      · rename_i nlt
        refine List.pairwise_cons.mpr ⟨fun y hy => ?_, insS_strict h2⟩
        rcases insS_mem.mp hy with e | hy
        · subst e; exact lt_total _ _ ne nlt
        · exact h1 y hy
theorem sortSet_strict : ∀ l : List Str, StrictS (sortSetS l)
  | [] => List.Pairwise.nil
  | x :: r => insS_strict (sortSet_strict r)
theorem strict_unique : ∀ {a b : List Str}, StrictS a → StrictS b → (∀ x, x ∈ a ↔ x ∈ b) → a = b
  | [], [], _, _, _ => rfl
  | [], y :: b, _, _, h => by have := (h y).mpr List.mem_cons_self; cases this
  | x :: a, [], _, _, h => by have := (h x).mp List.mem_cons_self; cases this
  | x :: a, y :: b, ha, hb, h => by
    obtain ⟨a1, a2⟩ := List.pairwise_cons.mp ha
    obtain ⟨b1, b2⟩ := List.pairwise_cons.mp hb
    have exy : x = y := by
      rcases List.mem_cons.mp ((h x).mp List.mem_cons_self) with e | m
      · exact e
      · rcases List.mem_cons.mp ((h y).mpr List.mem_cons_self) with e | m2
        · exact e.symm
        · exact absurd (List.lt_trans (b1 x m) (a1 y m2)) (List.lt_irrefl _)
    subst exy
    congr 1
    refine strict_unique a2 b2 fun z => ?_
    have nx : ∀ {c : List Str}, (∀ w ∈ c, x.cps.toList < w.cps.toList) → z ∈ c → z ≠ x := fun hc hz e => by
      subst e; exact List.lt_irrefl _ (hc z hz)
    constructor
    · intro hz
      rcases List.mem_cons.mp ((h z).mp (List.mem_cons_of_mem _ hz)) with e | m
      · exact absurd e (nx a1 hz)
      · exact m
    · intro hz
      rcases List.mem_cons.mp ((h z).mpr (List.mem_cons_of_mem _ hz)) with e | m
      · exact absurd e (nx b1 hz)
      · exact m
theorem sortSet_ext {a b : List Str} (h : ∀ x, x ∈ a ↔ x ∈ b) : sortSetS a = sortSetS b :=
  strict_unique (sortSet_strict a) (sortSet_strict b) fun x => by rw [sortSet_mem, sortSet_mem]; exact h x
theorem insS_len {x : Str} : ∀ {l : List Str}, (insS x l).length ≤ l.length + 1
  | [] => by simp [insS]
  | z :: r => by
    unfold insS
    split
    · simp
    · split
      · simp
      · have := insS_len (x := x) (l := r); simp; omega
theorem sortSet_len : ∀ l : List Str, (sortSetS l).length ≤ l.length
  | [] => by simp [sortSetS]
  | x :: r => by
    have h1 := sortSet_len r
    have h2 := insS_len (x := x) (l := sortSetS r)
    show (insS x (sortSetS r)).length ≤ _
    simp
    omega
theorem sortedS_strict {l : List Str} (nd : l.Nodup) (h : sortedS l = true) : StrictS l := by
  have key : ∀ (l : List Str) (p : Str), risingS p l = true → (∀ q ∈ l, ¬ q.cps.toList < p.cps.toList) ∧ sortedS l = true := by
    intro l
    induction l with
    | nil => intro p _; exact ⟨fun q hq => (by cases hq), rfl⟩
    | cons x r ih =>
      intro p h
      simp only [risingS, Bool.and_eq_true, Bool.not_eq_true'] at h
      obtain ⟨h1, h2⟩ := h
      have h1' : ¬ x.cps.toList < p.cps.toList := by
        intro hlt
        rw [ltCps_eq] at h1
        simp [hlt] at h1
      refine ⟨fun q hq => ?_, h2⟩
      rcases List.mem_cons.mp hq with e | hq
      · subst e; exact h1'
      · have := (ih x h2).1 q hq
        intro hlt
        exact this (by
          rcases List.le_iff_lt_or_eq.mp (show p.cps.toList ≤ x.cps.toList by simpa using h1') with k | k
          · exact List.lt_trans hlt k
          · rw [← k]; exact hlt)
  induction l with
  | nil => exact List.Pairwise.nil
  | cons x r ih =>
    obtain ⟨n1, n2⟩ := List.nodup_cons.mp nd
    obtain ⟨k1, k2⟩ := key r x h
    refine List.pairwise_cons.mpr ⟨fun y hy => ?_, ih n2 k2⟩
    exact lt_total y x (fun e => n1 (e ▸ hy)) (k1 y hy)
section
variable {X : Cx} {P : Program} {w : World} {K : PySem.W.Frag} {mg : Str → Option Value} {base : Heap} {k : Nat} {N : List Str} {S : Scope} {g : Gd} {e a : Expr} {te : WE} {tr : WA} {p p2 pos pos2 : Pos}
theorem k_sortSet (W : Wk X P w K mg base k N S) (hc : X.calm = true) (hm : mg "sorted" = none) (hm2 : mg "set" = none) (h1 : glB S "sorted" = true) (h2 : glB S "set" = true) (ha : JE X g e te)
    (hs : starEach [e] X.env = (false, eval e X.env) :: starEach [] X.env) (hs2 : starEach [.Call (.Name "set" p2) [e] [] pos2] X.env = (false, eval (.Call (.Name "set" p2) [e] [] pos2) X.env) :: starEach [] X.env)
    (hp : (backTo pos (starEach [] X.env)).any (·.1) = false) (hp2 : (backTo pos2 (starEach [] X.env)).any (·.1) = false) :
    JE X g (.Call (.Name "sorted" p) [.Call (.Name "set" p2) [e] [] pos2] [] pos) (wSortSet te) := by
  obtain ⟨q1, q2⟩ := W.gl h1
  obtain ⟨q3, q4⟩ := W.gl h2
  have inner := L2.pe_callTy (p := p2) (cr_setT hc) q3 (by rw [W.mg]; exact hm2) boot_ty_set (L2.pa_cons ha L2.pa_nil hs) (by decide) q4 hs hp2
  have outer := L2.pe_callB (p := p) (cr_sortedT hc) q1 (by rw [W.mg]; exact hm) boot_fn_sorted (L2.pa_cons inner L2.pa_nil hs2) (by decide) q2 hs2 hp
  refine pe_imp outer fun σ H Q ⟨su, M, R, at0, h, c⟩ => ?_
  refine ⟨su, M, _, at0, h, fun u M1 v H1 ⟨xs, e, hz, q⟩ s1 d1 r1 => ?_⟩
  obtain ⟨a1, vs, rfl, sq, t⟩ := lstOf_sq d1 r1 e
  rw [strs_rep t] at sq
  refine ⟨a1, xs, rfl, sq, by omega, fun l p hm hl hp => ⟨p, l, rfl, upd_same, by omega, fun ys p2 k1 k2 _ k4 hp2 => ?_⟩⟩
  have e2 : ys = sortSetS xs := strict_unique (sortedS_strict k4 k1) (sortSet_strict xs) fun x => by rw [sortSet_mem]; exact (k2 x).trans (hm x)
  subst e2
  exact c.at_ q (s1.trans ((Stp.new d1 hp).trans (Stp.new (d1.new hp) hp2))) ((d1.new hp).new hp2) (new_lst (d1.new hp) hp2 (reps_of_strs _))
end
end Pu

namespace Pu
open PySem PySem.Spec PyProof.Rows L2 SeqAt PySem.W Srt SrtO FbM
theorem perm_lift {α β : Type} {f : α → β} {l m : List β} (h : l.Perm m) : ∀ t : List α, t.map f = m → ∃ t' : List α, t'.Perm t ∧ t'.map f = l := by
  induction h with
  | nil => intro t e; exact ⟨[], by rw [List.map_eq_nil_iff.mp e], rfl⟩
  | cons x h ih =>
    intro t e
    cases t with
    | nil => simp at e
    | cons y t0 =>
      simp at e
      obtain ⟨t', p, e2⟩ := ih t0 e.2
      exact ⟨y :: t', p.cons y, by simp [e2, e.1]⟩
  | swap x y l =>
    intro t e
    match t, e with
    | a :: b :: t0, e =>
      simp at e
      exact ⟨b :: a :: t0, List.Perm.swap _ _ _, by simp [e]⟩
  | trans h1 h2 ih1 ih2 =>
    intro t e
    obtain ⟨t1, p1, e1⟩ := ih2 t e
    obtain ⟨t2, p2, e2⟩ := ih1 t1 e1
    exact ⟨t2, p2.trans p1, e2⟩
abbrev Quad := (Value × Value) × (U × V)
theorem zip4 {K : PySem.W.Frag} {M : Mp} {H : Hp} (f : U → U) : ∀ (xs : List U) (kvs xvs : List V) (ks vs : List Value), RepVs K M H (xs.map f) kvs → RepVs K M H xs xvs → Vals kvs ks → Vals xvs vs →
    ∃ T : List Quad, T.map (·.1) = ks.zip vs ∧ T.map (·.2.1) = xs ∧ T.map (·.2.2) = xvs ∧ ∀ t ∈ T, t.2.1 ∈ xs ∧ RelV t.2.2 t.1.2 ∧ RepV K M H t.2.1 t.2.2 ∧ ∃ kv, RelV kv t.1.1 ∧ RepV K M H (f t.2.1) kv
  | [], kvs, xvs, ks, vs, r1, r2, v1, v2 => by
    have e1 := RepVs.nil_inv r1
    have e2 := r2.nil_inv
    subst e1 e2
    cases v1; cases v2
    exact ⟨[], rfl, rfl, rfl, fun t h => by cases h⟩
  | x :: xs, kvs, xvs, ks, vs, r1, r2, v1, v2 => by
    obtain ⟨kv, kr, rfl, a1, a2⟩ := RepVs.uncons r1
    obtain ⟨xv, xr, rfl, b1, b2⟩ := r2.uncons
    cases v1 with
    | cons q1 q2 =>
    cases v2 with
    | cons p1 p2 =>
    rename_i kb kl vb vl
    obtain ⟨T, t1, t2, t3, t4⟩ := zip4 f xs kr xr _ _ a2 b2 q2 p2
    refine ⟨((kb, vb), (x, xv)) :: T, by simp [t1], by simp [t2], by simp [t3], fun t ht => ?_⟩
    rcases List.mem_cons.mp ht with e | ht
    · subst e; exact ⟨List.mem_cons_self, p1, b1, kv, q1, a1⟩
    · obtain ⟨g1, g2⟩ := t4 t ht
      exact ⟨List.mem_cons_of_mem _ g1, g2⟩
theorem RepVs.snoc {K : PySem.W.Frag} {M : Mp} {H : Hp} {us : List U} {vs : List V} {u : U} {v : V} (h : RepVs K M H us vs) (r : RepV K M H u v) : RepVs K M H (us ++ [u]) (vs ++ [v]) := h.app (.cons r .nil)
theorem rep_quads {K : PySem.W.Frag} {M : Mp} {H : Hp} : ∀ T : List Quad, (∀ t ∈ T, RelV t.2.2 t.1.2 ∧ RepV K M H t.2.1 t.2.2) → RepVs K M H (T.map (·.2.1)) (T.map (·.2.2)) ∧ Vals (T.map (·.2.2)) (T.map (·.1.2))
  | [], _ => ⟨.nil, .nil⟩
  | t :: T, h => by
    obtain ⟨h1, h2⟩ := h t List.mem_cons_self
    obtain ⟨r1, r2⟩ := rep_quads T fun x hx => h x (List.mem_cons_of_mem _ hx)
    exact ⟨.cons h2 r1, .cons h1 r2⟩
/-- what is asked of the keys -/
structure KeysOk (xs : List U) (f : U → U) : Prop where
  ord : ∀ x ∈ xs, ordU (f x) = true
  fit : ∀ x ∈ xs, Fit (f x)
  int : ∀ x ∈ xs, ∃ i r, f x = .tup (.int i :: r)
  cmp : ∀ x ∈ xs, ∀ y ∈ xs, ∃ k, ltU (f x) (f y) = some k
section
variable {X : Cx} {pins : List (Addr × Obj)} {σ : L2.St} {H : Hp} {s : Shared} {M : Mp} {k : Nat} {fa : Addr} {fd : FuncData} {ps : List Str} {sp : USp}
theorem sortKey_run (F : FnOk X.prog X.w X.K X.mg X.base (L2.CX X.prog X.w) k fa fd ps (liftSp X.K X.mg sp)) (hb : Binds X.K fd ps []) (hr : Room k X.A.in1.in1) (hA : X.A.in1.in1.frames = some X.stack) (I : Inv X pins σ H s) (hd : RepM X.K M H)
    {l : Addr} {xs : List U} {xvs : List V} (hl : SqL X.K H l xvs) (rx : RepVs X.K M H xs xvs) (f : U → U) (hz : xs.length < 10000) (ko : KeysOk xs f) (hrun : ∀ x ∈ xs, ∀ R' : UK, R' (f x) M → sp [x] M R' fun _ _ => False) {Q : VK}
    (q : ∀ ys p yvs H', ys.Perm xs → ys.Pairwise (fun a b => ltU (f b) (f a) = some false) → Stp M H M H' → RepM X.K M H' → RepVs X.K M H' ys yvs → H' p = none → Q (.ref p) (upd H' p (.lst yvs))) :
    wpAny (model X.prog X.w) X.A (call (.builtin "sorted") [.ref l] [(Str.ofString "key", .ref fa)]) (EP X pins σ Q) X.xe s := by
  obtain ⟨vs, rv, pl, hzl⟩ := I.list hl
  have hlen : xs.length = vs.length := rx.length.trans rv.length
  have hzv : vs.length ≤ sizeLine := by rw [sizeLine_eq]; omega
  have hunits : X.A.in1.in1.units + 64 < cLine := hr.units
  refine call_function_entry_kw kind_sorted plain_sorted entry_sorted (ksk_s1 _ _) ?_
  unfold Builtin.«sorted»
  refine wpAny_bind (m := checkCount "sorted" 1 1 _) (wpAny_pure ?_)
  refine wpAny_bind (collect_list pl.isList ?_ hzv)
  refine wpAny_bind (wpAny_newList ?_ hzv)
  have hsz : ((s.heap.push (seqObj "list" #[] 0)).update s.heap.objs.size (Obj.mapSeq (· ++ vs.toArray))).objs.size = s.heap.objs.size + 1 := by
    rw [Heap.size_update, size_push']
  have hoL : (((s.heap.push (seqObj "list" #[] 0)).update s.heap.objs.size (Obj.mapSeq (· ++ vs.toArray))).push (seqObj "list" vs.toArray 0)).get? (s.heap.objs.size + 1) = some (seqObj "list" vs.toArray 0) := by
    rw [← hsz]; exact Heap.get?_push_size _ rfl
  have keep : ∀ b o, s.heap.get? b = some o → b ≠ s.heap.objs.size + 1 ∧ (((s.heap.push (seqObj "list" #[] 0)).update s.heap.objs.size (Obj.mapSeq (· ++ vs.toArray))).push (seqObj "list" vs.toArray 0)).get? b = some o := fun b o q => by
    have hlt : b < s.heap.objs.size := Heap.lt_size q
    refine ⟨Nat.ne_of_lt (Nat.lt_succ_of_lt hlt), Heap.get?_push_of_some _ ?_⟩
    rw [Heap.get?_update_ne _ _ _ _ (Nat.ne_of_lt hlt)]
    exact Heap.get?_push_of_some _ q
  have hz2 : (((s.heap.push (seqObj "list" #[] 0)).update s.heap.objs.size (Obj.mapSeq (· ++ vs.toArray))).push (seqObj "list" vs.toArray 0)).objs.size = s.heap.objs.size + 2 := by rw [size_push', hsz]
  show wpAny _ _ _ _ _ { s with heap := ((s.heap.push (seqObj "list" #[] 0)).update s.heap.objs.size (Obj.mapSeq (· ++ vs.toArray))).push (seqObj "list" vs.toArray 0) }
  rw [hsz]
  generalize ((s.heap.push (seqObj "list" #[] 0)).update s.heap.objs.size (Obj.mapSeq (· ++ vs.toArray))).push (seqObj "list" vs.toArray 0) = h1 at hoL keep hz2 ⊢
  generalize ea : s.heap.objs.size + 1 = a at hoL keep ⊢
  have haS : s.heap.objs.size ≤ a := by omega
  refine wpAny_bind (wpAny_holding (wpAny_call_entry_kw slot_list_sort ⟨_, hoL, rfl⟩ entry_list_sort ?_ (ksk_l1 _ _)))
  rw [ksk_t1]
  obtain ⟨e1, ho1⟩ : ∃ e1, (h1.update a (Obj.mapSeq fun _ => (#[] : Array Value))).get? a = some (seqObj "list" #[] e1) := ⟨_, get?_update_seq hoL fun _ => #[]⟩
  unfold ksk_tree
  refine wpAny_bind (listItems_at hoL rfl ?_)
  refine wpAny_bind (listUpdate_at hoL rfl ?_ (by rw [List.size_toArray]; exact hzv) (Nat.zero_le _))
  refine wpAny_bind (seqEpoch_at ho1 rfl ?_)
  refine wpAny_bind (wpAny_newTuple ?_ (by show vs.length ≤ _; exact hzv))
  refine wpAny_bind (wpAny_newList ?_ (Nat.zero_le _))
  refine wpAny_holding ?_
  have hkS : ((h1.update a (Obj.mapSeq fun _ => (#[] : Array Value))).push (seqObj "tuple" vs.toArray 0)).objs.size = a + 2 := by rw [size_push', Heap.size_update, hz2]; omega
  have gk : (((h1.update a (Obj.mapSeq fun _ => (#[] : Array Value))).push (seqObj "tuple" vs.toArray 0)).push (seqObj "list" #[] 0)).get? (a + 2) = some (seqObj "list" #[] 0) := by rw [← hkS]; exact Heap.get?_push_size _ rfl
  have ga : (((h1.update a (Obj.mapSeq fun _ => (#[] : Array Value))).push (seqObj "tuple" vs.toArray 0)).push (seqObj "list" #[] 0)).get? a = some (seqObj "list" #[] e1) := Heap.get?_push_of_some _ (Heap.get?_push_of_some _ ho1)
  have keep2 : ∀ b o, s.heap.get? b = some o → (((h1.update a (Obj.mapSeq fun _ => (#[] : Array Value))).push (seqObj "tuple" vs.toArray 0)).push (seqObj "list" #[] 0)).get? b = some o := fun b o e => by
    obtain ⟨k1, k2⟩ := keep b o e
    refine Heap.get?_push_of_some _ (Heap.get?_push_of_some _ ?_)
    rw [Heap.get?_update_ne _ _ _ _ k1]
    exact k2
  have ra : Rec X pins a := rec_new I haS
  have rk : Rec X pins (a + 2) := rec_new I (by omega)
  have na : H a = none := I.hok.fresh haS
  have nk : H (a + 2) = none := I.hok.fresh (by omega)
  have hka : a + 2 ≠ a := by omega
  have I2 : Inv X pins σ H { s with heap := ((h1.update a (Obj.mapSeq fun _ => (#[] : Array Value))).push (seqObj "tuple" vs.toArray 0)).push (seqObj "list" #[] 0) } := I.kept (t' := s.toks) keep2
  show wpAny _ _ (ksk_rest a (.ref fa) false vs.toArray e1 (.ref ((h1.update a (Obj.mapSeq fun _ => (#[] : Array Value))).push (seqObj "tuple" vs.toArray 0)).objs.size)) _ _ { s with heap := ((h1.update a (Obj.mapSeq fun _ => (#[] : Array Value))).push (seqObj "tuple" vs.toArray 0)).push (seqObj "list" #[] 0) }
  rw [hkS]
  generalize ((h1.update a (Obj.mapSeq fun _ => (#[] : Array Value))).push (seqObj "tuple" vs.toArray 0)).push (seqObj "list" #[] 0) = h2 at gk ga I2 ⊢
  refine key_rest (J := fun ks s' => ∃ H' kvs e, Inv X pins σ H' s' ∧ RepM X.K M H' ∧ Stp M H M H' ∧ Vals kvs ks ∧ RepVs X.K M H' ((xs.take ks.length).map f) kvs ∧ s'.heap.get? (a + 2) = some (seqObj "list" ks.toArray e) ∧ s'.heap.get? a = some (seqObj "list" #[] e1) ∧ H' (a + 2) = none ∧ H' a = none)
    (by rw [sizeLine_eq]; omega) (fun ks s' ⟨H', kvs, e, _, _, _, _, _, he, _⟩ => ⟨e, he⟩) (fun x ks s' ⟨H', kvs, e, J1, J2, J3, J4, J5, J6, J7, J8, J9⟩ hx => ?_) (fun ks s' hkl ⟨H', kvs, e, J1, J2, J3, J4, J5, J6, J7, J8, J9⟩ => ?_)
    ⟨H, [], 0, I2, hd, Stp.refl _ _, .nil, .nil, gk, ga, nk, na⟩
  · have hlt : ks.length < vs.length := (List.getElem?_eq_some_iff.mp hx).1
    have hxs : ks.length < xs.length := by omega
    have r3 := RepVs.step J3 _ _ rx
    obtain ⟨T, t1, t2, t3, t4⟩ := zip4 (fun u => u) xs xvs xvs vs vs (by simpa using r3) r3 rv rv
    have hT : T.length = xs.length := by rw [← t2, List.length_map]
    have htk : ks.length < T.length := by omega
    obtain ⟨g1, g2, g3, _⟩ := t4 _ (List.getElem_mem htk)
    have ex : xs[ks.length]? = some (T[ks.length].2.1) := by rw [← t2, List.getElem?_map, List.getElem?_eq_getElem htk]; rfl
    have ev : T[ks.length].1.2 = x := by
      have : (T.map (·.1))[ks.length]? = (vs.zip vs)[ks.length]? := by rw [t1]
      have e3 : (vs.zip vs)[ks.length]? = some (x, x) := List.getElem?_zip_eq_some.mpr ⟨hx, hx⟩
      rw [List.getElem?_map, List.getElem?_eq_getElem htk, e3] at this
      exact congrArg Prod.snd (Option.some.inj this)
    rw [ev] at g2
    refine wpAny_mono (key_call F hb hr hA J1 J2 g3 g2 (hrun _ g1)) (fun kv s2 ⟨v', H2, i2, rv2, rp2, st2, hd2, kp⟩ => ?_) fun _ _ z => z
    obtain ⟨kk1, kk2⟩ := kp _ _ rk J8 J6
    obtain ⟨ka1, ka2⟩ := kp _ _ ra J9 J7
    refine ⟨⟨e, kk1⟩, fun h' c sb hc => ⟨H2, kvs ++ [v'], c, ?_, hd2, J3.trans st2, J4.append (.cons rv2 .nil), ?_, hc, (sb.2 a (Ne.symm hka)).trans ka1, kk2, ka2⟩⟩
    · exact rk.turn (t' := s2.toks) i2 kk2 fun c o hc2 ec => (sb.2 c hc2).trans ec
    · rw [List.length_append, List.length_singleton, List.take_add_one, ex]
      simp only [Option.toList_some, List.map_append, List.map_cons, List.map_nil]
      exact (RepVs.step st2 _ _ J5).snoc rp2
  · have hxk : xs.take ks.length = xs := List.take_of_length_le (by omega)
    rw [hxk] at J5
    have r3 := RepVs.step J3 _ _ rx
    obtain ⟨T, t1, t2, t3, t4⟩ := zip4 f xs kvs xvs ks vs J5 r3 J4 rv
    have keyT : ∀ t ∈ T, KeyAt s'.heap t.1.1 (f t.2.1) := fun t ht => by
      obtain ⟨g1, _, _, kv, g4, g5⟩ := t4 t ht
      obtain ⟨i, r, ei⟩ := ko.int _ g1
      have ok := (ko.fit _ g1).1
      rw [ei] at g5 ok ⊢
      exact keyAt_of (K := X.K) J1 g5 g4 ok
    have hds : ∀ u ∈ xs.map f, ordU u = true := fun u hu => by
      obtain ⟨x, hx, rfl⟩ := List.mem_map.mp hu
      exact ko.ord x hx
    have hfs : ∀ u ∈ xs.map f, Fit u := fun u hu => by
      obtain ⟨x, hx, rfl⟩ := List.mem_map.mp hu
      exact ko.fit x hx
    have hcs : ∀ u ∈ xs.map f, ∀ y ∈ xs.map f, ∃ k, ltU u y = some k := fun u hu y hy => by
      obtain ⟨x, hx, rfl⟩ := List.mem_map.mp hu
      obtain ⟨z, hz, rfl⟩ := List.mem_map.mp hy
      exact ko.cmp x hx z hz
    have hmem : ∀ p ∈ ks.zip vs, ∃ u ∈ xs.map f, KeyAt s'.heap p.1 u := fun p hp => by
      rw [← t1] at hp
      obtain ⟨t, ht, rfl⟩ := List.mem_map.mp hp
      exact ⟨f t.2.1, List.mem_map.mpr ⟨_, (t4 t ht).1, rfl⟩, keyT t ht⟩
    refine key_end (κ := tuples' true) (Pk := fun p => ∃ u ∈ xs.map f, KeyAt s'.heap p.1 u) (lt := fun p q => decide (rkV s'.heap (xs.map f) p.1 < rkV s'.heap (xs.map f) q.1)) hka hkl hzv J6 J7 ?_ (fun h2 Q hQ => kind_keys (by omega) (fun v hv => ?_) hQ) (cmp_keys hunits hds hfs hcs) hmem fun out h' c pm srt g1 g2 => ?_
    · exact ⟨fun x y h => by simp at h ⊢; omega, fun x y z h1 h2 => by simp at h1 h2 ⊢; omega⟩
    · obtain ⟨i, hi, e⟩ := List.getElem_of_mem hv
      have hiv : i < vs.length := by omega
      obtain ⟨u, _, k⟩ := hmem (ks[i], vs[i]) (by
        have : (ks.zip vs)[i]? = some (ks[i], vs[i]) := List.getElem?_zip_eq_some.mpr ⟨List.getElem?_eq_getElem hi, List.getElem?_eq_getElem hiv⟩
        exact List.mem_of_getElem? this)
      exact ⟨u, by rw [← e]; exact k⟩
    · rw [← t1] at pm
      obtain ⟨T', pT, eT⟩ := perm_lift pm T rfl
      have t4' : ∀ t ∈ T', RelV t.2.2 t.1.2 ∧ RepV X.K M H' t.2.1 t.2.2 := fun t ht => by
        obtain ⟨_, h1, h2, _⟩ := t4 t (pT.mem_iff.mp ht)
        exact ⟨h1, h2⟩
      obtain ⟨rr, rvs⟩ := rep_quads T' t4'
      have hkk : ∀ u ∈ xs.map f, okU u = true := fun u hu => (hfs u hu).1
      have hpw : (T'.map (·.2.1)).Pairwise (fun a b => ltU (f b) (f a) = some false) := by
        have s1 : out.Pairwise (fun a b => decide (rkV s'.heap (xs.map f) b.1 < rkV s'.heap (xs.map f) a.1) = false) := srt
        rw [← eT, List.pairwise_map] at s1
        rw [List.pairwise_map]
        refine s1.imp_of_mem fun {t u} ht hu h => ?_
        have mt : f t.2.1 ∈ xs.map f := List.mem_map.mpr ⟨_, (t4 t (pT.mem_iff.mp ht)).1, rfl⟩
        have mu : f u.2.1 ∈ xs.map f := List.mem_map.mpr ⟨_, (t4 u (pT.mem_iff.mp hu)).1, rfl⟩
        rw [rkV_eq hds hkk mt (keyT t (pT.mem_iff.mp ht)), rkV_eq hds hkk mu (keyT u (pT.mem_iff.mp hu))] at h
        rw [rank_lt hds hcs mu mt, h]
      have ev : out.map (·.2) = T'.map (·.1.2) := by rw [← eT, List.map_map]; rfl
      have Ia : Inv X pins σ H' { s' with heap := h' } := by
        -- two records turned
        have ne : ∀ b u, H' b = some u → b ≠ a ∧ b ≠ a + 2 := fun b u e => ⟨fun z => (by rw [z, J9] at e; cases e), fun z => (by rw [z, J8] at e; cases e)⟩
        have mem2 : ∀ {b : Addr}, b ∉ [a, a + 2] → b ≠ a ∧ b ≠ a + 2 := fun h => by simpa using h
        have hok : HOk X.prog X.w H' h' := fun b u e => (J1.hok b u e).stay (fun c v hc q => g2 c v (by
            rcases hc with z | z
            · rw [z]; exact (ne b u e).1
            · exact (ne c _ z).1) (by
            rcases hc with z | z
            · rw [z]; exact (ne b u e).2
            · exact (ne c _ z).2) q) (fun _ q => q) fun _ _ q => q
        exact J1.step (H' := H') (h' := h') (g' := s'.gens) (d' := s'.drawn) (t' := s'.toks) (ch := [a, a + 2]) (fun b hb => by
            rcases List.mem_cons.mp hb with e | hb
            · subst e; exact ⟨.inr ra.ge, ra.nl, ra.ce, ra.pn⟩
            · have e : b = a + 2 := by simpa using hb
              subst e; exact ⟨.inr rk.ge, rk.nl, rk.ce, rk.pn⟩)
          (fun b o _ _ hc e _ => g2 b o (mem2 hc).1 (mem2 hc).2 e) (fun b o _ _ hc e _ => ⟨o.slots, g2 b o (mem2 hc).1 (mem2 hc).2 e⟩) (fun _ _ _ _ n => n)
          (fun b o hc e => ⟨o, g2 b o (mem2 hc).1 (mem2 hc).2 e⟩) (fun _ _ e => e) (fun _ _ _ e => e) (fun b ps e => ⟨#[], by rw [e]; simp⟩) (fun m hm => by
            obtain ⟨o, es, ep, ho, r⟩ := hm
            exact ⟨o, es, ep, g2 _ o (Ne.symm ra.nl) (Ne.symm rk.nl) ho, r⟩) hok J1.bare
      have hTl : T'.length = xs.length := by rw [pT.length_eq, ← t2, List.length_map]
      have new : ObjOk X.prog X.w (upd H' a (.lst (T'.map (·.2.2)))) h' a (.lst (T'.map (·.2.2))) := ⟨by rw [List.length_map, sizeLine_eq]; omega, T'.map (·.1.2), c, rvs, by rw [← ev]; exact g1⟩
      have If := Rec.adopt ra Ia J9 new
      refine ⟨_, rfl, wpAny_pure ⟨_, rfl, .ref a, _, If, rfl, q _ a _ H' ((pT.map _).trans (by rw [t2])) hpw J3 J2 rr J9⟩⟩
end
def wSortKey (sp : USp) (tr : WA) : WE := fun su M R => tr su M fun us M1 => ∃ (u : U) (xs : List U) (f : U → U), us = [u] ∧ lstOf M1 u = some xs ∧ xs.length < 10000 ∧ KeysOk xs f ∧ (∀ x ∈ xs, ∀ R' : UK, R' (f x) M1 → sp [x] M1 R' fun _ _ => False) ∧ ∀ ys : List U, ys.Perm xs → ys.Pairwise (fun a b => ltU (f b) (f a) = some false) → R (.lst ys) M1
section
variable {X : Cx} {P : Program} {w : World} {K : PySem.W.Frag} {mg : Str → Option Value} {base : Heap} {k : Nat} {N : List Str} {S : Scope} {g : Gd} {e a : Expr} {te : WE} {tr : WA} {p p2 pos pos2 : Pos}
theorem k_sortKey (W : Wk X P w K mg base k N S) (hc : X.calm = true) {k' : Nat} {x : Str} {st : Stmt} {ps : List Str} {sp : USp} {kp : Pos} (F : FnV P w K mg base k' x st ps sp) (hk : k' + 2 ≤ k) (hm : mg "sorted" = none) (h1 : glB S "sorted" = true) (h2 : glB S x = true) (ha : JA X g [e] tr)
    (hs : starEach [e] X.env = (false, eval e X.env) :: starEach [] X.env) (he : backTo pos (starEach [e] X.env) = (false, eval e X.env) :: backTo pos (starEach [] X.env)) (hpl : (backTo pos (starEach [e] X.env)).any (·.1) = false)
    (hall : (backToKw pos (keywordEach [⟨some "key", .Name x p2, kp⟩] X.env)).all (·.1.isSome) = true) (hnone : (backToKw pos (keywordEach [⟨some "key", .Name x p2, kp⟩] X.env)).any (·.1.isNone) = false) (hks : (backToKw pos (keywordEach [⟨some "key", .Name x p2, kp⟩] X.env)).filterMap (·.1) = [Str.ofString "key"]) :
    JE X g (.Call (.Name "sorted" p) [e] [⟨some "key", .Name x p2, kp⟩] pos) (wSortKey sp tr) := by
  obtain ⟨q1, q2⟩ := W.gl h1
  obtain ⟨q3, q4⟩ := W.gl h2
  obtain ⟨fa, fd, F1, hfa, _, _, hb⟩ := F.ex
  have r0 : Room k X.A := W.room hc
  obtain ⟨k0, rfl⟩ : ∃ k0, k = k0 + 2 := ⟨k - 2, by omega⟩
  have r2 : Room k0 X.A.in1.in1 := r0.in1.in1
  have e1 := W.prog; have e2 := W.wd; have e3 := W.K; have e4 := W.mg; have e5 := W.base
  subst e1 e2 e3 e4 e5
  have run : CallRK X (.builtin "sorted") [Str.ofString "key"] (fun vs zs H Q => ∃ M u v xs f, vs = [v] ∧ zs = [.ref fa] ∧ RepM X.K M H ∧ RepV X.K M H u v ∧ lstOf M u = some xs ∧ xs.length < 10000 ∧ KeysOk xs f ∧ (∀ x ∈ xs, ∀ R' : UK, R' (f x) M → sp [x] M R' fun _ _ => False) ∧
      ∀ ys p yvs H', ys.Perm xs → ys.Pairwise (fun a b => ltU (f b) (f a) = some false) → Stp M H M H' → RepM X.K M H' → RepVs X.K M H' ys yvs → H' p = none → Q (.ref p) (upd H' p (.lst yvs))) := by
    rintro pins s σ H vs zs us ws Q I r rz ⟨M, u, v, xs, f, rfl, rfl, hd, ru, en, hz, ko, hrun, q⟩
    obtain ⟨a, xvs, rfl, sq, t⟩ := lstOf_sq hd ru en
    obtain rfl := Vals.ref1 r
    obtain rfl := Vals.ref1 rz
    exact sortKey_run F1 hb (r2.mono (by omega)) I.env0.frames I hd sq t f hz ko hrun q
  have outer := L2.pe_callBK (p := p) run q1 hm boot_fn_sorted ha (pk_cons (nm := some "key") (kpos := kp) (L2.pe_glob (pos := p2) (v := .ref fa) q3 hfa rfl q4) pk_nil) (by decide) q2 he hpl hall hnone hks
  refine pe_imp outer fun σ H Q ⟨su, M, R, at0, h, c⟩ => ?_
  refine ⟨su, M, _, at0, h, fun us M1 vs H1 ⟨u, xs, f, eu, en, hz, ko, hrun, q⟩ s1 d1 r1 => ?_⟩
  subst eu
  obtain ⟨v, rfl, rv⟩ := r1.one
  refine ⟨M1, u, v, xs, f, rfl, rfl, d1, rv, en, hz, ko, hrun, fun ys p yvs H' k1 k2 k3 k4 k5 k6 => ?_⟩
  exact c.at_ (q ys k1 k2) (s1.trans (k3.trans (Stp.new k4 k6))) (k4.new k6) (new_lst k4 k6 k5)
end
end Pu

/-! Pu, part 17: the wishes, spelled out for simp. -/
namespace Pu
open PySem PySem.Spec PyProof.Rows L2

/-- what is wished of a value that is a bool, an int; of a value's truth -/
def asBl (u : U) (P : Bool → Prop) : Prop := ∃ b, u = .bl b ∧ P b
def asInt (u : U) (P : Int → Prop) : Prop := ∃ b, u = .int b ∧ P b
def truK (M : Mp) (u : U) (P : Bool → Prop) : Prop := ∃ k, Tru M u k ∧ P k
@[simp] theorem asBl_ {b : Bool} {P : Bool → Prop} : asBl (.bl b) P ↔ P b := ⟨fun ⟨_, e, h⟩ => by cases e; exact h, fun h => ⟨b, rfl, h⟩⟩
@[simp] theorem asInt_ {b : Int} {P : Int → Prop} : asInt (.int b) P ↔ P b := ⟨fun ⟨_, e, h⟩ => by cases e; exact h, fun h => ⟨b, rfl, h⟩⟩
@[simp] theorem truK_bl {M : Mp} {b : Bool} {P : Bool → Prop} : truK M (.bl b) P ↔ P b := ⟨fun ⟨_, e, h⟩ => by cases e; exact h, fun h => ⟨b, rfl, h⟩⟩
@[simp] theorem truK_non {M : Mp} {P : Bool → Prop} : truK M .non P ↔ P false := ⟨fun ⟨_, e, h⟩ => by cases e; exact h, fun h => ⟨_, rfl, h⟩⟩
@[simp] theorem truK_int {M : Mp} {i : Int} {P : Bool → Prop} : truK M (.int i) P ↔ P (i != 0) := ⟨fun ⟨_, e, h⟩ => by cases e; exact h, fun h => ⟨_, rfl, h⟩⟩
@[simp] theorem truK_tup {M : Mp} {us : List U} {P : Bool → Prop} : truK M (.tup us) P ↔ P (!us.isEmpty) := ⟨fun ⟨_, e, h⟩ => by cases e; exact h, fun h => ⟨_, rfl, h⟩⟩
@[simp] theorem truK_lst {M : Mp} {us : List U} {P : Bool → Prop} : truK M (.lst us) P ↔ P (!us.isEmpty) := ⟨fun ⟨_, e, h⟩ => by cases e; exact h, fun h => ⟨_, rfl, h⟩⟩
section
variable {D : UEnds} {su : Sg} {M : Mp} {R : UK} {RT : Bool → Mp → Prop} {RA : List U → Mp → Prop} {RG : Sg → Mp → Prop} {t u : WS} {c : WT} {ta tb tc te : WE} {tA tB : WT} {tr tk : WA} {gt : WG} {gs : WGs} {i j l : Nat}
@[simp] theorem wNext_ : wNext D su M = D.nx su M := rfl
@[simp] theorem wSeq_ : wSeq t u D su M = t { D with nx := u D } su M := rfl
@[simp] theorem wBreak_ : wBreak D su M = D.bk su M := rfl
@[simp] theorem wCont_ : wCont D su M = D.ct su M := rfl
@[simp] theorem wDrop_ : wDrop te D su M = te su M fun _ M1 => D.nx su M1 := rfl
@[simp] theorem wRet_ : wRet te D su M = te su M D.rt := rfl
@[simp] theorem wRetN_ : wRetN D su M = D.rt .non M := rfl
@[simp] theorem wIfS_ : wIfS c t u D su M = c su M fun k M1 => if k = true then t D su M1 else u D su M1 := rfl
@[simp] theorem wName_ {x : U} : wName i x su M RG = RG (su.set i (some x)) M := rfl
@[simp] theorem wGnil_ {us : List U} : wGnil us su M RG = (us = [] ∧ RG su M) := rfl
@[simp] theorem wGcons_ {x : U} {us : List U} : wGcons gt gs (x :: us) su M RG ↔ gt x su M fun su1 M1 => gs us su1 M1 RG := by
  unfold wGcons
  constructor
  · rintro ⟨a, b, e, h⟩; cases e; exact h
  · intro h; exact ⟨_, _, rfl, h⟩
@[simp] theorem wGtup_ {n : Nat} {us : List U} : wGtup n gs (.tup us) su M RG ↔ us.length = n ∧ gs us su M RG := by
  unfold wGtup
  constructor
  · rintro ⟨a, e, h⟩; rcases e with e | e <;> cases e; exact h
  · intro h; exact ⟨_, .inl rfl, h⟩
@[simp] theorem wGtup_p {n : Nat} {us : List U} : wGtup n gs (.pr us) su M RG ↔ us.length = n ∧ gs us su M RG := by
  unfold wGtup
  constructor
  · rintro ⟨a, e, h⟩; rcases e with e | e <;> cases e; exact h
  · intro h; exact ⟨_, .inr rfl, h⟩
@[simp] theorem wAsg_ : wAsg te gt D su M = te su M fun x M1 => gt x su M1 D.nx := rfl
@[simp] theorem wSet_ : wSet i te D su M = te su M fun x M1 => D.nx (su.set i (some x)) M1 := rfl
@[simp] theorem wPar_ : wPar i j tr D su M = tr su M fun us M1 => ∃ x y, us = [x, y] ∧ D.nx ((su.set i (some x)).set j (some y)) M1 := rfl
@[simp] theorem wPar3_ : wPar3 i j l tr D su M = tr su M fun us M1 => ∃ x y z, us = [x, y, z] ∧ D.nx (((su.set i (some x)).set j (some y)).set l (some z)) M1 := rfl
@[simp] theorem wGsub_ {s : WSet} {v : U} : wGsub ta tb s v su M RG = ta su M fun o M1 => tb su M1 fun i M2 => s o i v M2 fun M3 => RG su M3 := rfl
@[simp] theorem wVar_0 {x : Option U} : wVar 0 (x :: su) M R ↔ ∃ u, x = some u ∧ R u M := by
  unfold wVar
  simp
@[simp] theorem wVar_s {x : Option U} : wVar (i + 1) (x :: su) M R = wVar i su M R := by
  unfold wVar
  simp
@[simp] theorem wC_ {x : U} : wC x su M R = R x M := rfl
@[simp] theorem wBin_ {o : O2} : wBin o ta tb su M R = ta su M fun x M1 => tb su M1 fun y M2 => o x y M2 R := rfl
@[simp] theorem wUn_ {o : O1} : wUn o ta su M R = ta su M fun x M1 => o x M1 R := rfl
@[simp] theorem wB_ : wB te su M RT = te su M fun u M1 => asBl u fun b => RT b M1 := rfl
@[simp] theorem wChain_ {o o' : O2} : wChain o o' ta tb tc su M R = ta su M fun x M1 => tb su M1 fun y M2 => o x y M2 fun z M3 => asBl z fun k => (if k = true then tc su M3 fun w M4 => o' y w M4 R else R (.bl false) M3) := rfl
@[simp] theorem wTr_ : wTr te su M RT = te su M fun u M1 => truK M1 u fun k => RT k M1 := rfl
@[simp] theorem wAndT_ : wAndT tA tB su M RT = tA su M fun k M1 => if k = true then tB su M1 RT else RT false M1 := rfl
@[simp] theorem wOrT_ : wOrT tA tB su M RT = tA su M fun k M1 => if k = true then RT true M1 else tB su M1 RT := rfl
@[simp] theorem wNotT_ : wNotT tA su M RT = tA su M fun k M1 => RT (!k) M1 := rfl
@[simp] theorem wAnd_ : wAnd ta tb su M R = ta su M fun x M1 => truK M1 x fun k => if k = true then tb su M1 R else R x M1 := rfl
@[simp] theorem wOr_ : wOr ta tb su M R = ta su M fun x M1 => truK M1 x fun k => if k = true then R x M1 else tb su M1 R := rfl
@[simp] theorem wNot_ : wNot ta su M R = ta su M fun x M1 => truK M1 x fun k => R (.bl (!k)) M1 := rfl
@[simp] theorem wIf_ : wIf tA ta tb su M R = tA su M fun k M1 => if k = true then ta su M1 R else tb su M1 R := rfl
@[simp] theorem wNil_ : wNil su M RA = RA [] M := rfl
@[simp] theorem wCons_ : wCons ta tr su M RA = ta su M fun x M1 => tr su M1 fun xs M2 => RA (x :: xs) M2 := rfl
@[simp] theorem wTup_ : wTup tr su M R = tr su M fun xs M1 => xs.length ≤ sizeLine ∧ R (.tup xs) M1 := rfl
@[simp] theorem wLst_ : wLst tr su M R = tr su M fun xs M1 => xs.length ≤ sizeLine ∧ R (.lst xs) M1 := rfl
@[simp] theorem wLstH_ : wLstH tr su M R = tr su M fun xs M1 => xs.length ≤ sizeLine ∧ ∀ p, M1 p = none → R (.ref p) (put M1 p (.lst xs)) := rfl
@[simp] theorem wCall_ {sp : USp} {ex : UWX} : wCall sp ex tr su M R = tr su M fun us M1 => sp us M1 R fun ux M2 => ex ux su M2 := rfl
@[simp] theorem wCallK_ {n m : Nat} {sp : USp} {ex : UWX} : wCallK n m sp ex tr tk su M R = tr su M fun us M1 => tk su M1 fun zs M2 => us.length = n ∧ zs.length = m ∧ sp (us ++ zs) M2 R fun ux M3 => ex ux su M3 := rfl
@[simp] theorem wCB_ {o : OC} : wCB o tr su M R = tr su M fun us M1 => o us M1 R := rfl
@[simp] theorem wBM_ {T : String} {o : OM} : wBM T o te tr su M R = te su M fun x M1 => tyU T M1 x ∧ tr su M1 fun xs M2 => o x xs M2 R := rfl
@[simp] theorem wOpt_n {Ro : Option Int → Mp → Prop} : wOpt none su M Ro = Ro none M := rfl
@[simp] theorem wOpt_s {Ro : Option Int → Mp → Prop} : wOpt (some te) su M Ro = te su M fun u M1 => asInt u fun i => Ro (some i) M1 := rfl
@[simp] theorem wSl_ {tl th : Option WE} : wSl te tl th su M R = te su M fun x M1 => wOpt tl su M1 fun lo M2 => wOpt th su M2 fun hi M3 => uSl x lo hi M3 R := rfl
@[simp] theorem wRepL_ : wRepL tr tb su M R = tr su M fun xs M1 => xs.length ≤ sizeLine ∧ tb su M1 fun y M2 => asInt y fun k => -(2 ^ 63) ≤ k ∧ k < 2 ^ 63 ∧ xs.length * k.toNat ≤ sizeLine ∧ R (.lst (List.replicate k.toNat xs).flatten) M2 := rfl
@[simp] theorem wDict0_ : wDict0 su M R = R (.dct [] []) M := rfl
@[simp] theorem wRaise_ {x : Str} {ex : UWX} : wRaise x ex D su M = ex ⟨x, []⟩ su M := rfl
@[simp] theorem wFor_ {w : WI} {tb : WS} : wFor w gt tb D su M = w su M fun us keep M1 => loopU keep gt tb us D su M1 := rfl
@[simp] theorem wIt_ {Ri : List U → (Mp → Prop) → Mp → Prop} : wIt te su M Ri = te su M fun u M1 => wItU u M1 Ri := rfl
@[simp] theorem wYes_ : wYes su M RT = RT true M := rfl
/-! values -/
@[simp] theorem uAdd_ii {a b : Int} : uAdd (.int a) (.int b) M R = R (.int (a + b)) M := rfl
@[simp] theorem uAdd_ss {a b : Str} : uAdd (.str a) (.str b) M R = (a.length + b.length ≤ sizeLine ∧ R (.str (a ++ b)) M) := rfl
@[simp] theorem uAdd_tt {a b : List U} : uAdd (.tup a) (.tup b) M R = (a.length + b.length ≤ sizeLine ∧ R (.tup (a ++ b)) M) := rfl
@[simp] theorem uAdd_ll {a b : List U} : uAdd (.lst a) (.lst b) M R = (a.length + b.length ≤ sizeLine ∧ R (.lst (a ++ b)) M) := rfl
@[simp] theorem uSub_ {a b : Int} : uSub (.int a) (.int b) M R ↔ R (.int (a - b)) M := by simp [uSub, uInts]
@[simp] theorem uMod_ {a b : Int} : uMod (.int a) (.int b) M R ↔ 0 < b ∧ R (.int (a % b)) M := by simp [uMod, uInts]
@[simp] theorem uFdiv_ {a b : Int} : uFdiv (.int a) (.int b) M R ↔ CDiv a b ∧ R (.int (a / b)) M := by simp [uFdiv, uInts]
@[simp] theorem uPow_ {a b : Int} : uPow (.int a) (.int b) M R ↔ CPow a b ∧ R (.int (a ^ b.toNat)) M := by simp [uPow, uInts]
@[simp] theorem uMul_ {a b : Int} : uMul (.int a) (.int b) M R = (CMul a b ∧ R (.int (a * b)) M) := rfl
@[simp] theorem uNeg_ {a : Int} : uNeg (.int a) M R = R (.int (-a)) M := rfl
@[simp] theorem uEq_ss {a b : Str} : uEq (.str a) (.str b) M R ↔ R (.bl (a == b)) M := by simp [uEq, rs, EqOk, eqU]
@[simp] theorem uEq_ii {a b : Int} : uEq (.int a) (.int b) M R ↔ R (.bl (a == b)) M := by simp [uEq, rs, EqOk, eqU]
@[simp] theorem uEq_bb {a b : Bool} : uEq (.bl a) (.bl b) M R ↔ R (.bl (a == b)) M := by simp [uEq, rs, EqOk, eqU]
@[simp] theorem uEq_t0 {a : List U} : uEq (.tup a) (.tup []) M R ↔ R (.bl a.isEmpty) M := by simp [uEq, rs, EqOk, eqU_empty]
@[simp] theorem uNe_ss {a b : Str} : uNe (.str a) (.str b) M R ↔ R (.bl (a != b)) M := by simp [uNe, rs, EqOk, eqU, bne]
@[simp] theorem uNe_ii {a b : Int} : uNe (.int a) (.int b) M R ↔ R (.bl (a != b)) M := by simp [uNe, rs, EqOk, eqU, bne]
@[simp] theorem uNe_bb {a b : Bool} : uNe (.bl a) (.bl b) M R ↔ R (.bl (a != b)) M := by simp [uNe, rs, EqOk, eqU, bne]
@[simp] theorem uNe_t0 {a : List U} : uNe (.tup a) (.tup []) M R ↔ R (.bl (!a.isEmpty)) M := by simp [uNe, rs, EqOk, eqU_empty]
@[simp] theorem uLt_ii {a b : Int} : uLt (.int a) (.int b) M R = R (.bl (decide (a < b))) M := rfl
@[simp] theorem uLt_ss {a b : Str} : uLt (.str a) (.str b) M R = R (.bl (strLt a b)) M := rfl
@[simp] theorem uLe_ii {a b : Int} : uLe (.int a) (.int b) M R = R (.bl (decide (a ≤ b))) M := rfl
@[simp] theorem uLe_ss {a b : Str} : uLe (.str a) (.str b) M R = R (.bl (!strLt b a)) M := rfl
@[simp] theorem uGt_ii {a b : Int} : uGt (.int a) (.int b) M R = R (.bl (decide (b < a))) M := rfl
@[simp] theorem uGe_ii {a b : Int} : uGe (.int a) (.int b) M R = R (.bl (decide (b ≤ a))) M := rfl
@[simp] theorem uIs_b {a b : Bool} : uIs (.bl a) (.bl b) M R = R (.bl (a == b)) M := rfl
@[simp] theorem uIs_n {x : U} : uIs x .non M R ↔ R (.bl (isNonU x)) M := by cases x <;> rfl
@[simp] theorem uIsNot_b {a b : Bool} : uIsNot (.bl a) (.bl b) M R = R (.bl (!(a == b))) M := rfl
@[simp] theorem uIsNot_n {x : U} : uIsNot x .non M R ↔ R (.bl (!isNonU x)) M := by cases x <;> rfl
@[simp] theorem uIn_ss {x z : Str} : uIn0 (.str x) (.str z) M R = ∃ c, x = ⟨#[c]⟩ ∧ R (.bl (decide (c ∈ z.cps.toList))) M := rfl
theorem uIn_l {x : U} {us : List U} (h : InOk x us) (q : R (.bl (us.any fun z => eqU z x)) M) : uIn0 x (.lst us) M R := by
  unfold uIn0 uIn
  cases x <;> exact .inl ⟨us, rfl, h, q⟩
theorem uIn_t {x : U} {us : List U} (h : InOk x us) (q : R (.bl (us.any fun z => eqU z x)) M) : uIn0 x (.tup us) M R := by
  unfold uIn0 uIn
  cases x <;> exact .inl ⟨us, rfl, h, q⟩
@[simp] theorem uIdx_t {us : List U} {i : Int} : uIdx0 (.tup us) (.int i) M R ↔ ∃ u, atI us i = some u ∧ R u M := by
  constructor
  · rintro ⟨i', u, e, h, q⟩; cases e; exact ⟨u, h, q⟩
  · rintro ⟨u, h, q⟩; exact ⟨i, u, rfl, h, q⟩
@[simp] theorem uIdx_l {us : List U} {i : Int} : uIdx0 (.lst us) (.int i) M R ↔ ∃ u, atI us i = some u ∧ R u M := by
  constructor
  · rintro ⟨i', u, e, h, q⟩; cases e; exact ⟨u, h, q⟩
  · rintro ⟨u, h, q⟩; exact ⟨i, u, rfl, h, q⟩
theorem uIdx_r {a : Addr} {us : List U} {i : Int} {u : U} (m : M a = some (.lst us)) (h : atI us i = some u) (q : R u M) : uIdx0 (.ref a) (.int i) M R := by
  unfold uIdx0 uIdx
  simp only [m]
  exact ⟨i, u, rfl, h, q⟩
@[simp] theorem uIdx_s {z : Str} {i : Int} : uIdx0 (.str z) (.int i) M R ↔ z.length ≤ sizeLine ∧ ∃ c, atI z.cps.toList i = some c ∧ R (.str ⟨#[c]⟩) M := by
  constructor
  · rintro ⟨hz, i', u, e, h, q⟩; cases e; exact ⟨hz, u, h, q⟩
  · rintro ⟨hz, u, h, q⟩; exact ⟨hz, i, u, rfl, h, q⟩
@[simp] theorem uSl_t {us : List U} {lo hi : Option Int} : uSl (.tup us) lo hi M R = R (.tup (cutU us lo hi)) M := rfl
@[simp] theorem uSl_s {z : Str} {lo hi : Option Int} : uSl (.str z) lo hi M R = (z.length ≤ sizeLine ∧ R (.str (cutStr z lo hi)) M) := rfl
@[simp] theorem uSl_l {us : List U} {lo hi : Option Int} : uSl (.lst us) lo hi M R ↔ R (.lst (cutU us lo hi)) M := by
  constructor
  · rintro ⟨_, e, h⟩; cases e; exact h
  · intro h; exact ⟨_, rfl, h⟩
@[simp] theorem uBack_t {us : List U} : uBack (.tup us) M R = R (.tup us.reverse) M := rfl
@[simp] theorem uIsi_ty {x : U} {n : String} : uIsi [x, .ty n] M R ↔ tyOk M x n ∧ R (.bl (isA (tyN M x) n)) M := by
  unfold uIsi
  constructor
  · rintro (⟨u, m, e, h⟩ | ⟨u, ws, ns, e, _⟩)
    · cases e; exact h
    · cases e
  · intro h; exact .inl ⟨_, _, rfl, h⟩
@[simp] theorem uIsi_tup {x : U} {ws : List U} : uIsi [x, .tup ws] M R ↔ ∃ ns, tysOf ws = some ns ∧ ns ≠ [] ∧ (∀ n ∈ ns, tyOk M x n) ∧ R (.bl (ns.any fun n => isA (tyN M x) n)) M := by
  unfold uIsi
  constructor
  · rintro (⟨u, m, e, h⟩ | ⟨u, ws, ns, e, h⟩)
    · cases e
    · cases e; exact ⟨ns, h⟩
  · rintro ⟨ns, h⟩; exact .inr ⟨_, _, ns, rfl, h⟩
@[simp] theorem uLen_ {x : U} : uLen [x] M R ↔ ∃ n, lenU M x = some n ∧ R (.int (n : Int)) M := by
  unfold uLen
  constructor
  · rintro ⟨u, n, e, h⟩; cases e; exact ⟨n, h⟩
  · rintro ⟨n, h⟩; exact ⟨_, n, rfl, h⟩
@[simp] theorem lenU_t {us : List U} : lenU M (.tup us) = some us.length := rfl
@[simp] theorem lenU_l {us : List U} : lenU M (.lst us) = some us.length := rfl
@[simp] theorem uInt_i {i : Int} : uInt1 [.int i] M R ↔ R (.int i) M := by
  unfold uInt1
  constructor
  · rintro (⟨j, e, h⟩ | ⟨k, e, h⟩)
    · cases e; exact h
    · cases e
  · intro h; exact .inl ⟨i, rfl, h⟩
@[simp] theorem uTuple_ {x : U} : uTuple [x] M R ↔ ∃ ws, seqOf M x = some ws ∧ R (.tup ws) M := by
  unfold uTuple
  constructor
  · rintro ⟨u, n, e, h⟩; cases e; exact ⟨n, h⟩
  · rintro ⟨n, h⟩; exact ⟨_, n, rfl, h⟩
@[simp] theorem uList_ {x : U} : uList [x] M R ↔ ∃ ws, seqOf M x = some ws ∧ R (.lst ws) M := by
  unfold uList
  constructor
  · rintro ⟨u, n, e, h⟩; cases e; exact ⟨n, h⟩
  · rintro ⟨n, h⟩; exact ⟨_, n, rfl, h⟩
@[simp] theorem seqOf_t {us : List U} : seqOf M (.tup us) = some us := rfl
@[simp] theorem seqOf_l {us : List U} : seqOf M (.lst us) = some us := rfl
@[simp] theorem lstOf_l {us : List U} : lstOf M (.lst us) = some us := rfl
@[simp] theorem uInD_s {kvs : List (Str × U)} {neg : Bool} {z : Str} : uInD kvs neg (.str z) M R ↔ R (.bl (if neg then !(kvs.lookup z).isSome else (kvs.lookup z).isSome)) M := by
  unfold uInD
  constructor
  · rintro ⟨_, e, h⟩; cases e; exact h
  · intro h; exact ⟨_, rfl, h⟩
@[simp] theorem uIdxD_s {kvs : List (Str × U)} {z : Str} : uIdxD kvs (.str z) M R ↔ ∃ u, kvs.lookup z = some u ∧ R u M := by
  unfold uIdxD
  constructor
  · rintro ⟨_, u, e, h⟩; cases e; exact ⟨u, h⟩
  · rintro ⟨u, h⟩; exact ⟨_, u, rfl, h⟩
@[simp] theorem wItU_t {us : List U} {Ri : List U → (Mp → Prop) → Mp → Prop} : wItU (.tup us) M Ri = Ri us Any M := rfl
@[simp] theorem wItU_l {us : List U} {Ri : List U → (Mp → Prop) → Mp → Prop} : wItU (.lst us) M Ri = Ri us Any M := rfl
@[simp] theorem wItU_s {z : Str} {Ri : List U → (Mp → Prop) → Mp → Prop} : wItU (.str z) M Ri = Ri (signsU z) Any M := rfl
@[simp] theorem Any_ : Any M := trivial
/-! loops -/
@[simp] theorem loopU_nil {keep : Mp → Prop} {tb : WS} : loopU keep gt tb [] D su M = D.nx su M := rfl
theorem loopU_cons {keep : Mp → Prop} {tb : WS} {x : U} {r : List U} : loopU keep gt tb (x :: r) D su M = gt x su M fun su1 M1 => tb { D with nx := fun s m => keep m ∧ loopU keep gt tb r D s m, ct := fun s m => keep m ∧ loopU keep gt tb r D s m, bk := D.nx } su1 M1 := rfl
/-- a for by its invariant: I by the items that are left -/
theorem loop_inv {keep : Mp → Prop} {tb : WS} (I : List U → Sg → Mp → Prop) (h : ∀ x r s m, I (x :: r) s m → gt x s m fun su1 M1 => tb { D with nx := fun s m => keep m ∧ I r s m, ct := fun s m => keep m ∧ I r s m, bk := D.nx } su1 M1)
    (hm : ∀ (x : U) (r : List U) (s : Sg) (m : Mp), (∀ s m, I r s m → loopU keep gt tb r D s m) → (gt x s m fun su1 M1 => tb { D with nx := fun s m => keep m ∧ I r s m, ct := fun s m => keep m ∧ I r s m, bk := D.nx } su1 M1) → gt x s m fun su1 M1 => tb { D with nx := fun s m => keep m ∧ loopU keep gt tb r D s m, ct := fun s m => keep m ∧ loopU keep gt tb r D s m, bk := D.nx } su1 M1)
    (he : ∀ s m, I [] s m → D.nx s m) : ∀ us s m, I us s m → loopU keep gt tb us D s m
  | [], s, m, hi => he s m hi
  | x :: r, s, m, hi => by
    rw [loopU_cons]
    exact hm x r s m (loop_inv I h hm he r) (h x r s m hi)
end
/-! comprehensions -/
/-- every item in turn gives a value; the world stays -/
theorem compU_map {D : Addr} {keep : Mp → Prop} {gt : WG} {te : WE} {su1 : Sg} {M : Mp} (hD : M D = none) (f : U → U) (hk : ∀ acc, keep (put M D (.lst acc))) :
    ∀ (us acc : List U) (R : List U → Mp → Prop), (∀ x ∈ us, ∀ a (R : UK), R (f x) (put M D (.lst a)) → gt x su1 (put M D (.lst a)) fun su2 M1 => te su2 M1 R) → acc.length + us.length ≤ sizeLine → R (acc ++ us.map f) (put M D (.lst (acc ++ us.map f))) →
      compU D keep gt wYes te su1 us (put M D (.lst acc)) R
  | [], acc, R, _, _, q => ⟨acc, put_same, by simpa using q⟩
  | x :: r, acc, R, h, hz, q => by
    have ih := compU_map hD f hk r (acc ++ [f x]) R (fun y hy => h y (List.mem_cons_of_mem _ hy)) (by simp at hz ⊢; omega) (by simpa using q)
    unfold compU
    refine h x List.mem_cons_self acc (fun y M1 => ∃ acc, M1 D = some (.lst acc) ∧ acc.length < sizeLine ∧ keep (put M1 D (.lst (acc ++ [y]))) ∧ compU D keep gt wYes te su1 r (put M1 D (.lst (acc ++ [y]))) R) ⟨acc, put_same, by simp at hz; omega, ?_, ?_⟩
    · rw [put_put]; exact hk _
    · rw [put_put]; exact ih
/-- .. those that pass the test p -/
theorem compU_filter {D : Addr} {keep : Mp → Prop} {gt : WG} {tc : WT} {te : WE} {su1 : Sg} {M : Mp} (hD : M D = none) (p : U → Bool) (f : U → U) (hk : ∀ acc, keep (put M D (.lst acc))) :
    ∀ (us acc : List U) (R : List U → Mp → Prop), (∀ x ∈ us, ∀ a (R : Bool → UK), R (p x) (f x) (put M D (.lst a)) → gt x su1 (put M D (.lst a)) fun su2 M1 => tc su2 M1 fun k M2 => if k = true then te su2 M2 (R true) else R false (f x) M2) → acc.length + us.length ≤ sizeLine →
      R (acc ++ (us.filter p).map f) (put M D (.lst (acc ++ (us.filter p).map f))) → compU D keep gt tc te su1 us (put M D (.lst acc)) R
  | [], acc, R, _, _, q => ⟨acc, put_same, by simpa using q⟩
  | x :: r, acc, R, h, hz, q => by
    unfold compU
    refine h x List.mem_cons_self acc (fun k y M1 => if k = true then ∃ acc, M1 D = some (.lst acc) ∧ acc.length < sizeLine ∧ keep (put M1 D (.lst (acc ++ [y]))) ∧ compU D keep gt tc te su1 r (put M1 D (.lst (acc ++ [y]))) R else keep M1 ∧ compU D keep gt tc te su1 r M1 R) ?_
    have h' := fun y hy => h y (List.mem_cons_of_mem x hy)
    cases e : p x with
    | true =>
      rw [List.filter_cons_of_pos (by simpa using e)] at q
      rw [if_pos rfl]
      refine ⟨acc, put_same, by simp at hz; omega, ?_, ?_⟩
      · rw [put_put]; exact hk _
      · rw [put_put]
        exact compU_filter hD p f hk r (acc ++ [f x]) R h' (by simp at hz ⊢; omega) (by simpa using q)
    | false =>
      rw [List.filter_cons_of_neg (by simp [e])] at q
      rw [if_neg Bool.false_ne_true]
      exact ⟨hk _, compU_filter hD p f hk r acc R h' (by simp at hz ⊢; omega) q⟩
/-- what a comprehension asks, its items told -/
def CompG (hh : Bool) (keep : Mp → Prop) (gt : WG) (tc : WT) (te : WE) (su1 : Sg) (us : List U) (M : Mp) (R : UK) : Prop := ∀ D, M D = none → keep (put M D (.lst [])) ∧ compU D keep gt tc te su1 us (put M D (.lst [])) (compEnd hh R D)
theorem comp_map {keep : Mp → Prop} {gt : WG} {te : WE} {su1 : Sg} {M : Mp} {us : List U} {R : UK} (f : U → U) (hk : ∀ D acc, M D = none → keep (put M D (.lst acc))) (hz : us.length ≤ sizeLine)
    (h : ∀ x ∈ us, ∀ M' (R : UK), R (f x) M' → gt x su1 M' fun su2 M1 => te su2 M1 R) (q : R (.lst (us.map f)) M) : CompG false keep gt wYes te su1 us M R := fun D hD =>
  ⟨hk D [] hD, compU_map hD f (fun acc => hk D acc hD) us [] _ (fun x hx a R r => h x hx _ R r) (by simpa using hz) (by
    unfold compEnd
    rw [if_neg Bool.false_ne_true, del_put hD]
    simpa using q)⟩
theorem comp_filter {keep : Mp → Prop} {gt : WG} {tc : WT} {te : WE} {su1 : Sg} {M : Mp} {us : List U} {R : UK} (p : U → Bool) (f : U → U) (hk : ∀ D acc, M D = none → keep (put M D (.lst acc))) (hz : us.length ≤ sizeLine)
    (h : ∀ x ∈ us, ∀ M' (R : Bool → UK), R (p x) (f x) M' → gt x su1 M' fun su2 M1 => tc su2 M1 fun k M2 => if k = true then te su2 M2 (R true) else R false (f x) M2) (q : R (.lst ((us.filter p).map f)) M) :
    CompG false keep gt tc te su1 us M R := fun D hD =>
  ⟨hk D [] hD, compU_filter hD p f (fun acc => hk D acc hD) us [] _ (fun x hx a R r => h x hx _ R r) (by simpa using hz) (by
    unfold compEnd
    rw [if_neg Bool.false_ne_true, del_put hD]
    simpa using q)⟩
theorem any_keep {M : Mp} : ∀ (D : Addr) (acc : List U), M D = none → Any (put M D (.lst acc)) := fun _ _ _ => trivial
theorem bls_map {M : Mp} {us : List U} {p : U → Bool} : blsU M (.lst (us.map fun x => .bl (p x))) (us.map p) := by
  show some _ = some _
  rw [List.map_map]
  rfl
theorem ints_map {M : Mp} {us : List U} {p : U → Int} : intsU M (.lst (us.map fun x => .int (p x))) (us.map p) := by
  show some _ = some _
  rw [List.map_map]
  rfl
/-- all([..]), any([..]), sum([..]) over what is walked -/
theorem all_map {keep : Mp → Prop} {gt : WG} {te : WE} {su1 : Sg} {M : Mp} {us : List U} {R : UK} (p : U → Bool) (hk : ∀ D acc, M D = none → keep (put M D (.lst acc))) (hz : us.length ≤ sizeLine)
    (h : ∀ x ∈ us, ∀ M' (R : UK), R (.bl (p x)) M' → gt x su1 M' fun su2 M1 => te su2 M1 R) (q : R (.bl (us.all p)) M) : CompG false keep gt wYes te su1 us M fun x M1 => uAll [x] M1 R :=
  comp_map (fun x => .bl (p x)) hk hz h ⟨_, _, rfl, bls_map, by rw [List.all_map]; exact q⟩
theorem any_map {keep : Mp → Prop} {gt : WG} {te : WE} {su1 : Sg} {M : Mp} {us : List U} {R : UK} (p : U → Bool) (hk : ∀ D acc, M D = none → keep (put M D (.lst acc))) (hz : us.length ≤ sizeLine)
    (h : ∀ x ∈ us, ∀ M' (R : UK), R (.bl (p x)) M' → gt x su1 M' fun su2 M1 => te su2 M1 R) (q : R (.bl (us.any p)) M) : CompG false keep gt wYes te su1 us M fun x M1 => uAny [x] M1 R :=
  comp_map (fun x => .bl (p x)) hk hz h ⟨_, _, rfl, bls_map, by rw [List.any_map]; exact q⟩
theorem sum_map {keep : Mp → Prop} {gt : WG} {te : WE} {su1 : Sg} {M : Mp} {us : List U} {R : UK} (p : U → Int) (hk : ∀ D acc, M D = none → keep (put M D (.lst acc))) (hz : us.length ≤ sizeLine)
    (h : ∀ x ∈ us, ∀ M' (R : UK), R (.int (p x)) M' → gt x su1 M' fun su2 M1 => te su2 M1 R) (q : R (.int (us.map p).sum) M) : CompG false keep gt wYes te su1 us M fun x M1 => uSum [x] M1 R :=
  comp_map (fun x => .int (p x)) hk hz h ⟨_, _, rfl, ints_map, q⟩
/-- the greatest -/
def maxL : List Int → Int
  | [] => 0
  | [x] => x
  | x :: y :: r => max x (maxL (y :: r))
theorem maxL_mem : ∀ ns : List Int, ns ≠ [] → maxL ns ∈ ns ∧ ∀ y ∈ ns, y ≤ maxL ns
  | [], h => absurd rfl h
  | [x], _ => by simp [maxL]
  | x :: y :: r, _ => by
    obtain ⟨h1, h2⟩ := maxL_mem (y :: r) (by simp)
    unfold maxL
    refine ⟨?_, fun z hz => ?_⟩
    · rcases Int.le_total x (maxL (y :: r)) with h | h
      · rw [Int.max_eq_right h]; exact List.mem_cons_of_mem _ h1
      · rw [Int.max_eq_left h]; exact List.mem_cons_self
    · rcases List.mem_cons.mp hz with e | hz
      · subst e; omega
      · have := h2 z hz; omega
theorem uMax_l {M : Mp} {u : U} {ns : List Int} {R : UK} (e : intsU M u ns) (h : ns ≠ []) (q : R (.int (maxL ns)) M) : uMax [u] M R :=
  .inl ⟨u, ns, rfl, e, h, fun m h1 h2 => by
    obtain ⟨k1, k2⟩ := maxL_mem ns h
    have : m = maxL ns := Int.le_antisymm (k2 m h1) (h2 _ k1)
    rw [this]; exact q⟩
@[simp] theorem uMax_2 {M : Mp} {i j : Int} {R : UK} : uMax [.int i, .int j] M R ↔ R (.int (max i j)) M := by
  unfold uMax
  constructor
  · rintro (⟨u, ns, e, _⟩ | ⟨a, b, e, h⟩)
    · cases e
    · cases e; exact h
  · intro h; exact .inr ⟨_, _, rfl, h⟩
@[simp] theorem uMin_2 {M : Mp} {i j : Int} {R : UK} : uMin [.int i, .int j] M R ↔ R (.int (min i j)) M := by
  unfold uMin
  constructor
  · rintro (⟨u, ns, e, _⟩ | ⟨a, b, e, h⟩)
    · cases e
    · cases e; exact h
  · intro h; exact .inr ⟨_, _, rfl, h⟩
@[simp] theorem wSortSet_ {te : WE} {su : Sg} {M : Mp} {R : UK} : wSortSet te su M R = te su M fun u M1 => ∃ xs : List Str, lstOf M1 u = some (xs.map .str) ∧ xs.length < 64 ∧ R (.lst ((sortSetS xs).map .str)) M1 := rfl
@[simp] theorem wipeU_nil {su : Sg} : wipeU su [] = su := rfl
@[simp] theorem wipeU_cons {su : Sg} {v : Nat} {vs : List Nat} : wipeU su (v :: vs) = (wipeU su vs).set v none := rfl
@[simp] theorem wRng1_ {tr : WA} {su : Sg} {M : Mp} {Ri : List U → (Mp → Prop) → Mp → Prop} : wRng1 tr su M Ri = tr su M fun us M1 => ∃ j : Int, us = [.int j] ∧ -(2 ^ 62) ≤ j ∧ j < 2 ^ 62 ∧ Ri ((List.range j.toNat).map fun i => U.int ((i : Nat) : Int)) Any M1 := rfl
@[simp] theorem wEnum_ {tr : WA} {su : Sg} {M : Mp} {Ri : List U → (Mp → Prop) → Mp → Prop} : wEnum tr su M Ri = tr su M fun us M1 => (match us with
  | [.ref a] => ∃ ws, M1 a = some (.lst ws) ∧ Ri (numbered ws) (fun M' => M' a = some (.lst ws)) M1
  | [.tup ws] => Ri (numbered ws) Any M1
  | [.lst ws] => Ri (numbered ws) Any M1
  | _ => False) := rfl
/-! promises by their arguments -/
def sp1 (f : U → Mp → UK → UXK → Prop) : USp := fun us M R E => match us with | [a] => f a M R E | _ => False
def sp2 (f : U → U → Mp → UK → UXK → Prop) : USp := fun us M R E => match us with | [a, b] => f a b M R E | _ => False
def sp3 (f : U → U → U → Mp → UK → UXK → Prop) : USp := fun us M R E => match us with | [a, b, c] => f a b c M R E | _ => False
def sp4 (f : U → U → U → U → Mp → UK → UXK → Prop) : USp := fun us M R E => match us with | [a, b, c, d] => f a b c d M R E | _ => False
@[simp] theorem sp1_ {f} {a : U} {M : Mp} {R : UK} {E : UXK} : sp1 f [a] M R E = f a M R E := rfl
@[simp] theorem sp2_ {f} {a b : U} {M : Mp} {R : UK} {E : UXK} : sp2 f [a, b] M R E = f a b M R E := rfl
@[simp] theorem sp3_ {f} {a b c : U} {M : Mp} {R : UK} {E : UXK} : sp3 f [a, b, c] M R E = f a b c M R E := rfl
@[simp] theorem sp4_ {f} {a b c d : U} {M : Mp} {R : UK} {E : UXK} : sp4 f [a, b, c, d] M R E = f a b c d M R E := rfl
/-- a def's ends -/
abbrev endU (R : UK) : UEnds := { nx := fun _ M' => Fin R .non M', rt := Fin R }
theorem ret_of {R : UK} {v : U} {M : Mp} (h : R v M) (w : U) (e : w = v) : Fin R w M := by rw [e]; exact .same h
/-- a def whose promise is never asked for -/
theorem fn_none {P : Program} {w : World} {K : PySem.W.Frag} {mg : Str → Option Value} {base : Heap} {k : Nat} {x nm : Str} {st : Stmt} {ps : List Str} {sp : USp} (F : ∃ (f : Addr) (fd : FuncData), FunD K nm nm (defArgs st) (defBody st) (defScope st) [] [] f fd ∧ mg x = some (.ref f))
    (bind : ∀ (kV doc pm : Value) (an : Option Addr) (cdv ct : Value) (us : List Value), us.length = ps.length → bindArgs (PySem.W.fnOf nm nm (defArgs st) (defBody st) (defScope st) .none kV doc pm an cdv ct) ⟨us, []⟩ = pure (ps.zip us)) (h : ∀ us M R E, ¬ sp us M R E) : FnV P w K mg base k x st ps sp := by
  obtain ⟨f, fd, F, m⟩ := F
  exact ⟨f, fd, ⟨fun vs H Q E ⟨us, M, R, Ru, _, _, q, _⟩ => (h _ _ _ _ q).elim, fun A outer s H args us vs Q E _ _ _ _ ⟨zs, M, R, Ru, _, _, q, _⟩ => (h _ _ _ _ q).elim⟩, m, F.kp, ⟨_, F⟩, F.bindsN bind⟩
@[simp] theorem wComp_ {hh : Bool} {w : WI} {gt : WG} {tc : WT} {te : WE} {vs : List Nat} {su : Sg} {M : Mp} {R : UK} : wComp hh w gt tc te vs su M R = w su M fun us keep M1 => CompG hh keep gt tc te (wipeU su vs) us M1 R := rfl
end Pu
namespace Pu
/-- a choice between two values -/
theorem wIf_pure {tA : WT} {ta tb : WE} {su : Sg} {M : Mp} {R : UK} (b : Bool) (x y : U) (hA : ∀ RT : Bool → Mp → Prop, RT b M → tA su M RT) (hx : ∀ R : UK, R x M → ta su M R) (hy : ∀ R : UK, R y M → tb su M R) (v : U) (e : (if b = true then x else y) = v) (h : R v M) : wIf tA ta tb su M R := by
  subst e
  refine hA _ ?_
  cases b
  · exact hy _ h
  · exact hx _ h
end Pu

/-! Pu, part 18: a try with several clauses. -/
namespace Pu
open PySem PySem.Spec PyProof.Rows L2
abbrev UCs : Type := List ((Str → Option Bool) × WS)
/-- what the clauses wish of an exception -/
def goC (D : UEnds) (ex : UWX) : UCs → UWX
  | [], ux, su, M => ex ux su M
  | (sub, ts) :: r, ux, su, M => match sub ux.cls with
    | some true => ts D su M
    | some false => goC D ex r ux su M
    | none => False
def wTryM (tb : UWX → WS) (cs : UCs) (ex : UWX) : WS := fun D su M => tb (goC D ex cs) D su M
@[simp] theorem wTryM_ {tb : UWX → WS} {cs : UCs} {ex : UWX} {D : UEnds} {su : Sg} {M : Mp} : wTryM tb cs ex D su M = tb (goC D ex cs) D su M := rfl
@[simp] theorem goC_nil {D : UEnds} {ex : UWX} {ux : UX} {su : Sg} {M : Mp} : goC D ex [] ux su M = ex ux su M := rfl
@[simp] theorem goC_cons {D : UEnds} {ex : UWX} {sub : Str → Option Bool} {ts : WS} {r : UCs} {ux : UX} {su : Sg} {M : Mp} : goC D ex ((sub, ts) :: r) ux su M = (match sub ux.cls with
    | some true => ts D su M
    | some false => goC D ex r ux su M
    | none => False) := rfl
section
variable {X : Cx} {g : Gd} {ex : UWX} {pos : Pos}
inductive HdsU (X : Cx) (g : Gd) : List ExceptHandler → UCs → List (Value × (Addr → Value → Option Addr → TS)) → Prop
  | nil : HdsU X g [] [] []
  | cons {x : Str} {c : Value} {ts : WS} {sub : Str → Option Bool} {b₀ : Stmt} {suite : List Stmt} {np pos' : Pos} {hds : List ExceptHandler} {cs : UCs} {l : List (Value × (Addr → Value → Option Addr → TS))} (hc : Names X x c)
      (hsub : ∀ n b C, sub n = some b → X.mg n = some C → PySem.W.exmOne X.K C c = some b) (hsu : ∀ (a : Addr) (oe : Obj) (pn : List (Addr × Obj)), JSs (X.suite a ((a, oe) :: pn)) g (b₀ :: suite) ts) (r : HdsU X g hds cs l) :
      HdsU X g (.ExceptHandler (some (.Name x np)) none (b₀ :: suite) pos' :: hds) ((sub, ts) :: cs) ((c, fun _ _ _ => liftS X.K g ts) :: l)
theorem HdsU.ok {hds : List ExceptHandler} {cs : UCs} {l : List (Value × (Addr → Value → Option Addr → TS))} (h : HdsU X g hds cs l) : HdsOk X hds l := by
  induction h with
  | nil => exact .nil
  | cons hc _ hsu _ ih => exact .cons hc (fun a oe cls d pn _ _ => hsu a oe pn) ih
theorem HdsU.wish {hds : List ExceptHandler} {cs : UCs} {l : List (Value × (Addr → Value → Option Addr → TS))} (h : HdsU X g hds cs l) {R : UEnds} {D : Ends} {ux : UX} {su : Sg} {M : Mp} {cls : Value} {d : Option Addr} {σ : Stt} {H : Hp}
    (a : At X.K g su M σ H) (r : RepX X.K X.mg M H ux cls d) (c : ClD X.K M H R D) (q : goC R ex cs ux su M) : wMany X.K (Wof X g ex) D l cls d σ H := by
  induction h with
  | nil => exact ⟨ux, su, M, a, r, q⟩
  | @cons x c' ts sub b₀ suite np pos' hds cs l hc hsub hsu _ ih =>
    simp only [goC_cons] at q
    cases e : sub ux.cls with
    | none => simp only [e] at q
    | some b =>
      refine ⟨b, hsub _ _ _ e r.1, fun hb => ?_, fun hb => ?_⟩
      · subst hb
        simp only [e] at q
        exact fun _ _ => ⟨su, M, R, a, q, c⟩
      · subst hb
        simp only [e] at q
        exact ih q
theorem js_tryM {body : List Stmt} {h₀ : ExceptHandler} {hds : List ExceptHandler} {cs : UCs} {l : List (Value × (Addr → Value → Option Addr → TS))} {tb : UWX → WS} (hs : X.stack = X.env :: X.outer) (hf : X.env.frame = some X.env.locals) (tk : Takes X (Wof X g ex))
    (hb : ∀ (g' : Gd) (ex' : UWX) (pn : List (Addr × Obj)) (xe : Value → Shared → Prop), Takes (X.tr pn xe) (Wof (X.tr pn xe) g' ex') → PassesOwn (model X.prog X.w) X.A X.env xe → JSs (X.tr pn xe) g' body (tb ex'))
    (hh : HdsU X g (h₀ :: hds) cs l) : JS X g (.Try body (h₀ :: hds) [] [] pos) (wTryM tb cs ex) := by
  refine ps_imp (ps_try_many (Wout := Wof X g ex) (tb := fun W D σ H => ∃ (g' : Gd) (ex' : UWX), (∀ ux su M cls d σ H, At X.K g' su M σ H → RepX X.K X.mg M H ux cls d → ex' ux su M → W cls d σ H) ∧ liftS X.K g' (tb ex') D σ H) hs hf tk ?_ hh.ok) fun D σ H ⟨su, M, R, a, h, c⟩ => ?_
  · intro W pn xe tk' hp
    refine ⟨fun pins s σ H D I ⟨g', ex', hW, h⟩ => ?_⟩
    exact (hb g' ex' pn xe (tk'.imp fun cls d σ H ⟨ux, su, M, a, r, e⟩ => hW ux su M cls d σ H a r e) hp).run pins s σ H D I h
  · refine ⟨⟨M, H⟩, _, fun ux su1 M1 cls d σ1 H1 a1 r1 e1 => ?_, su, M, R, ⟨Stp.refl _ _, a.sl, a.hd⟩, h, c⟩
    have a2 : At X.K g su1 M1 σ1 H1 := ⟨a.st.trans a1.st, a1.sl, a1.hd⟩
    exact hh.wish a2 r1 (c.go a1.st) e1
end
section
variable {X : Cx} {P : Program} {w : World} {K : PySem.W.Frag} {mg : Str → Option Value} {base : Heap} {k : Nat} {N : List Str} {S : Scope} {g : Gd} {pos : Pos}
/-- the clauses, walked -/
inductive HdsK (P : Program) (w : World) (K : PySem.W.Frag) (mg : Str → Option Value) (base : Heap) (k : Nat) (N : List Str) (S : Scope) (g : Gd) : List ExceptHandler → UCs → Prop
  | nil : HdsK P w K mg base k N S g [] []
  | cons {x : Str} {ts : WS} {sub : Str → Option Bool} {b₀ : Stmt} {suite : List Stmt} {np pos' : Pos} {hds : List ExceptHandler} {cs : UCs} (F : Catch K mg x sub) (h : glB S x = true)
      (hsu : ∀ (Y : Cx), Wk Y P w K mg base k N S → Y.env.scope = S → JSs Y g (b₀ :: suite) ts) (r : HdsK P w K mg base k N S g hds cs) : HdsK P w K mg base k N S g (.ExceptHandler (some (.Name x np)) none (b₀ :: suite) pos' :: hds) ((sub, ts) :: cs)
theorem k_tryM (D : DefX P w K mg base k N S X) (nd : N.Nodup) {body : List Stmt} {h₀ : ExceptHandler} {hds : List ExceptHandler} {cs : UCs} {ex : UWX} {tb : UWX → WS} (tk : Takes X (Wof X g ex))
    (hb : ∀ (Y : Cx) (g' : Gd) (ex' : UWX), DefX P w K mg base k N S Y → Takes Y (Wof Y g' ex') → JSs Y g' body (tb ex')) (hh : HdsK P w K mg base k N S g (h₀ :: hds) cs) :
    JS X g (.Try body (h₀ :: hds) [] [] pos) (wTryM tb cs ex) := by
  have W := D.wk nd
  have conv : ∀ {hds : List ExceptHandler} {cs : UCs}, HdsK P w K mg base k N S g hds cs → ∃ l, HdsU X g hds cs l := by
    intro hds cs h
    induction h with
    | nil => exact ⟨[], .nil⟩
    | @cons x ts sub b₀ suite np pos' hds cs F h hsu _ ih =>
      obtain ⟨l, ih⟩ := ih
      obtain ⟨q1, q2⟩ := W.gl h
      obtain ⟨C, m, cat⟩ := F.ex
      refine ⟨_, .cons (c := .ref C) ⟨q1, q2, .inl (by rw [D.mg]; exact m)⟩ (fun n b D' h1 h2 => by rw [D.K]; exact cat n b D' h1 (by rw [← D.mg]; exact h2)) (fun a oe pn => ?_) ih⟩
      exact hsu _ ⟨W.prog, W.wd, W.K, W.mg, W.base, W.N, W.nd, W.dp, W.un, (fun z => by cases z), W.look, W.st⟩ D.sc
  obtain ⟨l, hu⟩ := conv hh
  refine js_tryM D.stk D.fr tk (fun g' ex' pn xe tk' hp => ?_) hu
  exact hb _ g' ex' ⟨D.prog, D.wd, D.K, D.mg, D.base, D.N, D.sc, D.calm, D.fn, D.room, D.stk, D.fr, hp⟩ tk'
end
end Pu

/-! Pu, part 19: zip, tuple.index, a for by its invariant, the memory as it stands. -/
namespace Pu
open PySem PySem.Spec PyProof.Rows L2 PySem.SeqAt
/-! ### zip of two tuples, of two lists -/
def zipU (us ws : List U) : List U := List.zipWith (fun x y => .pr [x, y]) us ws
theorem zipU_get {us ws : List U} {i : Nat} {u : U} (e : (zipU us ws)[i]? = some u) : ∃ x y, us[i]? = some x ∧ ws[i]? = some y ∧ u = .pr [x, y] := by
  unfold zipU at e
  rw [List.getElem?_zipWith] at e
  split at e
  · rename_i x y h1 h2
    cases e
    exact ⟨x, y, h1, h2, rfl⟩
  · cases e
def wZip (t : WA) : WI := fun su M R => t su M fun us M1 => match us with
  | [.tup xs, .tup ys] => R (zipU xs ys) Any M1
  | [.lst xs, .lst ys] => R (zipU xs ys) Any M1
  | _ => False
section
variable {X : Cx} {g : Gd} {p pos : Pos}
theorem itzT_ok {M : Mp} {H : Hp} {a b : Addr} {us ws : List U} {vs xs : List V} {K : PySem.W.Frag} (f : FzT K M H a vs) (t : RepVs K M H us vs) (f2 : FzT K M H b xs) (t2 : RepVs K M H ws xs) : ItOk K (RZ.ItzT K a b) (zipU us ws) Any M H := by
  refine ⟨trivial, fun i M' H' st d k => ?_⟩
  have hq := (f.step st).sq
  have hq2 := (f2.step st).sq
  have r := RepVs.step st _ _ t
  have r2 := RepVs.step st _ _ t2
  refine ⟨fun u e => ?_, fun hl => ⟨vs, xs, hq, hq2, ?_⟩⟩
  · obtain ⟨x, y, e1, e2, rfl⟩ := zipU_get e
    obtain ⟨v, ev, rv⟩ := r.get e1
    obtain ⟨w, ew, rw'⟩ := r2.get e2
    refine ⟨⟨vs, xs, v, w, hq, hq2, ev, ew⟩, fun y' H'' yl => ?_⟩
    obtain ⟨T, z, z2, rfl, hT, rfl, yl, yl2⟩ := yl
    have q1 := yl vs hq
    have q2 := yl2 xs hq2
    rw [ev] at q1
    rw [ew] at q2
    cases q1
    cases q2
    exact pair_ok d hT rv rw'
  · rw [← r.length, ← r2.length]
    simp [zipU] at hl
    omega
theorem itzL_ok {M : Mp} {H : Hp} {a b : Addr} {us ws : List U} {vs xs : List V} {K : PySem.W.Frag} (f : FzL K M H a vs) (t : RepVs K M H us vs) (f2 : FzL K M H b xs) (t2 : RepVs K M H ws xs) : ItOk K (Itz K a b) (zipU us ws) Any M H := by
  refine ⟨trivial, fun i M' H' st d k => ?_⟩
  have hq := (f.step st).sq
  have hq2 := (f2.step st).sq
  have r := RepVs.step st _ _ t
  have r2 := RepVs.step st _ _ t2
  refine ⟨fun u e => ?_, fun hl => ⟨vs, xs, hq, hq2, ?_⟩⟩
  · obtain ⟨x, y, e1, e2, rfl⟩ := zipU_get e
    obtain ⟨v, ev, rv⟩ := r.get e1
    obtain ⟨w, ew, rw'⟩ := r2.get e2
    refine ⟨⟨vs, xs, v, w, hq, hq2, ev, ew⟩, fun y' H'' yl => ?_⟩
    obtain ⟨T, z, z2, rfl, hT, rfl, yl, yl2⟩ := yl
    have q1 := yl vs hq
    have q2 := yl2 xs hq2
    rw [ev] at q1
    rw [ew] at q2
    cases q1
    cases q2
    exact pair_ok d hT rv rw'
  · rw [← r.length, ← r2.length]
    simp [zipU] at hl
    omega
theorem ji_zip {a b : Expr} {t : WA} {elts : List Expr} {kk : Nat} {tpos : Pos} (hg : Gl X "zip") (hm : X.mg "zip" = none) (ha : JA X g [a, b] t) (hs : starEach [a, b] X.env = (false, eval a X.env) :: starEach [b] X.env) (hpl : (backTo pos (starEach [b] X.env)).any (·.1) = false) :
    JI X g (.Tuple elts kk tpos) (.Call (.Name "zip" p) [a, b] [] pos) (wZip t) :=
  pi_imp (RZ.pi_zipA hg hm ha hs hpl) fun σ H R ⟨su, M, Ru, a, h, c⟩ => ⟨su, M, _, a, h, fun us M1 vs H1 q s1 d1 r1 => by
    match us, q, r1 with
    | [.tup xs, .tup ys], q, r1 =>
      obtain ⟨v, w, rfl, r, r'⟩ := r1.two
      obtain ⟨p, vs, rfl, f, t⟩ := rep_tup r
      obtain ⟨p', vs', rfl, f', t'⟩ := rep_tup r'
      exact ⟨p, p', vs, vs', rfl, .inr ⟨f.sq, f'.sq, c _ _ M1 H1 _ q s1 d1 (itzT_ok f t f' t')⟩⟩
    | [.lst xs, .lst ys], q, r1 =>
      obtain ⟨v, w, rfl, r, r'⟩ := r1.two
      obtain ⟨p, vs, rfl, f, t⟩ := rep_lst r
      obtain ⟨p', vs', rfl, f', t'⟩ := rep_lst r'
      exact ⟨p, p', vs, vs', rfl, .inl ⟨f.sq, f'.sq, c _ _ M1 H1 _ q s1 d1 (itzL_ok f t f' t')⟩⟩⟩
end
section
variable {X : Cx} {P : Program} {w : World} {K : PySem.W.Frag} {mg : Str → Option Value} {base : Heap} {k : Nat} {N : List Str} {S : Scope} {g : Gd} {a b : Expr} {tr : WA} {p pos : Pos}
theorem k_zip (W : Wk X P w K mg base k N S) {elts : List Expr} {kk : Nat} {tpos : Pos} (hm : mg "zip" = none) (h : glB S "zip" = true) (ha : JA X g [a, b] tr) (hs : starEach [a, b] X.env = (false, eval a X.env) :: starEach [b] X.env) (hpl : (backTo pos (starEach [b] X.env)).any (·.1) = false) :
    JI X g (.Tuple elts kk tpos) (.Call (.Name "zip" p) [a, b] [] pos) (wZip tr) :=
  ji_zip (W.gl h).1 (by rw [W.mg]; exact hm) ha hs hpl
end
@[simp] theorem wZip_ {tr : WA} {su : Sg} {M : Mp} {Ri : List U → (Mp → Prop) → Mp → Prop} : wZip tr su M Ri = tr su M fun us M1 => (match us with
  | [.tup xs, .tup ys] => Ri (zipU xs ys) Any M1
  | [.lst xs, .lst ys] => Ri (zipU xs ys) Any M1
  | _ => False) := rfl
/-! ### t.index(x) of a tuple of texts -/
def uIndexT : OM := fun x xs M R => ∃ (ys : List Str) (z : Str) (j : Nat), x = .tup (ys.map .str) ∧ xs = [.str z] ∧ ys[j]? = some z ∧ (∀ m, m < j → ys[m]? ≠ some z) ∧ R (.int (j : Nat)) M
theorem umt_indexT {X : Cx} : UMt X "tuple.index" uIndexT := mt_imp mt_tup_index fun x xs H Q ⟨ux, us, M, R, r1, r2, hd, ⟨ys, z, j, e1, e2, hj, hn, q⟩, c⟩ => by
  subst e1 e2
  obtain ⟨p, vs, rfl, f, t⟩ := rep_tup r1
  obtain ⟨v, rfl, r2'⟩ := r2.one
  have e := strs_rep t
  subst e
  exact ⟨p, ys, z, j, rfl, by rw [rep_str r2'], f.sq, hj, hn, c.here q hd mk_int⟩
/-! ### a for by its invariant -/
theorem loop_ind {keep : Mp → Prop} {gt : WG} {tb : WS} {D : UEnds} (I : List U → Sg → Mp → Prop) (us : List U) (su : Sg) (M : Mp) (h0 : I us su M) (hn : ∀ s m, I [] s m → D.nx s m)
    (hc : ∀ x r s m, I (x :: r) s m → (∀ s' m', I r s' m' → loopU keep gt tb r D s' m') → gt x s m fun su1 M1 => tb { D with nx := fun s m => keep m ∧ loopU keep gt tb r D s m, ct := fun s m => keep m ∧ loopU keep gt tb r D s m, bk := D.nx } su1 M1) :
    loopU keep gt tb us D su M := by
  induction us generalizing su M with
  | nil => exact hn _ _ h0
  | cons x r ih => exact hc x r su M h0 fun s m hi => ih s m hi
/-! ### list(range(n)) -/
def rgU (n : Nat) : List U := (List.range n).map fun i => U.int ((i : Nat) : Int)
theorem reps_rg {K : PySem.W.Frag} {M : Mp} {H : Hp} {n : Int} : RepVs K M H (rgU n.toNat) (rgV 0 n) := by
  unfold rgU rgV
  rw [show (n - 0).toNat = n.toNat by omega]
  induction List.range n.toNat with
  | nil => exact .nil
  | cons i r ih => exact .cons (by simp [RepV]) ih
def wLstR (hh : Bool) (te : WE) : WE := fun su M R => te su M fun u M1 => ∃ n : Int, u = .int n ∧ 0 ≤ n ∧ n ≤ 16777216 ∧ (if hh = true then ∀ p, M1 p = none → R (.ref p) (put M1 p (.lst (rgU n.toNat))) else R (.lst (rgU n.toNat)) M1)
@[simp] theorem wLstR_ {hh : Bool} {te : WE} {su : Sg} {M : Mp} {R : UK} : wLstR hh te su M R = te su M fun u M1 => ∃ n : Int, u = .int n ∧ 0 ≤ n ∧ n ≤ 16777216 ∧ (if hh = true then ∀ p, M1 p = none → R (.ref p) (put M1 p (.lst (rgU n.toNat))) else R (.lst (rgU n.toNat)) M1) := rfl
section
variable {X : Cx} {P : Program} {w : World} {K : PySem.W.Frag} {mg : Str → Option Value} {base : Heap} {k : Nat} {N : List Str} {S : Scope} {g : Gd} {a b : Expr} {te : WE} {p p2 pos pos2 : Pos}
theorem k_listR (W : Wk X P w K mg base k N S) (hc : X.calm = true) (hh : Bool) (hm : mg "list" = none) (h : glB S "list" = true) (hm2 : mg "range" = none) (h2 : glB S "range" = true) (ha : JE X g a te) (na : starEach [a] X.env = (false, eval a X.env) :: starEach [] X.env)
    (nb : starEach [Expr.Call (.Name "range" p2) [a] [] pos2] X.env = (false, eval (Expr.Call (.Name "range" p2) [a] [] pos2) X.env) :: starEach [] X.env) :
    JE X g (.Call (.Name "list" p) [.Call (.Name "range" p2) [a] [] pos2] [] pos) (wLstR hh te) :=
  pe_imp (pe_listRg hc (W.gl h).1 (by rw [W.mg]; exact hm) (prg_1 (W.gl h2).1 (by rw [W.mg]; exact hm2) ha na) nb) fun σ H Q ⟨su, M, R, a, h, c⟩ => ⟨su, M, _, a, h, fun u M1 v H1 ⟨n, e, h0, h1, q⟩ s1 d1 r1 => by
    subst e
    refine ⟨n, rep_int r1, ⟨by omega, by omega, by omega, by omega, by omega⟩, fun l hl => ?_⟩
    cases hh with
    | false => exact c.at_ (by simpa using q) (s1.trans (Stp.new d1 hl)) (d1.new hl) (new_lst d1 hl reps_rg)
    | true => exact c.at_ ((by simpa using q : ∀ p, M1 p = none → R (.ref p) (put M1 p (.lst (rgU n.toNat)))) l (d1.free hl)) (s1.trans (Stp.newH hl)) (d1.putL (Stp.newH hl) reps_rg) mk_ref⟩
end
/-! ### methods of tuples -/
def NdT (K : PySem.W.Frag) (H : Hp) (x : V) : Prop := ∃ a, x = .ref a ∧ ((∃ o xs, H a = some (.frz o (.tup xs)) ∧ o.dict = none) ∨ ∃ o, K.lookup a = some o ∧ o.cls = .type "tuple" ∧ o.dict = none)
section
variable {X : Cx} {g : Gd} {o e : Expr} {es : List Expr} {to : WE} {tr : WA} {om : OM} {x name : Str} {p pos apos cpos : Pos} {id T : String}
theorem ndT_is {pins : List (Addr × Obj)} {σ : Stt} {H : Hp} {s : Shared} {x : V} {v : Value} (I : Inv X pins σ H s) (r : RelV x v) (ty : NdT X.K H x) :
    s.TypeIs v "tuple" ∧ ∀ a, v = .ref a → ∃ ob, s.heap.get? a = some ob ∧ ob.dict = none := by
  obtain ⟨a, rfl, h⟩ := ty
  obtain rfl : v = .ref a := r
  rcases h with ⟨ob, xs, h, hd⟩ | ⟨ob, h, hc, hd⟩
  · obtain ⟨e, z, its, rv, o', e', hc, n, hs⟩ := I.hok a _ h
    rw [e] at e'
    cases e'
    exact ⟨⟨ob, e, hc⟩, fun b hb => by cases hb; exact ⟨ob, e, hd⟩⟩
  · have e := I.kIn _ _ h
    exact ⟨⟨ob, e, hc⟩, fun b hb => by cases hb; exact ⟨ob, e, hd⟩⟩
theorem pe_bmT {to : TE} {t : TA} {r : V → List V → Hp → VK → Prop} (pa : PlainAttrs "tuple") (slot : Slot "tuple" name id) (hty : typeOf (.builtin id) = pure (.type "method_descriptor")) (hm : MtR X id r) (ho : PE X o to) (ha : PA X (e :: es) t)
    (hbase : attributeBase o name X.env (eval o X.env) = eval o X.env)
    (hfew : ((backTo cpos (starEach (e :: es) X.env)).all (fun x => !x.1) && (backToKw cpos (keywordEach [] X.env)).all (fun x => x.1.isSome)
      && decide ((e :: es).length + ([] : List Keyword).length + (if ([] : List Keyword).isEmpty then 0 else 1) < 30)) = true)
    (hline : (apos.endLine == cpos.line) = true) (hs : starEach (e :: es) X.env = (false, eval e X.env) :: starEach es X.env) (hplain : (backTo cpos (starEach es X.env)).any (·.1) = false) :
    PE X (.Call (.Attribute o name apos) (e :: es) [] cpos) (fun σ H Q => to σ H fun x H1 => NdT X.K H1 x ∧ t σ H1 fun xs H2 => r x xs H2 Q) := by
  refine ⟨fun pins s σ H Q I h => ?_⟩
  refine wpAny_Call_method_late hbase hfew hline rfl (thn (ho.run pins s σ H _ I h) fun v s1 ⟨x, H1, I1, r1, ty, q1⟩ => ?_)
  obtain ⟨h1, h2⟩ := ndT_is I1 r1 ty
  refine ⟨"tuple", id, pa, slot, hty, h1, h2, ?_⟩
  have hA := ha.run cpos pins s1 σ H1 _ I1 q1
  rw [hs] at hA ⊢
  refine Calls.callWith_builtin (by show (false || (backTo cpos (starEach es X.env)).any (·.1)) = false; rw [hplain] <;> rfl) (Calls.evalArgs_plain ?_)
  exact thn hA fun us s2 ⟨vs, H2, I2, r2, q2⟩ => hm pins s2 σ H2 x vs v us Q I2 r1 r2 q2
def wBMt (om : OM) (to : WE) (tr : WA) : WE := fun su M R => to su M fun x M1 => (∃ us, x = .tup us) ∧ tr su M1 fun xs M2 => om x xs M2 R
@[simp] theorem wBMt_ {su : Sg} {M : Mp} {R : UK} : wBMt om to tr su M R = to su M fun x M1 => (∃ us, x = .tup us) ∧ tr su M1 fun xs M2 => om x xs M2 R := rfl
theorem j_bmT (pa : PlainAttrs "tuple") (slot : Slot "tuple" name id) (hty : typeOf (.builtin id) = pure (.type "method_descriptor")) (hm : UMt X id om) (ho : JE X g o to) (ha : JA X g (e :: es) tr)
    (hbase : attributeBase o name X.env (eval o X.env) = eval o X.env)
    (hfew : ((backTo cpos (starEach (e :: es) X.env)).all (fun x => !x.1) && (backToKw cpos (keywordEach [] X.env)).all (fun x => x.1.isSome)
      && decide ((e :: es).length + ([] : List Keyword).length + (if ([] : List Keyword).isEmpty then 0 else 1) < 30)) = true)
    (hline : (apos.endLine == cpos.line) = true) (hs : starEach (e :: es) X.env = (false, eval e X.env) :: starEach es X.env) (hplain : (backTo cpos (starEach es X.env)).any (·.1) = false) : JE X g (.Call (.Attribute o name apos) (e :: es) [] cpos) (wBMt om to tr) :=
  pe_imp (pe_bmT pa slot hty hm ho ha hbase hfew hline hs hplain) fun σ H Q ⟨su, M, R, a, h, c⟩ => ⟨su, M, _, a, h, fun x M1 v H1 ⟨⟨us, t⟩, q⟩ s1 d1 r1 => by
    subst t
    have nd : NdT X.K H1 v := by
      obtain ⟨p, vs, rfl, f, _⟩ := rep_tup r1
      rcases f with ⟨⟨o, h, hd⟩, _⟩ | ⟨o, its, n, h1, h2, h3, _⟩
      · exact ⟨p, rfl, .inl ⟨o, vs, h, hd⟩⟩
      · exact ⟨p, rfl, .inr ⟨o, h1, h2, h3⟩⟩
    exact ⟨nd, su, M1, _, a.go s1 d1, q, fun xs M2 vs H2 q2 s2 d2 r2 => ⟨.tup us, xs, M2, R, r1.step s2, r2, d2, q2, (c.go s1).go s2⟩⟩⟩
end
end Pu

/-! Pu, part 20: sets made of lists and tuples, sorted. -/
namespace Pu
open PySem PySem.Spec PyProof.Rows L2 PySem.Froz
theorem int_at' {us : List Value} {ns : List Int} (h : IntsAre us ns) : ∀ (i : Nat) (v : Value), us[i]? = some v → ∃ k t, ns[i]? = some k ∧ v = Value.int k t := fun i v hv => by
  have hi : i < ns.length := by rw [← IntsAre.length h]; exact (List.getElem?_eq_some_iff.mp hv).1
  obtain ⟨t, e⟩ := PyProof.Rows.IntsAre.int_at h i v hv
  refine ⟨ns[i], t, List.getElem?_eq_getElem hi, ?_⟩
  rw [e, List.getD_eq_getElem?_getD, List.getElem?_eq_getElem hi] <;> rfl
section
variable {P : Program} {w : World} {h h' : Heap} {a : Addr} {l : List Str} {A : Around} {E : Value → Shared → Prop} {s : Shared}
set_option maxHeartbeats 8000000 in
/-- set(t) of a tuple of texts -/
theorem call_set_txtT {l : Addr} {items : Array Value} (ns : List Str) {Q : Value → Shared → Prop} (hh : A.handled = none) (hl : s.heap.IsTuple l items) (hit : StrsAre items.toList ns) (hb : ns.length + 1 < scanBound)
    (h : ∀ (h' : Heap) (tk : Nat) (l' : List Str), TSet P w h' s.heap.objs.size l' → (∀ x, x ∈ l' ↔ x ∈ ns) → l'.length ≤ ns.length → (∀ b o, s.heap.get? b = some o → h'.get? b = some o) → Q (.ref s.heap.objs.size) { s with heap := h', toks := tk }) :
    wpAny (model P w) A (call (.type "set") [.ref l]) Q E s := by
  have hisz : items.size = ns.length := by
    have q := StrsAre.length hit
    rw [Array.length_toList] at q
    exact q
  obtain ⟨c, tl, hmro⟩ := F.called_set.mro
  have hmade := F.called_set.made
  have hsub := F.called_set.sub
  refine wpAny_call (codeAny_of_tree ?_)
  show wpAny _ _ (callAny (.type "set") _) _ _ _
  refine wpAny_pure ⟨Code.quiet_builtin _ (by decide +kernel), codeAny_builtin F.entry_type_call ?_⟩
  rw [Around.under_plain (weight_type_call_type "set" [.ref l] []) rfl]
  have h1 := F.called_set.notType
  have h2 := F.called_set.canCreate
  have hct := F.typeCall_set_1 (.ref l)
  repeat (any_goals (first | assumption | wp_step))

  refine codeAny_mono (code_set_led1 (.ref l) (E := E) (Q₁ := fun obj s₁ => obj = .ref s.heap.objs.size ∧ s₁ = { s with heap := s.heap.push { cls := .type "set", dict := none, data := .set #[] 0 (.fresh 0 0 (!w.params.followText "set-order")) } }) ⟨rfl, rfl⟩) fun r s₁ hr => ?_
  cases r with
  | error e => exact hr
  | ok fl =>
    cases fl with
    | ret obj =>
      obtain ⟨rfl, rfl⟩ := hr
      generalize hled : (!w.params.followText "set-order") = led
      have hS : (s.heap.push { cls := .type "set", dict := none, data := .set #[] 0 (.fresh 0 0 led) }).get? s.heap.objs.size = some { cls := .type "set", dict := none, data := .set #[] 0 (.fresh 0 0 led) } := Heap.get?_push_size _ rfl
      have hT : Shared.TypeIs { s with heap := s.heap.push { cls := .type "set", dict := none, data := .set #[] 0 (.fresh 0 0 led) } } (.ref s.heap.objs.size) "set" := ⟨_, hS, rfl⟩
      have hli := F.called_set.init.lookup
      have hbi := F.called_set.init.bind (.ref s.heap.objs.size)
      repeat (any_goals (first | assumption | wp_step))

      refine codeAny_mono (codeAny_call_builtin (R := wants (fun r s₂ => r = .none ∧ ∃ h' tk l', s₂ = { s with heap := h', toks := tk } ∧ TSet P w h' s.heap.objs.size l' ∧ (∀ x, x ∈ l' ↔ x ∈ ns) ∧ l'.length ≤ ns.length ∧
          (∀ b o, s.heap.get? b = some o → h'.get? b = some o)) E) F.called_set.init.plain F.entry_set_init (check_set_init_1 hT ?_)) fun r₂ s₂ hr₂ => ?_
      · obtain ⟨ol, hol, hcl, nl, hdl⟩ := hl
        obtain ⟨ocls, odict, odata, oslots⟩ := ol
        simp only at hcl hdl
        subst hcl; subst hdl
        have hol' : (s.heap.push { cls := .type "set", dict := none, data := .set #[] 0 (.fresh 0 0 led) }).get? l = some { cls := .type "tuple", dict := odict, data := .seq items nl, slots := oslots } := Heap.get?_push_of_some _ hol
        have hsls := F.sub_tuple_set
        have hslf := F.sub_tuple_frozenset
        have hne : (Value.type "tuple" == Value.type "dict") = false := by decide
        have hl1 : (s.heap.push { cls := .type "set", dict := none, data := .set #[] 0 (.fresh 0 0 led) }).IsTuple l items := ⟨_, hol', rfl, nl, rfl⟩
        unfold Builtin.«set.__init__» noKeywords Builtin.Frozenset.updateFrom
        generalize hPI : pyIter = PI
        wp_walk
        subst hPI

        refine wpAny_pyIter_tuple hl1 ?_
        refine wpAny_bind (wpAny_runValue ?_)
        have hlS : l < s.heap.objs.size := Heap.lt_size hol
        have hh3 : A.in1.in1.in1.handled = none := by simp [hh]
        have hneI : l ≠ (s.heap.push { cls := .type "set", dict := none, data := .set #[] 0 (.fresh 0 0 led) }).objs.size := by
          rw [Heap.size_push]; exact Nat.ne_of_lt (Nat.lt_succ_of_lt hlS)
        have hSf : s.heap.objs.size ∉ [(s.heap.push { cls := .type "set", dict := none, data := .set #[] 0 (.fresh 0 0 led) }).objs.size, l] := by
          rw [Heap.size_push]; simp only [List.mem_cons, List.mem_singleton, List.not_mem_nil, or_false, not_or]
          exact ⟨Nat.ne_of_lt (Nat.lt_succ_self _), Nat.ne_of_gt hlS⟩
        have hval : ∀ (i : Nat) (v : Value), items[i]? = some v → ∃ k t, ns[i]? = some k ∧ v = .str k t := fun i v hv => str_at hit i v (by rw [Array.getElem?_toList]; exact hv)
        refine set_update_txt ((Walks.tuple hh3 _ l hneI items).toS) s.heap.objs.size
          hSf ns hisz hb hval (items.size - 0) 0 _ (by omega) (Nat.zero_le _)
          ⟨⟨_, Heap.get?_push_size _ rfl, rfl, rfl⟩, (hl1.push _)⟩ ?hS0 ?hR
        case hS0 =>
          have hget : ((s.heap.push { cls := .type "set", dict := none, data := .set #[] 0 (.fresh 0 0 led) }).push { cls := .type "tuple_iterator", data := .fields #[.ref l, .int 0 0] }).get? s.heap.objs.size
              = some { cls := .type "set", dict := none, data := .set #[] 0 (.fresh 0 0 led) } := Heap.get?_push_of_some _ hS
          exact ⟨[], Nat.le_refl 0, fun x => by simp, tset_new hled.symm hget⟩
        case hR =>
          intro s' l' hm hl' hx hS'
          obtain ⟨h', g2, d', tk', os'⟩ := s'
          have eg : g2 = s.gens := hm.gens
          have ed : d' = s.drawn := hm.drawn
          have eo : os' = s.os := hm.os
          subst eg; subst ed; subst eo
          show wpAny _ _ _ _ _ _
          refine wpAny_pure ?_
          show wpAny _ _ (ret Value.none) _ _ _
          rw [hisz] at hl'
          refine wpAny_pure ⟨rfl, h', tk', l', rfl, hS', hx, hl', fun b o e => ?_⟩
          have hb0 : b < s.heap.objs.size := Heap.lt_size e
          have hb1 : b ≠ s.heap.objs.size := Nat.ne_of_lt hb0
          have hb2 : b ≠ (s.heap.push { cls := .type "set", dict := none, data := .set #[] 0 (.fresh 0 0 led) }).objs.size := by
            rw [Heap.size_push]; exact Nat.ne_of_lt (Nat.lt_succ_of_lt hb0)
          exact hm.heap b o (by simp only [List.mem_cons, List.mem_singleton, List.not_mem_nil, or_false, not_or]; exact ⟨hb1, hb2⟩) (Heap.get?_push_of_some _ (Heap.get?_push_of_some _ e))

      · cases r₂ with
        | error e => exact hr₂
        | ok fl₂ =>
          cases fl₂ with
          | ret r =>
            obtain ⟨rfl, h', tk, l', rfl, hS', hx, hl', hk'⟩ := hr₂
            repeat (any_goals (first | assumption | wp_step))
            exact h _ _ _ hS' hx hl' hk'
          | _ => exact hr₂.elim
    | _ => exact hr.elim
set_option maxHeartbeats 8000000 in
/-- set(l) of a list of whole numbers -/
theorem call_set_intL {l : Addr} {items : Array Value} (ns : List Int) {Q : Value → Shared → Prop} (hh : A.handled = none) (hl : s.heap.IsList l items) (hit : IntsAre items.toList ns) (hb : ns.length + 1 < scanBound)
    (h : ∀ (h' : Heap) (tk c : Nat), SetR w h' s.heap.objs.size (fun j => decide (j ∈ ns)) c → c ≤ ns.length → (∀ b o, s.heap.get? b = some o → h'.get? b = some o) → Q (.ref s.heap.objs.size) { s with heap := h', toks := tk }) :
    wpAny (model P w) A (call (.type "set") [.ref l]) Q E s := by
  have hisz : items.size = ns.length := by
    have q := IntsAre.length hit
    rw [Array.length_toList] at q
    exact q
  obtain ⟨c, tl, hmro⟩ := F.called_set.mro
  have hmade := F.called_set.made
  have hsub := F.called_set.sub
  refine wpAny_call (codeAny_of_tree ?_)
  show wpAny _ _ (callAny (.type "set") _) _ _ _
  refine wpAny_pure ⟨Code.quiet_builtin _ (by decide +kernel), codeAny_builtin F.entry_type_call ?_⟩
  rw [Around.under_plain (weight_type_call_type "set" [.ref l] []) rfl]
  have h1 := F.called_set.notType
  have h2 := F.called_set.canCreate
  have hct := F.typeCall_set_1 (.ref l)
  repeat (any_goals (first | assumption | wp_step))

  refine codeAny_mono (code_set_led1 (.ref l) (E := E) (Q₁ := fun obj s₁ => obj = .ref s.heap.objs.size ∧ s₁ = { s with heap := s.heap.push { cls := .type "set", dict := none, data := .set #[] 0 (.fresh 0 0 (!w.params.followText "set-order")) } }) ⟨rfl, rfl⟩) fun r s₁ hr => ?_
  cases r with
  | error e => exact hr
  | ok fl =>
    cases fl with
    | ret obj =>
      obtain ⟨rfl, rfl⟩ := hr
      generalize hled : (!w.params.followText "set-order") = led
      have hS : (s.heap.push { cls := .type "set", dict := none, data := .set #[] 0 (.fresh 0 0 led) }).get? s.heap.objs.size = some { cls := .type "set", dict := none, data := .set #[] 0 (.fresh 0 0 led) } := Heap.get?_push_size _ rfl
      have hT : Shared.TypeIs { s with heap := s.heap.push { cls := .type "set", dict := none, data := .set #[] 0 (.fresh 0 0 led) } } (.ref s.heap.objs.size) "set" := ⟨_, hS, rfl⟩
      have hli := F.called_set.init.lookup
      have hbi := F.called_set.init.bind (.ref s.heap.objs.size)
      repeat (any_goals (first | assumption | wp_step))

      refine codeAny_mono (codeAny_call_builtin (R := wants (fun r s₂ => r = .none ∧ ∃ h' tk c, s₂ = { s with heap := h', toks := tk } ∧ SetR w h' s.heap.objs.size (fun j => decide (j ∈ ns)) c ∧ c ≤ ns.length ∧
          (∀ b o, s.heap.get? b = some o → h'.get? b = some o)) E) F.called_set.init.plain F.entry_set_init (check_set_init_1 hT ?_)) fun r₂ s₂ hr₂ => ?_
      · obtain ⟨ol, hol, hcl, nl, hdl⟩ := hl
        obtain ⟨ocls, odict, odata, oslots⟩ := ol
        simp only at hcl hdl
        subst hcl; subst hdl
        have hol' : (s.heap.push { cls := .type "set", dict := none, data := .set #[] 0 (.fresh 0 0 led) }).get? l = some { cls := .type "list", dict := odict, data := .seq items nl, slots := oslots } := Heap.get?_push_of_some _ hol
        have hsls := F.sub_list_set
        have hslf := F.sub_list_frozenset
        have hne : (Value.type "list" == Value.type "dict") = false := by decide
        have hl1 : (s.heap.push { cls := .type "set", dict := none, data := .set #[] 0 (.fresh 0 0 led) }).IsList l items := ⟨_, hol', rfl, nl, rfl⟩
        unfold Builtin.«set.__init__» noKeywords Builtin.Frozenset.updateFrom
        generalize hPI : pyIter = PI
        wp_walk
        subst hPI

        refine wpAny_pyIter_list hl1 ?_
        refine wpAny_bind (wpAny_runValue ?_)
        have hlS : l < s.heap.objs.size := Heap.lt_size hol
        have hh3 : A.in1.in1.in1.handled = none := by simp [hh]
        have hneI : l ≠ (s.heap.push { cls := .type "set", dict := none, data := .set #[] 0 (.fresh 0 0 led) }).objs.size := by
          rw [Heap.size_push]; exact Nat.ne_of_lt (Nat.lt_succ_of_lt hlS)
        have hSf : s.heap.objs.size ∉ [(s.heap.push { cls := .type "set", dict := none, data := .set #[] 0 (.fresh 0 0 led) }).objs.size, l] := by
          rw [Heap.size_push]; simp only [List.mem_cons, List.mem_singleton, List.not_mem_nil, or_false, not_or]
          exact ⟨Nat.ne_of_lt (Nat.lt_succ_self _), Nat.ne_of_gt hlS⟩
        have hval : ∀ (i : Nat) (v : Value), items[i]? = some v → ∃ k t, ns[i]? = some k ∧ v = .int k t := fun i v hv => int_at' hit i v (by rw [Array.getElem?_toList]; exact hv)
        refine set_update_ints ((Walks.list hh3 _ l hneI items).toS) s.heap.objs.size
          hSf ns hisz hb hval (items.size - 0) 0 _ (by omega) (Nat.zero_le _)
          ⟨⟨_, Heap.get?_push_size _ rfl, rfl, rfl⟩, (hl1.push _)⟩ ?hS0 ?hR
        case hS0 =>
          have hget : ((s.heap.push { cls := .type "set", dict := none, data := .set #[] 0 (.fresh 0 0 led) }).push { cls := .type "list_iterator", data := .fields #[.ref l, .int 0 0] }).get? s.heap.objs.size
              = some { cls := .type "set", dict := none, data := .set #[] 0 (.fresh 0 0 led) } := Heap.get?_push_of_some _ hS
          subst hled
          exact ⟨0, Nat.le_refl 0, setR_new_at hget⟩
        case hR =>
          intro s' c' hm hl' hS'
          obtain ⟨h', g2, d', tk', os'⟩ := s'
          have eg : g2 = s.gens := hm.gens
          have ed : d' = s.drawn := hm.drawn
          have eo : os' = s.os := hm.os
          subst eg; subst ed; subst eo
          show wpAny _ _ _ _ _ _
          refine wpAny_pure ?_
          show wpAny _ _ (ret Value.none) _ _ _
          rw [hisz] at hl'
          refine wpAny_pure ⟨rfl, h', tk', c', rfl, hS', hl', fun b o e => ?_⟩
          have hb0 : b < s.heap.objs.size := Heap.lt_size e
          have hb1 : b ≠ s.heap.objs.size := Nat.ne_of_lt hb0
          have hb2 : b ≠ (s.heap.push { cls := .type "set", dict := none, data := .set #[] 0 (.fresh 0 0 led) }).objs.size := by
            rw [Heap.size_push]; exact Nat.ne_of_lt (Nat.lt_succ_of_lt hb0)
          exact hm.heap b o (by simp only [List.mem_cons, List.mem_singleton, List.not_mem_nil, or_false, not_or]; exact ⟨hb1, hb2⟩) (Heap.get?_push_of_some _ (Heap.get?_push_of_some _ e))

      · cases r₂ with
        | error e => exact hr₂
        | ok fl₂ =>
          cases fl₂ with
          | ret r =>
            obtain ⟨rfl, h', tk, c', rfl, hS', hl', hk'⟩ := hr₂
            repeat (any_goals (first | assumption | wp_step))
            exact h _ _ _ hS' hl' hk'
          | _ => exact hr₂.elim
    | _ => exact hr.elim
end
end Pu

/-! Pu, part 21: sorted(set(..)). -/
namespace Pu
open PySem PySem.Spec PyProof.Rows L2 PySem.Froz
section
variable {P : Program} {w : World} {h h' : Heap} {a : Addr} {l : List Str} {A : Around} {E : Value → Shared → Prop} {s : Shared}
/-- sorted(found) of a set of whole numbers, of any size here -/
theorem sorted_setI {S : Int → Bool} {n : Nat} {Q : Value → Shared → Prop} (R : SetR w s.heap a S n) (hh : A.handled = none) (hz4 : n < 4000)
    (hQ : ∀ s' p (out : Array Value) (c : Nat) (ns : List Int), (∀ b o, s.heap.get? b = some o → s'.heap.get? b = some o) → s'.gens = s.gens → s'.os = s.os → s.heap.objs.size ≤ p →
      s'.heap.get? p = some (seqObj "list" out c) → IntsAre out.toList ns → ns.Pairwise (· ≤ ·) → ns.Nodup → (∀ k, k ∈ ns ↔ S k = true) → ns.length = n → Q (.ref p) s') :
    wpAny (model P w) A (call (.builtin "sorted") [.ref a]) Q E s := by
  obtain ⟨o, es, ep, t, ho, hex, hd, g, nd, hm, hb, hf, hn, hr, hl⟩ := R
  refine Calls.call_function_entry kind_sorted plain_sorted entry_sorted (args_sorted1 _) ?_
  unfold Builtin.«sorted»
  refine wpAny_bind (m := checkCount "sorted" 1 1 _) (wpAny_pure ?_)
  refine wpAny_bind (collect_set (A := A.in1) hh ⟨o, ho, hex.1, hd⟩ hf hb hr hl fun s1 vs k1 hz g1 o1 pm => ?_)
  have hvl : vs.length = n := by rw [pm.length_eq, List.length_map, Array.length_toList]; exact hn
  have hI : IntsAre vs (vs.map Builtin.Re.reRawOf) := ints_of vs fun v hv => by
    obtain ⟨e, he, q⟩ := List.mem_map.mp (pm.mem_iff.mp hv)
    obtain ⟨k, tk, h1, _⟩ := g e he
    exact ⟨k, tk, by rw [← q]; exact h1⟩
  have pk : (vs.map Builtin.Re.reRawOf).Perm (es.toList.map L2.keyOf) := by
    have q := pm.map Builtin.Re.reRawOf
    rw [List.map_map] at q
    exact q
  have hL : vs.length ≤ sizeLine := by rw [hvl, sizeLine_eq]; omega
  refine wpAny_bind (wpAny_newList ?_ hL)
  have hoL : (s1.heap.push (seqObj "list" vs.toArray 0)).get? s1.heap.objs.size = some (seqObj "list" vs.toArray 0) := Heap.get?_push_size _ rfl
  refine wpAny_bind (wpAny_holding (wpAny_call_entry slot_list_sort ⟨_, hoL, rfl⟩ entry_list_sort (SrtO.list_sort_ord SrtO.swo_int hoL hL (fun h2 => SrtO.ints_sortable hI h2) fun out a1 a2 => ⟨_, rfl, ?_⟩) (args_list_sort _)))
  obtain ⟨b1, b2, b3⟩ := SrtO.ints_out hI a1 a2
  obtain ⟨c, hc⟩ := sortedHeap_at (vs := vs) (out := out.toArray) hoL
  have pn : (out.map SrtO.iv).Perm (es.toList.map L2.keyOf) := b2.trans pk
  refine wpAny_pure ⟨_, rfl, hQ _ s1.heap.objs.size out.toArray c _ (fun b u e => ?_) g1 o1 hz hc (by simpa using b1) b3 (pn.nodup_iff.mpr nd) (fun k => by rw [pn.mem_iff, ← hm k]) ?_⟩
  · have q := k1 b u e
    have hlt := Heap.lt_size q
    show (sortedHeap (s1.heap.push (seqObj "list" vs.toArray 0)) s1.heap.objs.size vs out.toArray).get? b = some u
    rw [sortedHeap_old (Nat.ne_of_lt hlt) (by rw [size_push']; exact Nat.lt_succ_of_lt hlt)]
    exact Heap.get?_push_of_some _ q
  · rw [pn.length_eq, List.length_map, Array.length_toList]; exact hn
end
/-! set(..) of texts; of whole numbers -/
section
variable {X : Cx}
theorem cr_setA (hc : X.calm = true) : CallR X (.type "set") (fun vs H Q => ∃ a : Addr, vs = [V.ref a] ∧
    ((∃ xs : List Str, (SqL X.K H a (xs.map V.str) ∨ SqT X.K H a (xs.map V.str)) ∧ xs.length < 4000 ∧ ∀ (l : List Str) (p : Addr), (∀ x, x ∈ l ↔ x ∈ xs) → l.length ≤ xs.length → H p = none → Q (.ref p) (upd H p (TSetO X.prog X.w p l))) ∨
     (∃ ns : List Int, (SqL X.K H a (ns.map V.int) ∨ SqT X.K H a (ns.map V.int)) ∧ ns.length < 4000 ∧ ∀ (c : Nat) (p : Addr), c ≤ ns.length → H p = none → Q (.ref p) (upd H p (SetO X.w p (fun j => decide (j ∈ ns)) c))))) := by
  intro pins s σ H vs us Q I r h
  obtain ⟨a, rfl, h⟩ := h
  rw [Vals.ref1 r]
  rcases h with ⟨xs, hs, hz, q⟩ | ⟨ns, hs, hz, q⟩
  · rcases hs with hs | hs
    · obtain ⟨its, rv, hl, _⟩ := I.list hs
      refine call_set_txt xs (I.ok.hd hc) hl.isList rv.strs (by unfold scanBound; omega) fun h' tk l' T hm hlen hk => ?_
      exact ⟨.ref _, upd H s.heap.objs.size (TSetO X.prog X.w s.heap.objs.size l'), I.laid (t' := tk) hk (Nat.le_refl _) (tsetO_new T), rfl, q l' _ hm hlen (I.hok.fresh (Nat.le_refl _))⟩
    · obtain ⟨its, rv, hl, _⟩ := I.tuple hs
      refine call_set_txtT xs (I.ok.hd hc) (show s.heap.IsTuple a its.toArray from hl) rv.strs (by unfold scanBound; omega) fun h' tk l' T hm hlen hk => ?_
      exact ⟨.ref _, upd H s.heap.objs.size (TSetO X.prog X.w s.heap.objs.size l'), I.laid (t' := tk) hk (Nat.le_refl _) (tsetO_new T), rfl, q l' _ hm hlen (I.hok.fresh (Nat.le_refl _))⟩
  · rcases hs with hs | hs
    · obtain ⟨its, rv, hl, _⟩ := I.list hs
      refine call_set_intL ns (I.ok.hd hc) hl.isList rv.ints (by unfold scanBound; omega) fun h' tk c R hcn hk => ?_
      exact ⟨.ref _, upd H s.heap.objs.size (SetO X.w s.heap.objs.size (fun j => decide (j ∈ ns)) c), I.laid (t' := tk) hk (Nat.le_refl _) (setO_new R), rfl, q c _ hcn (I.hok.fresh (Nat.le_refl _))⟩
    · obtain ⟨its, rv, hl, _⟩ := I.tuple hs
      refine call_set_tupI ns (I.ok.hd hc) (show s.heap.IsTuple a its.toArray from hl) rv.ints (by unfold scanBound; omega) fun h' tk c R hcn hk => ?_
      exact ⟨.ref _, upd H s.heap.objs.size (SetO X.w s.heap.objs.size (fun j => decide (j ∈ ns)) c), I.laid (t' := tk) hk (Nat.le_refl _) (setO_new R), rfl, q c _ hcn (I.hok.fresh (Nat.le_refl _))⟩
theorem cr_sortedA (hc : X.calm = true) : CallR X (.builtin "sorted") (fun vs H Q => ∃ a : Addr, vs = [V.ref a] ∧
    ((∃ l : List Str, H a = some (TSetO X.prog X.w a l) ∧ l.length < 4000 ∧ ∀ (ys : List Str) (p : Addr), sortedS ys = true → (∀ x, x ∈ ys ↔ x ∈ l) → ys.length = l.length → ys.Nodup → H p = none → Q (.ref p) (upd H p (.lst (ys.map V.str)))) ∨
     (∃ (S : Int → Bool) (n : Nat), H a = some (SetO X.w a S n) ∧ n < 4000 ∧ ∀ (ns : List Int) (p : Addr), ns.Pairwise (· ≤ ·) → ns.Nodup → (∀ k : Int, k ∈ ns ↔ S k = true) → H p = none → Q (.ref p) (upd H p (.lst (ns.map V.int)))))) := by
  intro pins s σ H vs us Q I r h
  obtain ⟨a, rfl, h⟩ := h
  rcases h with ⟨l, h1, h2, h3⟩ | ⟨S, n, ha, hz, q⟩
  · exact cr_sortedT hc pins s σ H _ us Q I r ⟨a, l, rfl, h1, h2, h3⟩
  · have R := setO_get I ha
    rw [Vals.ref1 r]
    refine sorted_setI R (I.ok.hd hc) hz fun s' p out c ns k g o hp hg hi hs hnd hm hl => ?_
    have hlen : (ns.map V.int).length ≤ sizeLine := by rw [List.length_map, hl, sizeLine_eq]; omega
    have hn : H p = none := I.hok.fresh hp
    have J : Inv X pins σ (upd H p (.lst (ns.map V.int))) { s with heap := s'.heap, gens := s'.gens, drawn := s'.drawn, toks := s'.toks } :=
      I.call (ch := []) (Un.laid k hp hn) (I.hok.laid k hp ⟨hlen, out.toList, c, vals_of_ints hi, hg⟩) (by rw [g]; exact I.bare) (fun _ z => nomatch z)
    have e : s' = { s with heap := s'.heap, gens := s'.gens, drawn := s'.drawn, toks := s'.toks } := by
      cases s'
      cases s
      cases o
      rfl
    rw [e]
    exact ⟨.ref p, _, J, rfl, q ns p hs hnd hm hn⟩
end
/-! whole numbers, each once, ascending -/
def insI (x : Int) : List Int → List Int
  | [] => [x]
  | y :: ys => if x = y then y :: ys else if x < y then x :: y :: ys else y :: insI x ys
def sortSetI (xs : List Int) : List Int := xs.foldr insI []
theorem insI_mem {x y : Int} : ∀ {l : List Int}, y ∈ insI x l ↔ y = x ∨ y ∈ l
  | [] => by simp [insI]
  | z :: r => by
    unfold insI
    split
    · rename_i e; subst e; simp
    · split
      · simp
      · simp [insI_mem (l := r)]
        constructor
        · rintro (h | h | h) <;> simp [h]
        · rintro (h | h | h) <;> simp [h]
theorem sortSetI_mem {y : Int} : ∀ {l : List Int}, y ∈ sortSetI l ↔ y ∈ l
  | [] => by simp [sortSetI]
  | x :: r => by
    show y ∈ insI x (sortSetI r) ↔ _
    rw [insI_mem, sortSetI_mem (l := r)]
    simp
theorem insI_strict {x : Int} : ∀ {l : List Int}, l.Pairwise (· < ·) → (insI x l).Pairwise (· < ·)
  | [], _ => List.pairwise_singleton _ _
  | z :: r, h => by
    obtain ⟨h1, h2⟩ := List.pairwise_cons.mp h
    unfold insI
    split
    · exact h
    · split
      · refine List.pairwise_cons.mpr ⟨fun y hy => ?_, h⟩
        rcases List.mem_cons.mp hy with e | hy
        · omega
        · have := h1 y hy; omega
      · refine List.pairwise_cons.mpr ⟨fun y hy => ?_, insI_strict h2⟩
        rcases insI_mem.mp hy with e | hy
        · omega
        · exact h1 y hy
theorem sortSetI_strict : ∀ l : List Int, (sortSetI l).Pairwise (· < ·)
  | [] => List.Pairwise.nil
  | x :: r => insI_strict (sortSetI_strict r)
theorem strictI_unique : ∀ {a b : List Int}, a.Pairwise (· < ·) → b.Pairwise (· < ·) → (∀ x, x ∈ a ↔ x ∈ b) → a = b
  | [], [], _, _, _ => rfl
  | [], y :: b, _, _, h => by have := (h y).mpr List.mem_cons_self; cases this
  | x :: a, [], _, _, h => by have := (h x).mp List.mem_cons_self; cases this
  | x :: a, y :: b, ha, hb, h => by
    obtain ⟨a1, a2⟩ := List.pairwise_cons.mp ha
    obtain ⟨b1, b2⟩ := List.pairwise_cons.mp hb
    have exy : x = y := by
      rcases List.mem_cons.mp ((h x).mp List.mem_cons_self) with e | m
      · exact e
      · rcases List.mem_cons.mp ((h y).mpr List.mem_cons_self) with e | m2
        · exact e.symm
        · have := b1 x m; have := a1 y m2; omega
    subst exy
    congr 1
    refine strictI_unique a2 b2 fun z => ?_
    constructor
    · intro hz
      rcases List.mem_cons.mp ((h z).mp (List.mem_cons_of_mem _ hz)) with e | m
      · have := a1 z hz; omega
      · exact m
    · intro hz
      rcases List.mem_cons.mp ((h z).mpr (List.mem_cons_of_mem _ hz)) with e | m
      · have := b1 z hz; omega
      · exact m
theorem pairI_lt {l : List Int} (h : l.Pairwise (· ≤ ·)) (n : l.Nodup) : l.Pairwise (· < ·) := by
  refine List.Pairwise.imp (R := fun a b => a ≤ b ∧ a ≠ b) (fun h => by omega) (List.Pairwise.and h n)
theorem ints_repI {K : PySem.W.Frag} {M : Mp} {H : Hp} : ∀ {us : List Int} {vs : List V}, RepVs K M H (us.map .int) vs → vs = us.map V.int
  | [], _, h => h.nil_inv
  | u :: us, _, h => by
    obtain ⟨v, r, e, h1, h2⟩ := h.uncons
    rw [e, rep_int h1, ints_repI h2]
    rfl
theorem strs_repA {K : PySem.W.Frag} {M : Mp} {H : Hp} : ∀ {us : List Str} {vs : List V}, RepVs K M H (us.map .str) vs → vs = us.map V.str
  | [], _, h => h.nil_inv
  | u :: us, _, h => by
    obtain ⟨v, r, e, h1, h2⟩ := h.uncons
    rw [e, rep_str h1, strs_repA h2]
    rfl
def wSortSetA (te : WE) : WE := fun su M R => te su M fun u M1 => (∃ xs : List Str, seqOf M1 u = some (xs.map .str) ∧ xs.length < 4000 ∧ R (.lst ((sortSetS xs).map .str)) M1) ∨ ∃ xs : List Int, seqOf M1 u = some (xs.map .int) ∧ xs.length < 4000 ∧ R (.lst ((sortSetI xs).map .int)) M1
@[simp] theorem wSortSetA_ {te : WE} {su : Sg} {M : Mp} {R : UK} : wSortSetA te su M R = te su M fun u M1 => (∃ xs : List Str, seqOf M1 u = some (xs.map .str) ∧ xs.length < 4000 ∧ R (.lst ((sortSetS xs).map .str)) M1) ∨ ∃ xs : List Int, seqOf M1 u = some (xs.map .int) ∧ xs.length < 4000 ∧ R (.lst ((sortSetI xs).map .int)) M1 := rfl
section
variable {X : Cx} {P : Program} {w : World} {K : PySem.W.Frag} {mg : Str → Option Value} {base : Heap} {k : Nat} {N : List Str} {S : Scope} {g : Gd} {e a : Expr} {te : WE} {tr : WA} {p p2 pos pos2 : Pos}
theorem k_sortSetA (W : Wk X P w K mg base k N S) (hc : X.calm = true) (hm : mg "sorted" = none) (hm2 : mg "set" = none) (h1 : glB S "sorted" = true) (h2 : glB S "set" = true) (ha : JE X g e te)
    (hs : starEach [e] X.env = (false, eval e X.env) :: starEach [] X.env) (hs2 : starEach [.Call (.Name "set" p2) [e] [] pos2] X.env = (false, eval (.Call (.Name "set" p2) [e] [] pos2) X.env) :: starEach [] X.env)
    (hp : (backTo pos (starEach [] X.env)).any (·.1) = false) (hp2 : (backTo pos2 (starEach [] X.env)).any (·.1) = false) :
    JE X g (.Call (.Name "sorted" p) [.Call (.Name "set" p2) [e] [] pos2] [] pos) (wSortSetA te) := by
  obtain ⟨q1, q2⟩ := W.gl h1
  obtain ⟨q3, q4⟩ := W.gl h2
  have inner := L2.pe_callTy (p := p2) (cr_setA hc) q3 (by rw [W.mg]; exact hm2) boot_ty_set (L2.pa_cons ha L2.pa_nil hs) (by decide) q4 hs hp2
  have outer := L2.pe_callB (p := p) (cr_sortedA hc) q1 (by rw [W.mg]; exact hm) boot_fn_sorted (L2.pa_cons inner L2.pa_nil hs2) (by decide) q2 hs2 hp
  refine pe_imp outer fun σ H Q ⟨su, M, R, at0, h, c⟩ => ?_
  refine ⟨su, M, _, at0, h, fun u M1 v H1 q s1 d1 r1 => ?_⟩
  rcases q with ⟨xs, e, hz, q⟩ | ⟨xs, e, hz, q⟩
  · obtain ⟨a1, vs, rfl, sq, t⟩ := seqOf_rep d1 r1 e
    rw [strs_repA t] at sq
    refine ⟨a1, rfl, .inl ⟨xs, sq, hz, fun l p hm hl hp => ⟨p, rfl, .inl ⟨l, upd_same, by omega, fun ys p2 k1 k2 _ k4 hp2 => ?_⟩⟩⟩⟩
    have e2 : ys = sortSetS xs := strict_unique (sortedS_strict k4 k1) (sortSet_strict xs) fun x => by rw [sortSet_mem]; exact (k2 x).trans (hm x)
    subst e2
    exact c.at_ q (s1.trans ((Stp.new d1 hp).trans (Stp.new (d1.new hp) hp2))) ((d1.new hp).new hp2) (new_lst (d1.new hp) hp2 (reps_of_strs _))
  · obtain ⟨a1, vs, rfl, sq, t⟩ := seqOf_rep d1 r1 e
    rw [ints_repI t] at sq
    refine ⟨a1, rfl, .inr ⟨xs, sq, hz, fun n p hl hp => ⟨p, rfl, .inr ⟨_, n, upd_same, by omega, fun ys p2 k1 k4 k2 hp2 => ?_⟩⟩⟩⟩
    have e2 : ys = sortSetI xs := strictI_unique (pairI_lt k1 k4) (sortSetI_strict xs) fun x => by rw [sortSetI_mem, k2 x, decide_eq_true_eq]
    subst e2
    exact c.at_ q (s1.trans ((Stp.new d1 hp).trans (Stp.new (d1.new hp) hp2))) ((d1.new hp).new hp2) (new_lst (d1.new hp) hp2 (reps_of_ints _))
end
end Pu

/-! Pu, part 22: written values, told at once. -/
namespace Pu
open PySem PySem.Spec PyProof.Rows L2
def Pur (t : WE) (v : U) : Prop := ∀ su M (R : UK), R v M → t su M R
def PurA (t : WA) (vs : List U) : Prop := ∀ su M (R : List U → Mp → Prop), R vs M → t su M R
theorem pur_c {u : U} : Pur (wC u) u := fun _ _ _ h => h
theorem purA_nil : PurA wNil [] := fun _ _ _ h => h
theorem purA_cons {t : WE} {tr : WA} {v : U} {vs : List U} (h : Pur t v) (r : PurA tr vs) : PurA (wCons t tr) (v :: vs) := fun su M R q => h su M _ (r su M _ q)
theorem pur_tup {tr : WA} {vs : List U} (h : PurA tr vs) (hl : vs.length ≤ 1000) : Pur (wTup tr) (.tup vs) := fun su M R q => h su M _ ⟨by rw [sizeLine_eq]; omega, q⟩
theorem pur_lst {tr : WA} {vs : List U} (h : PurA tr vs) (hl : vs.length ≤ 1000) : Pur (wLst tr) (.lst vs) := fun su M R q => h su M _ ⟨by rw [sizeLine_eq]; omega, q⟩
end Pu
namespace Pu
theorem pur_goal {t : WA} {vs vs' : List U} (h : PurA t vs) (e : vs = vs') : PurA t vs' := e ▸ h
end Pu
namespace Pu
open PySem PySem.Spec PyProof.Rows L2
theorem j_pur {X : Cx} {g : Gd} {e : Expr} {t : WE} {v : U} (h : JE X g e t) (p : Pur t v) : JE X g e (wC v) :=
  pe_imp h fun σ H Q ⟨su, M, R, a, q, c⟩ => ⟨su, M, R, a, p su M R q, c⟩
end Pu

/-! Pu, part 23: one statement after another, what follows kept closed. -/
namespace Pu
open PySem PySem.Spec PyProof.Rows L2
theorem seq_gen {t u : WS} {D : UEnds} {su : Sg} {M : Mp} (h : ∀ D' : UEnds, (∀ s m, u D s m → D'.nx s m) → (∀ x m, D.rt x m → D'.rt x m) → (∀ s m, D.bk s m → D'.bk s m) → (∀ s m, D.ct s m → D'.ct s m) → t D' su M) : wSeq t u D su M :=
  h { D with nx := u D } (fun _ _ h => h) (fun _ _ h => h) (fun _ _ h => h) fun _ _ h => h
theorem for_gen {w : WI} {gt : WG} {tb : WS} {D : UEnds} {su : Sg} {M : Mp} (h : ∀ K : Sg → Mp → Prop, (∀ s m, D.nx s m → K s m) → wFor w gt tb { D with nx := K } su M) : wFor w gt tb D su M := h _ fun _ _ h => h
end Pu

/-! Pu, part 24: lists that only a property tells (hid): draws. -/
namespace Pu
open PySem PySem.Spec PyProof.Rows L2
section
variable {P : Program} {w : World} {K : PySem.W.Frag} {mg : Str → Option Value} {base : Heap} {k : Nat} {x : Str} {st : Stmt} {ps : List Str}
/-- another promise, about other handles of the same heap -/
theorem FnV.abs {sp sp' : USp} (F : FnV P w K mg base k x st ps sp) (h : ∀ us M R E H, RepM K M H → sp' us M R E → ∃ M1 R1, RepM K M1 H ∧ Stp M H M1 H ∧ sp us M1 R1 (fun _ _ => False) ∧
    ∀ u M1' H', R1 u M1' → RepM K M1' H' → ∃ M', RepM K M' H' ∧ Stp M1' H' M' H' ∧ R u M') : FnV P w K mg base k x st ps sp' := by
  have key : ∀ vs H Q E, liftSp K mg sp' vs H Q E → liftSp K mg sp vs H Q E := by
    rintro vs H Q E ⟨us, M, R, Ru, r, d, q, c, _⟩
    obtain ⟨M1, R1, d1, s1, q1, back⟩ := h us M R Ru H d q
    refine ⟨us, M1, R1, fun _ _ => False, RepVs.step s1 _ _ r, d1, q1, ?_, fun _ _ _ _ _ z => z.elim⟩
    intro u M1' v H' qr s2 d2 r2
    obtain ⟨M', d3, s3, q3⟩ := back u M1' H' qr d2
    exact c u M' v H' q3 ((s1.trans s2).trans s3) d3 (r2.step s3)
  obtain ⟨f, fd, F, r⟩ := F.ex
  exact ⟨f, fd, F.imp key, r⟩
variable {M : Mp} {H : Hp} {a : Addr} {us : List U} {vs : List V} {Q : List V → Prop}
theorem RepM.conc (r : RepM K M H) (m : M a = some (.hid Q)) (e : H a = some (.lst vs)) (t : ∀ M', RepVs K M' H us vs) : RepM K (put M a (.lst us)) H ∧ Stp M H (put M a (.lst us)) H := by
  have s2 : Stp M H (put M a (.lst us)) H := fun c o h1 h2 => ⟨h1, by rw [put_ne (fun z => by rw [z, m] at h2; cases h2)]; exact h2⟩
  refine ⟨fun c o ec => ?_, s2⟩
  by_cases hc : c = a
  · subst hc
    rw [put_same] at ec; cases ec
    exact ⟨vs, e, t _⟩
  · rw [put_ne hc] at ec
    have q := r c o ec
    cases o with
    | lst us => obtain ⟨ws, q, t⟩ := q; exact ⟨ws, q, RepVs.step s2 _ _ t⟩
    | dct ks us => obtain ⟨ws, q, l, t⟩ := q; exact ⟨ws, q, l, RepVs.step s2 _ _ t⟩
    | hid P => exact q
theorem RepM.hide (r : RepM K M H) (m : M a = some (.lst us)) (h : ∀ vs, RepVs K M H us vs → Q vs) : RepM K (put M a (.hid Q)) H ∧ Stp M H (put M a (.hid Q)) H := by
  have s2 : Stp M H (put M a (.hid Q)) H := fun c o h1 h2 => ⟨h1, by rw [put_ne (fun z => by rw [z, m] at h2; cases h2)]; exact h2⟩
  refine ⟨fun c o ec => ?_, s2⟩
  by_cases hc : c = a
  · subst hc
    rw [put_same] at ec; cases ec
    obtain ⟨ws, q, t⟩ := r c _ m
    exact ⟨ws, q, h ws t⟩
  · rw [put_ne hc] at ec
    have q := r c o ec
    cases o with
    | lst us => obtain ⟨ws, q, t⟩ := q; exact ⟨ws, q, RepVs.step s2 _ _ t⟩
    | dct ks us => obtain ⟨ws, q, l, t⟩ := q; exact ⟨ws, q, l, RepVs.step s2 _ _ t⟩
    | hid P => exact q
theorem cells_rep {ns : List Int} : ∀ {vs : List V}, RepVs K M H (ns.map U.int) vs → vs = ns.map V.int := by
  induction ns with
  | nil => intro vs h; exact h.nil_inv
  | cons n ns ih =>
    intro vs h
    obtain ⟨v, r, e, h1, h2⟩ := h.uncons
    rw [e, rep_int h1, ih h2]; rfl
end
/-! ### the draws' objects -/
/-- a list of at most n numbers -/
def cellsP (n : Nat) (vs : List V) : Prop := ∃ ns : List Int, ns.length ≤ n ∧ vs = ns.map V.int
/-- [cells at b, number, number] -/
def wellP (b : Addr) (vs : List V) : Prop := ∃ x s : Int, vs = [.ref b, .int x, .int s]
def Wl (M : Mp) (a b : Addr) : Prop := M a = some (.hid (wellP b)) ∧ M b = some (.hid (cellsP 63))
theorem Wl.ne {M : Mp} {a b : Addr} (h : Wl M a b) : a ≠ b := by
  intro e
  subst e
  have := h.1.symm.trans h.2
  simp only [Option.some.injEq, MO.hid.injEq] at this
  have q : cellsP 63 [] := ⟨[], by simp, rfl⟩
  rw [← this] at q
  obtain ⟨x, s, e⟩ := q
  cases e
theorem Wl.a {M : Mp} {a b : Addr} (h : Wl M a b) : M a ≠ none := by rw [h.1]; simp
theorem Wl.b {M : Mp} {a b : Addr} (h : Wl M a b) : M b ≠ none := by rw [h.2]; simp
theorem Wl.na {M : Mp} {a b p : Addr} (h : Wl M a b) (f : M p = none) : p ≠ a := fun e => h.a (e ▸ f)
theorem Wl.nb {M : Mp} {a b p : Addr} (h : Wl M a b) (f : M p = none) : p ≠ b := fun e => h.b (e ▸ f)
theorem Wl.of {M M' : Mp} {a b : Addr} (h : Wl M a b) (e : M' a = M a) (e' : M' b = M b) : Wl M' a b := ⟨e.trans h.1, e'.trans h.2⟩
theorem Wl.put {M : Mp} {a b p : Addr} {o : MO} (h : Wl M a b) (f : M p = none) : Wl (Pu.put M p o) a b := h.of (put_ne (Ne.symm (h.na f))) (put_ne (Ne.symm (h.nb f)))
/-- .. the handle p held a list -/
theorem Wl.putL {M : Mp} {a b p : Addr} {us : List U} {o : MO} (h : Wl M a b) (f : M p = some (.lst us)) : Wl (Pu.put M p o) a b :=
  h.of (put_ne (fun e => by have := h.1; rw [e, f] at this; cases this)) (put_ne (fun e => by have := h.2; rw [e, f] at this; cases this))
theorem Wl.less {M M' : Mp} {a b : Addr} (h : Wl M a b) (s : Fewer M M') : Wl M' a b := ⟨s _ _ h.1, s _ _ h.2⟩
/-- the draws' list of stir laws -/
def Dr (M : Mp) (a : Addr) : Prop := M a = some (.hid (cellsP 200000))
theorem Dr.a {M : Mp} {a : Addr} (h : Dr M a) : M a ≠ none := by rw [h]; simp
theorem Dr.na {M : Mp} {a p : Addr} (h : Dr M a) (f : M p = none) : p ≠ a := fun e => h.a (e ▸ f)
theorem Dr.put {M : Mp} {a p : Addr} {o : MO} (h : Dr M a) (f : M p = none) : Dr (Pu.put M p o) a := by unfold Dr; rw [put_ne (Ne.symm (h.na f))]; exact h
theorem Dr.putL {M : Mp} {a p : Addr} {us : List U} {o : MO} (h : Dr M a) (f : M p = some (.lst us)) : Dr (Pu.put M p o) a := by
  unfold Dr; rw [put_ne (fun e => by unfold Dr at h; rw [e, f] at h; cases h)]; exact h
/-- concrete: the same but at a and b -/
def Ow (a b : Addr) (M M' : Mp) : Prop := ∀ c, c ≠ a → c ≠ b → M' c = M c
theorem Ow.refl (a b : Addr) (M : Mp) : Ow a b M M := fun _ _ _ => rfl
theorem Ow.trans {a b : Addr} {M M1 M2 : Mp} (h : Ow a b M M1) (k : Ow a b M1 M2) : Ow a b M M2 := fun c h1 h2 => (k c h1 h2).trans (h c h1 h2)
theorem Ow.putA {a b : Addr} {M : Mp} {o : MO} : Ow a b M (Pu.put M a o) := fun c h1 _ => put_ne h1
theorem Ow.putB {a b : Addr} {M : Mp} {o : MO} : Ow a b M (Pu.put M b o) := fun c _ h2 => put_ne h2
/-- concrete: the well at a, its cells at b -/
def Wl0 (M : Mp) (a b : Addr) : Prop := ∃ (cs : List Int) (x s : Int), M a = some (.lst [.ref b, .int x, .int s]) ∧ M b = some (.lst (cs.map .int)) ∧ cs.length ≤ 63
theorem Wl0.ne {M : Mp} {a b : Addr} (h : Wl0 M a b) : a ≠ b := by
  obtain ⟨cs, x, s, h1, h2, _⟩ := h
  intro e
  subst e
  rw [h1] at h2
  cases cs <;> simp at h2
section
variable {K : PySem.W.Frag} {M : Mp} {H : Hp}
theorem Wl.open_ {a b : Addr} (r : RepM K M H) (h : Wl M a b) : ∃ M1, Wl0 M1 a b ∧ RepM K M1 H ∧ Stp M H M1 H ∧ Ow a b M M1 := by
  obtain ⟨vs, e1, x, s, rfl⟩ := r a _ h.1
  obtain ⟨ws, e2, ns, hl, rfl⟩ := r b _ h.2
  have hab := h.ne
  obtain ⟨r1, s1⟩ := r.conc h.1 e1 (us := [.ref b, .int x, .int s]) fun M' => .cons (by unfold RepV; rfl) (.cons mk_int (.cons mk_int .nil))
  obtain ⟨r2, s2⟩ := r1.conc (Q := cellsP 63) (by rw [put_ne (Ne.symm hab)]; exact h.2) e2 (us := ns.map .int) fun M' => reps_of_intsK ns
  exact ⟨_, ⟨ns, x, s, by rw [put_ne hab, put_same], put_same, hl⟩, r2, s1.trans s2, Ow.trans .putA .putB⟩
theorem Wl0.close {a b : Addr} (r : RepM K M H) (h : Wl0 M a b) : RepM K (Pu.put (Pu.put M a (.hid (wellP b))) b (.hid (cellsP 63))) H ∧ Stp M H (Pu.put (Pu.put M a (.hid (wellP b))) b (.hid (cellsP 63))) H := by
  have hab := h.ne
  obtain ⟨cs, x, s, h1, h2, hl⟩ := h
  obtain ⟨r1, s1⟩ := r.hide h1 (Q := wellP b) fun vs t => by
    obtain ⟨v, q, e, k1, k2⟩ := t.uncons
    obtain ⟨v2, q2, e2, k3, k4⟩ := k2.uncons
    obtain ⟨v3, q3, e3, k5, k6⟩ := k4.uncons
    rw [k6.nil_inv] at e3
    subst e3 e2 e
    exact ⟨x, s, by rw [rep_ref k1, rep_int k3, rep_int k5]⟩
  obtain ⟨r2, s2⟩ := r1.hide (us := cs.map .int) (by rw [put_ne (Ne.symm hab)]; exact h2) (Q := cellsP 63) fun vs t => ⟨cs, hl, cells_rep t⟩
  exact ⟨r2, s1.trans s2⟩
theorem Wl.back {a b : Addr} {M1 : Mp} (h : Wl M a b) (ho : Ow a b M M1) : Pu.put (Pu.put M1 a (.hid (wellP b))) b (.hid (cellsP 63)) = M := by
  funext c
  by_cases hb : c = b
  · subst hb; rw [put_same, h.2]
  · rw [put_ne hb]
    by_cases ha : c = a
    · subst ha; rw [put_same, h.1]
    · rw [put_ne ha]; exact ho c ha hb
/-- the draws, told -/
theorem Dr.open_ {a : Addr} (r : RepM K M H) (h : Dr M a) : ∃ ns : List Int, ns.length ≤ 200000 ∧ RepM K (Pu.put M a (.lst (ns.map .int))) H ∧ Stp M H (Pu.put M a (.lst (ns.map .int))) H := by
  obtain ⟨ws, e2, ns, hl, rfl⟩ := r a _ h
  exact ⟨ns, hl, r.conc h e2 (us := ns.map .int) fun M' => reps_of_intsK ns⟩
theorem Dr.close {a : Addr} {ns : List Int} (r : RepM K M H) (h : M a = some (.lst (ns.map .int))) (hl : ns.length ≤ 200000) : RepM K (Pu.put M a (.hid (cellsP 200000))) H ∧ Stp M H (Pu.put M a (.hid (cellsP 200000))) H :=
  r.hide h fun vs t => ⟨ns, hl, cells_rep t⟩
end
/-! ### comprehensions whose items are drawn -/
theorem compU_any {D : Addr} {keep : Mp → Prop} {gt : WG} {te : WE} {su1 : Sg} {M : Mp} (hk : ∀ acc, keep (Pu.put M D (.lst acc))) {Q : U → Prop} : ∀ (us acc : List U) (R : List U → Mp → Prop),
    (∀ x ∈ us, ∀ a (R : UK), (∀ y, Q y → R y (Pu.put M D (.lst a))) → gt x su1 (Pu.put M D (.lst a)) fun su2 M1 => te su2 M1 R) → acc.length + us.length ≤ sizeLine → (∀ vs, (∀ v ∈ vs, Q v) → vs.length = us.length → R (acc ++ vs) (Pu.put M D (.lst (acc ++ vs)))) → compU D keep gt wYes te su1 us (Pu.put M D (.lst acc)) R
  | [], acc, R, _, _, q => ⟨acc, put_same, by simpa using q [] (by simp) rfl⟩
  | x :: r, acc, R, h, hz, q => by
    unfold compU
    refine h x List.mem_cons_self acc (fun y M1 => ∃ acc, M1 D = some (.lst acc) ∧ acc.length < sizeLine ∧ keep (Pu.put M1 D (.lst (acc ++ [y]))) ∧ compU D keep gt wYes te su1 r (Pu.put M1 D (.lst (acc ++ [y]))) R) fun y hy => ⟨acc, put_same, by simp at hz; omega, ?_, ?_⟩
    · rw [put_put]; exact hk _
    · rw [put_put]
      refine compU_any hk r (acc ++ [y]) R (fun y hy => h y (List.mem_cons_of_mem _ hy)) (by simp at hz ⊢; omega) fun vs h1 h2 => ?_
      have := q (y :: vs) (fun v hv => by rcases List.mem_cons.mp hv with e | hv; · subst e; exact hy
                                          · exact h1 v hv) (by simp [h2])
      simpa using this
theorem comp_any {gt : WG} {te : WE} {su1 : Sg} {M : Mp} {us : List U} {R : UK} {Q : U → Prop} (hz : us.length ≤ sizeLine)
    (h : ∀ x ∈ us, ∀ D a (R : UK), M D = none → (∀ y, Q y → R y (Pu.put M D (.lst a))) → gt x su1 (Pu.put M D (.lst a)) fun su2 M1 => te su2 M1 R) (q : ∀ vs, (∀ v ∈ vs, Q v) → vs.length = us.length → R (.lst vs) M) : CompG false Any gt wYes te su1 us M R := fun D hD =>
  ⟨trivial, compU_any (fun _ => trivial) us [] _ (fun x hx a R q => h x hx D a R hD q) (by simpa using hz) fun vs h1 h2 => by
    unfold compEnd
    rw [if_neg Bool.false_ne_true, List.nil_append, del_put hD]
    exact q vs h1 h2⟩
theorem comp_anyH {gt : WG} {te : WE} {su1 : Sg} {M : Mp} {us : List U} {R : UK} {Q : U → Prop} (hz : us.length ≤ sizeLine)
    (h : ∀ x ∈ us, ∀ D a (R : UK), M D = none → (∀ y, Q y → R y (Pu.put M D (.lst a))) → gt x su1 (Pu.put M D (.lst a)) fun su2 M1 => te su2 M1 R) (q : ∀ D vs, M D = none → (∀ v ∈ vs, Q v) → vs.length = us.length → R (.ref D) (Pu.put M D (.lst vs))) : CompG true Any gt wYes te su1 us M R := fun D hD =>
  ⟨trivial, compU_any (fun _ => trivial) us [] _ (fun x hx a R q => h x hx D a R hD q) (by simpa using hz) fun vs h1 h2 => by
    unfold compEnd
    rw [if_pos rfl, List.nil_append]
    exact q D vs hD h1 h2⟩
theorem Fin.back {R : UK} {u : U} {M : Mp} {p : Addr} {o : MO} (h : M p = none) (q : R u M) : Fin R u (Pu.put M p o) := .less (.ofPut h) q
theorem Fewer.put2 {M : Mp} {p q : Addr} {o o' : MO} (h : M p = none) (h' : M q = none) : Fewer M (Pu.put (Pu.put M p o) q o') := fun a u e => by
  have h1 : a ≠ p := fun z => by rw [z, h] at e; cases e
  have h2 : a ≠ q := fun z => by rw [z, h'] at e; cases e
  rw [put_ne h2, put_ne h1]; exact e
end Pu

/-! Pu, part 25: comprehensions with two clauses; dict(pairs), d.get(k, x). -/
namespace Pu
open PySem PySem.Spec PyProof.Rows L2
/-- the inner loop: items are put behind the list at D -/
def compV (D : Addr) (keep : Mp → Prop) (gt : WG) (tc : WT) (te : WE) (su1 : Sg) : List U → Mp → (Mp → Prop) → Prop
  | [], M, R => R M
  | u :: r, M, R => gt u su1 M fun su2 M1 => tc su2 M1 fun k M2 => if k = true then te su2 M2 fun y M3 => ∃ acc, M3 D = some (.lst acc) ∧ acc.length < sizeLine ∧ keep (put M3 D (.lst (acc ++ [y]))) ∧
      compV D keep gt tc te su1 r (put M3 D (.lst (acc ++ [y]))) R
    else keep M2 ∧ compV D keep gt tc te su1 r M2 R
def compU2 (D : Addr) (keep : Mp → Prop) (gt : WG) (tc : WT) (w1 : WI) (gt1 : WG) (tc1 : WT) (te : WE) (vs1 : List Nat) (su1 : Sg) : List U → Mp → (List U → Mp → Prop) → Prop
  | [], M, R => ∃ acc, M D = some (.lst acc) ∧ R acc M
  | u :: r, M, R => gt u su1 M fun su2 M1 => tc su2 M1 fun k M2 => if k = true then w1 su2 M2 fun us1 keep1 M3 => compV D keep1 gt1 tc1 te (wipeU su2 vs1) us1 M3 fun M4 => keep M4 ∧ compU2 D keep gt tc w1 gt1 tc1 te vs1 su1 r M4 R
    else keep M2 ∧ compU2 D keep gt tc w1 gt1 tc1 te vs1 su1 r M2 R
def wComp2 (hd : Bool) (w : WI) (gt : WG) (tc : WT) (w1 : WI) (gt1 : WG) (tc1 : WT) (te : WE) (vs vs1 : List Nat) : WE := fun su M R => w su M fun us keep M1 => ∀ D, M1 D = none → keep (put M1 D (.lst [])) ∧
  compU2 D keep gt tc w1 gt1 tc1 te vs1 (wipeU su vs) us (put M1 D (.lst [])) (compEnd hd R D)
section
variable {X : Cx} {g : Gd} {tc tc1 : WT} {te : WE}
theorem compI2 {hh : Bool} {σ : Stt} {H : Hp} {Q : VK} {w w1 : WI} {gt gt1 : WG} {vs vs1 : List Nat} (h : liftE X.K g (wComp2 hh w gt tc w1 gt1 tc1 te vs vs1) σ H Q) :
    tLc2 (liftI X.K g w) (liftGo X.K g vs gt) (liftT X.K g tc) (liftI X.K g w1) (liftGo X.K g vs1 gt1) (liftT X.K g tc1) (liftE X.K g te) vs vs1 σ H Q := by
  obtain ⟨su, M, R, a, h, c⟩ := h
  refine ⟨su, M, _, a, h, fun us keep M1 H1 J q s1 d1 ok D hD => ?_⟩
  have a1 := a.go s1 d1
  obtain ⟨kp, q⟩ := q D (d1.free hD)
  have sD : Stp M1 H1 (put M1 D (.lst [])) (upd H1 D (.lst [])) := Stp.newH hD
  have dD : RepM X.K (put M1 D (.lst [])) (upd H1 D (.lst [])) := d1.putL sD .nil
  let P : Nat → Hp → Prop := fun i H' => ∃ M', Stp M1 H1 M' H' ∧ RepM X.K M' H' ∧ keep M' ∧ compU2 D keep gt tc w1 gt1 tc1 te vs1 (wipeU su vs) (us.drop i) M' (compEnd hh R D)
  refine ⟨fun i m H' => m = us.length - i ∧ i ≤ us.length ∧ P i H', ⟨us.length, by simp, Nat.zero_le _, _, sD, dD, kp, q⟩, ?_⟩
  rintro i m H2 ⟨rfl, hi, M2, s2, d2, k2, q2⟩
  have o2 := ok.2 i M2 H2 s2 d2 k2
  cases e : us[i]? with
  | none =>
    have hl : us.length ≤ i := List.getElem?_eq_none_iff.mp e
    rw [List.drop_eq_nil_of_le hl] at q2
    obtain ⟨acc, hm, q2⟩ := q2
    refine .inl ⟨o2.2 hl, ?_⟩
    obtain ⟨ws, hH, rw⟩ := d2 D _ hm
    have s3 : Stp M2 H2 (del M2 D) H2 := Fewer.ofDel.stp H2
    unfold compEnd at q2
    cases hh with
    | true =>
      rw [if_pos rfl] at q2
      exact c _ _ _ _ q2 (s1.trans s2) d2 mk_ref
    | false =>
    rw [if_neg Bool.false_ne_true] at q2
    exact c _ _ _ _ q2 ((s1.trans s2).trans s3) (Fewer.ofDel.repM d2) (mk_lst (.inl ⟨.inl hH, del_same⟩) (RepVs.step s3 _ _ rw))
  | some u =>
    have hlt : i < us.length := (List.getElem?_eq_some_iff.mp e).1
    rw [drop_at e] at q2
    obtain ⟨go, yl⟩ := o2.1 u e
    refine .inr ⟨go, fun H' => P (i + 1) H', fun H' h' => ⟨us.length - (i + 1), by omega, rfl, hlt, h'⟩, fun x H3 y => ?_⟩
    obtain ⟨s3, d3, r3⟩ := yl x H3 y
    have a3 : At X.K g (wipeU su vs) M2 (wipe σ vs) H3 := ⟨a1.st.trans (s2.trans s3), (a1.sl.step (s2.trans s3)).wipe vs, d3⟩
    refine ⟨u, _, M2, _, a3, r3, q2, fun su4 M4 σ4 H4 q4 s4 d4 r4 w4 => ⟨by rw [w4]; exact wipe_idem, su4, M4, _, ⟨a3.st.trans s4, r4, d4⟩, q4, fun k M5 H5 q5 s5 d5 => ?_⟩⟩
    have a4 : At X.K g su4 M5 σ4 H5 := ⟨(a3.st.trans s4).trans s5, r4.step s5, d5⟩
    have s15 : Stp M1 H1 M5 H5 := (((s2.trans s3)).trans s4).trans s5
    cases k with
    | true =>
      rw [if_pos rfl] at q5
      show if true = true then _ else _
      rw [if_pos rfl]
      refine ⟨su4, M5, _, a4, q5, fun us1 keep1 M6 H6 J1 q6 s6 d6 ok1 => ?_⟩
      have a6 := a4.go s6 d6
      have s16 := s15.trans s6
      refine ⟨fun j k H' => k = us1.length - j ∧ j ≤ us1.length ∧ ∃ M', Stp M6 H6 M' H' ∧ RepM X.K M' H' ∧ keep1 M' ∧ Stp M1 H1 M' H' ∧ compV D keep1 gt1 tc1 te (wipeU su4 vs1) (us1.drop j) M' (fun M4 => keep M4 ∧ compU2 D keep gt tc w1 gt1 tc1 te vs1 (wipeU su vs) (us.drop (i + 1)) M4 (compEnd hh R D)),
        ⟨us1.length, by simp, Nat.zero_le _, M6, Stp.refl _ _, d6, ok1.1, s16, q6⟩, ?_⟩
      rintro j k H7 ⟨rfl, hj, M7, s7, d7, k7, s17, q7⟩
      have o7 := ok1.2 j M7 H7 s7 d7 k7
      cases e1 : us1[j]? with
      | none =>
        have hl : us1.length ≤ j := List.getElem?_eq_none_iff.mp e1
        rw [List.drop_eq_nil_of_le hl] at q7
        exact .inl ⟨o7.2 hl, M7, s17, d7, q7.1, q7.2⟩
      | some u1 =>
        have hlt1 : j < us1.length := (List.getElem?_eq_some_iff.mp e1).1
        rw [drop_at e1] at q7
        obtain ⟨go1, yl1⟩ := o7.1 u1 e1
        refine .inr ⟨go1, fun H' => ∃ M', Stp M6 H6 M' H' ∧ RepM X.K M' H' ∧ keep1 M' ∧ Stp M1 H1 M' H' ∧ compV D keep1 gt1 tc1 te (wipeU su4 vs1) (us1.drop (j + 1)) M' (fun M4 => keep M4 ∧ compU2 D keep gt tc w1 gt1 tc1 te vs1 (wipeU su vs) (us.drop (i + 1)) M4 (compEnd hh R D)),
          fun H' h' => ⟨us1.length - (j + 1), by omega, rfl, hlt1, h'⟩, fun x1 H8 y1 => ?_⟩
        obtain ⟨s8, d8, r8⟩ := yl1 x1 H8 y1
        have a8 : At X.K g (wipeU su4 vs1) M7 (wipe σ4 vs1) H8 := ⟨a6.st.trans (s7.trans s8), (a6.sl.step (s7.trans s8)).wipe vs1, d8⟩
        refine ⟨u1, _, M7, _, a8, r8, q7, fun su9 M9 σ9 H9 q9 s9 d9 r9 w9 => ⟨by rw [w9]; exact wipe_idem, su9, M9, _, ⟨a8.st.trans s9, r9, d9⟩, q9, fun k M10 H10 q10 s10 d10 => ?_⟩⟩
        have a9 : At X.K g su9 M10 σ9 H10 := ⟨(a8.st.trans s9).trans s10, r9.step s10, d10⟩
        have s610 : Stp M6 H6 M10 H10 := ((s7.trans s8).trans s9).trans s10
        have s110 : Stp M1 H1 M10 H10 := ((s17.trans s8).trans s9).trans s10
        cases k with
        | true =>
          rw [if_pos rfl] at q10
          show if true = true then _ else _
          rw [if_pos rfl]
          refine ⟨su9, M10, _, a9, q10, fun y M11 v11 H11 ⟨acc, hm, hz, k11, q11⟩ s11 d11 r11 => ?_⟩
          obtain ⟨ws, hH, rw⟩ := d11 D _ hm
          have sx : Stp M11 H11 (put M11 D (.lst (acc ++ [y]))) (upd H11 D (.lst (ws ++ [v11]))) := Stp.chg hm
          exact ⟨ws, hH, by rw [← rw.length]; exact hz, _, (s610.trans s11).trans sx, d11.putL sx (rw.app (.cons r11 .nil)), k11, (s110.trans s11).chgD hD, q11⟩
        | false =>
          rw [if_neg Bool.false_ne_true] at q10
          show if false = true then _ else _
          rw [if_neg Bool.false_ne_true]
          exact ⟨M10, s610, d10, q10.1, s110, q10.2⟩
    | false =>
      rw [if_neg Bool.false_ne_true] at q5
      show if false = true then _ else _
      rw [if_neg Bool.false_ne_true]
      exact ⟨M5, s15, d5, q5.1, q5.2⟩
end
section
variable {X : Cx} {P : Program} {w : World} {K : PySem.W.Frag} {mg : Str → Option Value} {base : Heap} {k : Nat} {N : List Str} {S : Scope} {g : Gd} {tc tc1 : WT} {te : WE}
theorem k_comp2 (W : Wk X P w K mg base k N S) (hc : X.calm = true) (hh : Bool) {tg iter tg1 iter1 elt : Expr} {ifs ifs1 : List Expr} {scope : Scope} {pos : Pos} {ww w1 : WI} {gt gt1 : WG} (own : List (Str × Nat)) (vs1 : List Nat) (ok : blkB N S scope own = true) (hv : vs1.all (fun i => (own.map (·.2)).contains i) = true) (hi : JI X g tg iter ww)
    (hb : ∀ Y, Wk Y P w K mg base k N scope → Y.calm = true → JGo Y g (own.map (·.2)) tg gt ∧ JTs Y g ifs tc ∧ JI Y g tg1 iter1 w1 ∧ JGo Y g vs1 tg1 gt1 ∧ JTs Y g ifs1 tc1 ∧ JE Y g elt te) (hs : ∀ x, foldedSetIterable iter X.env x = pure x) (hs1 : ∀ env x, foldedSetIterable iter1 env x = pure x) :
    JE X g (.ListComp elt [⟨tg, iter, ifs, 0⟩, ⟨tg1, iter1, ifs1, 0⟩] scope pos) (wComp2 hh ww gt tc w1 gt1 tc1 te (own.map (·.2)) vs1) :=
  pe_imp (pe_lc2 (wi := liftI X.K g ww) (g := liftGo X.K g (own.map fun (x : Str × Nat) => x.2) gt) (tt := liftT X.K g tc) (wi1 := liftI X.K g w1) (g1 := liftGo X.K g vs1 gt1) (tt1 := liftT X.K g tc1) (te := liftE X.K g te) (own := own) hc W.nd hi (W.blkOk ok) (fun i hi => by have := List.all_eq_true.mp hv i hi; simpa using this) (fun s H C cl fp => (hb _ (W.blk ok s H C cl fp) hc).1) (fun s H C cl fp => (hb _ (W.blk ok s H C cl fp) hc).2.1)
    (fun s H C cl fp => (hb _ (W.blk ok s H C cl fp) hc).2.2.1) (fun s H C cl fp => (hb _ (W.blk ok s H C cl fp) hc).2.2.2.1) (fun s H C cl fp => (hb _ (W.blk ok s H C cl fp) hc).2.2.2.2.1) (fun s H C cl fp => (hb _ (W.blk ok s H C cl fp) hc).2.2.2.2.2) hs hs1) fun σ H Q h => compI2 h
end
/-- what it asks, its items told -/
def CompG2 (hh : Bool) (keep : Mp → Prop) (gt : WG) (tc : WT) (w1 : WI) (gt1 : WG) (tc1 : WT) (te : WE) (vs1 : List Nat) (su1 : Sg) (us : List U) (M : Mp) (R : UK) : Prop := ∀ D, M D = none → keep (put M D (.lst [])) ∧ compU2 D keep gt tc w1 gt1 tc1 te vs1 su1 us (put M D (.lst [])) (compEnd hh R D)
@[simp] theorem wComp2_ {hd : Bool} {w w1 : WI} {gt gt1 : WG} {tc tc1 : WT} {te : WE} {vs vs1 : List Nat} {su : Sg} {M : Mp} {R : UK} : wComp2 hd w gt tc w1 gt1 tc1 te vs vs1 su M R = w su M fun us keep M1 => CompG2 hd keep gt tc w1 gt1 tc1 te vs1 (wipeU su vs) us M1 R := rfl
/-- each item gives some items, in their order -/
theorem compV_any {D : Addr} {gt : WG} {te : WE} {su1 : Sg} {M : Mp} (f : U → U) : ∀ (us acc : List U) (R : Mp → Prop),
    (∀ x ∈ us, ∀ a (R : UK), R (f x) (put M D (.lst a)) → gt x su1 (put M D (.lst a)) fun su2 M1 => te su2 M1 R) → acc.length + us.length ≤ sizeLine → R (put M D (.lst (acc ++ us.map f))) → compV D Any gt wYes te su1 us (put M D (.lst acc)) R
  | [], acc, R, _, _, q => by show R _; simpa using q
  | x :: r, acc, R, h, hz, q => by
    unfold compV
    refine h x List.mem_cons_self acc (fun y M1 => ∃ acc, M1 D = some (.lst acc) ∧ acc.length < sizeLine ∧ Any (put M1 D (.lst (acc ++ [y]))) ∧ compV D Any gt wYes te su1 r (put M1 D (.lst (acc ++ [y]))) R) ⟨acc, put_same, by simp at hz; omega, trivial, ?_⟩
    rw [put_put]
    exact compV_any f r (acc ++ [f x]) R (fun y hy => h y (List.mem_cons_of_mem _ hy)) (by simp at hz ⊢; omega) (by simpa using q)
theorem compU2_flat {D : Addr} {gt gt1 : WG} {te : WE} {w1 : WI} {vs1 : List Nat} {su1 : Sg} {M : Mp} (F : U → List U) : ∀ (us acc : List U) (R : List U → Mp → Prop),
    (∀ x ∈ us, ∀ a (R : List U → (Mp → Prop) → Sg → Mp → Prop), (∀ su2, R (F x) Any su2 (put M D (.lst a))) → gt x su1 (put M D (.lst a)) fun su2 M1 => w1 su2 M1 fun us1 keep1 M3 => R us1 keep1 su2 M3) →
    (∀ (su2 : Sg) (y : U) a (R : UK), R y (put M D (.lst a)) → gt1 y (wipeU su2 vs1) (put M D (.lst a)) fun su3 M1 => te su3 M1 R) →
    acc.length + (us.flatMap F).length ≤ sizeLine → R (acc ++ us.flatMap F) (put M D (.lst (acc ++ us.flatMap F))) → compU2 D Any gt wYes w1 gt1 wYes te vs1 su1 us (put M D (.lst acc)) R
  | [], acc, R, _, _, _, q => ⟨acc, put_same, by simpa using q⟩
  | x :: r, acc, R, h, h1, hz, q => by
    unfold compU2
    rw [List.flatMap_cons, List.length_append] at hz
    refine h x List.mem_cons_self acc (fun us1 keep1 su2 M3 => compV D keep1 gt1 wYes te (wipeU su2 vs1) us1 M3 fun M4 => Any M4 ∧ compU2 D Any gt wYes w1 gt1 wYes te vs1 su1 r M4 R) fun su2 => ?_
    have := compV_any (D := D) (gt := gt1) (te := te) (su1 := wipeU su2 vs1) (M := M) id (F x) acc (fun M4 => Any M4 ∧ compU2 D Any gt wYes w1 gt1 wYes te vs1 su1 r M4 R) (fun y _ a R q => h1 su2 y a R q) (by omega) ⟨trivial, ?_⟩
    · exact this
    · rw [List.map_id]
      exact compU2_flat F r (acc ++ F x) R (fun y hy => h y (List.mem_cons_of_mem _ hy)) h1 (by rw [List.length_append]; omega) (by rw [List.flatMap_cons] at q; simpa using q)
/-- [y for x in us for y in F x] -/
theorem comp2_flat {gt gt1 : WG} {te : WE} {w1 : WI} {vs1 : List Nat} {su1 : Sg} {M : Mp} {us : List U} {R : UK} (F : U → List U) (hz : (us.flatMap F).length ≤ sizeLine)
    (h : ∀ x ∈ us, ∀ D a (R : List U → (Mp → Prop) → Sg → Mp → Prop), M D = none → (∀ su2, R (F x) Any su2 (put M D (.lst a))) → gt x su1 (put M D (.lst a)) fun su2 M1 => w1 su2 M1 fun us1 keep1 M3 => R us1 keep1 su2 M3)
    (h1 : ∀ (su2 : Sg) (y : U) (M' : Mp) (R : UK), R y M' → gt1 y (wipeU su2 vs1) M' fun su3 M1 => te su3 M1 R) (q : R (.lst (us.flatMap F)) M) : CompG2 false Any gt wYes w1 gt1 wYes te vs1 su1 us M R := fun D hD =>
  ⟨trivial, compU2_flat F us [] _ (fun x hx a R r => h x hx D a R hD r) (fun su2 y a R q => h1 su2 y _ R q) (by simpa using hz) (by
    unfold compEnd
    rw [if_neg Bool.false_ne_true, del_put hD]
    simpa using q)⟩
/-! ### dict(pairs) -/
theorem FzT.plain {X : Cx} {pins : List (Addr × Obj)} {s : Shared} {σ : Stt} {H : Hp} {M : Mp} {a : Addr} {vs : List V} (I : Inv X pins σ H s) (f : FzT X.K M H a vs) : ∃ its : List Value, Vals vs its ∧ PySem.PlainSeq "tuple" s.heap a its.toArray ∧ vs.length ≤ sizeLine := by
  obtain ⟨its, r, ⟨o', ho', hc, n, hd⟩, hz⟩ := I.tuple f.sq
  refine ⟨its, r, ⟨o', n, ho', hc, ?_, hd⟩, hz⟩
  rcases f with ⟨⟨o, e, hdd⟩, _⟩ | ⟨o, its', n', h1, h2, hdd, h3, h4, h5⟩
  · obtain ⟨hg, _⟩ := I.hok a _ e
    rw [ho'] at hg
    cases hg
    exact hdd
  · have := I.kIn a o h1
    rw [ho'] at this
    cases this
    exact hdd
theorem mergeK_nodup : ∀ (kvs acc : List (Key × V)), ((acc ++ kvs).map (·.1)).Nodup → mergeK acc kvs = acc ++ kvs
  | [], acc, _ => by simp [mergeK]
  | p :: r, acc, h => by
    have e : putK acc p.1 p.2 = acc ++ [p] := by
      unfold putK
      rw [if_neg]
      simp only [List.any_eq_true, decide_eq_true_eq, not_exists, not_and]
      intro x hx e
      rw [List.map_append, List.nodup_append] at h
      exact h.2.2 x.1 (List.mem_map.mpr ⟨x, hx, rfl⟩) p.1 (by simp) e
    show mergeK (putK acc p.1 p.2) r = _
    rw [e, mergeK_nodup r (acc ++ [p]) (by simpa using h)]
    simp
/-- dict(t) of a tuple of pairs (key, value), no key twice -/
def keyU : Key → U
  | .inl i => .int i
  | .inr x => .str x
theorem keyU_rep {K : PySem.W.Frag} {M : Mp} {H : Hp} {k : Key} {v : V} (r : RepV K M H (keyU k) v) : v = kV k := by
  cases k with
  | inl i => rw [rep_int r]; rfl
  | inr x => rw [rep_str r]; rfl
def uDictT : OC := fun us M R => ∃ (ks : List Key) (xs : List U), ks.length = xs.length ∧ us = [.tup ((ks.zip xs).map fun p => .tup [keyU p.1, p.2])] ∧ ks.Nodup ∧ R (.dct ks xs) M
theorem pairs_rep {X : Cx} {M : Mp} {H : Hp} : ∀ {ks : List Key} {xs : List U} {vs : List V}, ks.length = xs.length → RepVs X.K M H ((ks.zip xs).map fun p => .tup [keyU p.1, p.2]) vs →
    ∃ (ps : List Addr) (ws : List V), vs = ps.map V.ref ∧ Paired (fun p kv => FzT X.K M H p [kV kv.1, kv.2]) ps (ks.zip ws) ∧ RepVs X.K M H xs ws ∧ ks.length = ws.length
  | [], [], vs, _, r => ⟨[], [], r.nil_inv, .nil, .nil, rfl⟩
  | k :: ks, x :: xs, vs, hl, r => by
    rw [List.zip_cons_cons, List.map_cons] at r
    obtain ⟨v, q, e, h1, h2⟩ := r.uncons
    obtain ⟨a, ws1, e2, f, t⟩ := rep_tup h1
    obtain ⟨v1, v2, e3, r1, r2⟩ := t.two
    obtain ⟨ps, ws, e4, p4, r4, l4⟩ := pairs_rep (by simpa using hl) h2
    subst e e2 e4
    have e5 := keyU_rep r1
    subst e5
    rw [e3] at f
    exact ⟨a :: ps, v2 :: ws, rfl, .cons f p4, .cons r2 r4, by simp [l4]⟩
theorem pairsT_of {X : Cx} {pins : List (Addr × Obj)} {σ : Stt} {H : Hp} {M : Mp} {s : Shared} (I : Inv X pins σ H s) : ∀ {ps : List Addr} {kvs : List (Key × V)}, Paired (fun p kv => FzT X.K M H p [kV kv.1, kv.2]) ps kvs →
    ∃ (prs : List (Key × Value)) (vv : List (Value × Value)), KV kvs prs ∧ prs.length = ps.length ∧ vv.length = ps.length ∧ ∀ (j : Nat) (k v : Value), vv[j]? = some (k, v) → ∃ (b : Addr) (q : Key), ps[j]? = some b ∧ s.heap.IsTuple b #[k, v] ∧ prs[j]? = some (q, v) ∧ keyIs q k = true
  | _, _, .nil => ⟨[], [], .nil, rfl, rfl, fun j k v e => by simp at e⟩
  | _, _, .cons (a := p) (b := kv) h t => by
    obtain ⟨prs, vv, r, hl, hl2, hp⟩ := pairsT_of I t
    obtain ⟨its, rv, ht, _⟩ := I.tuple h.sq
    obtain ⟨u, y, ei, ru, ry⟩ := vals2 rv
    subst ei
    refine ⟨(kv.1, y) :: prs, (u, y) :: vv, .cons ⟨rfl, ry⟩ r, by rw [List.length_cons, List.length_cons, hl], by rw [List.length_cons, List.length_cons, hl2], fun j k v e => ?_⟩
    cases j with
    | zero =>
      have e' : (u, y) = (k, v) := Option.some.inj e
      cases e'
      exact ⟨p, kv.1, rfl, ht, rfl, kV_is (P := X.prog) (w := X.w) ru⟩
    | succ j =>
      obtain ⟨b, q, e1, e2, e3, e4⟩ := hp j k v (by simpa using e)
      exact ⟨b, q, by simpa using e1, e2, by simpa using e3, e4⟩
theorem call_dictT {X : Cx} {M : Mp} (hcalm : X.calm = true) : CallR X (.type "dict") (fun xs H Q => ∃ (a : Addr) (ps : List Addr) (kvs : List (Key × V)), xs = [.ref a] ∧ FzT X.K M H a (ps.map V.ref) ∧ Paired (fun p kv => FzT X.K M H p [kV kv.1, kv.2]) ps kvs ∧
    ∀ p, H p = none → Q (.ref p) (upd H p (.dK (mergeK [] kvs)))) := by
  intro pins s σ H xs us Q I r q
  obtain ⟨a, ps, kvs, ex, hq, hp, q⟩ := q
  subst ex
  obtain ⟨u, eu, rx⟩ := vals1 r
  subst eu
  cases rx
  obtain ⟨its, rv, pl, hz⟩ := FzT.plain I hq
  have ei := refs_at rv
  subst ei
  rw [List.length_map] at hz
  obtain ⟨prs, vv, rel, hl, hl2, hpr⟩ := pairsT_of I hp
  refine PySem.call_dict_pairs (knd := mixKind X.prog X.w) (kvs := prs) (PairArg.tuple a (ps.map Value.ref).toArray (fun j => ps.getD j 0) vv) (I.ok.hd hcalm) ⟨pl, by simp [hl2], fun j k v e => ?_⟩ ⟨by rw [hl, hl2], fun j k v e => ?_⟩ (by rw [hl2]; exact hz) fun h' tk hd' k => ?_
  · obtain ⟨b, q', e1, e2, _⟩ := hpr j k v e
    refine ⟨by simp [e1], .inl ?_⟩
    have e5 : ps.getD j 0 = b := by rw [List.getD_eq_getElem?_getD, e1]; rfl
    show s.heap.IsTuple (ps.getD j 0) _
    rw [e5]
    exact e2
  · obtain ⟨b, q', _, _, e3, e4⟩ := hpr j k v e
    exact ⟨q', e3, e4⟩
  · have hm : (s.heap.objs.size == sysModules) = false := beq_eq_false_iff_ne.mpr (Nat.ne_of_gt I.big)
    have hlen : (mergeK [] kvs).length ≤ sizeLine := by
      refine Nat.le_trans (length_mergeK kvs []) ?_
      rw [List.length_nil, Nat.zero_add, rel.length, hl]
      exact hz
    exact ⟨.ref s.heap.objs.size, upd H s.heap.objs.size (.dK (mergeK [] kvs)), I.laid (t' := tk) (fun b o e => k b o (by simp) e) (Nat.le_refl _) (show ObjOk X.prog X.w _ _ _ (.dK (mergeK [] kvs)) from ⟨hlen, hm, merged [] prs, KV.merge rel .nil, hd'⟩), rfl, q _ (I.hok.fresh (Nat.le_refl _))⟩
theorem ucal_dictT {X : Cx} (hcalm : X.calm = true) : UCal X (.type "dict") uDictT := fun pins s σ H xs us Q I rx h => by
  obtain ⟨zs, M, R, r, hd, ⟨ks, ys, hl, rfl, nd, q⟩, c⟩ := h
  obtain ⟨v, rfl, r1⟩ := r.one
  obtain ⟨a, vs, rfl, f, t⟩ := rep_tup r1
  obtain ⟨ps, ws, rfl, pr, rw_, lw⟩ := pairs_rep hl t
  refine call_dictT (M := M) hcalm pins s σ H _ us Q I rx ⟨a, ps, ks.zip ws, rfl, f, pr, fun p hp => ?_⟩
  have e : mergeK [] (ks.zip ws) = ks.zip ws := by
    rw [mergeK_nodup _ [] (by rw [List.nil_append, List.map_fst_zip (by omega)]; exact nd)]
    rfl
  rw [e]
  have st : Stp M H M (upd H p (.dK (ks.zip ws))) := Stp.new hd hp
  refine c.at_ q st (hd.new hp) ?_
  unfold RepV
  exact ⟨p, ws, rfl, upd_same, hd.free hp, lw, RepVs.step st _ _ rw_⟩
/-! ### d.get(k, x) -/
def wDGet2 (to te tf : WE) : WE := fun su M R => to su M fun d M1 => (dctOf M1 d).isSome = true ∧ te su M1 fun y M2 => tf su M2 fun x M3 => ∃ ks us q, dctOf M3 d = some (ks, us) ∧ keyOf y = some q ∧ (∀ v, lookU ks us q = some v → R v M3) ∧ (lookU ks us q = none → R x M3)
theorem isD_rep {K : PySem.W.Frag} {M : Mp} {H : Hp} (hd : RepM K M H) {u : U} {v : V} (r : RepV K M H u v) (h : (dctOf M u).isSome = true) : ∃ a, v = .ref a ∧ IsD H a := by
  obtain ⟨⟨ks, us⟩, e⟩ := Option.isSome_iff_exists.mp h
  obtain ⟨a, vs, rfl, h1, _⟩ := dctOf_rep hd r e
  exact ⟨a, rfl, .inl ⟨_, .inl h1⟩⟩
section
variable {X : Cx} {g : Gd} {o e f : Expr} {apos cpos : Pos} {to te tf : WE}
theorem j_dget2 (hu : X.A.units + 1 < cLine) (ho : JE X g o to) (he : JE X g e te) (hf : JE X g f tf) (m : M2 X o "get" apos e f cpos) : JE X g (.Call (.Attribute o "get" apos) [e, f] [] cpos) (wDGet2 to te tf) :=
  pe_imp (pe_dget2 hu ho he hf m) fun σ H Q ⟨su, M, R, a, h, c⟩ => ⟨su, M, _, a, h, fun d M1 dv H1 ⟨hd, q⟩ s1 d1 r1 => by
    obtain ⟨p, rfl, hp⟩ := isD_rep d1 r1 hd
    refine ⟨p, rfl, hp, su, M1, _, a.go s1 d1, q, fun y M2 yv H2 q2 s2 d2 r2 => ⟨su, M2, _, (a.go s1 d1).go s2 d2, q2, fun x M3 xv H3 ⟨ks, us, k, e1, e2, q3, q4⟩ s3 d3 r3 => ?_⟩⟩
    have rd : RepV X.K M3 H3 d (.ref p) := (r1.step s2).step s3
    obtain ⟨p', vs, e, hh, l, t⟩ := dctOf_rep d3 rd e1
    cases e
    have ry := keyOf_rep (r2.step s3) e2
    obtain ⟨lk1, lk2⟩ := look_rep k l t
    refine ⟨valV (ks.zip vs) k, ?_, ?_⟩
    · rw [ry]; exact DGet.k hh
    · cases e4 : lookU ks us k with
      | some v =>
        obtain ⟨vv, e5, r5⟩ := lk1 v e4
        rw [e5]
        exact c.at_ (q3 v e4) ((s1.trans s2).trans s3) d3 r5
      | none =>
        rw [e4] at lk2
        have : valV (ks.zip vs) k = none := by simpa using lk2
        rw [this]
        exact c.at_ (q4 e4) ((s1.trans s2).trans s3) d3 r3⟩
end
@[simp] theorem wDGet2_ {to te tf : WE} {su : Sg} {M : Mp} {R : UK} : wDGet2 to te tf su M R = to su M fun d M1 => (dctOf M1 d).isSome = true ∧ te su M1 fun y M2 => tf su M2 fun x M3 => ∃ ks us q, dctOf M3 d = some (ks, us) ∧ keyOf y = some q ∧ (∀ v, lookU ks us q = some v → R v M3) ∧ (lookU ks us q = none → R x M3) := rfl
/-! ### t == (text,): whatever stands behind the first item -/
def uEqD : O2 := fun x y M R => uEq x y M R ∨ ∃ (s z : Str) (us : List U), x = .tup (.str s :: us) ∧ y = .tup [.str z] ∧ R (.bl (s == z && us.isEmpty)) M
theorem one_eq {s z : Str} {us : List U} {vs : List V} {its : List Value} {t : Tok} {K : PySem.W.Frag} {M : Mp} {H : Hp} (r : RepVs K M H us vs) (q : Vals vs its) {n : Nat} (hn : n = 1) :
    ((List.range (min (Value.str s t :: its).toArray.size n)).all (fun _ => s == z) && (Value.str s t :: its).toArray.size == n) = (s == z && us.isEmpty) := by
  subst hn
  have e : its.length = us.length := by rw [← q.length, ← r.length]
  have e1 : min (Value.str s t :: its).toArray.size 1 = 1 := by simp <;> omega
  rw [e1]
  cases us with
  | nil =>
    have : its = [] := List.length_eq_zero_iff.mp (by simpa using e)
    subst this
    simp
  | cons u us =>
    cases its with
    | nil => simp at e
    | cons i its => simp
theorem uop_eqD {X : Cx} (hu : X.A.units + 64 < cLine) : UOp X (compareOp .Eq) uEqD := uop_of fun pins s σ H x y v u Q ux uy M R I rx ry r1 r2 hd q c => by
  rcases q with q | ⟨a1, a2, us, e1, e2, q⟩
  · exact uop_eq hu pins s σ H x y v u Q I rx ry ⟨ux, uy, M, R, r1, r2, hd, q, c⟩
  · subst e1 e2
    obtain ⟨p1, vs, rfl, h1, t1⟩ := rep_tup r1
    obtain ⟨p2, ws, rfl, h2, t2⟩ := rep_tup r2
    obtain ⟨v1, vr, rfl, y1, y2⟩ := t1.uncons
    obtain ⟨v2, vr2, rfl, y3, y4⟩ := t2.uncons
    rw [rep_str y1] at h1
    rw [rep_str y3, y4.nil_inv] at h2
    cases rx
    cases ry
    obtain ⟨its, k1, i1, _⟩ := I.tuple h1.sq
    obtain ⟨its2, k2, i2, _⟩ := I.tuple h2.sq
    cases k1 with
    | cons k1 k1r =>
    obtain ⟨tk1, rfl⟩ := k1
    cases k2 with
    | cons k2 k2r =>
    obtain ⟨tk2, rfl⟩ := k2
    cases k2r
    refine SeqAt.eq_tupleAt (e := fun _ => a1 == a2) i1 i2 (by omega) (fun j j1 j2 => ?_) ⟨.bl _, H, I, rfl, ?_⟩
    · have : j = 0 := by simp at j2; omega
      subst this
      exact SeqAt.EqAt.str_str _ _ _ _
    · rw [one_eq y2 k1r (by simp)]
      exact c.here q hd mk_bl
theorem uEqD_s {s z : Str} {us : List U} {M : Mp} {R : UK} (q : R (.bl (s == z && us.isEmpty)) M) : uEqD (.tup (.str s :: us)) (.tup [.str z]) M R := .inr ⟨s, z, us, rfl, rfl, q⟩
end Pu

/-! Pu, part 26: a list is unpacked. -/
namespace Pu
open PySem PySem.Spec PyProof.Rows L2
def wGunp (n : Nat) (t : WGs) : WG := fun u su M R => ∃ us, u = .lst us ∧ us.length = n ∧ t us su M R
section
variable {X : Cx} {g : Gd} {pos : Pos}
theorem jg_unp {es : List Expr} {k n : Nat} {t : WGs} (hc : X.calm = true) (h : JGs X g es t) (hn : (assignEach es X.env).length = n) (hst : (assignEach es X.env).findIdx? (·.1) = none) : JG X g (.Tuple es k pos) (wGunp n t) :=
  pg_imp (pg_unl hc h hn hst) fun v σ H Q ⟨u, su, M, R, a, r, ⟨us, e, l, h⟩, c⟩ => by
    subst e
    obtain ⟨p, vs, e, f, r⟩ := rep_lst r
    exact ⟨p, vs, e, f.sq, by rw [← r.length]; exact l, us, su, M, R, a, r, h, c⟩
end
@[simp] theorem wGunp_ {gs : WGs} {su : Sg} {M : Mp} {RG : Sg → Mp → Prop} {n : Nat} {us : List U} : wGunp n gs (.lst us) su M RG ↔ us.length = n ∧ gs us su M RG := by
  unfold wGunp
  constructor
  · rintro ⟨a, e, h⟩; cases e; exact h
  · intro h; exact ⟨_, rfl, h⟩
end Pu

/-! What the text's values mean, in plain Lean. -/
namespace Sem
open PySem PySem.Spec PyProof.Rows L2 Pu

/-! ### pure values, their size -/
mutual
def pvU : U → Bool
  | .non => true | .bl _ => true | .int _ => true
  | .str s => okStr s
  | .tup us => pvUs us
  | .lst us => pvUs us
  | .dct ks us => ks.isEmpty && us.isEmpty
  | .ty _ => false | .ref _ => false | .pr _ => false
def pvUs : List U → Bool
  | [] => true
  | u :: us => pvU u && pvUs us
end
mutual
def nd : U → Nat
  | .str s => s.length + 1
  | .tup us => nds us + 1
  | .lst us => nds us + 1
  | _ => 1
def nds : List U → Nat
  | [] => 0
  | u :: us => nd u + nds us
end
theorem nd_pos (u : U) : 0 < nd u := by cases u <;> simp [nd]
theorem len_nds : ∀ us : List U, us.length ≤ nds us
  | [] => Nat.le_refl _
  | u :: us => by
    have := len_nds us
    have := nd_pos u
    simp [nds]
    omega
theorem nd_mem {u : U} : ∀ {us : List U}, u ∈ us → nd u ≤ nds us
  | v :: us, h => by
    simp only [nds]
    rcases List.mem_cons.mp h with e | h
    · subst e; omega
    · have := nd_mem h; omega
theorem pvU_mem {u : U} : ∀ {us : List U}, pvUs us = true → u ∈ us → pvU u = true
  | v :: us, h, m => by
    simp only [pvUs, Bool.and_eq_true] at h
    rcases List.mem_cons.mp m with e | m
    · subst e; exact h.1
    · exact pvU_mem h.2 m
theorem dep_mem {u : U} : ∀ {us : List U}, u ∈ us → depU u ≤ depUs us
  | v :: us, h => by
    simp only [depUs]
    rcases List.mem_cons.mp h with e | h
    · subst e; omega
    · have := dep_mem h; omega
theorem pvUs_append : ∀ {a b : List U}, pvUs (a ++ b) = (pvUs a && pvUs b)
  | [], b => by simp [pvUs]
  | u :: a, b => by simp [pvUs, pvUs_append (a := a), Bool.and_assoc]
theorem nds_append : ∀ {a b : List U}, nds (a ++ b) = nds a + nds b
  | [], b => by simp [nds]
  | u :: a, b => by simp [nds, nds_append (a := a)]; omega
theorem depUs_append : ∀ {a b : List U}, depUs (a ++ b) = max (depUs a) (depUs b)
  | [], b => by simp [depUs]
  | u :: a, b => by simp only [depUs, depUs_append (a := a), List.cons_append]; omega
/-- a value that is small: pure, of at most 2^20 signs and nodes -/
def Sm (u : U) : Prop := pvU u = true ∧ nd u ≤ 1000000
theorem Sm.line {u : U} (h : Sm u) : nd u ≤ sizeLine := by rw [sizeLine_eq]; have := h.2; omega
theorem Sm.str {s : Str} (h : Sm (.str s)) : s.length ≤ sizeLine := by
  have := h.line
  simp only [nd] at this
  omega
theorem Sm.tup {us : List U} (h : Sm (.tup us)) : us.length ≤ sizeLine := by
  have := h.line
  have := len_nds us
  simp only [nd] at *
  omega
theorem Sm.lst {us : List U} (h : Sm (.lst us)) : us.length ≤ sizeLine := by
  have := h.line
  have := len_nds us
  simp only [nd] at *
  omega
theorem Sm.mem {us : List U} (h : Sm (.tup us)) {u : U} (m : u ∈ us) : Sm u := by
  refine ⟨pvU_mem (by have := h.1; simpa [pvU] using this) m, ?_⟩
  have := nd_mem m
  have := h.2
  simp only [nd] at *
  omega
theorem Sm.meml {us : List U} (h : Sm (.lst us)) {u : U} (m : u ∈ us) : Sm u := by
  refine ⟨pvU_mem (by have := h.1; simpa [pvU] using this) m, ?_⟩
  have := nd_mem m
  have := h.2
  simp only [nd] at *
  omega
theorem Sm.noref {u : U} (h : Sm u) (M : Mp) : ∀ n, (n = "int" ∨ n = "bool" ∨ n = "str" ∨ n = "list" ∨ n = "tuple" ∨ n = "dict") → tyOk M u n := fun n hn => by
  refine ⟨hn, ?_⟩
  have := h.1
  cases u <;> first | (simp [pvU] at this; done) | trivial
theorem mem_at {α : Type} {us : List α} {i : Nat} {u : α} (h : us[i]? = some u) : u ∈ us := List.mem_of_getElem? h

/-! ### texts -/
def letters : Str := "abcdefghijklmnopqrstuvwxyz"
def digits : Str := "0123456789"
def cutL (z : Str) : Str := cutStr z none (some (-1))
def bareS (l : Str) : Str := if cutStr l (some (-1)) none == ("!" : Str) then cutStr l none (some (-1)) else l
/-- all signs are among these -/
def signsIn (a z : Str) : Bool := z.cps.toList.all fun c => decide (c ∈ a.cps.toList)
def isTagS (l : Str) : Bool := decide (1 ≤ (bareS l).length) && (decide ((bareS l).length ≤ 8) && signsIn letters (bareS l))
def kvPlain : List (Str × U) := [("$int", .str "0"), ("$text", .str "")]
def isKindS (l : Str) : Bool := (kvPlain.lookup (bareS l)).isSome
def isTag : U → Bool
  | .str l => isTagS l
  | _ => false
def isKind : U → Bool
  | .str l => isKindS l
  | _ => false
def intDigits (t : Str) : Str := if cutStr t none (some 1) == ("-" : Str) then cutStr t (some 1) none else t
def firstS (t : Str) : Str := match t.cps.toList with
  | c :: _ => ⟨#[c]⟩
  | [] => ""
def isIntS (t : Str) : Bool := !(intDigits t == ("" : Str)) && (signsIn digits (intDigits t) && (t == ("0" : Str) || !(firstS (intDigits t) == ("0" : Str))))
def sign1 (c : Nat) : Str := ⟨#[c]⟩
def okSign (c : Nat) : Bool := !strLt (sign1 c) " " && !strLt "~" (sign1 c)
def isTextS (k x : Str) : Bool := if bareS k == ("$int" : Str) then isIntS x else x.cps.toList.all okSign
def isTextOf (k : Str) : U → Bool
  | .str x => isTextS k x
  | _ => false
theorem cut_len {α : Type} (xs : List α) (lo hi : Option Int) : (cutU xs lo hi).length ≤ xs.length := by
  unfold cutU
  simp
  omega
theorem cut_mem {α : Type} {xs : List α} {lo hi : Option Int} {a : α} (h : a ∈ cutU xs lo hi) : a ∈ xs := List.mem_of_mem_drop (List.mem_of_mem_take h)
theorem cutStr_len (z : Str) (lo hi : Option Int) : (cutStr z lo hi).length ≤ z.length := by
  have := cut_len z.cps.toList lo hi
  unfold cutStr Str.length
  simpa using this
theorem bare_len (l : Str) : (bareS l).length ≤ l.length := by
  unfold bareS
  split
  · exact cutStr_len _ _ _
  · exact Nat.le_refl _
theorem idig_len (l : Str) : (intDigits l).length ≤ l.length := by
  unfold intDigits
  split
  · exact cutStr_len _ _ _
  · exact Nat.le_refl _
/-! ### parts -/
mutual
def isPart : U → Bool
  | .tup (.str l :: x :: []) => if isKindS l = true then isTextOf l x else isTagS l && isPartsT x
  | _ => false
def isPartsT : U → Bool
  | .tup ps => isParts ps
  | _ => false
def isParts : List U → Bool
  | [] => true
  | p :: ps => isPart p && isParts ps
end
theorem isParts_all : ∀ ps : List U, isParts ps = ps.all isPart
  | [] => by simp [isParts]
  | p :: ps => by simp [isParts, isParts_all ps]
def isDoc (u : U) : Bool := isPart u && (match u with
  | .tup (l :: _) => isTag l
  | _ => false)
@[simp] theorem atI_0 {α : Type} {x : α} {r : List α} : atI (x :: r) 0 = some x := by simp [atI, ixN]
@[simp] theorem atI_1 {α : Type} {x y : α} {r : List α} : atI (x :: y :: r) 1 = some y := by
  have e : ixN (x :: y :: r).length 1 = some 1 := by
    unfold ixN
    rw [if_pos (by decide), if_pos (by simp only [List.length_cons]; omega)]
    rfl
  unfold atI
  rw [e]
  rfl
inductive PartC : U → Prop where
  | kind {l x : Str} (k : isKindS l = true) (t : isTextS l x = true) : PartC (.tup [.str l, .str x])
  | tag {l : Str} {ps : List U} (k : isKindS l = false) (t : isTagS l = true) (h : ∀ p ∈ ps, isPart p = true) : PartC (.tup [.str l, .tup ps])
theorem partC {u : U} (h : isPart u = true) : PartC u := by
  cases u <;> try (simp [isPart] at h; done)
  rename_i us
  match us, h with
  | [], h => simp [isPart] at h
  | [a], h => cases a <;> simp [isPart] at h
  | a :: b :: c :: r, h => cases a <;> simp [isPart] at h
  | [a, b], h =>
    cases a <;> try (simp [isPart] at h; done)
    rename_i l
    simp only [isPart] at h
    cases k : isKindS l with
    | true =>
      rw [k, if_pos rfl] at h
      cases b <;> try (cases h; done)
      exact .kind k h
    | false =>
      rw [k, if_neg Bool.false_ne_true, Bool.and_eq_true] at h
      cases b <;> try (cases h.2; done)
      rename_i ps
      refine .tag k h.1 fun p hp => ?_
      have := h.2
      simp only [isPartsT] at this
      rw [isParts_all] at this
      exact List.all_eq_true.mp this p hp
def partsP : U → List U
  | .tup (_ :: .tup ps :: []) => ps
  | _ => []
mutual
def sizeP : U → Int
  | .tup (_ :: .tup ps :: []) => 1 + sizePs ps
  | _ => 1
def sizePs : List U → Int
  | [] => 0
  | p :: ps => sizeP p + sizePs ps
end
theorem sizePs_sum : ∀ ps : List U, sizePs ps = (ps.map sizeP).sum
  | [] => rfl
  | p :: ps => by simp [sizePs, sizePs_sum ps]
mutual
def depthP : U → Int
  | .tup (_ :: .tup ps :: []) => 1 + maxL (0 :: depthPs ps)
  | _ => 0
def depthPs : List U → List Int
  | [] => []
  | p :: ps => depthP p :: depthPs ps
end
theorem depthPs_map : ∀ ps : List U, depthPs ps = ps.map depthP
  | [] => rfl
  | p :: ps => by simp [depthPs, depthPs_map ps]
def lblS : U → List Str
  | .str l => [l]
  | _ => []
mutual
def labelsP : U → List Str
  | .tup (a :: r) => lblS a ++ labelsT r
  | _ => []
def labelsT : List U → List Str
  | b :: _ => labelsB b
  | [] => []
def labelsB : U → List Str
  | .tup ps => labelsPs ps
  | _ => []
def labelsPs : List U → List Str
  | [] => []
  | p :: ps => labelsP p ++ labelsPs ps
end
theorem labelsP_tag {l : Str} {ps : List U} : labelsP (.tup [.str l, .tup ps]) = l :: labelsPs ps := by simp [labelsP, labelsT, labelsB, lblS]
theorem labelsP_kind {l x : Str} : labelsP (.tup [.str l, .str x]) = [l] := by simp [labelsP, labelsT, labelsB, lblS]
def plainS (l : Str) : Str := if bareS l == ("$int" : Str) then "0" else ""
def plainK : U → U → U
  | .str l, _ => .str (plainS l)
  | _, b => b
mutual
def plainP : U → U
  | .tup (a :: r) => .tup (a :: plainT a r)
  | u => u
def plainT (a : U) : List U → List U
  | b :: r => plainB a b :: r
  | [] => []
def plainB (a : U) : U → U
  | .tup ps => .tup (plainPs ps)
  | b => plainK a b
def plainPs : List U → List U
  | [] => []
  | p :: ps => plainP p :: plainPs ps
end
theorem plainP_tag {l : Str} {ps : List U} : plainP (.tup [.str l, .tup ps]) = .tup [.str l, .tup (plainPs ps)] := by simp [plainP, plainT, plainB]
theorem plainP_kind {l x : Str} : plainP (.tup [.str l, .str x]) = .tup [.str l, .str (plainS l)] := by simp [plainP, plainT, plainB, plainK]
theorem plainPs_map : ∀ ps : List U, plainPs ps = ps.map plainP
  | [] => rfl
  | p :: ps => by simp [plainPs, plainPs_map ps]
theorem lblS_nd (a : U) : (lblS a).length ≤ nd a := by cases a <;> simp [lblS, nd]
mutual
theorem labels_nd : ∀ u : U, (labelsP u).length ≤ nd u
  | .tup [] => by simp [labelsP]
  | .tup (a :: r) => by
    have h1 := lblS_nd a
    have h2 := labelsT_nd r
    simp only [labelsP, nd, nds, List.length_append]
    omega
  | .non => by simp [labelsP]
  | .bl _ => by simp [labelsP]
  | .int _ => by simp [labelsP]
  | .str _ => by simp [labelsP]
  | .ty _ => by simp [labelsP]
  | .ref _ => by simp [labelsP]
  | .lst _ => by simp [labelsP]
  | .dct _ _ => by simp [labelsP]
  | .pr _ => by simp [labelsP]
theorem labelsT_nd : ∀ us : List U, (labelsT us).length ≤ nds us
  | [] => by simp [labelsT]
  | b :: r => by
    have := labelsB_nd b
    simp only [labelsT, nds]
    omega
theorem labelsB_nd : ∀ u : U, (labelsB u).length ≤ nd u
  | .tup ps => by
    have := labelsPs_nd ps
    simp only [labelsB, nd]
    omega
  | .non => by simp [labelsB]
  | .bl _ => by simp [labelsB]
  | .int _ => by simp [labelsB]
  | .str _ => by simp [labelsB]
  | .ty _ => by simp [labelsB]
  | .ref _ => by simp [labelsB]
  | .lst _ => by simp [labelsB]
  | .dct _ _ => by simp [labelsB]
  | .pr _ => by simp [labelsB]
theorem labelsPs_nd : ∀ us : List U, (labelsPs us).length ≤ nds us
  | [] => by simp [labelsPs]
  | p :: ps => by
    have h1 := labels_nd p
    have h2 := labelsPs_nd ps
    simp only [labelsPs, nds, List.length_append]
    omega
end
theorem part_ind {P : U → Prop} (hk : ∀ l x, isKindS l = true → isTextS l x = true → P (.tup [.str l, .str x])) (ht : ∀ l ps, isKindS l = false → isTagS l = true → (∀ p ∈ ps, isPart p = true ∧ P p) → P (.tup [.str l, .tup ps])) : ∀ u, isPart u = true → P u := by
  have key : ∀ n u, nd u ≤ n → isPart u = true → P u := by
    intro n
    induction n with
    | zero => intro u h; have := nd_pos u; omega
    | succ n ih =>
      intro u h hp
      cases partC hp with
      | @kind l x k t => exact hk l x k t
      | @tag l ps k t hh =>
        refine ht l ps k t fun p hm => ⟨hh p hm, ih p ?_ (hh p hm)⟩
        have := nd_mem hm
        simp only [nd, nds] at h
        omega
  exact fun u => key _ u (Nat.le_refl _)
theorem okUs_of {us : List U} (h : ∀ u ∈ us, okU u = true) : okUs us = true := by
  induction us with
  | nil => rfl
  | cons u us ih => simp only [okUs, h u List.mem_cons_self, ih fun x hx => h x (List.mem_cons_of_mem _ hx), Bool.and_self]
theorem part_ok : ∀ u, isPart u = true → pvU u = true → okU u = true := by
  refine part_ind (P := fun u => pvU u = true → okU u = true) (fun l x k t h => ?_) fun l ps k t hh h => ?_
  · simp only [pvU, pvUs, okU, okUs] at *
    exact h
  · simp only [pvU, pvUs, okU, okUs, Bool.and_eq_true] at *
    exact ⟨h.1, okUs_of fun p hm => (hh p hm).2 (pvU_mem h.2.1 hm), trivial⟩
theorem ltUs_all {ps : List U} (h : ∀ p ∈ ps, ∀ q, isPart q = true → ∃ k, ltU p q = some k) : ∀ qs : List U, (∀ q ∈ qs, isPart q = true) → ∃ k, ltUs ps qs = some k := by
  induction ps with
  | nil => intro qs _; cases qs <;> exact ⟨_, rfl⟩
  | cons p ps ih =>
    intro qs hq
    cases qs with
    | nil => exact ⟨_, rfl⟩
    | cons q qs =>
      unfold ltUs
      split
      · exact ih (fun x hx => h x (List.mem_cons_of_mem _ hx)) qs fun x hx => hq x (List.mem_cons_of_mem _ hx)
      · exact h p List.mem_cons_self q (hq q List.mem_cons_self)
theorem lt_part : ∀ p, isPart p = true → ∀ q, isPart q = true → ∃ k, ltU p q = some k := by
  refine part_ind (P := fun p => ∀ q, isPart q = true → ∃ k, ltU p q = some k) (fun l x k t q hq => ?_) fun l ps k t hh q hq => ?_
  · cases partC hq with
    | @kind l' x' k' t' =>
      simp only [ltU, ltUs]
      split
      · split
        · exact ⟨_, rfl⟩
        · exact ⟨_, rfl⟩
      · exact ⟨_, rfl⟩
    | @tag l' ps' k' t' hh' =>
      simp only [ltU, ltUs]
      split
      · rename_i e
        have e : l = l' := by simpa [Pu.eqU] using e
        rw [e, k'] at k
        cases k
      · exact ⟨_, rfl⟩
  · cases partC hq with
    | @kind l' x' k' t' =>
      simp only [ltU, ltUs]
      split
      · rename_i e
        have e : l = l' := by simpa [Pu.eqU] using e
        rw [e, k'] at k
        cases k
      · exact ⟨_, rfl⟩
    | @tag l' ps' k' t' hh' =>
      have := ltUs_all (fun p hm => (hh p hm).2) ps' hh'
      simp only [ltU, ltUs]
      split
      · split
        · exact ⟨_, rfl⟩
        · exact this
      · exact ⟨_, rfl⟩
def lessP (p q : U) : Bool := if sizeP p == sizeP q then (if Pu.eqU p q = true then false else (ltU p q).getD false) else decide (sizeP p < sizeP q)
theorem key_lt {p q : U} (hp : isPart p = true) (hq : isPart q = true) : ltUs [.int (sizeP p), p] [.int (sizeP q), q] = some (lessP p q) := by
  obtain ⟨k, e⟩ := lt_part p hp q hq
  unfold lessP
  have e1 : Pu.eqU (.int (sizeP p)) (.int (sizeP q)) = (sizeP p == sizeP q) := by simp only [Pu.eqU]
  simp only [ltUs, ltU, e1, e, Option.getD]
  cases sizeP p == sizeP q
  · rfl
  · cases Pu.eqU p q <;> rfl
theorem key_fit {p : U} (hp : isPart p = true) (h : Sm p) (hd : depU p < 40) : Fit (.tup [.int (sizeP p), p]) := by
  refine ⟨?_, ?_⟩
  · simp only [okU, okUs, part_ok p hp h.1, Bool.and_self]
  · simp only [depU, depUs]
    omega
end Sem

namespace Sem
open PySem PySem.Spec PyProof.Rows L2 Pu
theorem cut_last {α : Type} (xs : List α) : cutU xs (some (-1)) none = xs.drop (xs.length - 1) := by
  unfold cutU
  have e : HT.sIx xs.length 0 (some (-1)) = xs.length - 1 := by
    unfold HT.sIx
    simp
    omega
  rw [e, HT.sIx_none]
  apply List.take_of_length_le
  simp
theorem cut_init {α : Type} (xs : List α) : cutU xs none (some (-1)) = xs.take (xs.length - 1) := by
  unfold cutU
  have e : HT.sIx xs.length xs.length (some (-1)) = xs.length - 1 := by
    unfold HT.sIx
    simp
    omega
  rw [e, HT.sIx_none]
  simp
theorem cut_to {α : Type} (xs : List α) (k : Nat) : cutU xs none (some (k : Int)) = xs.take k := by
  unfold cutU
  rw [HT.sIx_nat, HT.sIx_none]
  simp
theorem cut_from {α : Type} (xs : List α) (k : Nat) : cutU xs (some (k : Int)) none = xs.drop k := by
  unfold cutU
  rw [HT.sIx_nat, HT.sIx_none]
  rcases Nat.le_total k xs.length with h | h
  · rw [Nat.min_eq_left h]
    apply List.take_of_length_le
    simp
  · rw [Nat.min_eq_right h]
    simp [List.drop_of_length_le h]
theorem cutStr_list (z : Str) (lo hi : Option Int) : (cutStr z lo hi).cps.toList = cutU z.cps.toList lo hi := by simp [cutStr]
theorem bare_list (l : Str) : l.cps.toList = (bareS l).cps.toList ∨ l.cps.toList = (bareS l).cps.toList ++ [33] := by
  unfold bareS
  split
  · rename_i e
    have e := congrArg (fun s : Str => s.cps.toList) (by simpa using e : cutStr l (some (-1)) none = ("!" : Str))
    simp only [cutStr_list, cut_last] at e
    right
    rw [cutStr_list, cut_init]
    have := List.take_append_drop (l.cps.toList.length - 1) l.cps.toList
    rw [e] at this
    exact this.symm
  · exact .inl rfl
theorem kind_two {l : Str} (h : isKindS l = true) : bareS l = ("$int" : Str) ∨ bareS l = ("$text" : Str) := by
  unfold isKindS kvPlain at h
  rw [List.lookup_cons] at h
  cases e : bareS l == ("$int" : Str) with
  | true => exact .inl (by simpa using e)
  | false =>
    rw [e] at h
    simp only [List.lookup_cons] at h
    cases e2 : bareS l == ("$text" : Str) with
    | true => exact .inr (by simpa using e2)
    | false => rw [e2] at h; simp at h
theorem kind_four {l : Str} (h : isKindS l = true) : l = ("$int" : Str) ∨ l = ("$int!" : Str) ∨ l = ("$text" : Str) ∨ l = ("$text!" : Str) := by
  rcases kind_two h with e | e <;> rcases bare_list l with q | q <;> rw [e] at q
  · exact .inl (str_ext q)
  · exact .inr (.inl (str_ext (q.trans rfl)))
  · exact .inr (.inr (.inl (str_ext q)))
  · exact .inr (.inr (.inr (str_ext (q.trans rfl))))
def lawKind (l : Str) : Bool := cutStr l none (some 1) == ("$" : Str)
def isLabelS (l : Str) : Bool := isKindS l || isTagS l
def isLabel : U → Bool
  | .str l => isLabelS l
  | _ => false
theorem cut1 {l : Str} {c : Nat} {r : List Nat} (h : l.cps.toList = c :: r) : cutStr l none (some 1) = ⟨#[c]⟩ := by
  apply str_ext
  rw [cutStr_list, h]
  exact cut_to _ 1
theorem tag_first {l : Str} (h : isTagS l = true) : ∃ c r, l.cps.toList = c :: r ∧ c ∈ letters.cps.toList := by
  unfold isTagS at h
  simp only [Bool.and_eq_true, decide_eq_true_eq] at h
  obtain ⟨h1, h2, h3⟩ := h
  unfold signsIn at h3
  cases e : (bareS l).cps.toList with
  | nil =>
    have : (bareS l).length = 0 := by
      unfold Str.length
      rw [← Array.length_toList, e]
      rfl
    omega
  | cons c r =>
    rw [e] at h3
    simp only [List.all_cons, Bool.and_eq_true, decide_eq_true_eq] at h3
    rcases bare_list l with q | q <;> rw [e] at q
    · exact ⟨c, r, q, h3.1⟩
    · exact ⟨c, r ++ [33], q.trans rfl, h3.1⟩
theorem not_dollar {c : Nat} (h : c ∈ letters.cps.toList) : c ≠ 36 := by
  intro e
  subst e
  revert h
  decide +kernel
theorem lawKind_eq {l : Str} (h : isLabelS l = true) : lawKind l = isKindS l := by
  unfold isLabelS at h
  cases k : isKindS l with
  | true =>
    rcases kind_four k with e | e | e | e <;> subst e <;> decide +kernel
  | false =>
    rw [k, Bool.false_or] at h
    obtain ⟨c, r, e, m⟩ := tag_first h
    unfold lawKind
    rw [cut1 e]
    have := not_dollar m
    simp only [beq_eq_false_iff_ne, ne_eq]
    intro z
    have z := congrArg (fun s : Str => s.cps.toList) z
    have z2 : [c] = [36] := z
    simp at z2
    exact this z2
theorem part_label {l x : U} (h : isPart (.tup [l, x]) = true) : ∃ s, l = .str s ∧ isLabelS s = true := by
  cases partC h with
  | @kind l x k t => exact ⟨l, rfl, by simp [isLabelS, k]⟩
  | @tag l ps k t hh => exact ⟨l, rfl, by simp [isLabelS, t]⟩
/-! the law's way of reading integers -/
def ones : Str := "123456789"
def lawInt (t : Str) : Bool := t == ("0" : Str) || (!(intDigits t == ("" : Str)) && ((match (intDigits t).cps.toList with
  | c :: _ => decide (c ∈ ones.cps.toList)
  | [] => false) && signsIn digits (intDigits t)))
theorem digit_one {c : Nat} (h : c ∈ digits.cps.toList) (h0 : c ≠ 48) : c ∈ ones.cps.toList := by
  have e1 : digits.cps.toList = [48, 49, 50, 51, 52, 53, 54, 55, 56, 57] := by decide +kernel
  have e2 : ones.cps.toList = [49, 50, 51, 52, 53, 54, 55, 56, 57] := by decide +kernel
  rw [e1] at h
  rw [e2]
  simp at h ⊢
  omega
theorem one_digit {c : Nat} (h : c ∈ ones.cps.toList) : c ≠ 48 := by
  have e2 : ones.cps.toList = [49, 50, 51, 52, 53, 54, 55, 56, 57] := by decide +kernel
  rw [e2] at h
  simp at h
  omega
theorem lawInt_eq (t : Str) : lawInt t = isIntS t := by
  unfold lawInt isIntS firstS
  by_cases h0 : t = ("0" : Str)
  · subst h0; decide +kernel
  · have e0 : (t == ("0" : Str)) = false := by simpa using h0
    rw [e0, Bool.false_or, Bool.false_or]
    cases e : (intDigits t).cps.toList with
    | nil => 
      have : intDigits t = ("" : Str) := str_ext (by rw [e]; rfl)
      simp [this]
    | cons c r =>
      simp only [signsIn, e, List.all_cons]
      cases hd : decide (c ∈ digits.cps.toList) with
      | false => simp
      | true =>
        have hm : c ∈ digits.cps.toList := by simpa using hd
        have e3 : ((⟨#[c]⟩ : Str) == ("0" : Str)) = decide (c = 48) := by
          rw [Bool.eq_iff_iff]
          simp only [beq_iff_eq, decide_eq_true_eq]
          constructor
          · intro z
            have z := congrArg (fun s : Str => s.cps.toList) z
            have z2 : [c] = [48] := z
            simpa using z2
          · rintro rfl; rfl
        rw [e3]
        by_cases h48 : c = 48
        · have : ¬ c ∈ ones.cps.toList := fun z => one_digit z h48
          subst h48
          simp [this]
        · have := digit_one hm h48
          simp [h48, this]
def lawText (k x : Str) : Bool := if cutStr k none (some 5) == ("$text" : Str) then x.cps.toList.all okSign else lawInt x
theorem lawText_eq {k x : Str} (h : isKindS k = true) : lawText k x = isTextS k x := by
  unfold lawText isTextS
  rw [lawInt_eq]
  have e1 : ∀ k : Str, k = ("$int" : Str) ∨ k = ("$int!" : Str) → (cutStr k none (some 5) == ("$text" : Str)) = false ∧ (bareS k == ("$int" : Str)) = true := by
    rintro k (e | e) <;> subst e <;> decide +kernel
  have e2 : ∀ k : Str, k = ("$text" : Str) ∨ k = ("$text!" : Str) → (cutStr k none (some 5) == ("$text" : Str)) = true ∧ (bareS k == ("$int" : Str)) = false := by
    rintro k (e | e) <;> subst e <;> decide +kernel
  rcases kind_four h with e | e | e | e
  · obtain ⟨a, b⟩ := e1 k (.inl e); simp [a, b]
  · obtain ⟨a, b⟩ := e1 k (.inr e); simp [a, b]
  · obtain ⟨a, b⟩ := e2 k (.inl e); simp [a, b]
  · obtain ⟨a, b⟩ := e2 k (.inr e); simp [a, b]
end Sem

/-! words of small letters; joined signs -/
namespace Sem
open PySem PySem.Spec PyProof.Rows L2 Pu
theorem joinS_list : ∀ ys : List Str, (Txt.join ("" : Str) ys).cps.toList = ys.flatMap fun y => y.cps.toList := by
  intro ys
  rw [TL.join_eq]
  have h : TL.tl (Str.join ("" : Str) ys) = ys.flatMap fun y => TL.tl y := by
    rw [TL.tl_join]
    have e0 : TL.tl ("" : Str) = [] := rfl
    rw [e0]
    have : ∀ ps : List (List Nat), TL.joinL [] ps = ps.flatten := by
      intro ps
      induction ps with
      | nil => rfl
      | cons p r ih =>
        cases r with
        | nil => simp [TL.joinL]
        | cons q r => simp [TL.joinL, ih]
    rw [this, List.flatMap_def]
  exact h
/-- one sign -/
def sgn (c : Nat) : Str := ⟨#[c]⟩
theorem joinS_signs (cs : List Nat) : (Txt.join ("" : Str) (cs.map sgn)).cps.toList = cs := by
  rw [joinS_list]
  induction cs with
  | nil => rfl
  | cons c cs ih => rw [List.map_cons, List.flatMap_cons, ih]; rfl
theorem slen_list (s : Str) : s.length = s.cps.toList.length := by simp [Str.length]
theorem app_list (a b : Str) : (a ++ b).cps.toList = a.cps.toList ++ b.cps.toList := TL.tl_append a b
theorem signsU_len (z : Str) : (signsU z).length = z.length := by simp [signsU, Str.length]
/-- what is picked from -/
def rowItems : U → List U
  | .lst us => us
  | .tup us => us
  | .str z => signsU z
  | _ => []
theorem at_row {α : Type} {us : List α} {i : Int} (h0 : 0 ≤ i) (h1 : i < us.length) : ∃ x, atI us i = some x ∧ x ∈ us := by
  have h : i.toNat < us.length := by omega
  have e := atI_nat (List.getElem?_eq_getElem h)
  rw [show ((i.toNat : Nat) : Int) = i by omega] at e
  exact ⟨_, e, List.getElem_mem h⟩
structure TagW (t : Str) : Prop where
  pos : 1 ≤ t.length
  le : t.length ≤ 8
  low : signsIn letters t = true
theorem letters_ok : okStr letters = true := by decide +kernel
theorem TagW.mem {t : Str} (h : TagW t) {c : Nat} (hc : c ∈ t.cps.toList) : c ∈ letters.cps.toList := by
  have := List.all_eq_true.mp h.low c hc
  simpa using this
theorem TagW.bare {t : Str} (h : TagW t) : bareS t = t := by
  rcases bare_list t with q | q
  · exact (str_ext q).symm
  · exfalso
    have : (33 : Nat) ∈ t.cps.toList := by rw [q]; simp
    exact absurd (h.mem this) (by decide +kernel)
theorem TagW.tag {t : Str} (h : TagW t) : isTagS t = true := by
  unfold isTagS
  rw [h.bare, h.low]
  simp [h.pos, h.le]
theorem TagW.ok {t : Str} (h : TagW t) : okStr t = true := by
  have l := letters_ok
  unfold okStr at *
  rw [← Array.all_toList] at *
  exact List.all_eq_true.mpr fun c hc => List.all_eq_true.mp l c (h.mem hc)
theorem TagW.first {t : Str} (h : TagW t) : ∃ c r, t.cps.toList = c :: r ∧ c ∈ letters.cps.toList := tag_first h.tag
theorem TagW.nokind {t : Str} (h : TagW t) : isKindS t = false := by
  cases k : isKindS t with
  | false => rfl
  | true =>
    obtain ⟨c, r, e, m⟩ := h.first
    rcases kind_four k with z | z | z | z <;> subst z <;> exact absurd (h.mem (c := 36) (by decide +kernel)) (by decide +kernel)
theorem tagw_list {t : Str} (h1 : 1 ≤ t.cps.toList.length) (h2 : t.cps.toList.length ≤ 8) (h3 : ∀ c ∈ t.cps.toList, c ∈ letters.cps.toList) : TagW t :=
  ⟨by rw [slen_list]; exact h1, by rw [slen_list]; exact h2, List.all_eq_true.mpr fun c hc => by simpa using h3 c hc⟩
theorem nodup_len {α : Type} [DecidableEq α] : ∀ {xs ys : List α}, xs.Nodup → (∀ x ∈ xs, x ∈ ys) → xs.length ≤ ys.length
  | [], ys, _, _ => Nat.zero_le _
  | x :: xs, ys, nd, h => by
    have hx := h x List.mem_cons_self
    have nd' := List.nodup_cons.mp nd
    have := nodup_len (ys := ys.erase x) nd'.2 fun z hz => by
      have : z ≠ x := fun e => nd'.1 (e ▸ hz)
      exact (List.mem_erase_of_ne this).mpr (h z (List.mem_cons_of_mem _ hz))
    rw [List.length_erase_of_mem hx] at this
    have : 0 < ys.length := List.length_pos_of_mem hx
    simp only [List.length_cons]
    omega
/-! labels as the laws draw them -/
def LabW (l : Str) : Prop := TagW l ∨ l = ("$int" : Str) ∨ l = ("$text" : Str)
theorem LabW.label {l : Str} (h : LabW l) : isLabelS l = true := by
  rcases h with h | h | h
  · simp [isLabelS, h.tag]
  · subst h; decide +kernel
  · subst h; decide +kernel
theorem LabW.ok {l : Str} (h : LabW l) : okStr l = true := by
  rcases h with h | h | h
  · exact h.ok
  · subst h; decide +kernel
  · subst h; decide +kernel
theorem LabW.len {l : Str} (h : LabW l) : 1 ≤ l.length ∧ l.length ≤ 8 := by
  rcases h with h | h | h
  · exact ⟨h.pos, h.le⟩
  · subst h; decide +kernel
  · subst h; decide +kernel
theorem LabW.bare {l : Str} (h : LabW l) : bareS l = l := by
  rcases h with h | h | h
  · exact h.bare
  · subst h; decide +kernel
  · subst h; decide +kernel
theorem LabW.kind {l : Str} (h : LabW l) : (cutStr l none (some 1) == ("$" : Str)) = isKindS l := lawKind_eq h.label
theorem LabW.kindP {l : Str} (h : LabW l) : (cutStr l none (some 1) = ("$" : Str)) = (isKindS l = true) := by
  rw [← h.kind]; simp
theorem LabW.tag {l : Str} (h : LabW l) (k : isKindS l = false) : isTagS l = true := by
  have := h.label
  simpa [isLabelS, k] using this
theorem LabW.sm {l : Str} (h : LabW l) : Sm (.str l) := ⟨by simpa [pvU] using h.ok, by have := h.len; simp only [nd]; omega⟩
structure LabL (ls : List Str) : Prop where
  all : ∀ l ∈ ls, LabW l
  nodup : ls.Nodup
  sorted : sortedS ls = true
  tag : ∃ l ∈ ls, isKindS l = false
theorem LabL.ne {ls : List Str} (h : LabL ls) : ls ≠ [] := by
  obtain ⟨l, hl, _⟩ := h.tag
  exact List.ne_nil_of_mem hl
structure Gp (ls : List Str) (p : U) (d : Nat) : Prop where
  part : isPart p = true
  pv : pvU p = true
  sz : nd p ≤ 16 * (labelsP p).length
  dep : depU p ≤ 2 * d + 2
  pos : 0 < (labelsP p).length
  lab : ∀ l ∈ labelsP p, l ∈ ls
structure Gps (ls : List Str) (ps : List U) (d : Nat) : Prop where
  part : ∀ p ∈ ps, isPart p = true
  pv : pvUs ps = true
  sz : nds ps ≤ 16 * (labelsPs ps).length
  dep : depUs ps ≤ 2 * d
  lab : ∀ l ∈ labelsPs ps, l ∈ ls
theorem labelsPs_append : ∀ {a b : List U}, labelsPs (a ++ b) = labelsPs a ++ labelsPs b
  | [], b => by simp [labelsPs]
  | x :: a, b => by simp [labelsPs, labelsPs_append (a := a)]
theorem labelsPs_single {p : U} : labelsPs [p] = labelsP p := by simp [labelsPs]
theorem Gp.mono {ls : List Str} {p : U} {d e : Nat} (g : Gp ls p d) (h : d ≤ e) : Gp ls p e := ⟨g.part, g.pv, g.sz, by have := g.dep; omega, g.pos, g.lab⟩
theorem Gps.nil {ls : List Str} {d : Nat} : Gps ls [] d := ⟨by simp, by simp [pvUs], by simp [nds], by simp [depUs], by simp [labelsPs]⟩
theorem Gps.snoc {ls : List Str} {ps : List U} {p : U} {d : Nat} (h : Gps ls ps (d + 1)) (g : Gp ls p d) : Gps ls (ps ++ [p]) (d + 1) := by
  refine ⟨fun q hq => ?_, ?_, ?_, ?_, ?_⟩
  · rcases List.mem_append.mp hq with h' | h'
    · exact h.part q h'
    · simp at h'; subst h'; exact g.part
  · rw [pvUs_append, h.pv]; simp [pvUs, g.pv]
  · have := h.sz; have := g.sz
    rw [nds_append, labelsPs_append, labelsPs_single]
    simp [nds]; omega
  · have := h.dep; have := g.dep
    rw [depUs_append]
    simp [depUs]; omega
  · rw [labelsPs_append, labelsPs_single]
    intro l hl
    rcases List.mem_append.mp hl with h' | h'
    · exact h.lab l h'
    · exact g.lab l h'
theorem Gp.tag {ls : List Str} {l : Str} {ps : List U} {d : Nat} (hm : l ∈ ls) (hl : LabW l) (hk : isKindS l = false) (h : Gps ls ps d) : Gp ls (.tup [.str l, .tup ps]) d := by
  have ht := hl.tag hk
  have e : (labelsP (.tup [.str l, .tup ps])).length = (labelsPs ps).length + 1 := by rw [labelsP_tag]; simp
  refine ⟨?_, ?_, ?_, ?_, ?_, ?_⟩
  · unfold isPart
    rw [if_neg (by simp [hk]), ht]
    unfold isPartsT
    rw [isParts_all]
    simpa using h.part
  · simp [pvU, pvUs, hl.ok, h.pv]
  · rw [e]
    have := h.sz
    have := hl.len
    simp only [nd, nds]
    omega
  · have := h.dep
    simp only [depU, depUs]
    omega
  · omega
  · rw [labelsP_tag]
    intro x hx
    rcases List.mem_cons.mp hx with e | hx
    · subst e; exact hm
    · exact h.lab x hx
theorem Gp.leaf {ls : List Str} {l x : Str} {d : Nat} (hm : l ∈ ls) (hl : LabW l) (hk : isKindS l = true) (h1 : isTextS l x = true) (h2 : okStr x = true) (h3 : x.length ≤ 5) : Gp ls (.tup [.str l, .str x]) d := by
  have e : (labelsP (.tup [.str l, .str x])).length = 1 := by rw [labelsP_kind]; simp
  refine ⟨?_, ?_, ?_, ?_, ?_, ?_⟩
  · unfold isPart
    rw [if_pos hk]
    exact h1
  · simp [pvU, pvUs, hl.ok, h2]
  · rw [e]
    have := hl.len
    simp only [nd, nds]
    omega
  · simp only [depU, depUs]
    omega
  · omega
  · rw [labelsP_kind]; simpa using hm
end Sem
namespace Pu
open PySem PySem.Spec PyProof.Rows L2
theorem put_swap {M : Mp} {r p : Addr} {o o' x : MO} (h : r ≠ p) : put (put (put M r o) p x) r o' = put (put M r o') p x := by
  funext c
  by_cases c1 : c = r
  · subst c1; rw [put_same, put_ne h, put_same]
  · rw [put_ne c1]
    by_cases c2 : c = p
    · subst c2; rw [put_same, put_same]
    · rw [put_ne c2, put_ne c2, put_ne c1, put_ne c1]
open PySem PySem.Spec PyProof.Rows L2
theorem Fewer.own {M M' : Mp} {q : Addr} {o : MO} (s : Fewer M M') (h : M q = none) : Fewer M (put M' q o) := fun a u e => by
  have : a ≠ q := fun z => by rw [z, h] at e; cases e
  rw [put_ne this]; exact s a u e
theorem any_str (xs : List Str) (x : Str) : (xs.map U.str).any (fun z => eqU z (.str x)) = decide (x ∈ xs) := by
  induction xs with
  | nil => rfl
  | cons y ys ih =>
    rw [List.map_cons, List.any_cons, ih]
    have : eqU (.str y) (.str x) = decide (x = y) := by
      simp only [eqU]
      rw [Bool.eq_iff_iff]
      simp
      exact eq_comm
    rw [this]
    by_cases h : x = y
    · simp [h]
    · simp [h]
theorem scal_strs (xs : List Str) : (xs.map U.str).all Scal = true := by simp [Scal]
/-- x (not) in a list of texts that a handle holds -/
theorem uIn_strs {M : Mp} {p : Addr} {xs : List Str} {x : Str} {R : UK} (m : M p = some (.lst (xs.map .str))) (q : R (.bl (decide (x ∈ xs))) M) : uIn0 (.str x) (.ref p) M R :=
  .inl ⟨xs.map .str, by simp [seqOf, lstOf, m], .inl ⟨rfl, scal_strs xs⟩, by rw [if_neg Bool.false_ne_true, any_str]; exact q⟩
theorem uNotIn_strs {M : Mp} {p : Addr} {xs : List Str} {x : Str} {R : UK} (m : M p = some (.lst (xs.map .str))) (q : R (.bl (!decide (x ∈ xs))) M) : uNotIn0 (.str x) (.ref p) M R :=
  .inl ⟨xs.map .str, by simp [seqOf, lstOf, m], .inl ⟨rfl, scal_strs xs⟩, by rw [if_pos rfl, any_str]; exact q⟩
theorem comp_filterM {gt : WG} {tc : WT} {te : WE} {su1 : Sg} {M : Mp} {us : List U} {R : UK} (p : U → Bool) (f : U → U) (hz : us.length ≤ sizeLine)
    (h : ∀ x ∈ us, ∀ D a (R : Bool → UK), M D = none → R (p x) (f x) (put M D (.lst a)) → gt x su1 (put M D (.lst a)) fun su2 M1 => tc su2 M1 fun k M2 => if k = true then te su2 M2 (R true) else R false (f x) M2) (q : R (.lst ((us.filter p).map f)) M) :
    CompG false Any gt tc te su1 us M R := fun D hD =>
  ⟨trivial, compU_filter hD p f (fun acc => trivial) us [] _ (fun x hx a R r => h x hx D a R hD r) (by simpa using hz) (by
    unfold compEnd
    rw [if_neg Bool.false_ne_true, del_put hD]
    simpa using q)⟩
theorem comp_mapM {gt : WG} {te : WE} {su1 : Sg} {M : Mp} {us : List U} {R : UK} (f : U → U) (hz : us.length ≤ sizeLine)
    (h : ∀ x ∈ us, ∀ D a (R : UK), M D = none → R (f x) (put M D (.lst a)) → gt x su1 (put M D (.lst a)) fun su2 M1 => te su2 M1 R) (q : R (.lst (us.map f)) M) : CompG false Any gt wYes te su1 us M R := fun D hD =>
  ⟨trivial, compU_map hD f (fun acc => trivial) us [] _ (fun x hx a R r => h x hx D a R hD r) (by simpa using hz) (by
    unfold compEnd
    rw [if_neg Bool.false_ne_true, del_put hD]
    simpa using q)⟩
/-- a for by its invariant, what follows a turn kept closed -/
theorem loop_K {keep : Mp → Prop} {gt : WG} {tb : WS} {D : UEnds} (I : List U → Sg → Mp → Prop) (us : List U) (su : Sg) (M : Mp) (h0 : I us su M) (hn : ∀ s m, I [] s m → D.nx s m)
    (hc : ∀ x r s m (K : Sg → Mp → Prop), I (x :: r) s m → (∀ s' m', keep m' → I r s' m' → K s' m') → gt x s m fun su1 M1 => tb { D with nx := K, ct := K, bk := D.nx } su1 M1) :
    loopU keep gt tb us D su M :=
  loop_ind I us su M h0 hn fun x r s m hi ih => hc x r s m (fun s m => keep m ∧ loopU keep gt tb r D s m) hi fun s' m' k i => ⟨k, ih s' m' i⟩
/-! comprehensions whose items are told by what they are made of -/
def Rel2 (Q : U → U → Prop) : List U → List U → Prop
  | [], ys => ys = []
  | x :: xs, ys => ∃ y r, ys = y :: r ∧ Q x y ∧ Rel2 Q xs r
theorem Rel2.length {Q : U → U → Prop} : ∀ {xs ys : List U}, Rel2 Q xs ys → ys.length = xs.length
  | [], ys, h => by unfold Rel2 at h; rw [h]
  | x :: xs, ys, h => by
    unfold Rel2 at h
    obtain ⟨y, r, rfl, _, h⟩ := h
    simp [Rel2.length h]
theorem Rel2.nil {Q : U → U → Prop} : Rel2 Q [] [] := by unfold Rel2; rfl
theorem Rel2.cons {Q : U → U → Prop} {x y : U} {xs ys : List U} (h : Q x y) (r : Rel2 Q xs ys) : Rel2 Q (x :: xs) (y :: ys) := by unfold Rel2; exact ⟨y, ys, rfl, h, r⟩
theorem Rel2.mem {Q : U → U → Prop} : ∀ {xs ys : List U}, Rel2 Q xs ys → ∀ y ∈ ys, ∃ x ∈ xs, Q x y
  | [], ys, h, y, hy => by unfold Rel2 at h; rw [h] at hy; cases hy
  | x :: xs, ys, h, y, hy => by
    unfold Rel2 at h
    obtain ⟨z, r, rfl, q, h⟩ := h
    rcases List.mem_cons.mp hy with e | hy
    · subst e; exact ⟨x, List.mem_cons_self, q⟩
    · obtain ⟨w, hw, q⟩ := Rel2.mem h y hy
      exact ⟨w, List.mem_cons_of_mem _ hw, q⟩
theorem compU_rel {D : Addr} {gt : WG} {te : WE} {su1 : Sg} {M : Mp} {Q : U → U → Prop} : ∀ (us acc : List U) (R : List U → Mp → Prop),
    (∀ x ∈ us, ∀ a (R : UK), (∀ y, Q x y → R y (put M D (.lst a))) → gt x su1 (put M D (.lst a)) fun su2 M1 => te su2 M1 R) → acc.length + us.length ≤ sizeLine → (∀ vs, Rel2 Q us vs → R (acc ++ vs) (put M D (.lst (acc ++ vs)))) → compU D Any gt wYes te su1 us (put M D (.lst acc)) R
  | [], acc, R, _, _, q => ⟨acc, put_same, by simpa using q [] .nil⟩
  | x :: r, acc, R, h, hz, q => by
    unfold compU
    refine h x List.mem_cons_self acc (fun y M1 => ∃ acc, M1 D = some (.lst acc) ∧ acc.length < sizeLine ∧ Any (put M1 D (.lst (acc ++ [y]))) ∧ compU D Any gt wYes te su1 r (put M1 D (.lst (acc ++ [y]))) R) fun y hy => ⟨acc, put_same, by simp at hz; omega, trivial, ?_⟩
    rw [put_put]
    refine compU_rel r (acc ++ [y]) R (fun y hy => h y (List.mem_cons_of_mem _ hy)) (by simp at hz ⊢; omega) fun vs h1 => ?_
    have := q (y :: vs) (.cons hy h1)
    simpa using this
theorem comp_rel {gt : WG} {te : WE} {su1 : Sg} {M : Mp} {us : List U} {R : UK} {Q : U → U → Prop} (hz : us.length ≤ sizeLine)
    (h : ∀ x ∈ us, ∀ D a (R : UK), M D = none → (∀ y, Q x y → R y (put M D (.lst a))) → gt x su1 (put M D (.lst a)) fun su2 M1 => te su2 M1 R) (q : ∀ vs, Rel2 Q us vs → R (.lst vs) M) : CompG false Any gt wYes te su1 us M R := fun D hD =>
  ⟨trivial, compU_rel us [] _ (fun x hx a R q => h x hx D a R hD q) (by simpa using hz) fun vs h1 => by
    unfold compEnd
    rw [if_neg Bool.false_ne_true, List.nil_append, del_put hD]
    exact q vs h1⟩
end Pu
namespace Sem
open PySem PySem.Spec PyProof.Rows L2 Pu
/-! marks -/
theorem bare_mark (l : Str) : bareS (l ++ ("!" : Str)) = l := by
  have e0 : (l ++ ("!" : Str)).cps.toList = l.cps.toList ++ [33] := app_list _ _
  have e1 : cutStr (l ++ ("!" : Str)) (some (-1)) none = ("!" : Str) := by
    apply str_ext
    rw [cutStr_list, cut_last, e0]
    simp
    rfl
  unfold bareS
  rw [if_pos (by rw [e1]; simp)]
  apply str_ext
  rw [cutStr_list, cut_init, e0]
  simp
theorem app_empty (l : Str) : l ++ ("" : Str) = l := str_ext (by rw [app_list]; exact List.append_nil _)
/-- a label, marked or not -/
theorem mark_bare {l m : Str} (h : LabW l) (hm : m = ("!" : Str) ∨ m = ("" : Str)) : bareS (l ++ m) = l ∧ okStr (l ++ m) = true ∧ (l ++ m).length ≤ l.length + 1 := by
  rcases hm with e | e <;> subst e
  · refine ⟨bare_mark l, ?_, ?_⟩
    · have := h.ok
      unfold okStr at *
      rw [← Array.all_toList] at *
      rw [app_list, List.all_append, this]
      decide +kernel
    · rw [slen_list, app_list, List.length_append, ← slen_list]
      exact Nat.le_refl _
  · rw [app_empty]
    exact ⟨h.bare, h.ok, by omega⟩
theorem mark_same {l m : Str} (h : bareS m = bareS l) : isKindS m = isKindS l ∧ isTagS m = isTagS l ∧ ∀ x, isTextS m x = isTextS l x := by
  refine ⟨by unfold isKindS; rw [h], by unfold isTagS; rw [h], fun x => by unfold isTextS; rw [h]⟩
theorem labels_mem {l : Str} {p : U} : ∀ {ps : List U}, p ∈ ps → l ∈ labelsP p → l ∈ labelsPs ps
  | q :: ps, hp, hl => by
    simp only [labelsPs, List.mem_append]
    rcases List.mem_cons.mp hp with e | hp
    · subst e; exact .inl hl
    · exact .inr (labels_mem hp hl)
/-- p with some of its labels marked -/
structure Mkd (p q : U) : Prop where
  part : isPart q = true
  pv : pvU q = true
  sz : nd q ≤ nd p + (labelsP p).length
  dep : depU q = depU p
  doc : isDoc q = isDoc p
theorem mkds {ps qs : List U} (h : Rel2 Mkd ps qs) : (∀ q ∈ qs, isPart q = true) ∧ pvUs qs = true ∧ nds qs ≤ nds ps + (labelsPs ps).length ∧ depUs qs = depUs ps := by
  induction ps generalizing qs with
  | nil => unfold Rel2 at h; subst h; simp [pvUs, nds, depUs]
  | cons p ps ih =>
    unfold Rel2 at h
    obtain ⟨q, r, rfl, m, h⟩ := h
    obtain ⟨h1, h2, h3, h4⟩ := ih h
    refine ⟨fun x hx => ?_, by simp [pvUs, m.pv, h2], ?_, by simp only [depUs, m.dep, h4]⟩
    · rcases List.mem_cons.mp hx with e | hx
      · subst e; exact m.part
      · exact h1 x hx
    · have := m.sz
      simp only [nds, labelsPs, List.length_append]
      omega
end Sem

/-! places of parts; parts put, put in, taken out: plain Lean -/
namespace Sem
open PySem PySem.Spec PyProof.Rows L2 Pu
def atN : U → List Nat → Option U
  | u, [] => some u
  | u, k :: r => match (partsP u)[k]? with
    | some p => atN p r
    | none => none
theorem atN_nil {u : U} : atN u [] = some u := by cases u <;> rfl
theorem atN_cons {u : U} {k : Nat} {r : List Nat} : atN u (k :: r) = match (partsP u)[k]? with
    | some p => atN p r
    | none => none := by cases u <;> rfl
theorem atN_step {u p : U} {k : Nat} {r : List Nat} (h : (partsP u)[k]? = some p) : atN u (k :: r) = atN p r := by rw [atN_cons, h]
theorem atN_app : ∀ {a b : List Nat} {u q : U}, atN u a = some q → atN u (a ++ b) = atN q b
  | [], b, u, q, h => by rw [atN_nil] at h; cases h; rfl
  | k :: a, b, u, q, h => by
    rw [atN_cons] at h
    rw [List.cons_append, atN_cons]
    cases e : (partsP u)[k]? with
    | none => rw [e] at h; cases h
    | some p => rw [e] at h; exact atN_app h
theorem atN_pre : ∀ {a b : List Nat} {u q : U}, atN u (a ++ b) = some q → ∃ p, atN u a = some p ∧ atN p b = some q
  | [], b, u, q, h => ⟨u, atN_nil, h⟩
  | k :: a, b, u, q, h => by
    rw [List.cons_append, atN_cons] at h
    cases e : (partsP u)[k]? with
    | none => rw [e] at h; cases h
    | some p =>
      rw [e] at h
      obtain ⟨p', h1, h2⟩ := atN_pre h
      exact ⟨p', by rw [atN_step e]; exact h1, h2⟩
def plU (pl : List Nat) : U := .tup (pl.map fun (k : Nat) => .int (k : Int))
theorem plU_inj {a b : List Nat} (h : plU a = plU b) : a = b := by
  have h2 : a.map (fun (k : Nat) => U.int (k : Int)) = b.map (fun (k : Nat) => U.int (k : Int)) := by simpa [plU] using h
  exact List.map_inj_right (by intro x y e; simp at e; omega) |>.mp h2
theorem plU_ok {pl : List Nat} (h : pl.length ≤ 1000) : Sm (plU pl) ∧ depU (plU pl) ≤ 1 ∧ nd (plU pl) ≤ 1001 ∧ okU (plU pl) = true := by
  have key : ∀ pl : List Nat, pvUs (pl.map fun (k : Nat) => U.int (k : Int)) = true ∧ nds (pl.map fun (k : Nat) => U.int (k : Int)) = pl.length ∧ depUs (pl.map fun (k : Nat) => U.int (k : Int)) = 0 ∧ okUs (pl.map fun (k : Nat) => U.int (k : Int)) = true := fun pl => by
    induction pl with
    | nil => simp [pvUs, nds, depUs, okUs]
    | cons k pl ih => obtain ⟨a, b, c, d⟩ := ih; simp [pvUs, nds, depUs, okUs, pvU, nd, depU, okU, a, b, c, d]; omega
  obtain ⟨a, b, c, d⟩ := key pl
  unfold plU
  refine ⟨⟨by simpa [pvU] using a, by simp only [nd]; omega⟩, by simp only [depU]; omega, by simp only [nd]; omega, by simpa [okU] using d⟩
theorem atI_pos {us : List U} {i : Int} {p : U} (h0 : 0 ≤ i) (h : us[i.toNat]? = some p) : atI us i = some p := by
  have := atI_nat h
  rwa [show ((i.toNat : Nat) : Int) = i by omega] at this
/-- the form of a part -/
def leafU : U → Bool
  | .tup (.str l :: _) => isKindS l
  | _ => false
def labU : U → U
  | .tup (l :: _) => l
  | u => u
theorem part_form {u : U} (h : isPart u = true) : ∃ (l : Str) (y : U), u = .tup [.str l, y] ∧ isLabelS l = true ∧ leafU u = isKindS l ∧ labU u = .str l := by
  cases partC h with
  | @kind l x k t => exact ⟨l, _, rfl, by simp [isLabelS, k], rfl, rfl⟩
  | @tag l ps k t hh => exact ⟨l, _, rfl, by simp [isLabelS, t], rfl, rfl⟩
theorem node_form {u : U} (h : isPart u = true) (k : leafU u = false) : ∃ (l : Str) (ps : List U), u = .tup [.str l, .tup ps] ∧ isKindS l = false ∧ isTagS l = true ∧ (∀ p ∈ ps, isPart p = true) ∧ partsP u = ps := by
  cases partC h with
  | @kind l x k' t => have : isKindS l = false := k; rw [k'] at this; cases this
  | @tag l ps k t hh => exact ⟨l, ps, rfl, k, t, hh, rfl⟩
theorem isPart_node {l : Str} {ps : List U} (k : isKindS l = false) (t : isTagS l = true) (h : ∀ p ∈ ps, isPart p = true) : isPart (.tup [.str l, .tup ps]) = true := by
  unfold isPart
  rw [if_neg (by simp [k]), t]
  unfold isPartsT
  rw [isParts_all]
  simpa using h
theorem step_at {u p : U} {k : Nat} (hp : isPart u = true) (h : (partsP u)[k]? = some p) : ∃ (l : Str) (ps : List U), u = .tup [.str l, .tup ps] ∧ partsP u = ps ∧ ps[k]? = some p ∧ atI ps (k : Int) = some p ∧ isPart p = true ∧ isKindS l = false ∧ isTagS l = true ∧ ∀ p ∈ ps, isPart p = true := by
  cases partC hp with
  | @kind l x k t => simp [partsP] at h
  | @tag l ps k' t hh =>
    have h' : ps[k]? = some p := h
    exact ⟨l, ps, rfl, rfl, h', atI_nat h', hh p (List.mem_of_getElem? h'), k', t, hh⟩
theorem at_isPart : ∀ {pl : List Nat} {u q : U}, isPart u = true → atN u pl = some q → isPart q = true
  | [], u, q, hp, h => by rw [atN_nil] at h; cases h; exact hp
  | k :: pl, u, q, hp, h => by
    rw [atN_cons] at h
    cases e : (partsP u)[k]? with
    | none => rw [e] at h; cases h
    | some p =>
      rw [e] at h
      obtain ⟨_, _, _, _, _, _, hpp, _⟩ := step_at hp e
      exact at_isPart hpp h
theorem at_size : ∀ {pl : List Nat} {u q : U}, isPart u = true → pvU u = true → atN u pl = some q → pvU q = true ∧ depU q + pl.length ≤ depU u ∧ nd q ≤ nd u ∧ (labelsP q).length + pl.length ≤ (labelsP u).length ∧ ∀ l ∈ labelsP q, l ∈ labelsP u
  | [], u, q, hp, hv, h => by rw [atN_nil] at h; cases h; exact ⟨hv, by simp, Nat.le_refl _, by simp, fun _ h => h⟩
  | k :: pl, u, q, hp, hv, h => by
    rw [atN_cons] at h
    cases e : (partsP u)[k]? with
    | none => rw [e] at h; cases h
    | some p =>
      rw [e] at h
      obtain ⟨l, ps, rfl, e2, e3, _, hpp, _⟩ := step_at hp e
      have hm := List.mem_of_getElem? e3
      simp [pvU, pvUs] at hv
      obtain ⟨g1, g2, g3, g4, g5⟩ := at_size hpp (pvU_mem hv.2 hm) h
      have h1 := nd_mem hm
      have h2 := dep_mem hm
      have h3 : ∀ {ps : List U}, p ∈ ps → (labelsP p).length ≤ (labelsPs ps).length := fun {ps} hm => by
        induction ps with
        | nil => cases hm
        | cons x ps ih =>
          simp only [labelsPs, List.length_append]
          rcases List.mem_cons.mp hm with e | hm
          · subst e; omega
          · have := ih hm; omega
      have h3 := h3 hm
      refine ⟨g1, by simp only [depU, depUs, List.length_cons]; omega, by simp only [nd, nds]; omega, by rw [labelsP_tag]; simp only [List.length_cons]; omega, fun x hx => ?_⟩
      rw [labelsP_tag]
      exact List.mem_cons_of_mem _ (labels_mem hm (g5 x hx))
theorem dep_labels : ∀ u, isPart u = true → depU u ≤ 2 * (labelsP u).length := by
  refine part_ind (P := fun u => depU u ≤ 2 * (labelsP u).length) (fun l x k t => ?_) fun l ps k t hh => ?_
  · rw [labelsP_kind]; simp [depU, depUs]
  · rw [labelsP_tag]
    have : depUs ps ≤ 2 * (labelsPs ps).length := by
      clear k t
      induction ps with
      | nil => simp [depUs]
      | cons p ps ih =>
        have h1 := (hh p List.mem_cons_self).2
        have h2 := ih fun x hx => hh x (List.mem_cons_of_mem _ hx)
        simp only [depUs, labelsPs, List.length_append]
        omega
    simp only [depU, depUs, List.length_cons]
    omega
theorem part_len {u : U} (h : isPart u = true) : 1 ≤ (labelsP u).length := by
  cases partC h with
  | @kind l x k t => rw [labelsP_kind]; simp
  | @tag l ps k t hh => rw [labelsP_tag]; simp
/-! all places, ascending -/
mutual
def placesP : U → List (List Nat)
  | .tup (_ :: .tup ps :: []) => [] :: placesPs 0 ps
  | _ => [[]]
def placesPs : Nat → List U → List (List Nat)
  | _, [] => []
  | k, p :: ps => (placesP p).map (k :: ·) ++ placesPs (k + 1) ps
end
theorem placesP_node {l : U} {ps : List U} : placesP (.tup [l, .tup ps]) = [] :: placesPs 0 ps := by simp [placesP]
theorem placesP_leaf {l x : Str} : placesP (.tup [.str l, .str x]) = [[]] := by simp [placesP]
theorem placesP_ne (u : U) : placesP u ≠ [] := by
  unfold placesP
  split <;> simp
theorem mem_placesPs {pl : List Nat} : ∀ {k : Nat} {ps : List U}, pl ∈ placesPs k ps ↔ ∃ j p r, ps[j]? = some p ∧ r ∈ placesP p ∧ pl = (k + j) :: r
  | k, [] => by simp [placesPs]
  | k, p :: ps => by
    simp only [placesPs, List.mem_append, List.mem_map, mem_placesPs (k := k + 1) (ps := ps)]
    constructor
    · rintro (⟨r, hr, rfl⟩ | ⟨j, q, r, h1, h2, rfl⟩)
      · exact ⟨0, p, r, rfl, hr, rfl⟩
      · exact ⟨j + 1, q, r, by simpa using h1, h2, by rw [show k + 1 + j = k + (j + 1) by omega]⟩
    · rintro ⟨j, q, r, h1, h2, rfl⟩
      cases j with
      | zero => simp at h1; subst h1; exact .inl ⟨r, h2, rfl⟩
      | succ j => exact .inr ⟨j, q, r, by simpa using h1, h2, by rw [show k + 1 + j = k + (j + 1) by omega]⟩
theorem mem_placesP : ∀ {pl : List Nat} {u : U}, isPart u = true → (pl ∈ placesP u ↔ ∃ q, atN u pl = some q)
  | [], u, hp => by
    constructor
    · intro _; exact ⟨u, atN_nil⟩
    · intro _
      unfold placesP
      split <;> simp
  | k :: pl, u, hp => by
    cases partC hp with
    | @kind l x h t =>
      rw [placesP_leaf]
      simp only [List.mem_singleton, reduceCtorEq, false_iff]
      rintro ⟨q, h⟩
      rw [atN_cons] at h
      simp [partsP] at h
    | @tag l ps h t hh =>
      rw [placesP_node]
      simp only [List.mem_cons, reduceCtorEq, false_or, mem_placesPs, Nat.zero_add]
      constructor
      · rintro ⟨j, p, r, h1, h2, e⟩
        obtain ⟨rfl, rfl⟩ := List.cons.inj e
        obtain ⟨q, hq⟩ := (mem_placesP (hh p (List.mem_of_getElem? h1))).mp h2
        exact ⟨q, by rw [atN_step (show (partsP (.tup [.str l, .tup ps]))[k]? = some p from h1)]; exact hq⟩
      · rintro ⟨q, hq⟩
        rw [atN_cons] at hq
        cases e : (partsP (.tup [.str l, .tup ps]))[k]? with
        | none => rw [e] at hq; cases hq
        | some p =>
          rw [e] at hq
          have e' : ps[k]? = some p := e
          exact ⟨k, p, pl, e', (mem_placesP (hh p (List.mem_of_getElem? e'))).mpr ⟨q, hq⟩, rfl⟩
theorem placesP_len : ∀ u, isPart u = true → (placesP u).length = (labelsP u).length := by
  refine part_ind (P := fun u => (placesP u).length = (labelsP u).length) (fun l x k t => ?_) fun l ps k t hh => ?_
  · rw [placesP_leaf, labelsP_kind]; rfl
  · rw [placesP_node, labelsP_tag]
    have : ∀ (n : Nat), (placesPs n ps).length = (labelsPs ps).length := by
      clear k t
      induction ps with
      | nil => intro n; simp [placesPs, labelsPs]
      | cons p ps ih =>
        intro n
        have h1 := (hh p List.mem_cons_self).2
        simp only [placesPs, labelsPs, List.length_append, List.length_map, h1, ih (fun x hx => hh x (List.mem_cons_of_mem _ hx)) (n + 1)]
    simp [this]
/-! a part put in: behind k parts of the node at pl -/
def insP : U → List Nat → Nat → U → U
  | u, [], k, x => .tup [labU u, .tup ((partsP u).take k ++ x :: (partsP u).drop k)]
  | u, j :: r, k, x => match (partsP u)[j]? with
    | some p => .tup [labU u, .tup ((partsP u).take j ++ insP p r k x :: (partsP u).drop (j + 1))]
    | none => u
theorem split_at {ps : List U} {p : U} {j : Nat} (h : ps[j]? = some p) : ps = ps.take j ++ p :: ps.drop (j + 1) := by
  have hj := (List.getElem?_eq_some_iff.mp h).1
  have := List.drop_eq_getElem_cons hj
  rw [(List.getElem?_eq_some_iff.mp h).2] at this
  rw [← this, List.take_append_drop]
theorem insP_ok : ∀ {pl : List Nat} {u q x : U} {k : Nat}, isPart u = true → pvU u = true → atN u pl = some q → leafU q = false → k ≤ (partsP q).length → isPart x = true → pvU x = true →
    isPart (insP u pl k x) = true ∧ pvU (insP u pl k x) = true ∧ nd (insP u pl k x) = nd u + nd x ∧ (labelsP (insP u pl k x)).length = (labelsP u).length + (labelsP x).length ∧ (∀ l ∈ labelsP (insP u pl k x), l ∈ labelsP u ∨ l ∈ labelsP x) ∧ isDoc (insP u pl k x) = true
  | [], u, q, x, k, hp, hv, h, hl, hk, hx, hxv => by
    rw [atN_nil] at h
    cases h
    obtain ⟨l, ps, rfl, kl, tl, hps, e⟩ := node_form hp hl
    rw [e] at hk
    have elb : labU (.tup [.str l, .tup ps]) = .str l := rfl
    simp only [insP, e, elb]
    have hs : ps = ps.take k ++ ps.drop k := (List.take_append_drop k ps).symm
    generalize ps.take k = A at hs
    generalize ps.drop k = B at hs
    subst hs
    simp [pvU, pvUs, pvUs_append] at hv
    have hpart : isPart (.tup [.str l, .tup (A ++ x :: B)]) = true := isPart_node kl tl fun y hy => by
      rcases List.mem_append.mp hy with h | h
      · exact hps y (List.mem_append_left _ h)
      · rcases List.mem_cons.mp h with e | h
        · subst e; exact hx
        · exact hps y (List.mem_append_right _ h)
    refine ⟨hpart, ?_, ?_, ?_, ?_, ?_⟩
    · simp [pvU, pvUs, pvUs_append, hv, hxv]
    · simp only [nd, nds, nds_append]; omega
    · rw [labelsP_tag, labelsP_tag]
      simp only [labelsPs_append, labelsPs, List.length_cons, List.length_append]
      omega
    · rw [labelsP_tag, labelsP_tag]
      intro y hy
      simp only [labelsPs_append, labelsPs, List.mem_cons, List.mem_append] at hy ⊢
      rcases hy with h | h | h | h <;> simp [h]
    · simp [isDoc, hpart, isTag, tl]
  | j :: pl, u, q, x, k, hp, hv, h, hl, hk, hx, hxv => by
    rw [atN_cons] at h
    cases e : (partsP u)[j]? with
    | none => rw [e] at h; cases h
    | some p =>
      rw [e] at h
      obtain ⟨l, ps, rfl, e2, e3, _, hpp, kl, tl, hps⟩ := step_at hp e
      have hm := List.mem_of_getElem? e3
      have hs := split_at e3
      simp [pvU, pvUs] at hv
      obtain ⟨g1, g2, g3, g4, g5, _⟩ := insP_ok (x := x) (k := k) hpp (pvU_mem hv.2 hm) h hl hk hx hxv
      have elb : labU (.tup [.str l, .tup ps]) = .str l := rfl
      simp only [insP, e2, e3, elb]
      generalize ps.take j = A at hs
      generalize ps.drop (j + 1) = B at hs
      subst hs
      simp [pvUs_append, pvUs] at hv
      have hpart : isPart (.tup [.str l, .tup (A ++ insP p pl k x :: B)]) = true := isPart_node kl tl fun y hy => by
        rcases List.mem_append.mp hy with h | h
        · exact hps y (List.mem_append_left _ h)
        · rcases List.mem_cons.mp h with e | h
          · subst e; exact g1
          · exact hps y (List.mem_append_right _ (List.mem_cons_of_mem _ h))
      refine ⟨hpart, ?_, ?_, ?_, ?_, ?_⟩
      · simp [pvU, pvUs, pvUs_append, hv, g2]
      · simp only [nd, nds, nds_append, g3]; omega
      · rw [labelsP_tag, labelsP_tag]
        simp only [labelsPs_append, labelsPs, List.length_cons, List.length_append, g4]
        omega
      · rw [labelsP_tag, labelsP_tag]
        intro y hy
        simp only [labelsPs_append, labelsPs, List.mem_cons, List.mem_append] at hy ⊢
        rcases hy with h | h | h | h
        · simp [h]
        · simp [h]
        · rcases g5 y h with h | h <;> simp [h]
        · simp [h]
      · simp [isDoc, hpart, isTag, tl]
end Sem

namespace Sem
open PySem PySem.Spec PyProof.Rows L2 Pu
/-! ### sameness of values -/
mutual
def sameB : U → U → Bool
  | u, .non => isNonU u
  | .bl a, .bl b => a == b
  | .int a, .int b => a == b
  | .str a, .str b => a == b
  | .tup us, .tup vs => sameBs us vs
  | .lst us, .lst vs => sameBs us vs
  | _, _ => false
def sameBs : List U → List U → Bool
  | [], [] => true
  | u :: us, v :: vs => sameB u v && sameBs us vs
  | _, _ => false
end
theorem sameBs_len : ∀ {us vs : List U}, us.length ≠ vs.length → sameBs us vs = false
  | [], [], h => absurd rfl h
  | [], _ :: _, _ => by simp [sameBs]
  | _ :: _, [], _ => by simp [sameBs]
  | u :: us, v :: vs, h => by
    simp only [sameBs]
    rw [sameBs_len (by simpa using h), Bool.and_false]
theorem sameBs_range : ∀ (us vs : List U), us.length = vs.length → ((List.range vs.length).all fun i => sameB (us.getD i .non) (vs.getD i .non)) = sameBs us vs
  | [], [], _ => by simp [sameBs]
  | [], _ :: _, h => by simp at h
  | _ :: _, [], h => by simp at h
  | u :: us, v :: vs, h => by
    rw [List.length_cons, List.range_succ_eq_map, List.all_cons, List.all_map, sameBs]
    congr 1
    exact sameBs_range us vs (by simpa using h)
mutual
theorem same_refl : ∀ u : U, okU u = true → sameB u u = true
  | .non, _ => by simp [sameB, isNonU]
  | .bl _, _ => by simp [sameB]
  | .int _, _ => by simp [sameB]
  | .str _, _ => by simp [sameB]
  | .tup us, h => by simp only [sameB]; exact sames_refl us (by simpa [okU] using h)
  | .lst us, h => by simp only [sameB]; exact sames_refl us (by simpa [okU] using h)
  | .ty _, h => by simp [okU] at h
  | .ref _, h => by simp [okU] at h
  | .dct _ _, h => by simp [okU] at h
  | .pr _, h => by simp [okU] at h
theorem sames_refl : ∀ us : List U, okUs us = true → sameBs us us = true
  | [], _ => by simp [sameBs]
  | u :: us, h => by
    simp only [okUs, Bool.and_eq_true] at h
    simp only [sameBs, same_refl u h.1, sames_refl us h.2, Bool.true_and]
end
def onInt (f : Int → Bool) : U → Bool
  | .int i => f i
  | _ => false
theorem okU_mem' {us : List U} (h : okUs us = true) {u : U} (m : u ∈ us) : okU u = true := by
  induction us with
  | nil => cases m
  | cons v us ih =>
    simp only [okUs, Bool.and_eq_true] at h
    rcases List.mem_cons.mp m with e | m
    · subst e; exact h.1
    · exact ih h.2 m
def isIntU : U → Bool
  | .int _ => true
  | _ => false
end Sem

namespace Sem
open PySem PySem.Spec PyProof.Rows L2 Pu
theorem Sm.noTy {a : String} (h : Sm (.ty a)) : False := by have := h.1; simp [pvU] at this
/-- a bent value is not much greater -/
structure Bt (u v : U) : Prop where
  pv : pvU v = true
  sz : nd v ≤ 2 * nd u + 60
  dep : depU v ≤ depU u + 3
theorem nds_rev : ∀ us : List U, nds us.reverse = nds us
  | [] => rfl
  | x :: us => by rw [List.reverse_cons, nds_append, nds_rev us]; simp [nds]; omega
theorem pvUs_rev : ∀ us : List U, pvUs us.reverse = pvUs us
  | [] => rfl
  | x :: us => by rw [List.reverse_cons, pvUs_append, pvUs_rev us]; simp [pvUs, Bool.and_comm]
theorem depUs_rev : ∀ us : List U, depUs us.reverse = depUs us
  | [] => rfl
  | x :: us => by rw [List.reverse_cons, depUs_append, depUs_rev us]; simp [depUs]; omega
theorem split_k {us : List U} {i : Int} (h0 : 0 ≤ i) (h1 : i < us.length) : ∃ p x r, us = p ++ x :: r ∧ cutU us none (some i) = p ∧ cutU us (some (i + 1)) none = r ∧ cutU us (some i) none = x :: r ∧ atI us i = some x := by
  have hk : i.toNat < us.length := by omega
  refine ⟨us.take i.toNat, us[i.toNat], us.drop (i.toNat + 1), ?_, ?_, ?_, ?_, ?_⟩
  · rw [← List.drop_eq_getElem_cons hk, List.take_append_drop]
  · have := cut_to us i.toNat
    rwa [show ((i.toNat : Nat) : Int) = i by omega] at this
  · have := cut_from us (i.toNat + 1)
    rwa [show ((i.toNat + 1 : Nat) : Int) = i + 1 by omega] at this
  · have := cut_from us i.toNat
    rw [show ((i.toNat : Nat) : Int) = i by omega] at this
    rw [this, List.drop_eq_getElem_cons hk]
  · have := atI_nat (List.getElem?_eq_getElem hk)
    rwa [show ((i.toNat : Nat) : Int) = i by omega] at this
theorem okStr_app {a b : Str} (ha : okStr a = true) (hb : okStr b = true) : okStr (a ++ b) = true := by
  have e : (a ++ b).cps.toList = a.cps.toList ++ b.cps.toList := TL.tl_append a b
  unfold okStr at *
  rw [← Array.all_toList] at *
  rw [e, List.all_append, ha, hb]
  rfl
theorem okStr_cut {a : Str} (ha : okStr a = true) (lo hi : Option Int) : okStr (cutStr a lo hi) = true := by
  unfold okStr at *
  rw [← Array.all_toList] at *
  rw [cutStr_list]
  exact List.all_eq_true.mpr fun c hc => List.all_eq_true.mp ha c (cut_mem hc)
theorem len_app (a b : Str) : (a ++ b).length = a.length + b.length := by
  have e : (a ++ b).cps.toList = a.cps.toList ++ b.cps.toList := TL.tl_append a b
  show (a ++ b).cps.size = a.cps.size + b.cps.size
  rw [← Array.length_toList, ← Array.length_toList, ← Array.length_toList, e, List.length_append]
theorem box_lst {u : U} (hu : pvU u = true) : Bt u (.lst [u]) := ⟨by simp [pvU, pvUs, hu], by simp only [nd, nds]; omega, by simp [depU, depUs] <;> omega⟩
theorem box_tup {us : List U} (hu : pvU (.tup us) = true) : Bt (.tup us) (.lst us) := ⟨by simpa [pvU] using hu, by simp only [nd]; omega, by simp [depU] <;> omega⟩
theorem tup_bt {p r q : List U} {x : U} (h : pvU (.tup (p ++ x :: r)) = true) (hp : pvUs q = true) (hs : nds q ≤ nds p + (2 * nd x + 60) + nds r) (hd : depUs q ≤ max (max (depUs p) (depU x + 3)) (depUs r)) : Bt (.tup (p ++ x :: r)) (.tup q) := by
  refine ⟨by simpa [pvU] using hp, ?_, ?_⟩
  · simp only [nd, nds_append, nds]; omega
  · simp only [depU, depUs_append, depUs]; omega
end Sem

/-! migrations: plain Lean -/
namespace Sem
open PySem PySem.Spec PyProof.Rows L2 Pu
def bareIs (t : Str) : U → Bool
  | .str l => bareS l == t
  | _ => false
def alikeB (l x : U) : Bool := (isTag l && isTag x) || (isKind l && isKind x)
def deedB (l : U) : U → Bool
  | .tup (.str s :: r) => if s == ("keep" : Str) then (match r with
      | [x] => alikeB l x && !(bareIs "$text" l && bareIs "$int" x)
      | _ => false)
    else r.isEmpty && (s == ("drop" : Str) || (s == ("open" : Str) && isTag l))
  | _ => false
def pairB : U → Bool
  | .tup [l, d] => (isTag l || isKind l) && deedB l d
  | _ => false
def fstS : U → Str
  | .tup (.str l :: _) => l
  | _ => ""
def ascB : List U → Bool
  | p :: q :: r => strLt (fstS p) (fstS q) && ascB (q :: r)
  | _ => true
def migB : U → Bool
  | .tup ps => ps.all pairB && ascB ps
  | _ => false
inductive Deed where
  | keep (m : Str) | drop | opn
  deriving DecidableEq
def dU : Deed → U
  | .keep m => .tup [.str "keep", .str m]
  | .drop => .tup [.str "drop"]
  | .opn => .tup [.str "open"]
theorem dU_inj {a b : Deed} (h : dU a = dU b) : a = b := by
  cases a <;> cases b <;> simp [dU] at h ⊢
  · exact h
  · exact absurd h (by decide +kernel)
  · exact absurd h (by decide +kernel)
abbrev Mig := List (Str × Deed)
def prU (p : Str × Deed) : U := .tup [.str p.1, dU p.2]
def migU (ms : Mig) : U := .tup (ms.map prU)
/-- a deed that fits a label -/
def fitD (l : Str) : Deed → Prop
  | .keep m => (isKindS l = isKindS m ∧ isLabelS m = true) ∧ ¬ (isKindS l = true ∧ bareS l = ("$text" : Str) ∧ bareS m = ("$int" : Str))
  | .drop => True
  | .opn => isKindS l = false
structure MigOk (ms : Mig) : Prop where
  lab : ∀ p ∈ ms, isLabelS p.1 = true
  fit : ∀ p ∈ ms, fitD p.1 p.2
  asc : StrictS (ms.map (·.1))
theorem kind_not_tagS {l : Str} (k : isKindS l = true) : isTagS l = false := by
  rcases kind_four k with e | e | e | e <;> subst e <;> decide +kernel
theorem tag_not_kindS {l : Str} (t : isTagS l = true) : isKindS l = false := by
  cases k : isKindS l with
  | false => rfl
  | true => rw [kind_not_tagS k] at t; cases t
theorem strLt_iff {a b : Str} : strLt a b = true ↔ a.cps.toList < b.cps.toList := by unfold strLt; simp
theorem text_kind {l : Str} (h : bareS l = ("$text" : Str)) : isKindS l = true := by unfold isKindS kvPlain; rw [h]; decide +kernel
theorem int_kind {l : Str} (h : bareS l = ("$int" : Str)) : isKindS l = true := by unfold isKindS kvPlain; rw [h]; decide +kernel
theorem deedB_fit {l : Str} {d : U} (hl : isLabelS l = true) (h : deedB (.str l) d = true) : ∃ e : Deed, d = dU e ∧ fitD l e := by
  cases d with
  | tup us =>
    cases us with
    | nil => simp [deedB] at h
    | cons u r =>
      cases u with
      | str s =>
        simp only [deedB] at h
        split at h
        · rename_i hs
          have hs : s = ("keep" : Str) := by simpa using hs
          subst hs
          match r, h with
          | [x], h =>
            simp only [Bool.and_eq_true, Bool.not_eq_true'] at h
            obtain ⟨h1, h2⟩ := h
            cases x with
            | str m =>
              refine ⟨.keep m, rfl, ?_, ?_⟩
              · simp only [alikeB, isTag, isKind, Bool.or_eq_true, Bool.and_eq_true] at h1
                rcases h1 with ⟨a, b⟩ | ⟨a, b⟩
                · exact ⟨by rw [tag_not_kindS a, tag_not_kindS b], by simp [isLabelS, b]⟩
                · exact ⟨by rw [a, b], by simp [isLabelS, b]⟩
              · rintro ⟨k, e1, e2⟩
                simp [bareIs, e1, e2] at h2
            | _ => simp [alikeB, isTag, isKind] at h1
        · simp only [Bool.and_eq_true, Bool.or_eq_true, List.isEmpty_iff] at h
          obtain ⟨h0, h1⟩ := h
          subst h0
          rcases h1 with h1 | ⟨h1, h2⟩
          · have : s = ("drop" : Str) := by simpa using h1
            subst this
            exact ⟨.drop, rfl, trivial⟩
          · have : s = ("open" : Str) := by simpa using h1
            subst this
            exact ⟨.opn, rfl, tag_not_kindS h2⟩
      | _ => simp [deedB] at h
  | _ => simp [deedB] at h
theorem fit_deedB {l : Str} {e : Deed} (hl : isLabelS l = true) (h : fitD l e) : deedB (.str l) (dU e) = true := by
  cases e with
  | drop => simp only [dU, deedB]; rw [if_neg (by decide +kernel)]; simp
  | opn =>
    have ht : isTagS l = true := by have h : isKindS l = false := h; simpa [isLabelS, h] using hl
    simp only [dU, deedB]
    rw [if_neg (by decide +kernel)]
    simp [isTag, ht]
  | keep m =>
    obtain ⟨⟨h1, h2⟩, h3⟩ := h
    simp only [dU, deedB]
    rw [if_pos (by simp)]
    have a : alikeB (.str l) (.str m) = true := by
      simp only [alikeB, isTag, isKind]
      cases k : isKindS l with
      | true => rw [k] at h1; simp [← h1]
      | false =>
        rw [k] at h1
        have t1 : isTagS l = true := by simpa [isLabelS, k] using hl
        have t2 : isTagS m = true := by simpa [isLabelS, ← h1] using h2
        simp [t1, t2]
    have b : (bareIs "$text" (.str l) && bareIs "$int" (.str m)) = false := by
      cases e1 : bareIs "$text" (.str l) with
      | false => rfl
      | true =>
        cases e2 : bareIs "$int" (.str m) with
        | false => rfl
        | true =>
          have e1 : bareS l = ("$text" : Str) := by simpa [bareIs] using e1
          have e2 : bareS m = ("$int" : Str) := by simpa [bareIs] using e2
          exact absurd ⟨text_kind e1, e1, e2⟩ h3
    rw [a, b]
    rfl
theorem pairB_form {p : U} (h : pairB p = true) : ∃ (l : Str) (e : Deed), p = prU (l, e) ∧ isLabelS l = true ∧ fitD l e := by
  cases p with
  | tup us =>
    match us, h with
    | [a, d], h =>
      simp only [pairB, Bool.and_eq_true] at h
      cases a with
      | str l =>
        have hl : isLabelS l = true := by
          have := h.1
          unfold isLabelS
          rw [Bool.or_comm]
          exact this
        obtain ⟨e, rfl, hf⟩ := deedB_fit hl h.2
        exact ⟨l, e, rfl, hl, hf⟩
      | _ => simp [isTag, isKind] at h
    | [], h => simp [pairB] at h
    | [_], h => simp [pairB] at h
    | _ :: _ :: _ :: _, h => simp [pairB] at h
  | _ => simp [pairB] at h
theorem pairB_of {l : Str} {e : Deed} (hl : isLabelS l = true) (hf : fitD l e) : pairB (prU (l, e)) = true := by
  simp only [prU, pairB, fit_deedB hl hf, Bool.and_true, isTag, isKind]
  unfold isLabelS at hl
  cases k : isKindS l <;> simp_all
theorem ascB_strict : ∀ {ms : Mig}, ascB (ms.map prU) = true ↔ StrictS (ms.map (·.1))
  | [] => by simp [ascB, StrictS]
  | [p] => by simp [ascB, StrictS]
  | p :: q :: r => by
    have ih := ascB_strict (ms := q :: r)
    have e : ∀ p : Str × Deed, fstS (prU p) = p.1 := fun p => rfl
    simp only [List.map_cons, ascB, Bool.and_eq_true, e, strLt_iff] at ih ⊢
    rw [ih]
    constructor
    · rintro ⟨h1, h2⟩
      refine List.pairwise_cons.mpr ⟨fun y hy => ?_, h2⟩
      rcases List.mem_cons.mp hy with e | hy
      · subst e; exact h1
      · exact List.lt_trans h1 ((List.pairwise_cons.mp h2).1 y hy)
    · intro h
      obtain ⟨h1, h2⟩ := List.pairwise_cons.mp h
      exact ⟨h1 q.1 List.mem_cons_self, h2⟩
theorem migB_form {m : U} (h : migB m = true) : ∃ ms : Mig, m = migU ms ∧ MigOk ms := by
  cases m with
  | tup ps =>
    simp only [migB, Bool.and_eq_true] at h
    obtain ⟨h1, h2⟩ := h
    have key : ∀ ps : List U, ps.all pairB = true → ∃ ms : Mig, ps = ms.map prU ∧ (∀ p ∈ ms, isLabelS p.1 = true ∧ fitD p.1 p.2) := by
      intro ps
      induction ps with
      | nil => intro _; exact ⟨[], rfl, by simp⟩
      | cons p ps ih =>
        intro h
        simp only [List.all_cons, Bool.and_eq_true] at h
        obtain ⟨l, e, rfl, hl, hf⟩ := pairB_form h.1
        obtain ⟨ms, rfl, hms⟩ := ih h.2
        exact ⟨(l, e) :: ms, rfl, fun x hx => by rcases List.mem_cons.mp hx with e' | hx; · subst e'; exact ⟨hl, hf⟩
                                                 · exact hms x hx⟩
    obtain ⟨ms, rfl, hms⟩ := key ps h1
    exact ⟨ms, rfl, ⟨fun p hp => (hms p hp).1, fun p hp => (hms p hp).2, ascB_strict.mp h2⟩⟩
  | _ => simp [migB] at h
theorem migB_of {ms : Mig} (h : MigOk ms) : migB (migU ms) = true := by
  simp only [migU, migB, Bool.and_eq_true]
  refine ⟨?_, ascB_strict.mpr h.asc⟩
  rw [List.all_map]
  exact List.all_eq_true.mpr fun p hp => pairB_of (h.lab p hp) (h.fit p hp)
/-! ### the deed of a label -/
def deedS (ms : Mig) (l : Str) : Deed := (ms.lookup l).getD (.keep l)
theorem strict_nodup {xs : List Str} (h : StrictS xs) : xs.Nodup := h.imp fun {a b} hlt e => by subst e; exact List.lt_irrefl _ hlt
theorem lookup_mem {l : Str} {d : Deed} : ∀ {ms : Mig}, ms.lookup l = some d → (l, d) ∈ ms
  | (a, b) :: r, h => by
    rw [List.lookup_cons] at h
    cases e : l == a with
    | true =>
      rw [e] at h
      have : l = a := by simpa using e
      subst this
      cases h
      exact List.mem_cons_self
    | false => rw [e] at h; exact List.mem_cons_of_mem _ (lookup_mem h)
theorem lookup_of {l : Str} {d : Deed} : ∀ {ms : Mig}, (ms.map (·.1)).Nodup → (l, d) ∈ ms → ms.lookup l = some d
  | (a, b) :: r, h, hm => by
    rw [List.map_cons] at h
    obtain ⟨h1, h2⟩ := List.nodup_cons.mp h
    rw [List.lookup_cons]
    rcases List.mem_cons.mp hm with e | hm2
    · cases e
      have : (l == l) = true := by simp
      rw [this]
    · have : (l == a) = false := by
        have : l ≠ a := fun e => h1 (List.mem_map.mpr ⟨(l, d), hm2, e⟩)
        simpa using this
      rw [this]
      exact lookup_of h2 hm2
theorem lookup_none {l : Str} : ∀ {ms : Mig}, l ∉ ms.map (·.1) → ms.lookup l = none
  | [], _ => rfl
  | (a, b) :: r, h => by
    simp only [List.map_cons, List.mem_cons, not_or] at h
    have : (l == a) = false := by simpa using h.1
    rw [List.lookup_cons, this]
    exact lookup_none h.2
theorem deedS_mem {ms : Mig} (l : Str) : (l, deedS ms l) ∈ ms ∨ (deedS ms l = .keep l ∧ l ∉ ms.map (·.1)) := by
  unfold deedS
  cases e : ms.lookup l with
  | some d => exact .inl (lookup_mem e)
  | none =>
    refine .inr ⟨rfl, fun h => ?_⟩
    obtain ⟨⟨a, b⟩, hm, rfl⟩ := List.mem_map.mp h
    have key : ∀ {ms : Mig}, (a, b) ∈ ms → ms.lookup a ≠ none := by
      intro ms
      induction ms with
      | nil => intro h; cases h
      | cons q r ih =>
        intro h
        obtain ⟨c, d⟩ := q
        rw [List.lookup_cons]
        cases e : a == c with
        | true => simp
        | false =>
          rcases List.mem_cons.mp h with e' | h
          · cases e'; simp at e
          · exact ih h
    exact key hm e
theorem deedS_fit {ms : Mig} (h : MigOk ms) {l : Str} (hl : isLabelS l = true) : fitD l (deedS ms l) := by
  rcases deedS_mem (ms := ms) l with hm | ⟨e, _⟩
  · exact h.fit _ hm
  · rw [e]
    exact ⟨⟨rfl, hl⟩, fun ⟨_, e1, e2⟩ => by rw [e1] at e2; exact absurd e2 (by decide +kernel)⟩
/-! ### forests -/
mutual
def forestP (ms : Mig) : U → List U
  | .tup (.str l :: .tup ps :: []) => match deedS ms l with
    | .drop => []
    | .opn => forestPs ms ps
    | .keep m => [.tup [.str m, .tup (forestPs ms ps)]]
  | .tup (.str l :: y :: []) => match deedS ms l with
    | .keep m => [.tup [.str m, y]]
    | _ => []
  | _ => []
def forestPs (ms : Mig) : List U → List U
  | [] => []
  | p :: ps => forestP ms p ++ forestPs ms ps
end
theorem forestPs_flat (ms : Mig) : ∀ ps : List U, forestPs ms ps = ps.flatMap (forestP ms)
  | [] => by simp [forestPs]
  | p :: ps => by simp [forestPs, forestPs_flat ms ps]
theorem forest_node {ms : Mig} {l : Str} {ps : List U} : forestP ms (.tup [.str l, .tup ps]) = match deedS ms l with
    | .drop => []
    | .opn => forestPs ms ps
    | .keep m => [.tup [.str m, .tup (forestPs ms ps)]] := by simp [forestP]
theorem forest_leaf {ms : Mig} {l x : Str} : forestP ms (.tup [.str l, .str x]) = match deedS ms l with
    | .keep m => [.tup [.str m, .str x]]
    | _ => [] := by simp [forestP]
theorem int_text {x : Str} (h : isIntS x = true) : x.cps.toList.all okSign = true := by
  unfold isIntS at h
  simp only [Bool.and_eq_true] at h
  have hd : signsIn digits (intDigits x) = true := h.2.1
  have ok : ∀ c ∈ digits.cps.toList, okSign c = true := by decide +kernel
  have hs : (intDigits x).cps.toList.all okSign = true := List.all_eq_true.mpr fun c hc => ok c (by simpa using List.all_eq_true.mp hd c hc)
  unfold intDigits at hs
  split at hs
  · rename_i e
    have e : cutStr x none (some 1) = ("-" : Str) := by simpa using e
    have e2 := congrArg (fun s : Str => s.cps.toList) e
    simp only [cutStr_list] at e2
    have c1 := cut_to x.cps.toList 1
    have c2 := cut_from x.cps.toList 1
    rw [show ((1 : Nat) : Int) = 1 from rfl] at c1 c2
    rw [c1] at e2
    rw [cutStr_list, c2] at hs
    have := List.take_append_drop 1 x.cps.toList
    rw [← this, List.all_append, hs, e2]
    decide +kernel
  · exact hs
theorem text_any {l x : Str} (k : isKindS l = true) (h : isTextS l x = true) : x.cps.toList.all okSign = true := by
  unfold isTextS at h
  split at h
  · exact int_text h
  · exact h
/-- what the parts of a forest are like -/
structure Fo (us : List U) (n c d : Nat) : Prop where
  part : ∀ p ∈ us, isPart p = true
  pv : pvUs us = true
  sz : nds us ≤ n
  cnt : (labelsPs us).length ≤ c
  dep : depUs us ≤ d
theorem Fo.app {a b : List U} {n m c e d : Nat} (h : Fo a n c d) (k : Fo b m e d) : Fo (a ++ b) (n + m) (c + e) d := by
  refine ⟨fun p hp => ?_, by rw [pvUs_append, h.pv, k.pv]; rfl, by rw [nds_append]; have := h.sz; have := k.sz; omega, by rw [labelsPs_append, List.length_append]; have := h.cnt; have := k.cnt; omega, by rw [depUs_append]; have := h.dep; have := k.dep; omega⟩
  rcases List.mem_append.mp hp with hp | hp
  · exact h.part p hp
  · exact k.part p hp
theorem Fo.nil {n c d : Nat} : Fo [] n c d := ⟨by simp, rfl, by simp [nds], by simp [labelsPs], by simp [depUs]⟩
theorem Fo.mono {us : List U} {n c d n' c' d' : Nat} (h : Fo us n c d) (h1 : n ≤ n') (h2 : c ≤ c') (h3 : d ≤ d') : Fo us n' c' d' :=
  ⟨h.part, h.pv, by have := h.sz; omega, by have := h.cnt; omega, by have := h.dep; omega⟩
theorem label_len {m : Str} (h : isLabelS m = true) : m.length ≤ 9 ∧ okStr m = true := by
  unfold isLabelS at h
  cases k : isKindS m with
  | true => rcases kind_four k with e | e | e | e <;> subst e <;> decide +kernel
  | false =>
    rw [k, Bool.false_or] at h
    unfold isTagS at h
    simp only [Bool.and_eq_true, decide_eq_true_eq] at h
    obtain ⟨h1, h2, h3⟩ := h
    have ok : okStr (bareS m) = true := by
      have l := letters_ok
      unfold okStr at *
      rw [← Array.all_toList] at *
      exact List.all_eq_true.mpr fun c hc => List.all_eq_true.mp l c (by simpa using List.all_eq_true.mp h3 c hc)
    rcases bare_list m with q | q
    · have e : m = bareS m := str_ext q
      rw [e]
      exact ⟨by omega, ok⟩
    · refine ⟨?_, ?_⟩
      · rw [slen_list, q, List.length_append, ← slen_list]; simp; omega
      · unfold okStr at *
        rw [← Array.all_toList] at *
        rw [q, List.all_append, ok]
        decide +kernel
theorem forest_ok {ms : Mig} (h : MigOk ms) : ∀ u, isPart u = true → pvU u = true → Fo (forestP ms u) (nd u + 10 * (labelsP u).length) (labelsP u).length (depU u) := by
  refine part_ind (P := fun u => pvU u = true → Fo (forestP ms u) (nd u + 10 * (labelsP u).length) (labelsP u).length (depU u)) (fun l x k t hv => ?_) fun l ps k t hh hv => ?_
  · have hl : isLabelS l = true := by simp [isLabelS, k]
    have hf := deedS_fit h hl
    rw [forest_leaf]
    cases e : deedS ms l with
    | keep m =>
      rw [e] at hf
      obtain ⟨⟨h1, h2⟩, h3⟩ := hf
      rw [k] at h1
      obtain ⟨l1, l2⟩ := label_len h2
      simp [pvU, pvUs] at hv
      have ht : isTextS m x = true := by
        unfold isTextS at t ⊢
        split
        · rename_i e2
          have e2 : bareS m = ("$int" : Str) := by simpa using e2
          rcases kind_two k with e1 | e1
          · rw [e1] at t; simpa using t
          · exact absurd ⟨k, e1, e2⟩ h3
        · exact text_any k (by unfold isTextS; exact t)
      refine ⟨fun p hp => ?_, by simp [pvUs, pvU, l2, hv.2], ?_, ?_, ?_⟩
      · simp at hp
        subst hp
        unfold isPart
        rw [if_pos h1.symm]
        exact ht
      · rw [labelsP_kind]; simp only [nds, nd, List.length_singleton]; omega
      · rw [labelsP_kind]; simp [labelsPs, labelsP_kind]
      · simp [depUs, depU]
    | drop => exact .nil
    | opn => exact .nil
  · have hl : isLabelS l = true := by simp [isLabelS, t]
    have hf := deedS_fit h hl
    simp [pvU, pvUs] at hv
    have inner : Fo (forestPs ms ps) (nds ps + 10 * (labelsPs ps).length) (labelsPs ps).length (depUs ps) := by
      have hv2 := hv.2
      clear hf hv k t hl
      induction ps with
      | nil => exact .nil
      | cons p ps ih =>
        simp [pvUs] at hv2
        have h1 := (hh p List.mem_cons_self).2 hv2.1
        have h2 := ih (fun x hx => hh x (List.mem_cons_of_mem _ hx)) hv2.2
        simp only [forestPs]
        have e : nds (p :: ps) + 10 * (labelsPs (p :: ps)).length = (nd p + 10 * (labelsP p).length) + (nds ps + 10 * (labelsPs ps).length) := by
          simp only [nds, labelsPs, List.length_append]; omega
        have e2 : (labelsPs (p :: ps)).length = (labelsP p).length + (labelsPs ps).length := by simp only [labelsPs, List.length_append]
        rw [e, e2]
        exact (h1.mono (Nat.le_refl _) (Nat.le_refl _) (by simp only [depUs]; omega)).app (h2.mono (Nat.le_refl _) (Nat.le_refl _) (by simp only [depUs]; omega))
    rw [forest_node]
    have en : nd (.tup [.str l, .tup ps]) = l.length + nds ps + 3 := by simp only [nd, nds]; omega
    have el : (labelsP (.tup [.str l, .tup ps])).length = (labelsPs ps).length + 1 := by rw [labelsP_tag]; rfl
    have ed : depU (.tup [.str l, .tup ps]) = depUs ps + 2 := by simp only [depU, depUs]; omega
    rw [en, el, ed]
    cases e : deedS ms l with
    | keep m =>
      rw [e] at hf
      obtain ⟨⟨h1, h2⟩, h3⟩ := hf
      rw [k] at h1
      have tm : isTagS m = true := by simpa [isLabelS, ← h1] using h2
      obtain ⟨l1, l2⟩ := label_len h2
      refine ⟨fun p hp => ?_, by simp [pvUs, pvU, l2, inner.pv], ?_, ?_, ?_⟩
      · simp at hp
        subst hp
        exact isPart_node h1.symm tm inner.part
      · have := inner.sz; simp only [nds, nd]; omega
      · have := inner.cnt; simp only [labelsPs, labelsP_tag, List.append_nil, List.length_cons]; omega
      · have := inner.dep; simp only [depUs, depU]; omega
    | drop => exact .nil
    | opn => exact inner.mono (by omega) (by omega) (by omega)
/-! ### two migrations one behind the other -/
def bothD (f g : Str → Deed) (l : Str) : Deed := match f l with
  | .keep m => g m
  | d => d
theorem bothD_assoc (f g h : Str → Deed) (l : Str) : bothD (bothD f g) h l = bothD f (bothD g h) l := by
  unfold bothD
  cases f l <;> rfl
def normM (ls : List Str) (f : Str → Deed) : Mig := (ls.filter fun l => !decide (f l = .keep l)).map fun l => (l, f l)
def bothS (ms ns : Mig) : Mig := normM (sortSetS (ms.map (·.1) ++ ns.map (·.1))) (bothD (deedS ms) (deedS ns))
def plainM (ms : Mig) : Mig := ms.filter fun p => !decide (p.2 = .keep p.1)
theorem normM_fst (ls : List Str) (f : Str → Deed) : (normM ls f).map (·.1) = ls.filter fun l => !decide (f l = .keep l) := by
  unfold normM
  rw [List.map_map]
  exact List.map_id' _
theorem normM_deed {ls : List Str} {f : Str → Deed} (hs : StrictS ls) (h : ∀ l, l ∉ ls → f l = .keep l) (l : Str) : deedS (normM ls f) l = f l := by
  have hnd : ((normM ls f).map (·.1)).Nodup := by rw [normM_fst]; exact (strict_nodup hs).sublist List.filter_sublist
  unfold deedS
  by_cases hk : f l = .keep l
  · rw [lookup_none]
    · exact hk.symm
    · rw [normM_fst, List.mem_filter]
      simp [hk]
  · have hl : l ∈ ls := Classical.byContradiction fun hn => hk (h l hn)
    rw [lookup_of hnd (List.mem_map.mpr ⟨l, List.mem_filter.mpr ⟨hl, by simp [hk]⟩, rfl⟩)]
    rfl
theorem deedS_out {ms : Mig} {l : Str} (h : l ∉ ms.map (·.1)) : deedS ms l = .keep l := by unfold deedS; rw [lookup_none h]; rfl
theorem both_out {ms ns : Mig} {l : Str} (h : l ∉ sortSetS (ms.map (·.1) ++ ns.map (·.1))) : bothD (deedS ms) (deedS ns) l = .keep l := by
  rw [sortSet_mem, List.mem_append, not_or] at h
  unfold bothD
  rw [deedS_out h.1]
  exact deedS_out h.2
theorem bothS_deed (ms ns : Mig) (l : Str) : deedS (bothS ms ns) l = bothD (deedS ms) (deedS ns) l := normM_deed (sortSet_strict _) (fun l h => both_out h) l
theorem strict_filter {xs : List Str} (h : StrictS xs) (p : Str → Bool) : StrictS (xs.filter p) := List.Pairwise.sublist List.filter_sublist h
theorem fitD_both {l m : Str} {d : Deed} (h1 : fitD l (.keep m)) (h2 : fitD m d) : fitD l d := by
  obtain ⟨⟨a, b⟩, c⟩ := h1
  cases d with
  | drop => trivial
  | opn => exact a.trans h2
  | keep n =>
    obtain ⟨⟨a2, b2⟩, c2⟩ := h2
    refine ⟨⟨a.trans a2, b2⟩, fun ⟨k, e1, e2⟩ => ?_⟩
    rw [a] at k
    rcases kind_two k with e3 | e3
    · exact c ⟨by rw [a]; exact k, e1, e3⟩
    · exact c2 ⟨k, e3, e2⟩
theorem bothS_ok {ms ns : Mig} (h : MigOk ms) (k : MigOk ns) : MigOk (bothS ms ns) := by
  have lab : ∀ p ∈ bothS ms ns, isLabelS p.1 = true ∧ p.2 = bothD (deedS ms) (deedS ns) p.1 := fun p hp => by
    obtain ⟨l, hl, rfl⟩ := List.mem_map.mp hp
    have hl := (List.mem_filter.mp hl).1
    rw [sortSet_mem, List.mem_append] at hl
    refine ⟨?_, rfl⟩
    rcases hl with hl | hl <;> obtain ⟨q, hq, rfl⟩ := List.mem_map.mp hl
    · exact h.lab q hq
    · exact k.lab q hq
  refine ⟨fun p hp => (lab p hp).1, fun p hp => ?_, ?_⟩
  · obtain ⟨h1, h2⟩ := lab p hp
    rw [h2]
    have hf := deedS_fit h h1
    unfold bothD
    cases e : deedS ms p.1 with
    | keep m => rw [e] at hf; exact fitD_both hf (deedS_fit k hf.1.2)
    | drop => trivial
    | opn => rw [e] at hf; exact hf
  · unfold bothS
    rw [normM_fst]
    exact strict_filter (sortSet_strict _) _
theorem plainM_ok {ms : Mig} (h : MigOk ms) : MigOk (plainM ms) := by
  refine ⟨fun p hp => h.lab p (List.mem_filter.mp hp).1, fun p hp => h.fit p (List.mem_filter.mp hp).1, ?_⟩
  exact List.Pairwise.sublist (List.filter_sublist.map _) h.asc
theorem plainM_deed {ms : Mig} (h : MigOk ms) (l : Str) : deedS (plainM ms) l = deedS ms l := by
  have nd := strict_nodup h.asc
  have nd2 := strict_nodup (plainM_ok h).asc
  rcases deedS_mem (ms := ms) l with hm | ⟨e, ho⟩
  · by_cases hk : deedS ms l = .keep l
    · rw [hk]
      refine deedS_out fun hc => ?_
      obtain ⟨⟨a, b⟩, hq, rfl⟩ := List.mem_map.mp hc
      obtain ⟨h1, h2⟩ := List.mem_filter.mp hq
      have : deedS ms a = b := by unfold deedS; rw [lookup_of nd h1]; rfl
      rw [this] at hk
      simp [hk] at h2
    · unfold deedS
      rw [lookup_of nd2 (List.mem_filter.mpr ⟨hm, by simpa using hk⟩)]
      unfold deedS
      rfl
  · rw [e]
    refine deedS_out fun hc => ho ?_
    obtain ⟨q, hq, rfl⟩ := List.mem_map.mp hc
    exact List.mem_map.mpr ⟨q, (List.mem_filter.mp hq).1, rfl⟩
/-- a normal form is told by its deeds -/
theorem norm_eq {as bs : List Str} {f g : Str → Deed} (ha : StrictS as) (hb : StrictS bs) (hf : ∀ l, l ∉ as → f l = .keep l) (hg : ∀ l, l ∉ bs → g l = .keep l) (h : ∀ l, f l = g l) : normM as f = normM bs g := by
  have e : f = g := funext h
  subst e
  unfold normM
  congr 1
  refine strict_unique (strict_filter ha _) (strict_filter hb _) fun x => ?_
  simp only [List.mem_filter, Bool.not_eq_true', decide_eq_false_iff_not]
  constructor
  · rintro ⟨_, hk⟩
    exact ⟨Classical.byContradiction fun hn => hk (hg x hn), hk⟩
  · rintro ⟨_, hk⟩
    exact ⟨Classical.byContradiction fun hn => hk (hf x hn), hk⟩
theorem bothS_assoc (a b c : Mig) : bothS (bothS a b) c = bothS a (bothS b c) := by
  refine norm_eq (sortSet_strict _) (sortSet_strict _) (fun l h => both_out h) (fun l h => both_out h) fun l => ?_
  have e1 : deedS (bothS a b) = bothD (deedS a) (deedS b) := funext (bothS_deed a b)
  have e2 : deedS (bothS b c) = bothD (deedS b) (deedS c) := funext (bothS_deed b c)
  rw [e1, e2, bothD_assoc]
theorem plain_both (a b : Mig) : plainM (bothS a b) = bothS a b := by
  unfold plainM
  refine List.filter_eq_self.mpr fun p hp => ?_
  obtain ⟨l, hl, rfl⟩ := List.mem_map.mp hp
  exact (List.mem_filter.mp hl).2
theorem forestPs_append (ms : Mig) (a b : List U) : forestPs ms (a ++ b) = forestPs ms a ++ forestPs ms b := by rw [forestPs_flat, forestPs_flat, forestPs_flat, List.flatMap_append]
/-- the forests of both in one -/
theorem forest_both {a b : Mig} (ha : MigOk a) : ∀ u, isPart u = true → forestP (bothS a b) u = forestPs b (forestP a u) := by
  refine part_ind (P := fun u => forestP (bothS a b) u = forestPs b (forestP a u)) (fun l x k t => ?_) fun l ps k t hh => ?_
  · have hl : isLabelS l = true := by simp [isLabelS, k]
    have hf := deedS_fit ha hl
    rw [forest_leaf, forest_leaf, bothS_deed]
    unfold bothD
    cases e : deedS a l with
    | keep m => simp only [forestPs, forest_leaf, List.append_nil]
    | drop => simp [forestPs]
    | opn => simp [forestPs]
  · have inner : forestPs (bothS a b) ps = forestPs b (forestPs a ps) := by
      clear k t
      induction ps with
      | nil => simp [forestPs]
      | cons p ps ih =>
        simp only [forestPs, forestPs_append]
        rw [(hh p List.mem_cons_self).2, ih fun x hx => hh x (List.mem_cons_of_mem _ hx)]
    rw [forest_node, forest_node, bothS_deed]
    unfold bothD
    cases e : deedS a l with
    | keep m => simp only [forestPs, forest_node, List.append_nil, inner]
    | drop => simp [forestPs]
    | opn => simp [inner]
theorem forest_deeds {a b : Mig} (h : ∀ l, deedS a l = deedS b l) : ∀ u, isPart u = true → forestP a u = forestP b u := by
  refine part_ind (P := fun u => forestP a u = forestP b u) (fun l x k t => ?_) fun l ps k t hh => ?_
  · rw [forest_leaf, forest_leaf, h]
  · have inner : forestPs a ps = forestPs b ps := by
      clear k t
      induction ps with
      | nil => simp [forestPs]
      | cons p ps ih =>
        simp only [forestPs]
        rw [(hh p List.mem_cons_self).2, ih fun x hx => hh x (List.mem_cons_of_mem _ hx)]
    rw [forest_node, forest_node, h, inner]
/-- the document that comes -/
def migratedS (ms : Mig) (u : U) : U := match deedS ms (fstS u) with
  | .keep _ => (forestP ms u).headD .non
  | _ => .non
end Sem

/-! The walk of the text: printed by gen.py. -/
namespace Law
open PySem PySem.Spec PyProof.Rows L2 Pu
def top (i : Nat) : Stmt := PySem.Challenge.pw_shapeskept_k40_migrations.main.body.getD i (.Pass ⟨0, 0, 0, 0⟩)
abbrev st_is_row : Stmt := top 9
abbrev st_bare : Stmt := top 10
abbrev st_is_tag : Stmt := top 11
abbrev st_is_kind : Stmt := top 12
abbrev st_is_label : Stmt := top 13
abbrev st_is_integer_text : Stmt := top 14
abbrev st_is_text_of : Stmt := top 15
abbrev st_is_part : Stmt := top 17
abbrev st_is_document : Stmt := top 18
abbrev st_check_document : Stmt := top 19
abbrev st_check_part : Stmt := top 20
abbrev st_are_alike : Stmt := top 24
abbrev st_fits_deed : Stmt := top 26
abbrev st_fits_migration : Stmt := top 27
abbrev st_deed_of : Stmt := top 28
abbrev st_forest_for : Stmt := top 29
abbrev st_migrated_of : Stmt := top 30
abbrev st_plain_of : Stmt := top 31
abbrev st_both_of : Stmt := top 32
abbrev st_is_migration : Stmt := top 34
abbrev st_check_migration : Stmt := top 35
abbrev st_forest_of : Stmt := top 36
abbrev st_migrated : Stmt := top 37
abbrev st_plain_migration : Stmt := top 38
abbrev st_both_migrations : Stmt := top 39
abbrev st__law_stir : Stmt := top 41
abbrev st__law_draws : Stmt := top 42
abbrev st__law_take : Stmt := top 43
abbrev st__law_pick : Stmt := top 44
abbrev st__law_is_whole : Stmt := top 45
abbrev st__law_same : Stmt := top 46
abbrev st__law_tags : Stmt := top 47
abbrev st__law_is_tag : Stmt := top 48
abbrev st__law_is_kind : Stmt := top 49
abbrev st__law_parts : Stmt := top 50
abbrev st__law_places : Stmt := top 51
abbrev st__law_at : Stmt := top 52
abbrev st__law_put_in : Stmt := top 53
abbrev st__law_nodes : Stmt := top 54
abbrev st__law_leaf : Stmt := top 55
abbrev st__law_document : Stmt := top 56
abbrev st__law_bent : Stmt := top 57
abbrev st__law_is_deed : Stmt := top 58
abbrev st__law_is_migration : Stmt := top 59
abbrev st__law_deed : Stmt := top 60
abbrev st__law_forest : Stmt := top 61
abbrev st__law_migrated : Stmt := top 62
abbrev st__law_migration : Stmt := top 63
abbrev st__law_both_of : Stmt := top 64
abbrev st__law_told : Stmt := top 65
abbrev st__law_one_right : Stmt := top 66
abbrev st__law_two_right : Stmt := top 67
abbrev st_law : Stmt := top 68
abbrev c_MOST_LETTERS : U := (.int 8)
abbrev c_LETTERS : U := (.str "abcdefghijklmnopqrstuvwxyz")
abbrev c_DIGITS : U := (.str "0123456789")
abbrev kv_PLAIN_TEXTS : List (Str × U) := [("$int", (.str "0")), ("$text", (.str ""))]
def defs0 : List (Str × Str × Stmt) := [("is_row", "is_row", st_is_row), ("bare", "bare", st_bare), ("is_tag", "is_tag", st_is_tag), ("is_kind", "is_kind", st_is_kind), ("is_label", "is_label", st_is_label), ("is_integer_text", "is_integer_text", st_is_integer_text), ("is_text_of", "is_text_of", st_is_text_of), ("is_part", "is_part", st_is_part), ("is_document", "is_document", st_is_document), ("check_document", "check_document", st_check_document), ("check_part", "check_part", st_check_part), ("are_alike", "are_alike", st_are_alike), ("fits_deed", "fits_deed", st_fits_deed), ("fits_migration", "fits_migration", st_fits_migration), ("deed_of", "deed_of", st_deed_of), ("forest_for", "forest_for", st_forest_for), ("migrated_of", "migrated_of", st_migrated_of), ("plain_of", "plain_of", st_plain_of), ("both_of", "both_of", st_both_of), ("is_migration", "is_migration", st_is_migration), ("check_migration", "check_migration", st_check_migration), ("forest_of", "forest_of", st_forest_of), ("migrated", "migrated", st_migrated), ("plain_migration", "plain_migration", st_plain_migration), ("both_migrations", "both_migrations", st_both_migrations), ("_law_stir", "_law_stir", st__law_stir), ("_law_draws", "_law_draws", st__law_draws), ("_law_take", "_law_take", st__law_take), ("_law_pick", "_law_pick", st__law_pick), ("_law_is_whole", "_law_is_whole", st__law_is_whole)]
def defs1 : List (Str × Str × Stmt) := [("_law_same", "_law_same", st__law_same), ("_law_tags", "_law_tags", st__law_tags), ("_law_is_tag", "_law_is_tag", st__law_is_tag), ("_law_is_kind", "_law_is_kind", st__law_is_kind), ("_law_parts", "_law_parts", st__law_parts), ("_law_places", "_law_places", st__law_places), ("_law_at", "_law_at", st__law_at), ("_law_put_in", "_law_put_in", st__law_put_in), ("_law_nodes", "_law_nodes", st__law_nodes), ("_law_leaf", "_law_leaf", st__law_leaf), ("_law_document", "_law_document", st__law_document), ("_law_bent", "_law_bent", st__law_bent), ("_law_is_deed", "_law_is_deed", st__law_is_deed), ("_law_is_migration", "_law_is_migration", st__law_is_migration), ("_law_deed", "_law_deed", st__law_deed), ("_law_forest", "_law_forest", st__law_forest), ("_law_migrated", "_law_migrated", st__law_migrated), ("_law_migration", "_law_migration", st__law_migration), ("_law_both_of", "_law_both_of", st__law_both_of), ("_law_told", "_law_told", st__law_told), ("_law_one_right", "_law_one_right", st__law_one_right), ("_law_two_right", "_law_two_right", st__law_two_right), ("law", "law", st_law)]
def tx : Tx where
  free := ["tuple", "isinstance", "len", "str", "all", "zip", "dict", "sorted", "set", "int", "enumerate", "range", "bool", "list"]
  csts := [("MOST_LETTERS", c_MOST_LETTERS), ("LETTERS", c_LETTERS), ("DIGITS", c_DIGITS)]
  dics := [("PLAIN_TEXTS", kv_PLAIN_TEXTS)]
  excs := ["InvalidDocument", "InvalidPart", "InvalidMigration"]
  exms := [("InvalidDocument", "InvalidDocument", true), ("InvalidPart", "InvalidPart", true), ("InvalidDocument", "InvalidPart", false), ("InvalidMigration", "InvalidMigration", true), ("InvalidPart", "InvalidMigration", false), ("InvalidDocument", "InvalidMigration", false)]
  defs := defs0 ++ defs1
end Law
section
set_option maxHeartbeats 0
set_option maxRecDepth 100000
namespace Law
open PySem PySem.Spec PyProof.Rows L2 Pu PySem.W PySem.Calls HandSHeadRun
def names0 : List Str := ["ShapeError", "InvalidDocument", "InvalidPart", "LETTERS", "DIGITS", "PLAIN_TEXTS", "MOST_LETTERS", "is_row", "bare", "is_tag", "is_kind", "is_label", "is_integer_text", "is_text_of", "is_part", "is_document", "check_document", "check_part", "InvalidMigration", "are_alike", "fits_deed", "fits_migration", "deed_of", "forest_for", "migrated_of", "plain_of", "both_of", "is_migration", "check_migration", "forest_of"]
def names1 : List Str := ["migrated", "plain_migration", "both_migrations", "_law_stir", "_law_draws", "_law_take", "_law_pick", "_law_is_whole", "_law_same", "_law_tags", "_law_is_tag", "_law_is_kind", "_law_parts", "_law_places", "_law_at", "_law_put_in", "_law_nodes", "_law_leaf", "_law_document", "_law_bent", "_law_is_deed", "_law_is_migration", "_law_deed", "_law_forest", "_law_migrated", "_law_migration", "_law_both_of", "_law_told", "_law_one_right", "_law_two_right"]
abbrev Rw : PySem.W.OpenRow := PySem.W.OpenLaw.row PySem.Challenge.rw_shapeskept_k40_migrations
theorem run : ∀ w : World, HandSHeadRun.RunEq Rw (PySem.W.view Rw.prog [68]) tx.hk tx.ob 20000 (names0 ++ names1) w :=
  byRow2 "special-get-raises" (P := fun w => HandSHeadRun.RunEq Rw (PySem.W.view Rw.prog [68]) tx.hk tx.ob 20000 (names0 ++ names1) w) (fun w => by intro os; kernel_rfl) (fun w => by intro os; kernel_rfl)
end Law
end
namespace Law
open PySem PySem.Spec PyProof.Rows L2 Pu
theorem mem_MOST_LETTERS : (("MOST_LETTERS" : Str), c_MOST_LETTERS) ∈ tx.csts := (.head _)
theorem mem_LETTERS : (("LETTERS" : Str), c_LETTERS) ∈ tx.csts := (.tail _ (.head _))
theorem mem_DIGITS : (("DIGITS" : Str), c_DIGITS) ∈ tx.csts := (.tail _ (.tail _ (.head _)))
theorem mem_PLAIN_TEXTS : (("PLAIN_TEXTS" : Str), kv_PLAIN_TEXTS) ∈ tx.dics := (.head _)
theorem mem_is_row : (("is_row" : Str), ("is_row" : Str), st_is_row) ∈ tx.defs := List.mem_append_left _ ((.head _))
theorem mem_bare : (("bare" : Str), ("bare" : Str), st_bare) ∈ tx.defs := List.mem_append_left _ ((.tail _ (.head _)))
theorem mem_is_tag : (("is_tag" : Str), ("is_tag" : Str), st_is_tag) ∈ tx.defs := List.mem_append_left _ ((.tail _ (.tail _ (.head _))))
theorem mem_is_kind : (("is_kind" : Str), ("is_kind" : Str), st_is_kind) ∈ tx.defs := List.mem_append_left _ ((.tail _ (.tail _ (.tail _ (.head _)))))
theorem mem_is_label : (("is_label" : Str), ("is_label" : Str), st_is_label) ∈ tx.defs := List.mem_append_left _ ((.tail _ (.tail _ (.tail _ (.tail _ (.head _))))))
theorem mem_is_integer_text : (("is_integer_text" : Str), ("is_integer_text" : Str), st_is_integer_text) ∈ tx.defs := List.mem_append_left _ ((.tail _ (.tail _ (.tail _ (.tail _ (.tail _ (.head _)))))))
theorem mem_is_text_of : (("is_text_of" : Str), ("is_text_of" : Str), st_is_text_of) ∈ tx.defs := List.mem_append_left _ ((.tail _ (.tail _ (.tail _ (.tail _ (.tail _ (.tail _ (.head _))))))))
theorem mem_is_part : (("is_part" : Str), ("is_part" : Str), st_is_part) ∈ tx.defs := List.mem_append_left _ ((.tail _ (.tail _ (.tail _ (.tail _ (.tail _ (.tail _ (.tail _ (.head _)))))))))
theorem mem_is_document : (("is_document" : Str), ("is_document" : Str), st_is_document) ∈ tx.defs := List.mem_append_left _ ((.tail _ (.tail _ (.tail _ (.tail _ (.tail _ (.tail _ (.tail _ (.tail _ (.head _))))))))))
theorem mem_check_document : (("check_document" : Str), ("check_document" : Str), st_check_document) ∈ tx.defs := List.mem_append_left _ ((.tail _ (.tail _ (.tail _ (.tail _ (.tail _ (.tail _ (.tail _ (.tail _ (.tail _ (.head _)))))))))))
theorem mem_check_part : (("check_part" : Str), ("check_part" : Str), st_check_part) ∈ tx.defs := List.mem_append_left _ ((.tail _ (.tail _ (.tail _ (.tail _ (.tail _ (.tail _ (.tail _ (.tail _ (.tail _ (.tail _ (.head _))))))))))))
theorem mem_are_alike : (("are_alike" : Str), ("are_alike" : Str), st_are_alike) ∈ tx.defs := List.mem_append_left _ ((.tail _ (.tail _ (.tail _ (.tail _ (.tail _ (.tail _ (.tail _ (.tail _ (.tail _ (.tail _ (.tail _ (.head _)))))))))))))
theorem mem_fits_deed : (("fits_deed" : Str), ("fits_deed" : Str), st_fits_deed) ∈ tx.defs := List.mem_append_left _ ((.tail _ (.tail _ (.tail _ (.tail _ (.tail _ (.tail _ (.tail _ (.tail _ (.tail _ (.tail _ (.tail _ (.tail _ (.head _))))))))))))))
theorem mem_fits_migration : (("fits_migration" : Str), ("fits_migration" : Str), st_fits_migration) ∈ tx.defs := List.mem_append_left _ ((.tail _ (.tail _ (.tail _ (.tail _ (.tail _ (.tail _ (.tail _ (.tail _ (.tail _ (.tail _ (.tail _ (.tail _ (.tail _ (.head _)))))))))))))))
theorem mem_deed_of : (("deed_of" : Str), ("deed_of" : Str), st_deed_of) ∈ tx.defs := List.mem_append_left _ ((.tail _ (.tail _ (.tail _ (.tail _ (.tail _ (.tail _ (.tail _ (.tail _ (.tail _ (.tail _ (.tail _ (.tail _ (.tail _ (.tail _ (.head _))))))))))))))))
theorem mem_forest_for : (("forest_for" : Str), ("forest_for" : Str), st_forest_for) ∈ tx.defs := List.mem_append_left _ ((.tail _ (.tail _ (.tail _ (.tail _ (.tail _ (.tail _ (.tail _ (.tail _ (.tail _ (.tail _ (.tail _ (.tail _ (.tail _ (.tail _ (.tail _ (.head _)))))))))))))))))
theorem mem_migrated_of : (("migrated_of" : Str), ("migrated_of" : Str), st_migrated_of) ∈ tx.defs := List.mem_append_left _ ((.tail _ (.tail _ (.tail _ (.tail _ (.tail _ (.tail _ (.tail _ (.tail _ (.tail _ (.tail _ (.tail _ (.tail _ (.tail _ (.tail _ (.tail _ (.tail _ (.head _))))))))))))))))))
theorem mem_plain_of : (("plain_of" : Str), ("plain_of" : Str), st_plain_of) ∈ tx.defs := List.mem_append_left _ ((.tail _ (.tail _ (.tail _ (.tail _ (.tail _ (.tail _ (.tail _ (.tail _ (.tail _ (.tail _ (.tail _ (.tail _ (.tail _ (.tail _ (.tail _ (.tail _ (.tail _ (.head _)))))))))))))))))))
theorem mem_both_of : (("both_of" : Str), ("both_of" : Str), st_both_of) ∈ tx.defs := List.mem_append_left _ ((.tail _ (.tail _ (.tail _ (.tail _ (.tail _ (.tail _ (.tail _ (.tail _ (.tail _ (.tail _ (.tail _ (.tail _ (.tail _ (.tail _ (.tail _ (.tail _ (.tail _ (.tail _ (.head _))))))))))))))))))))
theorem mem_is_migration : (("is_migration" : Str), ("is_migration" : Str), st_is_migration) ∈ tx.defs := List.mem_append_left _ ((.tail _ (.tail _ (.tail _ (.tail _ (.tail _ (.tail _ (.tail _ (.tail _ (.tail _ (.tail _ (.tail _ (.tail _ (.tail _ (.tail _ (.tail _ (.tail _ (.tail _ (.tail _ (.tail _ (.head _)))))))))))))))))))))
theorem mem_check_migration : (("check_migration" : Str), ("check_migration" : Str), st_check_migration) ∈ tx.defs := List.mem_append_left _ ((.tail _ (.tail _ (.tail _ (.tail _ (.tail _ (.tail _ (.tail _ (.tail _ (.tail _ (.tail _ (.tail _ (.tail _ (.tail _ (.tail _ (.tail _ (.tail _ (.tail _ (.tail _ (.tail _ (.tail _ (.head _))))))))))))))))))))))
theorem mem_forest_of : (("forest_of" : Str), ("forest_of" : Str), st_forest_of) ∈ tx.defs := List.mem_append_left _ ((.tail _ (.tail _ (.tail _ (.tail _ (.tail _ (.tail _ (.tail _ (.tail _ (.tail _ (.tail _ (.tail _ (.tail _ (.tail _ (.tail _ (.tail _ (.tail _ (.tail _ (.tail _ (.tail _ (.tail _ (.tail _ (.head _)))))))))))))))))))))))
theorem mem_migrated : (("migrated" : Str), ("migrated" : Str), st_migrated) ∈ tx.defs := List.mem_append_left _ ((.tail _ (.tail _ (.tail _ (.tail _ (.tail _ (.tail _ (.tail _ (.tail _ (.tail _ (.tail _ (.tail _ (.tail _ (.tail _ (.tail _ (.tail _ (.tail _ (.tail _ (.tail _ (.tail _ (.tail _ (.tail _ (.tail _ (.head _))))))))))))))))))))))))
theorem mem_plain_migration : (("plain_migration" : Str), ("plain_migration" : Str), st_plain_migration) ∈ tx.defs := List.mem_append_left _ ((.tail _ (.tail _ (.tail _ (.tail _ (.tail _ (.tail _ (.tail _ (.tail _ (.tail _ (.tail _ (.tail _ (.tail _ (.tail _ (.tail _ (.tail _ (.tail _ (.tail _ (.tail _ (.tail _ (.tail _ (.tail _ (.tail _ (.tail _ (.head _)))))))))))))))))))))))))
theorem mem_both_migrations : (("both_migrations" : Str), ("both_migrations" : Str), st_both_migrations) ∈ tx.defs := List.mem_append_left _ ((.tail _ (.tail _ (.tail _ (.tail _ (.tail _ (.tail _ (.tail _ (.tail _ (.tail _ (.tail _ (.tail _ (.tail _ (.tail _ (.tail _ (.tail _ (.tail _ (.tail _ (.tail _ (.tail _ (.tail _ (.tail _ (.tail _ (.tail _ (.tail _ (.head _))))))))))))))))))))))))))
theorem mem__law_stir : (("_law_stir" : Str), ("_law_stir" : Str), st__law_stir) ∈ tx.defs := List.mem_append_left _ ((.tail _ (.tail _ (.tail _ (.tail _ (.tail _ (.tail _ (.tail _ (.tail _ (.tail _ (.tail _ (.tail _ (.tail _ (.tail _ (.tail _ (.tail _ (.tail _ (.tail _ (.tail _ (.tail _ (.tail _ (.tail _ (.tail _ (.tail _ (.tail _ (.tail _ (.head _)))))))))))))))))))))))))))
theorem mem__law_draws : (("_law_draws" : Str), ("_law_draws" : Str), st__law_draws) ∈ tx.defs := List.mem_append_left _ ((.tail _ (.tail _ (.tail _ (.tail _ (.tail _ (.tail _ (.tail _ (.tail _ (.tail _ (.tail _ (.tail _ (.tail _ (.tail _ (.tail _ (.tail _ (.tail _ (.tail _ (.tail _ (.tail _ (.tail _ (.tail _ (.tail _ (.tail _ (.tail _ (.tail _ (.tail _ (.head _))))))))))))))))))))))))))))
theorem mem__law_take : (("_law_take" : Str), ("_law_take" : Str), st__law_take) ∈ tx.defs := List.mem_append_left _ ((.tail _ (.tail _ (.tail _ (.tail _ (.tail _ (.tail _ (.tail _ (.tail _ (.tail _ (.tail _ (.tail _ (.tail _ (.tail _ (.tail _ (.tail _ (.tail _ (.tail _ (.tail _ (.tail _ (.tail _ (.tail _ (.tail _ (.tail _ (.tail _ (.tail _ (.tail _ (.tail _ (.head _)))))))))))))))))))))))))))))
theorem mem__law_pick : (("_law_pick" : Str), ("_law_pick" : Str), st__law_pick) ∈ tx.defs := List.mem_append_left _ ((.tail _ (.tail _ (.tail _ (.tail _ (.tail _ (.tail _ (.tail _ (.tail _ (.tail _ (.tail _ (.tail _ (.tail _ (.tail _ (.tail _ (.tail _ (.tail _ (.tail _ (.tail _ (.tail _ (.tail _ (.tail _ (.tail _ (.tail _ (.tail _ (.tail _ (.tail _ (.tail _ (.tail _ (.head _))))))))))))))))))))))))))))))
theorem mem__law_is_whole : (("_law_is_whole" : Str), ("_law_is_whole" : Str), st__law_is_whole) ∈ tx.defs := List.mem_append_left _ ((.tail _ (.tail _ (.tail _ (.tail _ (.tail _ (.tail _ (.tail _ (.tail _ (.tail _ (.tail _ (.tail _ (.tail _ (.tail _ (.tail _ (.tail _ (.tail _ (.tail _ (.tail _ (.tail _ (.tail _ (.tail _ (.tail _ (.tail _ (.tail _ (.tail _ (.tail _ (.tail _ (.tail _ (.tail _ (.head _)))))))))))))))))))))))))))))))
theorem mem__law_same : (("_law_same" : Str), ("_law_same" : Str), st__law_same) ∈ tx.defs := List.mem_append_right _ (.head _)
theorem mem__law_tags : (("_law_tags" : Str), ("_law_tags" : Str), st__law_tags) ∈ tx.defs := List.mem_append_right _ (.tail _ (.head _))
theorem mem__law_is_tag : (("_law_is_tag" : Str), ("_law_is_tag" : Str), st__law_is_tag) ∈ tx.defs := List.mem_append_right _ (.tail _ (.tail _ (.head _)))
theorem mem__law_is_kind : (("_law_is_kind" : Str), ("_law_is_kind" : Str), st__law_is_kind) ∈ tx.defs := List.mem_append_right _ (.tail _ (.tail _ (.tail _ (.head _))))
theorem mem__law_parts : (("_law_parts" : Str), ("_law_parts" : Str), st__law_parts) ∈ tx.defs := List.mem_append_right _ (.tail _ (.tail _ (.tail _ (.tail _ (.head _)))))
theorem mem__law_places : (("_law_places" : Str), ("_law_places" : Str), st__law_places) ∈ tx.defs := List.mem_append_right _ (.tail _ (.tail _ (.tail _ (.tail _ (.tail _ (.head _))))))
theorem mem__law_at : (("_law_at" : Str), ("_law_at" : Str), st__law_at) ∈ tx.defs := List.mem_append_right _ (.tail _ (.tail _ (.tail _ (.tail _ (.tail _ (.tail _ (.head _)))))))
theorem mem__law_put_in : (("_law_put_in" : Str), ("_law_put_in" : Str), st__law_put_in) ∈ tx.defs := List.mem_append_right _ (.tail _ (.tail _ (.tail _ (.tail _ (.tail _ (.tail _ (.tail _ (.head _))))))))
theorem mem__law_nodes : (("_law_nodes" : Str), ("_law_nodes" : Str), st__law_nodes) ∈ tx.defs := List.mem_append_right _ (.tail _ (.tail _ (.tail _ (.tail _ (.tail _ (.tail _ (.tail _ (.tail _ (.head _)))))))))
theorem mem__law_leaf : (("_law_leaf" : Str), ("_law_leaf" : Str), st__law_leaf) ∈ tx.defs := List.mem_append_right _ (.tail _ (.tail _ (.tail _ (.tail _ (.tail _ (.tail _ (.tail _ (.tail _ (.tail _ (.head _))))))))))
theorem mem__law_document : (("_law_document" : Str), ("_law_document" : Str), st__law_document) ∈ tx.defs := List.mem_append_right _ (.tail _ (.tail _ (.tail _ (.tail _ (.tail _ (.tail _ (.tail _ (.tail _ (.tail _ (.tail _ (.head _)))))))))))
theorem mem__law_bent : (("_law_bent" : Str), ("_law_bent" : Str), st__law_bent) ∈ tx.defs := List.mem_append_right _ (.tail _ (.tail _ (.tail _ (.tail _ (.tail _ (.tail _ (.tail _ (.tail _ (.tail _ (.tail _ (.tail _ (.head _))))))))))))
theorem mem__law_is_deed : (("_law_is_deed" : Str), ("_law_is_deed" : Str), st__law_is_deed) ∈ tx.defs := List.mem_append_right _ (.tail _ (.tail _ (.tail _ (.tail _ (.tail _ (.tail _ (.tail _ (.tail _ (.tail _ (.tail _ (.tail _ (.tail _ (.head _)))))))))))))
theorem mem__law_is_migration : (("_law_is_migration" : Str), ("_law_is_migration" : Str), st__law_is_migration) ∈ tx.defs := List.mem_append_right _ (.tail _ (.tail _ (.tail _ (.tail _ (.tail _ (.tail _ (.tail _ (.tail _ (.tail _ (.tail _ (.tail _ (.tail _ (.tail _ (.head _))))))))))))))
theorem mem__law_deed : (("_law_deed" : Str), ("_law_deed" : Str), st__law_deed) ∈ tx.defs := List.mem_append_right _ (.tail _ (.tail _ (.tail _ (.tail _ (.tail _ (.tail _ (.tail _ (.tail _ (.tail _ (.tail _ (.tail _ (.tail _ (.tail _ (.tail _ (.head _)))))))))))))))
theorem mem__law_forest : (("_law_forest" : Str), ("_law_forest" : Str), st__law_forest) ∈ tx.defs := List.mem_append_right _ (.tail _ (.tail _ (.tail _ (.tail _ (.tail _ (.tail _ (.tail _ (.tail _ (.tail _ (.tail _ (.tail _ (.tail _ (.tail _ (.tail _ (.tail _ (.head _))))))))))))))))
theorem mem__law_migrated : (("_law_migrated" : Str), ("_law_migrated" : Str), st__law_migrated) ∈ tx.defs := List.mem_append_right _ (.tail _ (.tail _ (.tail _ (.tail _ (.tail _ (.tail _ (.tail _ (.tail _ (.tail _ (.tail _ (.tail _ (.tail _ (.tail _ (.tail _ (.tail _ (.tail _ (.head _)))))))))))))))))
theorem mem__law_migration : (("_law_migration" : Str), ("_law_migration" : Str), st__law_migration) ∈ tx.defs := List.mem_append_right _ (.tail _ (.tail _ (.tail _ (.tail _ (.tail _ (.tail _ (.tail _ (.tail _ (.tail _ (.tail _ (.tail _ (.tail _ (.tail _ (.tail _ (.tail _ (.tail _ (.tail _ (.head _))))))))))))))))))
theorem mem__law_both_of : (("_law_both_of" : Str), ("_law_both_of" : Str), st__law_both_of) ∈ tx.defs := List.mem_append_right _ (.tail _ (.tail _ (.tail _ (.tail _ (.tail _ (.tail _ (.tail _ (.tail _ (.tail _ (.tail _ (.tail _ (.tail _ (.tail _ (.tail _ (.tail _ (.tail _ (.tail _ (.tail _ (.head _)))))))))))))))))))
theorem mem__law_told : (("_law_told" : Str), ("_law_told" : Str), st__law_told) ∈ tx.defs := List.mem_append_right _ (.tail _ (.tail _ (.tail _ (.tail _ (.tail _ (.tail _ (.tail _ (.tail _ (.tail _ (.tail _ (.tail _ (.tail _ (.tail _ (.tail _ (.tail _ (.tail _ (.tail _ (.tail _ (.tail _ (.head _))))))))))))))))))))
theorem mem__law_one_right : (("_law_one_right" : Str), ("_law_one_right" : Str), st__law_one_right) ∈ tx.defs := List.mem_append_right _ (.tail _ (.tail _ (.tail _ (.tail _ (.tail _ (.tail _ (.tail _ (.tail _ (.tail _ (.tail _ (.tail _ (.tail _ (.tail _ (.tail _ (.tail _ (.tail _ (.tail _ (.tail _ (.tail _ (.tail _ (.head _)))))))))))))))))))))
theorem mem__law_two_right : (("_law_two_right" : Str), ("_law_two_right" : Str), st__law_two_right) ∈ tx.defs := List.mem_append_right _ (.tail _ (.tail _ (.tail _ (.tail _ (.tail _ (.tail _ (.tail _ (.tail _ (.tail _ (.tail _ (.tail _ (.tail _ (.tail _ (.tail _ (.tail _ (.tail _ (.tail _ (.tail _ (.tail _ (.tail _ (.tail _ (.head _))))))))))))))))))))))
theorem mem_law : (("law" : Str), ("law" : Str), st_law) ∈ tx.defs := List.mem_append_right _ (.tail _ (.tail _ (.tail _ (.tail _ (.tail _ (.tail _ (.tail _ (.tail _ (.tail _ (.tail _ (.tail _ (.tail _ (.tail _ (.tail _ (.tail _ (.tail _ (.tail _ (.tail _ (.tail _ (.tail _ (.tail _ (.tail _ (.head _)))))))))))))))))))))))
section
variable {P : Program} {w : World} {K : PySem.W.Frag} {mg : Str → Option Value} {base : Heap} {k : Nat}
/-! ### is_row -/
def N_is_row : List Str := ["value", "size"]
def ps_is_row : List Str := ["value", "size"]
theorem sc_is_row : FnScope N_is_row ps_is_row (defScope st_is_row) := ⟨rfl, rfl, rfl, by decide +kernel, rfl, by decide +kernel, by decide +kernel⟩
def w_is_row : UXK → WS := fun E =>
 (wSeq (wRet (wAnd (wCB uIsi (wCons (wVar 0) (wCons (wC (.ty "tuple")) wNil))) (wBin uEq (wCB uLen (wCons (wVar 0) wNil)) (wVar 1))))
 wNext)
theorem jj_is_row (t : Txt tx w K mg) (X : Cx) (g : Gd) (E : UXK) (D : DefX P w K mg base k N_is_row (defScope st_is_row) X) (tk : Takes X (Wof X g fun ux _ M => E ux M)) : JSs X g (defBody st_is_row) (w_is_row E) :=
 have W := D.wk sc_is_row.nd; have hc := D.calm
 (jss_cons (js_ret (j_and (k_callB W ucal_isi (t.free "isinstance" (by decide +kernel)) (by decide +kernel) boot_fn_isinstance (by decide +kernel) (ja_cons (k_var W 0 (by decide +kernel)) (ja_cons (k_ty W (t.free "tuple" (by decide +kernel)) (by decide +kernel) boot_ty_tuple (by decide +kernel)) ja_nil rfl) rfl) rfl rfl) (j_one (j_cmp (uop_eq W.u64) (k_callB W ucal_len (t.free "len" (by decide +kernel)) (by decide +kernel) boot_fn_len (by decide +kernel) (ja_cons (k_var W 0 (by decide +kernel)) ja_nil rfl) rfl rfl) (k_var W 1 (by decide +kernel)) rfl))))
 jss_nil)
theorem bd_is_row (kV doc pm : Value) (an : Option Addr) (cdv ct : Value) (us : List Value) (hl : us.length = ps_is_row.length) : bindArgs (PySem.W.fnOf "is_row" "is_row" (defArgs st_is_row) (defBody st_is_row) (defScope st_is_row) .none kV doc pm an cdv ct) ⟨us, []⟩ = pure (ps_is_row.zip us) := match us, hl with | [_, _], _ => rfl
/-! ### bare -/
def N_bare : List Str := ["label"]
def ps_bare : List Str := ["label"]
theorem sc_bare : FnScope N_bare ps_bare (defScope st_bare) := ⟨rfl, rfl, rfl, by decide +kernel, rfl, by decide +kernel, by decide +kernel⟩
def w_bare : UXK → WS := fun E =>
 (wSeq (wRet (wIf (wB (wBin uEq (wSl (wVar 0) (some (wUn uNeg (wC (.int 1)))) none) (wC (.str "!")))) (wSl (wVar 0) none (some (wUn uNeg (wC (.int 1))))) (wVar 0)))
 wNext)
theorem jj_bare (t : Txt tx w K mg) (X : Cx) (g : Gd) (E : UXK) (D : DefX P w K mg base k N_bare (defScope st_bare) X) (tk : Takes X (Wof X g fun ux _ M => E ux M)) : JSs X g (defBody st_bare) (w_bare E) :=
 have W := D.wk sc_bare.nd; have hc := D.calm
 (jss_cons (js_ret (j_if (jt_cmp (uop_eq W.u64) (j_slice (tl := (some (wUn uNeg (wC (.int 1))))) (th := none) (k_var W 0 (by decide +kernel)) (j_un uun_neg j_int) trivial) j_str rfl) (j_slice (tl := none) (th := (some (wUn uNeg (wC (.int 1))))) (k_var W 0 (by decide +kernel)) trivial (j_un uun_neg j_int)) (k_var W 0 (by decide +kernel))))
 jss_nil)
theorem bd_bare (kV doc pm : Value) (an : Option Addr) (cdv ct : Value) (us : List Value) (hl : us.length = ps_bare.length) : bindArgs (PySem.W.fnOf "bare" "bare" (defArgs st_bare) (defBody st_bare) (defScope st_bare) .none kV doc pm an cdv ct) ⟨us, []⟩ = pure (ps_bare.zip us) := match us, hl with | [_], _ => rfl
/-! ### is_tag -/
def N_is_tag : List Str := ["value", "tag", "sign"]
def ps_is_tag : List Str := ["value"]
theorem sc_is_tag : FnScope N_is_tag ps_is_tag (defScope st_is_tag) := ⟨rfl, rfl, rfl, by decide +kernel, rfl, by decide +kernel, by decide +kernel⟩
def w_is_tag (sp_bare : USp) : UXK → WS := fun E =>
 (wSeq (wIfS (wNotT (wTr (wCB uIsi (wCons (wVar 0) (wCons (wC (.ty "str")) wNil))))) (wSeq (wRet (wC (.bl false)))
 wNext)
 wNext)
 (wSeq (wSet 1 (wCall sp_bare (fun ux _ M => E ux M) (wCons (wVar 0) wNil)))
 (wSeq (wRet (wAnd (wChain uLe uLe (wC (.int 1)) (wCB uLen (wCons (wVar 1) wNil)) (wC c_MOST_LETTERS)) (wCB uAll (wCons (wComp false (wIt (wVar 1)) (wName 2) wYes (wBin uIn0 (wVar 2) (wC c_LETTERS)) [2]) wNil))))
 wNext)))
theorem jj_is_tag (t : Txt tx w K mg) {k_bare : Nat} {sp_bare : USp} (F_bare : FnV P w K mg base k_bare "bare" st_bare ps_bare sp_bare) (hk_bare : k_bare ≤ k) (X : Cx) (g : Gd) (E : UXK) (D : DefX P w K mg base k N_is_tag (defScope st_is_tag) X) (tk : Takes X (Wof X g fun ux _ M => E ux M)) : JSs X g (defBody st_is_tag) (w_is_tag sp_bare E) :=
 have W := D.wk sc_is_tag.nd; have hc := D.calm
 (jss_cons (js_if (jt_not (jt_truth (k_callB W ucal_isi (t.free "isinstance" (by decide +kernel)) (by decide +kernel) boot_fn_isinstance (by decide +kernel) (ja_cons (k_var W 0 (by decide +kernel)) (ja_cons (k_ty W (t.free "str" (by decide +kernel)) (by decide +kernel) boot_ty_str (by decide +kernel)) ja_nil rfl) rfl) rfl rfl) (fun _ => rfl))) (jss_cons (js_ret j_bl)
 jss_nil)
 jss_nil)
 (jss_cons (k_set W 1 (by decide +kernel) (k_call W hc F_bare hk_bare tk (by decide +kernel) (ja_cons (k_var W 0 (by decide +kernel)) ja_nil rfl) rfl rfl) rfl)
 (jss_cons (js_ret (j_and (j_chain uop_le uop_le j_int (k_callB W ucal_len (t.free "len" (by decide +kernel)) (by decide +kernel) boot_fn_len (by decide +kernel) (ja_cons (k_var W 1 (by decide +kernel)) ja_nil rfl) rfl rfl) (k_cst W (t.cst ("MOST_LETTERS", c_MOST_LETTERS) mem_MOST_LETTERS) (by decide +kernel)) rfl) (j_one (k_callB W (ucal_all hc) (t.free "all" (by decide +kernel)) (by decide +kernel) boot_fn_all (by decide +kernel) (ja_cons (k_comp W hc false [("sign", 2)] (by decide +kernel) (ji_it (k_var W 1 (by decide +kernel))) (fun Y1 W1 hc1 => ⟨(k_nameo W1 [2] 2 (by decide +kernel) (by decide)), jts_nil, (j_cmp (uop_in0 W1.u65) (k_var W1 2 (by decide +kernel)) (k_cst W1 (t.cst ("LETTERS", c_LETTERS) mem_LETTERS) (by decide +kernel)) rfl)⟩) (fun _ => rfl)) ja_nil rfl) rfl rfl))))
 jss_nil)))
theorem bd_is_tag (kV doc pm : Value) (an : Option Addr) (cdv ct : Value) (us : List Value) (hl : us.length = ps_is_tag.length) : bindArgs (PySem.W.fnOf "is_tag" "is_tag" (defArgs st_is_tag) (defBody st_is_tag) (defScope st_is_tag) .none kV doc pm an cdv ct) ⟨us, []⟩ = pure (ps_is_tag.zip us) := match us, hl with | [_], _ => rfl
/-! ### is_kind -/
def N_is_kind : List Str := ["value"]
def ps_is_kind : List Str := ["value"]
theorem sc_is_kind : FnScope N_is_kind ps_is_kind (defScope st_is_kind) := ⟨rfl, rfl, rfl, by decide +kernel, rfl, by decide +kernel, by decide +kernel⟩
def w_is_kind (sp_bare : USp) : UXK → WS := fun E =>
 (wSeq (wRet (wAnd (wCB uIsi (wCons (wVar 0) (wCons (wC (.ty "str")) wNil))) (wUn (uInD kv_PLAIN_TEXTS false) (wCall sp_bare (fun ux _ M => E ux M) (wCons (wVar 0) wNil)))))
 wNext)
theorem jj_is_kind (t : Txt tx w K mg) {k_bare : Nat} {sp_bare : USp} (F_bare : FnV P w K mg base k_bare "bare" st_bare ps_bare sp_bare) (hk_bare : k_bare ≤ k) (X : Cx) (g : Gd) (E : UXK) (D : DefX P w K mg base k N_is_kind (defScope st_is_kind) X) (tk : Takes X (Wof X g fun ux _ M => E ux M)) : JSs X g (defBody st_is_kind) (w_is_kind sp_bare E) :=
 have W := D.wk sc_is_kind.nd; have hc := D.calm
 (jss_cons (js_ret (j_and (k_callB W ucal_isi (t.free "isinstance" (by decide +kernel)) (by decide +kernel) boot_fn_isinstance (by decide +kernel) (ja_cons (k_var W 0 (by decide +kernel)) (ja_cons (k_ty W (t.free "str" (by decide +kernel)) (by decide +kernel) boot_ty_str (by decide +kernel)) ja_nil rfl) rfl) rfl rfl) (j_one (k_inD W (t.dic ("PLAIN_TEXTS", kv_PLAIN_TEXTS) mem_PLAIN_TEXTS) (by decide +kernel) (k_call W hc F_bare hk_bare tk (by decide +kernel) (ja_cons (k_var W 0 (by decide +kernel)) ja_nil rfl) rfl rfl)))))
 jss_nil)
theorem bd_is_kind (kV doc pm : Value) (an : Option Addr) (cdv ct : Value) (us : List Value) (hl : us.length = ps_is_kind.length) : bindArgs (PySem.W.fnOf "is_kind" "is_kind" (defArgs st_is_kind) (defBody st_is_kind) (defScope st_is_kind) .none kV doc pm an cdv ct) ⟨us, []⟩ = pure (ps_is_kind.zip us) := match us, hl with | [_], _ => rfl
/-! ### is_label -/
def N_is_label : List Str := ["value"]
def ps_is_label : List Str := ["value"]
theorem sc_is_label : FnScope N_is_label ps_is_label (defScope st_is_label) := ⟨rfl, rfl, rfl, by decide +kernel, rfl, by decide +kernel, by decide +kernel⟩
def w_is_label (sp_is_tag : USp) (sp_is_kind : USp) : UXK → WS := fun E =>
 (wSeq (wRet (wOr (wCall sp_is_tag (fun ux _ M => E ux M) (wCons (wVar 0) wNil)) (wCall sp_is_kind (fun ux _ M => E ux M) (wCons (wVar 0) wNil))))
 wNext)
theorem jj_is_label (t : Txt tx w K mg) {k_is_tag : Nat} {sp_is_tag : USp} (F_is_tag : FnV P w K mg base k_is_tag "is_tag" st_is_tag ps_is_tag sp_is_tag) (hk_is_tag : k_is_tag ≤ k) {k_is_kind : Nat} {sp_is_kind : USp} (F_is_kind : FnV P w K mg base k_is_kind "is_kind" st_is_kind ps_is_kind sp_is_kind) (hk_is_kind : k_is_kind ≤ k) (X : Cx) (g : Gd) (E : UXK) (D : DefX P w K mg base k N_is_label (defScope st_is_label) X) (tk : Takes X (Wof X g fun ux _ M => E ux M)) : JSs X g (defBody st_is_label) (w_is_label sp_is_tag sp_is_kind E) :=
 have W := D.wk sc_is_label.nd; have hc := D.calm
 (jss_cons (js_ret (j_or (k_call W hc F_is_tag hk_is_tag tk (by decide +kernel) (ja_cons (k_var W 0 (by decide +kernel)) ja_nil rfl) rfl rfl) (j_one (k_call W hc F_is_kind hk_is_kind tk (by decide +kernel) (ja_cons (k_var W 0 (by decide +kernel)) ja_nil rfl) rfl rfl))))
 jss_nil)
theorem bd_is_label (kV doc pm : Value) (an : Option Addr) (cdv ct : Value) (us : List Value) (hl : us.length = ps_is_label.length) : bindArgs (PySem.W.fnOf "is_label" "is_label" (defArgs st_is_label) (defBody st_is_label) (defScope st_is_label) .none kV doc pm an cdv ct) ⟨us, []⟩ = pure (ps_is_label.zip us) := match us, hl with | [_], _ => rfl
/-! ### is_integer_text -/
def N_is_integer_text : List Str := ["text", "digits", "sign"]
def ps_is_integer_text : List Str := ["text"]
theorem sc_is_integer_text : FnScope N_is_integer_text ps_is_integer_text (defScope st_is_integer_text) := ⟨rfl, rfl, rfl, by decide +kernel, rfl, by decide +kernel, by decide +kernel⟩
def w_is_integer_text : UXK → WS := fun E =>
 (wSeq (wSet 1 (wIf (wB (wBin uEq (wSl (wVar 0) none (some (wC (.int 1)))) (wC (.str "-")))) (wSl (wVar 0) (some (wC (.int 1))) none) (wVar 0)))
 (wSeq (wIfS (wOrT (wB (wBin uEq (wVar 1) (wC (.str "")))) (wNotT (wTr (wCB uAll (wCons (wComp false (wIt (wVar 1)) (wName 2) wYes (wBin uIn0 (wVar 2) (wC c_DIGITS)) [2]) wNil))))) (wSeq (wRet (wC (.bl false)))
 wNext)
 wNext)
 (wSeq (wRet (wOr (wBin uEq (wVar 0) (wC (.str "0"))) (wBin uNe (wBin uIdx0 (wVar 1) (wC (.int 0))) (wC (.str "0")))))
 wNext)))
theorem jj_is_integer_text (t : Txt tx w K mg) (X : Cx) (g : Gd) (E : UXK) (D : DefX P w K mg base k N_is_integer_text (defScope st_is_integer_text) X) (tk : Takes X (Wof X g fun ux _ M => E ux M)) : JSs X g (defBody st_is_integer_text) (w_is_integer_text E) :=
 have W := D.wk sc_is_integer_text.nd; have hc := D.calm
 (jss_cons (k_set W 1 (by decide +kernel) (j_if (jt_cmp (uop_eq W.u64) (j_slice (tl := none) (th := (some (wC (.int 1)))) (k_var W 0 (by decide +kernel)) trivial j_int) j_str rfl) (j_slice (tl := (some (wC (.int 1)))) (th := none) (k_var W 0 (by decide +kernel)) j_int trivial) (k_var W 0 (by decide +kernel))) rfl)
 (jss_cons (js_if (jt_of (jw_or (jt_cmp (uop_eq W.u64) (k_var W 1 (by decide +kernel)) j_str rfl) (jw_or1 (jt_not (jt_truth (k_callB W (ucal_all hc) (t.free "all" (by decide +kernel)) (by decide +kernel) boot_fn_all (by decide +kernel) (ja_cons (k_comp W hc false [("sign", 2)] (by decide +kernel) (ji_it (k_var W 1 (by decide +kernel))) (fun Y1 W1 hc1 => ⟨(k_nameo W1 [2] 2 (by decide +kernel) (by decide)), jts_nil, (j_cmp (uop_in0 W1.u65) (k_var W1 2 (by decide +kernel)) (k_cst W1 (t.cst ("DIGITS", c_DIGITS) mem_DIGITS) (by decide +kernel)) rfl)⟩) (fun _ => rfl)) ja_nil rfl) rfl rfl) (fun _ => rfl)))))) (jss_cons (js_ret j_bl)
 jss_nil)
 jss_nil)
 (jss_cons (js_ret (j_or (j_cmp (uop_eq W.u64) (k_var W 0 (by decide +kernel)) j_str rfl) (j_one (j_cmp (uop_ne W.u64) (j_idx (uix0 W.u65) (k_var W 1 (by decide +kernel)) j_int (fun _ _ => rfl)) j_str rfl))))
 jss_nil)))
theorem bd_is_integer_text (kV doc pm : Value) (an : Option Addr) (cdv ct : Value) (us : List Value) (hl : us.length = ps_is_integer_text.length) : bindArgs (PySem.W.fnOf "is_integer_text" "is_integer_text" (defArgs st_is_integer_text) (defBody st_is_integer_text) (defScope st_is_integer_text) .none kV doc pm an cdv ct) ⟨us, []⟩ = pure (ps_is_integer_text.zip us) := match us, hl with | [_], _ => rfl
/-! ### is_text_of -/
def N_is_text_of : List Str := ["kind", "value", "sign"]
def ps_is_text_of : List Str := ["kind", "value"]
theorem sc_is_text_of : FnScope N_is_text_of ps_is_text_of (defScope st_is_text_of) := ⟨rfl, rfl, rfl, by decide +kernel, rfl, by decide +kernel, by decide +kernel⟩
def w_is_text_of (sp_bare : USp) (sp_is_integer_text : USp) : UXK → WS := fun E =>
 (wSeq (wIfS (wNotT (wTr (wCB uIsi (wCons (wVar 1) (wCons (wC (.ty "str")) wNil))))) (wSeq (wRet (wC (.bl false)))
 wNext)
 wNext)
 (wSeq (wIfS (wB (wBin uEq (wCall sp_bare (fun ux _ M => E ux M) (wCons (wVar 0) wNil)) (wC (.str "$int")))) (wSeq (wRet (wCall sp_is_integer_text (fun ux _ M => E ux M) (wCons (wVar 1) wNil)))
 wNext)
 wNext)
 (wSeq (wRet (wCB uAll (wCons (wComp false (wIt (wVar 1)) (wName 2) wYes (wChain uLe uLe (wC (.str " ")) (wVar 2) (wC (.str "~"))) [2]) wNil)))
 wNext)))
theorem jj_is_text_of (t : Txt tx w K mg) {k_bare : Nat} {sp_bare : USp} (F_bare : FnV P w K mg base k_bare "bare" st_bare ps_bare sp_bare) (hk_bare : k_bare ≤ k) {k_is_integer_text : Nat} {sp_is_integer_text : USp} (F_is_integer_text : FnV P w K mg base k_is_integer_text "is_integer_text" st_is_integer_text ps_is_integer_text sp_is_integer_text) (hk_is_integer_text : k_is_integer_text ≤ k) (X : Cx) (g : Gd) (E : UXK) (D : DefX P w K mg base k N_is_text_of (defScope st_is_text_of) X) (tk : Takes X (Wof X g fun ux _ M => E ux M)) : JSs X g (defBody st_is_text_of) (w_is_text_of sp_bare sp_is_integer_text E) :=
 have W := D.wk sc_is_text_of.nd; have hc := D.calm
 (jss_cons (js_if (jt_not (jt_truth (k_callB W ucal_isi (t.free "isinstance" (by decide +kernel)) (by decide +kernel) boot_fn_isinstance (by decide +kernel) (ja_cons (k_var W 1 (by decide +kernel)) (ja_cons (k_ty W (t.free "str" (by decide +kernel)) (by decide +kernel) boot_ty_str (by decide +kernel)) ja_nil rfl) rfl) rfl rfl) (fun _ => rfl))) (jss_cons (js_ret j_bl)
 jss_nil)
 jss_nil)
 (jss_cons (js_if (jt_cmp (uop_eq W.u64) (k_call W hc F_bare hk_bare tk (by decide +kernel) (ja_cons (k_var W 0 (by decide +kernel)) ja_nil rfl) rfl rfl) j_str rfl) (jss_cons (js_ret (k_call W hc F_is_integer_text hk_is_integer_text tk (by decide +kernel) (ja_cons (k_var W 1 (by decide +kernel)) ja_nil rfl) rfl rfl))
 jss_nil)
 jss_nil)
 (jss_cons (js_ret (k_callB W (ucal_all hc) (t.free "all" (by decide +kernel)) (by decide +kernel) boot_fn_all (by decide +kernel) (ja_cons (k_comp W hc false [("sign", 2)] (by decide +kernel) (ji_it (k_var W 1 (by decide +kernel))) (fun Y1 W1 hc1 => ⟨(k_nameo W1 [2] 2 (by decide +kernel) (by decide)), jts_nil, (j_chain uop_le uop_le j_str (k_var W1 2 (by decide +kernel)) j_str rfl)⟩) (fun _ => rfl)) ja_nil rfl) rfl rfl))
 jss_nil)))
theorem bd_is_text_of (kV doc pm : Value) (an : Option Addr) (cdv ct : Value) (us : List Value) (hl : us.length = ps_is_text_of.length) : bindArgs (PySem.W.fnOf "is_text_of" "is_text_of" (defArgs st_is_text_of) (defBody st_is_text_of) (defScope st_is_text_of) .none kV doc pm an cdv ct) ⟨us, []⟩ = pure (ps_is_text_of.zip us) := match us, hl with | [_, _], _ => rfl
/-! ### is_part -/
def N_is_part : List Str := ["value", "part"]
def ps_is_part : List Str := ["value"]
theorem sc_is_part : FnScope N_is_part ps_is_part (defScope st_is_part) := ⟨rfl, rfl, rfl, by decide +kernel, rfl, by decide +kernel, by decide +kernel⟩
def w_is_part (sp_is_row : USp) (sp_is_kind : USp) (sp_is_text_of : USp) (sp_is_tag : USp) (sp_is_part : USp) : UXK → WS := fun E =>
 (wSeq (wIfS (wNotT (wTr (wCall sp_is_row (fun ux _ M => E ux M) (wCons (wVar 0) (wCons (wC (.int 2)) wNil))))) (wSeq (wRet (wC (.bl false)))
 wNext)
 wNext)
 (wSeq (wIfS (wTr (wCall sp_is_kind (fun ux _ M => E ux M) (wCons (wBin uIdx0 (wVar 0) (wC (.int 0))) wNil))) (wSeq (wRet (wCall sp_is_text_of (fun ux _ M => E ux M) (wCons (wBin uIdx0 (wVar 0) (wC (.int 0))) (wCons (wBin uIdx0 (wVar 0) (wC (.int 1))) wNil))))
 wNext)
 wNext)
 (wSeq (wRet (wAnd (wCall sp_is_tag (fun ux _ M => E ux M) (wCons (wBin uIdx0 (wVar 0) (wC (.int 0))) wNil)) (wAnd (wCB uIsi (wCons (wBin uIdx0 (wVar 0) (wC (.int 1))) (wCons (wC (.ty "tuple")) wNil))) (wCB uAll (wCons (wComp false (wIt (wBin uIdx0 (wVar 0) (wC (.int 1)))) (wName 1) wYes (wCall sp_is_part (fun _ _ _ => False) (wCons (wVar 1) wNil)) [1]) wNil)))))
 wNext)))
theorem jj_is_part (t : Txt tx w K mg) {k_is_row : Nat} {sp_is_row : USp} (F_is_row : FnV P w K mg base k_is_row "is_row" st_is_row ps_is_row sp_is_row) (hk_is_row : k_is_row ≤ k) {k_is_kind : Nat} {sp_is_kind : USp} (F_is_kind : FnV P w K mg base k_is_kind "is_kind" st_is_kind ps_is_kind sp_is_kind) (hk_is_kind : k_is_kind ≤ k) {k_is_text_of : Nat} {sp_is_text_of : USp} (F_is_text_of : FnV P w K mg base k_is_text_of "is_text_of" st_is_text_of ps_is_text_of sp_is_text_of) (hk_is_text_of : k_is_text_of ≤ k) {k_is_tag : Nat} {sp_is_tag : USp} (F_is_tag : FnV P w K mg base k_is_tag "is_tag" st_is_tag ps_is_tag sp_is_tag) (hk_is_tag : k_is_tag ≤ k) {k_is_part : Nat} {sp_is_part : USp} (F_is_part : FnV P w K mg base k_is_part "is_part" st_is_part ps_is_part sp_is_part) (hk_is_part : k_is_part ≤ k) (X : Cx) (g : Gd) (E : UXK) (D : DefX P w K mg base k N_is_part (defScope st_is_part) X) (tk : Takes X (Wof X g fun ux _ M => E ux M)) : JSs X g (defBody st_is_part) (w_is_part sp_is_row sp_is_kind sp_is_text_of sp_is_tag sp_is_part E) :=
 have W := D.wk sc_is_part.nd; have hc := D.calm
 (jss_cons (js_if (jt_not (jt_truth (k_call W hc F_is_row hk_is_row tk (by decide +kernel) (ja_cons (k_var W 0 (by decide +kernel)) (ja_cons j_int ja_nil rfl) rfl) rfl rfl) (fun _ => rfl))) (jss_cons (js_ret j_bl)
 jss_nil)
 jss_nil)
 (jss_cons (js_if (jt_truth (k_call W hc F_is_kind hk_is_kind tk (by decide +kernel) (ja_cons (j_idx (uix0 W.u65) (k_var W 0 (by decide +kernel)) j_int (fun _ _ => rfl)) ja_nil rfl) rfl rfl) (fun _ => rfl)) (jss_cons (js_ret (k_call W hc F_is_text_of hk_is_text_of tk (by decide +kernel) (ja_cons (j_idx (uix0 W.u65) (k_var W 0 (by decide +kernel)) j_int (fun _ _ => rfl)) (ja_cons (j_idx (uix0 W.u65) (k_var W 0 (by decide +kernel)) j_int (fun _ _ => rfl)) ja_nil rfl) rfl) rfl rfl))
 jss_nil)
 jss_nil)
 (jss_cons (js_ret (j_and (k_call W hc F_is_tag hk_is_tag tk (by decide +kernel) (ja_cons (j_idx (uix0 W.u65) (k_var W 0 (by decide +kernel)) j_int (fun _ _ => rfl)) ja_nil rfl) rfl rfl) (j_and (k_callB W ucal_isi (t.free "isinstance" (by decide +kernel)) (by decide +kernel) boot_fn_isinstance (by decide +kernel) (ja_cons (j_idx (uix0 W.u65) (k_var W 0 (by decide +kernel)) j_int (fun _ _ => rfl)) (ja_cons (k_ty W (t.free "tuple" (by decide +kernel)) (by decide +kernel) boot_ty_tuple (by decide +kernel)) ja_nil rfl) rfl) rfl rfl) (j_one (k_callB W (ucal_all hc) (t.free "all" (by decide +kernel)) (by decide +kernel) boot_fn_all (by decide +kernel) (ja_cons (k_comp W hc false [("part", 1)] (by decide +kernel) (ji_it (j_idx (uix0 W.u65) (k_var W 0 (by decide +kernel)) j_int (fun _ _ => rfl))) (fun Y1 W1 hc1 => ⟨(k_nameo W1 [1] 1 (by decide +kernel) (by decide)), jts_nil, (k_call W1 hc1 F_is_part hk_is_part takes_no (by decide +kernel) (ja_cons (k_var W1 1 (by decide +kernel)) ja_nil rfl) rfl rfl)⟩) (fun _ => rfl)) ja_nil rfl) rfl rfl)))))
 jss_nil)))
theorem bd_is_part (kV doc pm : Value) (an : Option Addr) (cdv ct : Value) (us : List Value) (hl : us.length = ps_is_part.length) : bindArgs (PySem.W.fnOf "is_part" "is_part" (defArgs st_is_part) (defBody st_is_part) (defScope st_is_part) .none kV doc pm an cdv ct) ⟨us, []⟩ = pure (ps_is_part.zip us) := match us, hl with | [_], _ => rfl
/-! ### is_document -/
def N_is_document : List Str := ["value"]
def ps_is_document : List Str := ["value"]
theorem sc_is_document : FnScope N_is_document ps_is_document (defScope st_is_document) := ⟨rfl, rfl, rfl, by decide +kernel, rfl, by decide +kernel, by decide +kernel⟩
def w_is_document (sp_is_part : USp) (sp_is_tag : USp) : UXK → WS := fun E =>
 (wSeq (wRet (wAnd (wCall sp_is_part (fun ux _ M => E ux M) (wCons (wVar 0) wNil)) (wCall sp_is_tag (fun ux _ M => E ux M) (wCons (wBin uIdx0 (wVar 0) (wC (.int 0))) wNil))))
 wNext)
theorem jj_is_document (t : Txt tx w K mg) {k_is_part : Nat} {sp_is_part : USp} (F_is_part : FnV P w K mg base k_is_part "is_part" st_is_part ps_is_part sp_is_part) (hk_is_part : k_is_part ≤ k) {k_is_tag : Nat} {sp_is_tag : USp} (F_is_tag : FnV P w K mg base k_is_tag "is_tag" st_is_tag ps_is_tag sp_is_tag) (hk_is_tag : k_is_tag ≤ k) (X : Cx) (g : Gd) (E : UXK) (D : DefX P w K mg base k N_is_document (defScope st_is_document) X) (tk : Takes X (Wof X g fun ux _ M => E ux M)) : JSs X g (defBody st_is_document) (w_is_document sp_is_part sp_is_tag E) :=
 have W := D.wk sc_is_document.nd; have hc := D.calm
 (jss_cons (js_ret (j_and (k_call W hc F_is_part hk_is_part tk (by decide +kernel) (ja_cons (k_var W 0 (by decide +kernel)) ja_nil rfl) rfl rfl) (j_one (k_call W hc F_is_tag hk_is_tag tk (by decide +kernel) (ja_cons (j_idx (uix0 W.u65) (k_var W 0 (by decide +kernel)) j_int (fun _ _ => rfl)) ja_nil rfl) rfl rfl))))
 jss_nil)
theorem bd_is_document (kV doc pm : Value) (an : Option Addr) (cdv ct : Value) (us : List Value) (hl : us.length = ps_is_document.length) : bindArgs (PySem.W.fnOf "is_document" "is_document" (defArgs st_is_document) (defBody st_is_document) (defScope st_is_document) .none kV doc pm an cdv ct) ⟨us, []⟩ = pure (ps_is_document.zip us) := match us, hl with | [_], _ => rfl
/-! ### check_document -/
def N_check_document : List Str := ["document"]
def ps_check_document : List Str := ["document"]
theorem sc_check_document : FnScope N_check_document ps_check_document (defScope st_check_document) := ⟨rfl, rfl, rfl, by decide +kernel, rfl, by decide +kernel, by decide +kernel⟩
def w_check_document (sp_is_document : USp) : UXK → WS := fun E =>
 (wSeq (wIfS (wNotT (wTr (wCall sp_is_document (fun ux _ M => E ux M) (wCons (wVar 0) wNil)))) (wSeq (wRaise "InvalidDocument" (fun ux _ M => E ux M))
 wNext)
 wNext)
 wNext)
theorem jj_check_document (t : Txt tx w K mg) {k_is_document : Nat} {sp_is_document : USp} (F_is_document : FnV P w K mg base k_is_document "is_document" st_is_document ps_is_document sp_is_document) (hk_is_document : k_is_document ≤ k) (X : Cx) (g : Gd) (E : UXK) (D : DefX P w K mg base k N_check_document (defScope st_check_document) X) (tk : Takes X (Wof X g fun ux _ M => E ux M)) : JSs X g (defBody st_check_document) (w_check_document sp_is_document E) :=
 have W := D.wk sc_check_document.nd; have hc := D.calm
 (jss_cons (js_if (jt_not (jt_truth (k_call W hc F_is_document hk_is_document tk (by decide +kernel) (ja_cons (k_var W 0 (by decide +kernel)) ja_nil rfl) rfl rfl) (fun _ => rfl))) (jss_cons (k_raise W hc (t.exc "InvalidDocument" (by decide +kernel)) (by decide +kernel) tk)
 jss_nil)
 jss_nil)
 jss_nil)
theorem bd_check_document (kV doc pm : Value) (an : Option Addr) (cdv ct : Value) (us : List Value) (hl : us.length = ps_check_document.length) : bindArgs (PySem.W.fnOf "check_document" "check_document" (defArgs st_check_document) (defBody st_check_document) (defScope st_check_document) .none kV doc pm an cdv ct) ⟨us, []⟩ = pure (ps_check_document.zip us) := match us, hl with | [_], _ => rfl
/-! ### check_part -/
def N_check_part : List Str := ["part"]
def ps_check_part : List Str := ["part"]
theorem sc_check_part : FnScope N_check_part ps_check_part (defScope st_check_part) := ⟨rfl, rfl, rfl, by decide +kernel, rfl, by decide +kernel, by decide +kernel⟩
def w_check_part (sp_is_part : USp) : UXK → WS := fun E =>
 (wSeq (wIfS (wNotT (wTr (wCall sp_is_part (fun ux _ M => E ux M) (wCons (wVar 0) wNil)))) (wSeq (wRaise "InvalidPart" (fun ux _ M => E ux M))
 wNext)
 wNext)
 wNext)
theorem jj_check_part (t : Txt tx w K mg) {k_is_part : Nat} {sp_is_part : USp} (F_is_part : FnV P w K mg base k_is_part "is_part" st_is_part ps_is_part sp_is_part) (hk_is_part : k_is_part ≤ k) (X : Cx) (g : Gd) (E : UXK) (D : DefX P w K mg base k N_check_part (defScope st_check_part) X) (tk : Takes X (Wof X g fun ux _ M => E ux M)) : JSs X g (defBody st_check_part) (w_check_part sp_is_part E) :=
 have W := D.wk sc_check_part.nd; have hc := D.calm
 (jss_cons (js_if (jt_not (jt_truth (k_call W hc F_is_part hk_is_part tk (by decide +kernel) (ja_cons (k_var W 0 (by decide +kernel)) ja_nil rfl) rfl rfl) (fun _ => rfl))) (jss_cons (k_raise W hc (t.exc "InvalidPart" (by decide +kernel)) (by decide +kernel) tk)
 jss_nil)
 jss_nil)
 jss_nil)
theorem bd_check_part (kV doc pm : Value) (an : Option Addr) (cdv ct : Value) (us : List Value) (hl : us.length = ps_check_part.length) : bindArgs (PySem.W.fnOf "check_part" "check_part" (defArgs st_check_part) (defBody st_check_part) (defScope st_check_part) .none kV doc pm an cdv ct) ⟨us, []⟩ = pure (ps_check_part.zip us) := match us, hl with | [_], _ => rfl
/-! ### are_alike -/
def N_are_alike : List Str := ["label", "other"]
def ps_are_alike : List Str := ["label", "other"]
theorem sc_are_alike : FnScope N_are_alike ps_are_alike (defScope st_are_alike) := ⟨rfl, rfl, rfl, by decide +kernel, rfl, by decide +kernel, by decide +kernel⟩
def w_are_alike (sp_is_tag : USp) (sp_is_kind : USp) : UXK → WS := fun E =>
 (wSeq (wRet (wOr (wAnd (wCall sp_is_tag (fun ux _ M => E ux M) (wCons (wVar 0) wNil)) (wCall sp_is_tag (fun ux _ M => E ux M) (wCons (wVar 1) wNil))) (wAnd (wCall sp_is_kind (fun ux _ M => E ux M) (wCons (wVar 0) wNil)) (wCall sp_is_kind (fun ux _ M => E ux M) (wCons (wVar 1) wNil)))))
 wNext)
theorem jj_are_alike (t : Txt tx w K mg) {k_is_tag : Nat} {sp_is_tag : USp} (F_is_tag : FnV P w K mg base k_is_tag "is_tag" st_is_tag ps_is_tag sp_is_tag) (hk_is_tag : k_is_tag ≤ k) {k_is_kind : Nat} {sp_is_kind : USp} (F_is_kind : FnV P w K mg base k_is_kind "is_kind" st_is_kind ps_is_kind sp_is_kind) (hk_is_kind : k_is_kind ≤ k) (X : Cx) (g : Gd) (E : UXK) (D : DefX P w K mg base k N_are_alike (defScope st_are_alike) X) (tk : Takes X (Wof X g fun ux _ M => E ux M)) : JSs X g (defBody st_are_alike) (w_are_alike sp_is_tag sp_is_kind E) :=
 have W := D.wk sc_are_alike.nd; have hc := D.calm
 (jss_cons (js_ret (j_or (j_and (k_call W hc F_is_tag hk_is_tag tk (by decide +kernel) (ja_cons (k_var W 0 (by decide +kernel)) ja_nil rfl) rfl rfl) (j_one (k_call W hc F_is_tag hk_is_tag tk (by decide +kernel) (ja_cons (k_var W 1 (by decide +kernel)) ja_nil rfl) rfl rfl))) (j_one (j_and (k_call W hc F_is_kind hk_is_kind tk (by decide +kernel) (ja_cons (k_var W 0 (by decide +kernel)) ja_nil rfl) rfl rfl) (j_one (k_call W hc F_is_kind hk_is_kind tk (by decide +kernel) (ja_cons (k_var W 1 (by decide +kernel)) ja_nil rfl) rfl rfl))))))
 jss_nil)
theorem bd_are_alike (kV doc pm : Value) (an : Option Addr) (cdv ct : Value) (us : List Value) (hl : us.length = ps_are_alike.length) : bindArgs (PySem.W.fnOf "are_alike" "are_alike" (defArgs st_are_alike) (defBody st_are_alike) (defScope st_are_alike) .none kV doc pm an cdv ct) ⟨us, []⟩ = pure (ps_are_alike.zip us) := match us, hl with | [_, _], _ => rfl
/-! ### fits_deed -/
def N_fits_deed : List Str := ["label", "value"]
def ps_fits_deed : List Str := ["label", "value"]
theorem sc_fits_deed : FnScope N_fits_deed ps_fits_deed (defScope st_fits_deed) := ⟨rfl, rfl, rfl, by decide +kernel, rfl, by decide +kernel, by decide +kernel⟩
def w_fits_deed (sp_is_row : USp) (sp_are_alike : USp) (sp_bare : USp) (sp_is_tag : USp) : UXK → WS := fun E =>
 (wSeq (wIfS (wOrT (wNotT (wTr (wCB uIsi (wCons (wVar 1) (wCons (wC (.ty "tuple")) wNil))))) (wOrT (wB (wBin uEq (wVar 1) (wTup wNil))) (wNotT (wTr (wCB uIsi (wCons (wBin uIdx0 (wVar 1) (wC (.int 0))) (wCons (wC (.ty "str")) wNil))))))) (wSeq (wRet (wC (.bl false)))
 wNext)
 wNext)
 (wSeq (wIfS (wB (wBin uEq (wBin uIdx0 (wVar 1) (wC (.int 0))) (wC (.str "keep")))) (wSeq (wIfS (wOrT (wNotT (wTr (wCall sp_is_row (fun ux _ M => E ux M) (wCons (wVar 1) (wCons (wC (.int 2)) wNil))))) (wNotT (wTr (wCall sp_are_alike (fun ux _ M => E ux M) (wCons (wVar 0) (wCons (wBin uIdx0 (wVar 1) (wC (.int 1))) wNil)))))) (wSeq (wRet (wC (.bl false)))
 wNext)
 wNext)
 (wSeq (wRet (wOr (wBin uNe (wCall sp_bare (fun ux _ M => E ux M) (wCons (wVar 0) wNil)) (wC (.str "$text"))) (wBin uNe (wCall sp_bare (fun ux _ M => E ux M) (wCons (wBin uIdx0 (wVar 1) (wC (.int 1))) wNil)) (wC (.str "$int")))))
 wNext))
 wNext)
 (wSeq (wRet (wOr (wBin uEqD (wVar 1) (wTup (wCons (wC (.str "drop")) wNil))) (wAnd (wBin uEqD (wVar 1) (wTup (wCons (wC (.str "open")) wNil))) (wCall sp_is_tag (fun ux _ M => E ux M) (wCons (wVar 0) wNil)))))
 wNext)))
theorem jj_fits_deed (t : Txt tx w K mg) {k_is_row : Nat} {sp_is_row : USp} (F_is_row : FnV P w K mg base k_is_row "is_row" st_is_row ps_is_row sp_is_row) (hk_is_row : k_is_row ≤ k) {k_are_alike : Nat} {sp_are_alike : USp} (F_are_alike : FnV P w K mg base k_are_alike "are_alike" st_are_alike ps_are_alike sp_are_alike) (hk_are_alike : k_are_alike ≤ k) {k_bare : Nat} {sp_bare : USp} (F_bare : FnV P w K mg base k_bare "bare" st_bare ps_bare sp_bare) (hk_bare : k_bare ≤ k) {k_is_tag : Nat} {sp_is_tag : USp} (F_is_tag : FnV P w K mg base k_is_tag "is_tag" st_is_tag ps_is_tag sp_is_tag) (hk_is_tag : k_is_tag ≤ k) (X : Cx) (g : Gd) (E : UXK) (D : DefX P w K mg base k N_fits_deed (defScope st_fits_deed) X) (tk : Takes X (Wof X g fun ux _ M => E ux M)) : JSs X g (defBody st_fits_deed) (w_fits_deed sp_is_row sp_are_alike sp_bare sp_is_tag E) :=
 have W := D.wk sc_fits_deed.nd; have hc := D.calm
 (jss_cons (js_if (jt_of (jw_or (jt_not (jt_truth (k_callB W ucal_isi (t.free "isinstance" (by decide +kernel)) (by decide +kernel) boot_fn_isinstance (by decide +kernel) (ja_cons (k_var W 1 (by decide +kernel)) (ja_cons (k_ty W (t.free "tuple" (by decide +kernel)) (by decide +kernel) boot_ty_tuple (by decide +kernel)) ja_nil rfl) rfl) rfl rfl) (fun _ => rfl))) (jw_or (jt_cmp (uop_eq W.u64) (k_var W 1 (by decide +kernel)) (j_tup ja_nil) rfl) (jw_or1 (jt_not (jt_truth (k_callB W ucal_isi (t.free "isinstance" (by decide +kernel)) (by decide +kernel) boot_fn_isinstance (by decide +kernel) (ja_cons (j_idx (uix0 W.u65) (k_var W 1 (by decide +kernel)) j_int (fun _ _ => rfl)) (ja_cons (k_ty W (t.free "str" (by decide +kernel)) (by decide +kernel) boot_ty_str (by decide +kernel)) ja_nil rfl) rfl) rfl rfl) (fun _ => rfl))))))) (jss_cons (js_ret j_bl)
 jss_nil)
 jss_nil)
 (jss_cons (js_if (jt_cmp (uop_eq W.u64) (j_idx (uix0 W.u65) (k_var W 1 (by decide +kernel)) j_int (fun _ _ => rfl)) j_str rfl) (jss_cons (js_if (jt_of (jw_or (jt_not (jt_truth (k_call W hc F_is_row hk_is_row tk (by decide +kernel) (ja_cons (k_var W 1 (by decide +kernel)) (ja_cons j_int ja_nil rfl) rfl) rfl rfl) (fun _ => rfl))) (jw_or1 (jt_not (jt_truth (k_call W hc F_are_alike hk_are_alike tk (by decide +kernel) (ja_cons (k_var W 0 (by decide +kernel)) (ja_cons (j_idx (uix0 W.u65) (k_var W 1 (by decide +kernel)) j_int (fun _ _ => rfl)) ja_nil rfl) rfl) rfl rfl) (fun _ => rfl)))))) (jss_cons (js_ret j_bl)
 jss_nil)
 jss_nil)
 (jss_cons (js_ret (j_or (j_cmp (uop_ne W.u64) (k_call W hc F_bare hk_bare tk (by decide +kernel) (ja_cons (k_var W 0 (by decide +kernel)) ja_nil rfl) rfl rfl) j_str rfl) (j_one (j_cmp (uop_ne W.u64) (k_call W hc F_bare hk_bare tk (by decide +kernel) (ja_cons (j_idx (uix0 W.u65) (k_var W 1 (by decide +kernel)) j_int (fun _ _ => rfl)) ja_nil rfl) rfl rfl) j_str rfl))))
 jss_nil))
 jss_nil)
 (jss_cons (js_ret (j_or (j_cmp (uop_eqD W.u64) (k_var W 1 (by decide +kernel)) (j_tup (ja_cons j_str ja_nil rfl)) rfl) (j_one (j_and (j_cmp (uop_eqD W.u64) (k_var W 1 (by decide +kernel)) (j_tup (ja_cons j_str ja_nil rfl)) rfl) (j_one (k_call W hc F_is_tag hk_is_tag tk (by decide +kernel) (ja_cons (k_var W 0 (by decide +kernel)) ja_nil rfl) rfl rfl))))))
 jss_nil)))
theorem bd_fits_deed (kV doc pm : Value) (an : Option Addr) (cdv ct : Value) (us : List Value) (hl : us.length = ps_fits_deed.length) : bindArgs (PySem.W.fnOf "fits_deed" "fits_deed" (defArgs st_fits_deed) (defBody st_fits_deed) (defScope st_fits_deed) .none kV doc pm an cdv ct) ⟨us, []⟩ = pure (ps_fits_deed.zip us) := match us, hl with | [_, _], _ => rfl
/-! ### fits_migration -/
def N_fits_migration : List Str := ["value", "pair", "one", "other"]
def ps_fits_migration : List Str := ["value"]
theorem sc_fits_migration : FnScope N_fits_migration ps_fits_migration (defScope st_fits_migration) := ⟨rfl, rfl, rfl, by decide +kernel, rfl, by decide +kernel, by decide +kernel⟩
def w_fits_migration (sp_is_row : USp) (sp_is_label : USp) (sp_fits_deed : USp) : UXK → WS := fun E =>
 (wSeq (wIfS (wOrT (wNotT (wTr (wCB uIsi (wCons (wVar 0) (wCons (wC (.ty "tuple")) wNil))))) (wNotT (wTr (wCB uAll (wCons (wComp false (wIt (wVar 0)) (wName 1) wYes (wCall sp_is_row (fun _ _ _ => False) (wCons (wVar 1) (wCons (wC (.int 2)) wNil))) [1]) wNil))))) (wSeq (wRet (wC (.bl false)))
 wNext)
 wNext)
 (wSeq (wIfS (wNotT (wTr (wCB uAll (wCons (wComp false (wIt (wVar 0)) (wName 1) wYes (wAnd (wCall sp_is_label (fun _ _ _ => False) (wCons (wBin uIdx0 (wVar 1) (wC (.int 0))) wNil)) (wCall sp_fits_deed (fun _ _ _ => False) (wCons (wBin uIdx0 (wVar 1) (wC (.int 0))) (wCons (wBin uIdx0 (wVar 1) (wC (.int 1))) wNil)))) [1]) wNil)))) (wSeq (wRet (wC (.bl false)))
 wNext)
 wNext)
 (wSeq (wRet (wCB uAll (wCons (wComp false (wZip (wCons (wVar 0) (wCons (wSl (wVar 0) (some (wC (.int 1))) none) wNil))) (wGtup 2 (wGcons (wName 2) (wGcons (wName 3) wGnil))) wYes (wBin uLt (wBin uIdx0 (wVar 2) (wC (.int 0))) (wBin uIdx0 (wVar 3) (wC (.int 0)))) [2, 3]) wNil)))
 wNext)))
theorem jj_fits_migration (t : Txt tx w K mg) {k_is_row : Nat} {sp_is_row : USp} (F_is_row : FnV P w K mg base k_is_row "is_row" st_is_row ps_is_row sp_is_row) (hk_is_row : k_is_row ≤ k) {k_is_label : Nat} {sp_is_label : USp} (F_is_label : FnV P w K mg base k_is_label "is_label" st_is_label ps_is_label sp_is_label) (hk_is_label : k_is_label ≤ k) {k_fits_deed : Nat} {sp_fits_deed : USp} (F_fits_deed : FnV P w K mg base k_fits_deed "fits_deed" st_fits_deed ps_fits_deed sp_fits_deed) (hk_fits_deed : k_fits_deed ≤ k) (X : Cx) (g : Gd) (E : UXK) (D : DefX P w K mg base k N_fits_migration (defScope st_fits_migration) X) (tk : Takes X (Wof X g fun ux _ M => E ux M)) : JSs X g (defBody st_fits_migration) (w_fits_migration sp_is_row sp_is_label sp_fits_deed E) :=
 have W := D.wk sc_fits_migration.nd; have hc := D.calm
 (jss_cons (js_if (jt_of (jw_or (jt_not (jt_truth (k_callB W ucal_isi (t.free "isinstance" (by decide +kernel)) (by decide +kernel) boot_fn_isinstance (by decide +kernel) (ja_cons (k_var W 0 (by decide +kernel)) (ja_cons (k_ty W (t.free "tuple" (by decide +kernel)) (by decide +kernel) boot_ty_tuple (by decide +kernel)) ja_nil rfl) rfl) rfl rfl) (fun _ => rfl))) (jw_or1 (jt_not (jt_truth (k_callB W (ucal_all hc) (t.free "all" (by decide +kernel)) (by decide +kernel) boot_fn_all (by decide +kernel) (ja_cons (k_comp W hc false [("pair", 1)] (by decide +kernel) (ji_it (k_var W 0 (by decide +kernel))) (fun Y1 W1 hc1 => ⟨(k_nameo W1 [1] 1 (by decide +kernel) (by decide)), jts_nil, (k_call W1 hc1 F_is_row hk_is_row takes_no (by decide +kernel) (ja_cons (k_var W1 1 (by decide +kernel)) (ja_cons j_int ja_nil rfl) rfl) rfl rfl)⟩) (fun _ => rfl)) ja_nil rfl) rfl rfl) (fun _ => rfl)))))) (jss_cons (js_ret j_bl)
 jss_nil)
 jss_nil)
 (jss_cons (js_if (jt_not (jt_truth (k_callB W (ucal_all hc) (t.free "all" (by decide +kernel)) (by decide +kernel) boot_fn_all (by decide +kernel) (ja_cons (k_comp W hc false [("pair", 1)] (by decide +kernel) (ji_it (k_var W 0 (by decide +kernel))) (fun Y1 W1 hc1 => ⟨(k_nameo W1 [1] 1 (by decide +kernel) (by decide)), jts_nil, (j_and (k_call W1 hc1 F_is_label hk_is_label takes_no (by decide +kernel) (ja_cons (j_idx (uix0 W1.u65) (k_var W1 1 (by decide +kernel)) j_int (fun _ _ => rfl)) ja_nil rfl) rfl rfl) (j_one (k_call W1 hc1 F_fits_deed hk_fits_deed takes_no (by decide +kernel) (ja_cons (j_idx (uix0 W1.u65) (k_var W1 1 (by decide +kernel)) j_int (fun _ _ => rfl)) (ja_cons (j_idx (uix0 W1.u65) (k_var W1 1 (by decide +kernel)) j_int (fun _ _ => rfl)) ja_nil rfl) rfl) rfl rfl)))⟩) (fun _ => rfl)) ja_nil rfl) rfl rfl) (fun _ => rfl))) (jss_cons (js_ret j_bl)
 jss_nil)
 jss_nil)
 (jss_cons (js_ret (k_callB W (ucal_all hc) (t.free "all" (by decide +kernel)) (by decide +kernel) boot_fn_all (by decide +kernel) (ja_cons (k_comp W hc false [("one", 2), ("other", 3)] (by decide +kernel) (k_zip W (t.free "zip" (by decide +kernel)) (by decide +kernel) (ja_cons (k_var W 0 (by decide +kernel)) (ja_cons (j_slice (tl := (some (wC (.int 1)))) (th := none) (k_var W 0 (by decide +kernel)) j_int trivial) ja_nil rfl) rfl) rfl rfl) (fun Y1 W1 hc1 => ⟨(jgo_tup hc1 (jgso_cons (k_nameo W1 [2, 3] 2 (by decide +kernel) (by decide)) (jgso_cons (k_nameo W1 [2, 3] 3 (by decide +kernel) (by decide)) jgso_nil rfl) rfl) rfl rfl), jts_nil, (j_cmp (uop_lt W1.u64) (j_idx (uix0 W1.u65) (k_var W1 2 (by decide +kernel)) j_int (fun _ _ => rfl)) (j_idx (uix0 W1.u65) (k_var W1 3 (by decide +kernel)) j_int (fun _ _ => rfl)) rfl)⟩) (fun _ => rfl)) ja_nil rfl) rfl rfl))
 jss_nil)))
theorem bd_fits_migration (kV doc pm : Value) (an : Option Addr) (cdv ct : Value) (us : List Value) (hl : us.length = ps_fits_migration.length) : bindArgs (PySem.W.fnOf "fits_migration" "fits_migration" (defArgs st_fits_migration) (defBody st_fits_migration) (defScope st_fits_migration) .none kV doc pm an cdv ct) ⟨us, []⟩ = pure (ps_fits_migration.zip us) := match us, hl with | [_], _ => rfl
/-! ### deed_of -/
def N_deed_of : List Str := ["migration", "label"]
def ps_deed_of : List Str := ["migration", "label"]
theorem sc_deed_of : FnScope N_deed_of ps_deed_of (defScope st_deed_of) := ⟨rfl, rfl, rfl, by decide +kernel, rfl, by decide +kernel, by decide +kernel⟩
def w_deed_of : UXK → WS := fun E =>
 (wSeq (wRet (wDGet2 (wCB uDictT (wCons (wVar 0) wNil)) (wVar 1) (wTup (wCons (wC (.str "keep")) (wCons (wVar 1) wNil)))))
 wNext)
theorem jj_deed_of (t : Txt tx w K mg) (X : Cx) (g : Gd) (E : UXK) (D : DefX P w K mg base k N_deed_of (defScope st_deed_of) X) (tk : Takes X (Wof X g fun ux _ M => E ux M)) : JSs X g (defBody st_deed_of) (w_deed_of E) :=
 have W := D.wk sc_deed_of.nd; have hc := D.calm
 (jss_cons (js_ret (j_dget2 (by have := W.un; omega) (k_callTy W (ucal_dictT hc) (t.free "dict" (by decide +kernel)) (by decide +kernel) boot_ty_dict (by decide +kernel) (ja_cons (k_var W 0 (by decide +kernel)) ja_nil rfl) rfl rfl) (k_var W 1 (by decide +kernel)) (j_tup (ja_cons j_str (ja_cons (k_var W 1 (by decide +kernel)) ja_nil rfl) rfl)) ⟨rfl, rfl, rfl, rfl⟩))
 jss_nil)
theorem bd_deed_of (kV doc pm : Value) (an : Option Addr) (cdv ct : Value) (us : List Value) (hl : us.length = ps_deed_of.length) : bindArgs (PySem.W.fnOf "deed_of" "deed_of" (defArgs st_deed_of) (defBody st_deed_of) (defScope st_deed_of) .none kV doc pm an cdv ct) ⟨us, []⟩ = pure (ps_deed_of.zip us) := match us, hl with | [_, _], _ => rfl
/-! ### forest_for -/
def N_forest_for : List Str := ["migration", "part", "deed", "inner", "more", "one"]
def ps_forest_for : List Str := ["migration", "part"]
theorem sc_forest_for : FnScope N_forest_for ps_forest_for (defScope st_forest_for) := ⟨rfl, rfl, rfl, by decide +kernel, rfl, by decide +kernel, by decide +kernel⟩
def w_forest_for (sp_deed_of : USp) (sp_is_kind : USp) (sp_forest_for : USp) : UXK → WS := fun E =>
 (wSeq (wSet 2 (wCall sp_deed_of (fun ux _ M => E ux M) (wCons (wVar 0) (wCons (wBin uIdx0 (wVar 1) (wC (.int 0))) wNil))))
 (wSeq (wIfS (wB (wBin uEq (wBin uIdx0 (wVar 2) (wC (.int 0))) (wC (.str "drop")))) (wSeq (wRet (wTup wNil))
 wNext)
 wNext)
 (wSeq (wIfS (wTr (wCall sp_is_kind (fun ux _ M => E ux M) (wCons (wBin uIdx0 (wVar 1) (wC (.int 0))) wNil))) (wSeq (wRet (wTup (wCons (wTup (wCons (wBin uIdx0 (wVar 2) (wC (.int 1))) (wCons (wBin uIdx0 (wVar 1) (wC (.int 1))) wNil))) wNil)))
 wNext)
 wNext)
 (wSeq (wSet 3 (wCB uTuple (wCons (wComp2 false (wIt (wBin uIdx0 (wVar 1) (wC (.int 1)))) (wName 4) wYes (wIt (wCall sp_forest_for (fun _ _ _ => False) (wCons (wVar 0) (wCons (wVar 4) wNil)))) (wName 5) wYes (wVar 5) [4, 5] [5]) wNil)))
 (wSeq (wRet (wIf (wB (wBin uEq (wBin uIdx0 (wVar 2) (wC (.int 0))) (wC (.str "open")))) (wVar 3) (wTup (wCons (wTup (wCons (wBin uIdx0 (wVar 2) (wC (.int 1))) (wCons (wVar 3) wNil))) wNil))))
 wNext)))))
theorem jj_forest_for (t : Txt tx w K mg) {k_deed_of : Nat} {sp_deed_of : USp} (F_deed_of : FnV P w K mg base k_deed_of "deed_of" st_deed_of ps_deed_of sp_deed_of) (hk_deed_of : k_deed_of ≤ k) {k_is_kind : Nat} {sp_is_kind : USp} (F_is_kind : FnV P w K mg base k_is_kind "is_kind" st_is_kind ps_is_kind sp_is_kind) (hk_is_kind : k_is_kind ≤ k) {k_forest_for : Nat} {sp_forest_for : USp} (F_forest_for : FnV P w K mg base k_forest_for "forest_for" st_forest_for ps_forest_for sp_forest_for) (hk_forest_for : k_forest_for ≤ k) (X : Cx) (g : Gd) (E : UXK) (D : DefX P w K mg base k N_forest_for (defScope st_forest_for) X) (tk : Takes X (Wof X g fun ux _ M => E ux M)) : JSs X g (defBody st_forest_for) (w_forest_for sp_deed_of sp_is_kind sp_forest_for E) :=
 have W := D.wk sc_forest_for.nd; have hc := D.calm
 (jss_cons (k_set W 2 (by decide +kernel) (k_call W hc F_deed_of hk_deed_of tk (by decide +kernel) (ja_cons (k_var W 0 (by decide +kernel)) (ja_cons (j_idx (uix0 W.u65) (k_var W 1 (by decide +kernel)) j_int (fun _ _ => rfl)) ja_nil rfl) rfl) rfl rfl) rfl)
 (jss_cons (js_if (jt_cmp (uop_eq W.u64) (j_idx (uix0 W.u65) (k_var W 2 (by decide +kernel)) j_int (fun _ _ => rfl)) j_str rfl) (jss_cons (js_ret (j_tup ja_nil))
 jss_nil)
 jss_nil)
 (jss_cons (js_if (jt_truth (k_call W hc F_is_kind hk_is_kind tk (by decide +kernel) (ja_cons (j_idx (uix0 W.u65) (k_var W 1 (by decide +kernel)) j_int (fun _ _ => rfl)) ja_nil rfl) rfl rfl) (fun _ => rfl)) (jss_cons (js_ret (j_tup (ja_cons (j_tup (ja_cons (j_idx (uix0 W.u65) (k_var W 2 (by decide +kernel)) j_int (fun _ _ => rfl)) (ja_cons (j_idx (uix0 W.u65) (k_var W 1 (by decide +kernel)) j_int (fun _ _ => rfl)) ja_nil rfl) rfl)) ja_nil rfl)))
 jss_nil)
 jss_nil)
 (jss_cons (k_set W 3 (by decide +kernel) (k_callTy W ucal_tuple (t.free "tuple" (by decide +kernel)) (by decide +kernel) boot_ty_tuple (by decide +kernel) (ja_cons (k_comp2 W hc false [("more", 4), ("one", 5)] [5] (by decide +kernel) (by decide +kernel) (ji_it (j_idx (uix0 W.u65) (k_var W 1 (by decide +kernel)) j_int (fun _ _ => rfl))) (fun Y1 W1 hc1 => ⟨(k_nameo W1 [4, 5] 4 (by decide +kernel) (by decide)), jts_nil, (ji_it (k_call W1 hc1 F_forest_for hk_forest_for takes_no (by decide +kernel) (ja_cons (k_var W1 0 (by decide +kernel)) (ja_cons (k_var W1 4 (by decide +kernel)) ja_nil rfl) rfl) rfl rfl)), (k_nameo W1 [5] 5 (by decide +kernel) (by decide)), jts_nil, (k_var W1 5 (by decide +kernel))⟩) (fun _ => rfl) (fun _ _ => rfl)) ja_nil rfl) rfl rfl) rfl)
 (jss_cons (js_ret (j_if (jt_cmp (uop_eq W.u64) (j_idx (uix0 W.u65) (k_var W 2 (by decide +kernel)) j_int (fun _ _ => rfl)) j_str rfl) (k_var W 3 (by decide +kernel)) (j_tup (ja_cons (j_tup (ja_cons (j_idx (uix0 W.u65) (k_var W 2 (by decide +kernel)) j_int (fun _ _ => rfl)) (ja_cons (k_var W 3 (by decide +kernel)) ja_nil rfl) rfl)) ja_nil rfl))))
 jss_nil)))))
theorem bd_forest_for (kV doc pm : Value) (an : Option Addr) (cdv ct : Value) (us : List Value) (hl : us.length = ps_forest_for.length) : bindArgs (PySem.W.fnOf "forest_for" "forest_for" (defArgs st_forest_for) (defBody st_forest_for) (defScope st_forest_for) .none kV doc pm an cdv ct) ⟨us, []⟩ = pure (ps_forest_for.zip us) := match us, hl with | [_, _], _ => rfl
/-! ### migrated_of -/
def N_migrated_of : List Str := ["migration", "document"]
def ps_migrated_of : List Str := ["migration", "document"]
theorem sc_migrated_of : FnScope N_migrated_of ps_migrated_of (defScope st_migrated_of) := ⟨rfl, rfl, rfl, by decide +kernel, rfl, by decide +kernel, by decide +kernel⟩
def w_migrated_of (sp_deed_of : USp) (sp_forest_for : USp) : UXK → WS := fun E =>
 (wSeq (wRet (wIf (wB (wBin uEq (wBin uIdx0 (wCall sp_deed_of (fun ux _ M => E ux M) (wCons (wVar 0) (wCons (wBin uIdx0 (wVar 1) (wC (.int 0))) wNil))) (wC (.int 0))) (wC (.str "keep")))) (wBin uIdx0 (wCall sp_forest_for (fun ux _ M => E ux M) (wCons (wVar 0) (wCons (wVar 1) wNil))) (wC (.int 0))) (wC .non)))
 wNext)
theorem jj_migrated_of (t : Txt tx w K mg) {k_deed_of : Nat} {sp_deed_of : USp} (F_deed_of : FnV P w K mg base k_deed_of "deed_of" st_deed_of ps_deed_of sp_deed_of) (hk_deed_of : k_deed_of ≤ k) {k_forest_for : Nat} {sp_forest_for : USp} (F_forest_for : FnV P w K mg base k_forest_for "forest_for" st_forest_for ps_forest_for sp_forest_for) (hk_forest_for : k_forest_for ≤ k) (X : Cx) (g : Gd) (E : UXK) (D : DefX P w K mg base k N_migrated_of (defScope st_migrated_of) X) (tk : Takes X (Wof X g fun ux _ M => E ux M)) : JSs X g (defBody st_migrated_of) (w_migrated_of sp_deed_of sp_forest_for E) :=
 have W := D.wk sc_migrated_of.nd; have hc := D.calm
 (jss_cons (js_ret (j_if (jt_cmp (uop_eq W.u64) (j_idx (uix0 W.u65) (k_call W hc F_deed_of hk_deed_of tk (by decide +kernel) (ja_cons (k_var W 0 (by decide +kernel)) (ja_cons (j_idx (uix0 W.u65) (k_var W 1 (by decide +kernel)) j_int (fun _ _ => rfl)) ja_nil rfl) rfl) rfl rfl) j_int (fun _ _ => rfl)) j_str rfl) (j_idx (uix0 W.u65) (k_call W hc F_forest_for hk_forest_for tk (by decide +kernel) (ja_cons (k_var W 0 (by decide +kernel)) (ja_cons (k_var W 1 (by decide +kernel)) ja_nil rfl) rfl) rfl rfl) j_int (fun _ _ => rfl)) j_non))
 jss_nil)
theorem bd_migrated_of (kV doc pm : Value) (an : Option Addr) (cdv ct : Value) (us : List Value) (hl : us.length = ps_migrated_of.length) : bindArgs (PySem.W.fnOf "migrated_of" "migrated_of" (defArgs st_migrated_of) (defBody st_migrated_of) (defScope st_migrated_of) .none kV doc pm an cdv ct) ⟨us, []⟩ = pure (ps_migrated_of.zip us) := match us, hl with | [_, _], _ => rfl
/-! ### plain_of -/
def N_plain_of : List Str := ["migration", "pair"]
def ps_plain_of : List Str := ["migration"]
theorem sc_plain_of : FnScope N_plain_of ps_plain_of (defScope st_plain_of) := ⟨rfl, rfl, rfl, by decide +kernel, rfl, by decide +kernel, by decide +kernel⟩
def w_plain_of : UXK → WS := fun E =>
 (wSeq (wRet (wCB uTuple (wCons (wComp false (wIt (wVar 0)) (wName 1) (wB (wBin uNe (wBin uIdx0 (wVar 1) (wC (.int 1))) (wTup (wCons (wC (.str "keep")) (wCons (wBin uIdx0 (wVar 1) (wC (.int 0))) wNil))))) (wVar 1) [1]) wNil)))
 wNext)
theorem jj_plain_of (t : Txt tx w K mg) (X : Cx) (g : Gd) (E : UXK) (D : DefX P w K mg base k N_plain_of (defScope st_plain_of) X) (tk : Takes X (Wof X g fun ux _ M => E ux M)) : JSs X g (defBody st_plain_of) (w_plain_of E) :=
 have W := D.wk sc_plain_of.nd; have hc := D.calm
 (jss_cons (js_ret (k_callTy W ucal_tuple (t.free "tuple" (by decide +kernel)) (by decide +kernel) boot_ty_tuple (by decide +kernel) (ja_cons (k_comp W hc false [("pair", 1)] (by decide +kernel) (ji_it (k_var W 0 (by decide +kernel))) (fun Y1 W1 hc1 => ⟨(k_nameo W1 [1] 1 (by decide +kernel) (by decide)), (jts_one (jt_cmp (uop_ne W1.u64) (j_idx (uix0 W1.u65) (k_var W1 1 (by decide +kernel)) j_int (fun _ _ => rfl)) (j_tup (ja_cons j_str (ja_cons (j_idx (uix0 W1.u65) (k_var W1 1 (by decide +kernel)) j_int (fun _ _ => rfl)) ja_nil rfl) rfl)) rfl)), (k_var W1 1 (by decide +kernel))⟩) (fun _ => rfl)) ja_nil rfl) rfl rfl))
 jss_nil)
theorem bd_plain_of (kV doc pm : Value) (an : Option Addr) (cdv ct : Value) (us : List Value) (hl : us.length = ps_plain_of.length) : bindArgs (PySem.W.fnOf "plain_of" "plain_of" (defArgs st_plain_of) (defBody st_plain_of) (defScope st_plain_of) .none kV doc pm an cdv ct) ⟨us, []⟩ = pure (ps_plain_of.zip us) := match us, hl with | [_], _ => rfl
/-! ### both_of -/
def N_both_of : List Str := ["migration", "other", "labels", "found", "label", "deed", "pair"]
def ps_both_of : List Str := ["migration", "other"]
theorem sc_both_of : FnScope N_both_of ps_both_of (defScope st_both_of) := ⟨rfl, rfl, rfl, by decide +kernel, rfl, by decide +kernel, by decide +kernel⟩
def w_both_of (sp_deed_of : USp) (sp_plain_of : USp) : UXK → WS := fun E =>
 (wSeq (wSet 2 (wSortSetA (wComp false (wIt (wBin uAdd (wVar 0) (wVar 1))) (wName 6) wYes (wBin uIdx0 (wVar 6) (wC (.int 0))) [6])))
 (wSeq (wSet 3 (wLstH wNil))
 (wSeq (wFor (wIt (wVar 2)) (wName 4)
 (wSeq (wSet 5 (wCall sp_deed_of (fun ux _ M => E ux M) (wCons (wVar 0) (wCons (wVar 4) wNil))))
 (wSeq (wDrop (wBM "list" uAppend (wVar 3) (wCons (wTup (wCons (wVar 4) (wCons (wIf (wB (wBin uEq (wBin uIdx0 (wVar 5) (wC (.int 0))) (wC (.str "keep")))) (wCall sp_deed_of (fun ux _ M => E ux M) (wCons (wVar 1) (wCons (wBin uIdx0 (wVar 5) (wC (.int 1))) wNil))) (wVar 5)) wNil))) wNil)))
 wNext)))
 (wSeq (wRet (wCall sp_plain_of (fun ux _ M => E ux M) (wCons (wCB uTuple (wCons (wVar 3) wNil)) wNil)))
 wNext))))
theorem jj_both_of (t : Txt tx w K mg) {k_deed_of : Nat} {sp_deed_of : USp} (F_deed_of : FnV P w K mg base k_deed_of "deed_of" st_deed_of ps_deed_of sp_deed_of) (hk_deed_of : k_deed_of ≤ k) {k_plain_of : Nat} {sp_plain_of : USp} (F_plain_of : FnV P w K mg base k_plain_of "plain_of" st_plain_of ps_plain_of sp_plain_of) (hk_plain_of : k_plain_of ≤ k) (X : Cx) (g : Gd) (E : UXK) (D : DefX P w K mg base k N_both_of (defScope st_both_of) X) (tk : Takes X (Wof X g fun ux _ M => E ux M)) : JSs X g (defBody st_both_of) (w_both_of sp_deed_of sp_plain_of E) :=
 have W := D.wk sc_both_of.nd; have hc := D.calm
 (jss_cons (k_set W 2 (by decide +kernel) (k_sortSetA W hc (t.free "sorted" (by decide +kernel)) (t.free "set" (by decide +kernel)) (by decide +kernel) (by decide +kernel) (k_comp W hc false [("pair", 6)] (by decide +kernel) (ji_it (j_bin uop_add (k_var W 0 (by decide +kernel)) (k_var W 1 (by decide +kernel)))) (fun Y1 W1 hc1 => ⟨(k_nameo W1 [6] 6 (by decide +kernel) (by decide)), jts_nil, (j_idx (uix0 W1.u65) (k_var W1 6 (by decide +kernel)) j_int (fun _ _ => rfl))⟩) (fun _ => rfl)) rfl rfl rfl rfl) rfl)
 (jss_cons (k_set W 3 (by decide +kernel) (j_lstH ja_nil) rfl)
 (jss_cons (js_for D.pass hc (ji_it (k_var W 2 (by decide +kernel))) (k_name W 4 (by decide +kernel)) (jss_cons (k_set W 5 (by decide +kernel) (k_call W hc F_deed_of hk_deed_of tk (by decide +kernel) (ja_cons (k_var W 0 (by decide +kernel)) (ja_cons (k_var W 4 (by decide +kernel)) ja_nil rfl) rfl) rfl rfl) rfl)
 (jss_cons (js_expr (j_bm PySem.F.plainAttrs_list PySem.F.slot_list_append PySem.F.type_list_append umt_append (k_var W 3 (by decide +kernel)) (ja_cons (j_tup (ja_cons (k_var W 4 (by decide +kernel)) (ja_cons (j_if (jt_cmp (uop_eq W.u64) (j_idx (uix0 W.u65) (k_var W 5 (by decide +kernel)) j_int (fun _ _ => rfl)) j_str rfl) (k_call W hc F_deed_of hk_deed_of tk (by decide +kernel) (ja_cons (k_var W 1 (by decide +kernel)) (ja_cons (j_idx (uix0 W.u65) (k_var W 5 (by decide +kernel)) j_int (fun _ _ => rfl)) ja_nil rfl) rfl) rfl rfl) (k_var W 5 (by decide +kernel))) ja_nil rfl) rfl)) ja_nil rfl) rfl rfl rfl rfl rfl) rfl)
 jss_nil)) (fun _ => rfl))
 (jss_cons (js_ret (k_call W hc F_plain_of hk_plain_of tk (by decide +kernel) (ja_cons (k_callTy W ucal_tuple (t.free "tuple" (by decide +kernel)) (by decide +kernel) boot_ty_tuple (by decide +kernel) (ja_cons (k_var W 3 (by decide +kernel)) ja_nil rfl) rfl rfl) ja_nil rfl) rfl rfl))
 jss_nil))))
theorem bd_both_of (kV doc pm : Value) (an : Option Addr) (cdv ct : Value) (us : List Value) (hl : us.length = ps_both_of.length) : bindArgs (PySem.W.fnOf "both_of" "both_of" (defArgs st_both_of) (defBody st_both_of) (defScope st_both_of) .none kV doc pm an cdv ct) ⟨us, []⟩ = pure (ps_both_of.zip us) := match us, hl with | [_, _], _ => rfl
/-! ### is_migration -/
def N_is_migration : List Str := ["value"]
def ps_is_migration : List Str := ["value"]
theorem sc_is_migration : FnScope N_is_migration ps_is_migration (defScope st_is_migration) := ⟨rfl, rfl, rfl, by decide +kernel, rfl, by decide +kernel, by decide +kernel⟩
def w_is_migration (sp_fits_migration : USp) : UXK → WS := fun E =>
 (wSeq (wRet (wCall sp_fits_migration (fun ux _ M => E ux M) (wCons (wVar 0) wNil)))
 wNext)
theorem jj_is_migration (t : Txt tx w K mg) {k_fits_migration : Nat} {sp_fits_migration : USp} (F_fits_migration : FnV P w K mg base k_fits_migration "fits_migration" st_fits_migration ps_fits_migration sp_fits_migration) (hk_fits_migration : k_fits_migration ≤ k) (X : Cx) (g : Gd) (E : UXK) (D : DefX P w K mg base k N_is_migration (defScope st_is_migration) X) (tk : Takes X (Wof X g fun ux _ M => E ux M)) : JSs X g (defBody st_is_migration) (w_is_migration sp_fits_migration E) :=
 have W := D.wk sc_is_migration.nd; have hc := D.calm
 (jss_cons (js_ret (k_call W hc F_fits_migration hk_fits_migration tk (by decide +kernel) (ja_cons (k_var W 0 (by decide +kernel)) ja_nil rfl) rfl rfl))
 jss_nil)
theorem bd_is_migration (kV doc pm : Value) (an : Option Addr) (cdv ct : Value) (us : List Value) (hl : us.length = ps_is_migration.length) : bindArgs (PySem.W.fnOf "is_migration" "is_migration" (defArgs st_is_migration) (defBody st_is_migration) (defScope st_is_migration) .none kV doc pm an cdv ct) ⟨us, []⟩ = pure (ps_is_migration.zip us) := match us, hl with | [_], _ => rfl
/-! ### check_migration -/
def N_check_migration : List Str := ["migration"]
def ps_check_migration : List Str := ["migration"]
theorem sc_check_migration : FnScope N_check_migration ps_check_migration (defScope st_check_migration) := ⟨rfl, rfl, rfl, by decide +kernel, rfl, by decide +kernel, by decide +kernel⟩
def w_check_migration (sp_fits_migration : USp) : UXK → WS := fun E =>
 (wSeq (wIfS (wNotT (wTr (wCall sp_fits_migration (fun ux _ M => E ux M) (wCons (wVar 0) wNil)))) (wSeq (wRaise "InvalidMigration" (fun ux _ M => E ux M))
 wNext)
 wNext)
 wNext)
theorem jj_check_migration (t : Txt tx w K mg) {k_fits_migration : Nat} {sp_fits_migration : USp} (F_fits_migration : FnV P w K mg base k_fits_migration "fits_migration" st_fits_migration ps_fits_migration sp_fits_migration) (hk_fits_migration : k_fits_migration ≤ k) (X : Cx) (g : Gd) (E : UXK) (D : DefX P w K mg base k N_check_migration (defScope st_check_migration) X) (tk : Takes X (Wof X g fun ux _ M => E ux M)) : JSs X g (defBody st_check_migration) (w_check_migration sp_fits_migration E) :=
 have W := D.wk sc_check_migration.nd; have hc := D.calm
 (jss_cons (js_if (jt_not (jt_truth (k_call W hc F_fits_migration hk_fits_migration tk (by decide +kernel) (ja_cons (k_var W 0 (by decide +kernel)) ja_nil rfl) rfl rfl) (fun _ => rfl))) (jss_cons (k_raise W hc (t.exc "InvalidMigration" (by decide +kernel)) (by decide +kernel) tk)
 jss_nil)
 jss_nil)
 jss_nil)
theorem bd_check_migration (kV doc pm : Value) (an : Option Addr) (cdv ct : Value) (us : List Value) (hl : us.length = ps_check_migration.length) : bindArgs (PySem.W.fnOf "check_migration" "check_migration" (defArgs st_check_migration) (defBody st_check_migration) (defScope st_check_migration) .none kV doc pm an cdv ct) ⟨us, []⟩ = pure (ps_check_migration.zip us) := match us, hl with | [_], _ => rfl
/-! ### forest_of -/
def N_forest_of : List Str := ["migration", "part"]
def ps_forest_of : List Str := ["migration", "part"]
theorem sc_forest_of : FnScope N_forest_of ps_forest_of (defScope st_forest_of) := ⟨rfl, rfl, rfl, by decide +kernel, rfl, by decide +kernel, by decide +kernel⟩
def w_forest_of (sp_check_migration : USp) (sp_check_part : USp) (sp_forest_for : USp) : UXK → WS := fun E =>
 (wSeq (wDrop (wCall sp_check_migration (fun ux _ M => E ux M) (wCons (wVar 0) wNil)))
 (wSeq (wDrop (wCall sp_check_part (fun ux _ M => E ux M) (wCons (wVar 1) wNil)))
 (wSeq (wRet (wCall sp_forest_for (fun ux _ M => E ux M) (wCons (wVar 0) (wCons (wVar 1) wNil))))
 wNext)))
theorem jj_forest_of (t : Txt tx w K mg) {k_check_migration : Nat} {sp_check_migration : USp} (F_check_migration : FnV P w K mg base k_check_migration "check_migration" st_check_migration ps_check_migration sp_check_migration) (hk_check_migration : k_check_migration ≤ k) {k_check_part : Nat} {sp_check_part : USp} (F_check_part : FnV P w K mg base k_check_part "check_part" st_check_part ps_check_part sp_check_part) (hk_check_part : k_check_part ≤ k) {k_forest_for : Nat} {sp_forest_for : USp} (F_forest_for : FnV P w K mg base k_forest_for "forest_for" st_forest_for ps_forest_for sp_forest_for) (hk_forest_for : k_forest_for ≤ k) (X : Cx) (g : Gd) (E : UXK) (D : DefX P w K mg base k N_forest_of (defScope st_forest_of) X) (tk : Takes X (Wof X g fun ux _ M => E ux M)) : JSs X g (defBody st_forest_of) (w_forest_of sp_check_migration sp_check_part sp_forest_for E) :=
 have W := D.wk sc_forest_of.nd; have hc := D.calm
 (jss_cons (js_expr (k_call W hc F_check_migration hk_check_migration tk (by decide +kernel) (ja_cons (k_var W 0 (by decide +kernel)) ja_nil rfl) rfl rfl) rfl)
 (jss_cons (js_expr (k_call W hc F_check_part hk_check_part tk (by decide +kernel) (ja_cons (k_var W 1 (by decide +kernel)) ja_nil rfl) rfl rfl) rfl)
 (jss_cons (js_ret (k_call W hc F_forest_for hk_forest_for tk (by decide +kernel) (ja_cons (k_var W 0 (by decide +kernel)) (ja_cons (k_var W 1 (by decide +kernel)) ja_nil rfl) rfl) rfl rfl))
 jss_nil)))
theorem bd_forest_of (kV doc pm : Value) (an : Option Addr) (cdv ct : Value) (us : List Value) (hl : us.length = ps_forest_of.length) : bindArgs (PySem.W.fnOf "forest_of" "forest_of" (defArgs st_forest_of) (defBody st_forest_of) (defScope st_forest_of) .none kV doc pm an cdv ct) ⟨us, []⟩ = pure (ps_forest_of.zip us) := match us, hl with | [_, _], _ => rfl
/-! ### migrated -/
def N_migrated : List Str := ["migration", "document"]
def ps_migrated : List Str := ["migration", "document"]
theorem sc_migrated : FnScope N_migrated ps_migrated (defScope st_migrated) := ⟨rfl, rfl, rfl, by decide +kernel, rfl, by decide +kernel, by decide +kernel⟩
def w_migrated (sp_check_migration : USp) (sp_check_document : USp) (sp_migrated_of : USp) : UXK → WS := fun E =>
 (wSeq (wDrop (wCall sp_check_migration (fun ux _ M => E ux M) (wCons (wVar 0) wNil)))
 (wSeq (wDrop (wCall sp_check_document (fun ux _ M => E ux M) (wCons (wVar 1) wNil)))
 (wSeq (wRet (wCall sp_migrated_of (fun ux _ M => E ux M) (wCons (wVar 0) (wCons (wVar 1) wNil))))
 wNext)))
theorem jj_migrated (t : Txt tx w K mg) {k_check_migration : Nat} {sp_check_migration : USp} (F_check_migration : FnV P w K mg base k_check_migration "check_migration" st_check_migration ps_check_migration sp_check_migration) (hk_check_migration : k_check_migration ≤ k) {k_check_document : Nat} {sp_check_document : USp} (F_check_document : FnV P w K mg base k_check_document "check_document" st_check_document ps_check_document sp_check_document) (hk_check_document : k_check_document ≤ k) {k_migrated_of : Nat} {sp_migrated_of : USp} (F_migrated_of : FnV P w K mg base k_migrated_of "migrated_of" st_migrated_of ps_migrated_of sp_migrated_of) (hk_migrated_of : k_migrated_of ≤ k) (X : Cx) (g : Gd) (E : UXK) (D : DefX P w K mg base k N_migrated (defScope st_migrated) X) (tk : Takes X (Wof X g fun ux _ M => E ux M)) : JSs X g (defBody st_migrated) (w_migrated sp_check_migration sp_check_document sp_migrated_of E) :=
 have W := D.wk sc_migrated.nd; have hc := D.calm
 (jss_cons (js_expr (k_call W hc F_check_migration hk_check_migration tk (by decide +kernel) (ja_cons (k_var W 0 (by decide +kernel)) ja_nil rfl) rfl rfl) rfl)
 (jss_cons (js_expr (k_call W hc F_check_document hk_check_document tk (by decide +kernel) (ja_cons (k_var W 1 (by decide +kernel)) ja_nil rfl) rfl rfl) rfl)
 (jss_cons (js_ret (k_call W hc F_migrated_of hk_migrated_of tk (by decide +kernel) (ja_cons (k_var W 0 (by decide +kernel)) (ja_cons (k_var W 1 (by decide +kernel)) ja_nil rfl) rfl) rfl rfl))
 jss_nil)))
theorem bd_migrated (kV doc pm : Value) (an : Option Addr) (cdv ct : Value) (us : List Value) (hl : us.length = ps_migrated.length) : bindArgs (PySem.W.fnOf "migrated" "migrated" (defArgs st_migrated) (defBody st_migrated) (defScope st_migrated) .none kV doc pm an cdv ct) ⟨us, []⟩ = pure (ps_migrated.zip us) := match us, hl with | [_, _], _ => rfl
/-! ### plain_migration -/
def N_plain_migration : List Str := ["migration"]
def ps_plain_migration : List Str := ["migration"]
theorem sc_plain_migration : FnScope N_plain_migration ps_plain_migration (defScope st_plain_migration) := ⟨rfl, rfl, rfl, by decide +kernel, rfl, by decide +kernel, by decide +kernel⟩
def w_plain_migration (sp_check_migration : USp) (sp_plain_of : USp) : UXK → WS := fun E =>
 (wSeq (wDrop (wCall sp_check_migration (fun ux _ M => E ux M) (wCons (wVar 0) wNil)))
 (wSeq (wRet (wCall sp_plain_of (fun ux _ M => E ux M) (wCons (wVar 0) wNil)))
 wNext))
theorem jj_plain_migration (t : Txt tx w K mg) {k_check_migration : Nat} {sp_check_migration : USp} (F_check_migration : FnV P w K mg base k_check_migration "check_migration" st_check_migration ps_check_migration sp_check_migration) (hk_check_migration : k_check_migration ≤ k) {k_plain_of : Nat} {sp_plain_of : USp} (F_plain_of : FnV P w K mg base k_plain_of "plain_of" st_plain_of ps_plain_of sp_plain_of) (hk_plain_of : k_plain_of ≤ k) (X : Cx) (g : Gd) (E : UXK) (D : DefX P w K mg base k N_plain_migration (defScope st_plain_migration) X) (tk : Takes X (Wof X g fun ux _ M => E ux M)) : JSs X g (defBody st_plain_migration) (w_plain_migration sp_check_migration sp_plain_of E) :=
 have W := D.wk sc_plain_migration.nd; have hc := D.calm
 (jss_cons (js_expr (k_call W hc F_check_migration hk_check_migration tk (by decide +kernel) (ja_cons (k_var W 0 (by decide +kernel)) ja_nil rfl) rfl rfl) rfl)
 (jss_cons (js_ret (k_call W hc F_plain_of hk_plain_of tk (by decide +kernel) (ja_cons (k_var W 0 (by decide +kernel)) ja_nil rfl) rfl rfl))
 jss_nil))
theorem bd_plain_migration (kV doc pm : Value) (an : Option Addr) (cdv ct : Value) (us : List Value) (hl : us.length = ps_plain_migration.length) : bindArgs (PySem.W.fnOf "plain_migration" "plain_migration" (defArgs st_plain_migration) (defBody st_plain_migration) (defScope st_plain_migration) .none kV doc pm an cdv ct) ⟨us, []⟩ = pure (ps_plain_migration.zip us) := match us, hl with | [_], _ => rfl
/-! ### both_migrations -/
def N_both_migrations : List Str := ["migration", "other_migration"]
def ps_both_migrations : List Str := ["migration", "other_migration"]
theorem sc_both_migrations : FnScope N_both_migrations ps_both_migrations (defScope st_both_migrations) := ⟨rfl, rfl, rfl, by decide +kernel, rfl, by decide +kernel, by decide +kernel⟩
def w_both_migrations (sp_check_migration : USp) (sp_both_of : USp) : UXK → WS := fun E =>
 (wSeq (wDrop (wCall sp_check_migration (fun ux _ M => E ux M) (wCons (wVar 0) wNil)))
 (wSeq (wDrop (wCall sp_check_migration (fun ux _ M => E ux M) (wCons (wVar 1) wNil)))
 (wSeq (wRet (wCall sp_both_of (fun ux _ M => E ux M) (wCons (wVar 0) (wCons (wVar 1) wNil))))
 wNext)))
theorem jj_both_migrations (t : Txt tx w K mg) {k_check_migration : Nat} {sp_check_migration : USp} (F_check_migration : FnV P w K mg base k_check_migration "check_migration" st_check_migration ps_check_migration sp_check_migration) (hk_check_migration : k_check_migration ≤ k) {k_both_of : Nat} {sp_both_of : USp} (F_both_of : FnV P w K mg base k_both_of "both_of" st_both_of ps_both_of sp_both_of) (hk_both_of : k_both_of ≤ k) (X : Cx) (g : Gd) (E : UXK) (D : DefX P w K mg base k N_both_migrations (defScope st_both_migrations) X) (tk : Takes X (Wof X g fun ux _ M => E ux M)) : JSs X g (defBody st_both_migrations) (w_both_migrations sp_check_migration sp_both_of E) :=
 have W := D.wk sc_both_migrations.nd; have hc := D.calm
 (jss_cons (js_expr (k_call W hc F_check_migration hk_check_migration tk (by decide +kernel) (ja_cons (k_var W 0 (by decide +kernel)) ja_nil rfl) rfl rfl) rfl)
 (jss_cons (js_expr (k_call W hc F_check_migration hk_check_migration tk (by decide +kernel) (ja_cons (k_var W 1 (by decide +kernel)) ja_nil rfl) rfl rfl) rfl)
 (jss_cons (js_ret (k_call W hc F_both_of hk_both_of tk (by decide +kernel) (ja_cons (k_var W 0 (by decide +kernel)) (ja_cons (k_var W 1 (by decide +kernel)) ja_nil rfl) rfl) rfl rfl))
 jss_nil)))
theorem bd_both_migrations (kV doc pm : Value) (an : Option Addr) (cdv ct : Value) (us : List Value) (hl : us.length = ps_both_migrations.length) : bindArgs (PySem.W.fnOf "both_migrations" "both_migrations" (defArgs st_both_migrations) (defBody st_both_migrations) (defScope st_both_migrations) .none kV doc pm an cdv ct) ⟨us, []⟩ = pure (ps_both_migrations.zip us) := match us, hl with | [_, _], _ => rfl
/-! ### _law_stir -/
def N__law_stir : List Str := ["seed", "k", "one"]
def ps__law_stir : List Str := ["seed", "k"]
theorem sc__law_stir : FnScope N__law_stir ps__law_stir (defScope st__law_stir) := ⟨rfl, rfl, rfl, by decide +kernel, rfl, by decide +kernel, by decide +kernel⟩
def w__law_stir : UXK → WS := fun E =>
 (wSeq (wSet 2 (wBin uMod (wCB uInt1 (wCons (wBin uAdd (wBin uAdd (wBin uAdd (wBin uMul (wVar 0) (wC (.int 41))) (wBin uMul (wBin uMul (wC (.int 6151)) (wVar 1)) (wVar 1))) (wBin uMul (wC (.int 73013)) (wVar 1))) (wC (.int 37))) wNil)) (wC (.int 2147483549))))
 (wSeq (wRet (wBin uMod (wCB uInt1 (wCons (wBin uAdd (wBin uAdd (wBin uMul (wVar 2) (wC (.int 39373))) (wBin uMul (wVar 0) (wC (.int 23)))) (wBin uMul (wC (.int 11)) (wVar 1))) wNil)) (wC (.int 2147483543))))
 wNext))
theorem jj__law_stir (t : Txt tx w K mg) (X : Cx) (g : Gd) (E : UXK) (D : DefX P w K mg base k N__law_stir (defScope st__law_stir) X) (tk : Takes X (Wof X g fun ux _ M => E ux M)) : JSs X g (defBody st__law_stir) (w__law_stir E) :=
 have W := D.wk sc__law_stir.nd; have hc := D.calm
 (jss_cons (k_set W 2 (by decide +kernel) (j_bin uop_mod (k_callTy W ucal_int (t.free "int" (by decide +kernel)) (by decide +kernel) boot_ty_int (by decide +kernel) (ja_cons (j_bin uop_add (j_bin uop_add (j_bin uop_add (j_bin uop_mul (k_var W 0 (by decide +kernel)) j_int) (j_bin uop_mul (j_bin uop_mul j_int (k_var W 1 (by decide +kernel))) (k_var W 1 (by decide +kernel)))) (j_bin uop_mul j_int (k_var W 1 (by decide +kernel)))) j_int) ja_nil rfl) rfl rfl) j_int) rfl)
 (jss_cons (js_ret (j_bin uop_mod (k_callTy W ucal_int (t.free "int" (by decide +kernel)) (by decide +kernel) boot_ty_int (by decide +kernel) (ja_cons (j_bin uop_add (j_bin uop_add (j_bin uop_mul (k_var W 2 (by decide +kernel)) j_int) (j_bin uop_mul (k_var W 0 (by decide +kernel)) j_int)) (j_bin uop_mul j_int (k_var W 1 (by decide +kernel)))) ja_nil rfl) rfl rfl) j_int))
 jss_nil))
theorem bd__law_stir (kV doc pm : Value) (an : Option Addr) (cdv ct : Value) (us : List Value) (hl : us.length = ps__law_stir.length) : bindArgs (PySem.W.fnOf "_law_stir" "_law_stir" (defArgs st__law_stir) (defBody st__law_stir) (defScope st__law_stir) .none kV doc pm an cdv ct) ⟨us, []⟩ = pure (ps__law_stir.zip us) := match us, hl with | [_, _], _ => rfl
/-! ### _law_draws -/
def N__law_draws : List Str := ["script", "many", "k", "found", "seed", "at", "cell", "rest", "j"]
def ps__law_draws : List Str := ["script", "many"]
theorem sc__law_draws : FnScope N__law_draws ps__law_draws (defScope st__law_draws) := ⟨rfl, rfl, rfl, by decide +kernel, rfl, by decide +kernel, by decide +kernel⟩
def w__law_draws (sp__law_stir : USp) : UXK → WS := fun E =>
 (wSeq (wPar 3 4 (wCons (wLstH wNil) (wCons (wBin uAdd (wBin uMul (wC (.int 37)) (wCB uLen (wCons (wVar 0) wNil))) (wC (.int 5))) wNil)))
 (wSeq (wFor (wEnum (wCons (wSl (wVar 0) none (some (wC (.int 63)))) wNil)) (wGtup 2 (wGcons (wName 5) (wGcons (wName 6) wGnil)))
 (wSeq (wSet 7 (wCB uInt1 (wCons (wVar 6) wNil)))
 (wSeq (wSet 4 (wBin uMod (wCB uInt1 (wCons (wBin uAdd (wBin uAdd (wBin uAdd (wBin uMul (wVar 4) (wC (.int 47))) (wBin uMod (wCB uInt1 (wCons (wVar 7) wNil)) (wC (.int 2147483549)))) (wBin uMul (wC (.int 7)) (wVar 5))) (wC (.int 1))) wNil)) (wC (.int 2147483543))))
 (wSeq (wIfS (wB (wBin uLt (wVar 7) (wBin uPow (wC (.int 10)) (wC (.int 18))))) (wSeq (wDrop (wBM "list" uAppend (wVar 3) (wCons (wBin uMod (wCB uInt1 (wCons (wCall sp__law_stir (fun ux _ M => E ux M) (wCons (wVar 4) (wCons (wVar 5) wNil))) wNil)) (wC (.int 6480))) wNil)))
 wNext)
 (wSeq (wSet 7 (wBin uSub (wVar 7) (wBin uPow (wC (.int 10)) (wC (.int 18)))))
 (wSeq (wFor (wRng1 (wCons (wC (.int 60)) wNil)) (wName 8)
 (wSeq (wIfS (wB (wBin uGt (wVar 7) (wC (.int 0)))) (wSeq (wDrop (wBM "list" uAppend (wVar 3) (wCons (wBin uMod (wCB uInt1 (wCons (wVar 7) wNil)) (wC (.int 6480))) wNil)))
 (wSeq (wSet 7 (wBin uFdiv (wVar 7) (wC (.int 6480))))
 wNext))
 wNext)
 wNext))
 wNext)))
 wNext))))
 (wSeq (wFor (wRng1 (wCons (wBin uSub (wVar 1) (wCB uLen (wCons (wVar 3) wNil))) wNil)) (wName 2)
 (wSeq (wDrop (wBM "list" uAppend (wVar 3) (wCons (wBin uMod (wCB uInt1 (wCons (wCall sp__law_stir (fun ux _ M => E ux M) (wCons (wVar 4) (wCons (wBin uAdd (wC (.int 100)) (wVar 2)) wNil))) wNil)) (wC (.int 6480))) wNil)))
 wNext))
 (wSeq (wDrop (wBM "list" uReverse (wVar 3) wNil))
 (wSeq (wRet (wVar 3))
 wNext)))))
theorem jj__law_draws (t : Txt tx w K mg) {k__law_stir : Nat} {sp__law_stir : USp} (F__law_stir : FnV P w K mg base k__law_stir "_law_stir" st__law_stir ps__law_stir sp__law_stir) (hk__law_stir : k__law_stir ≤ k) (X : Cx) (g : Gd) (E : UXK) (D : DefX P w K mg base k N__law_draws (defScope st__law_draws) X) (tk : Takes X (Wof X g fun ux _ M => E ux M)) : JSs X g (defBody st__law_draws) (w__law_draws sp__law_stir E) :=
 have W := D.wk sc__law_draws.nd; have hc := D.calm
 (jss_cons (k_par D sc__law_draws.nd 3 4 (by decide +kernel) (ja_cons (j_lstH ja_nil) (ja_cons (j_bin uop_add (j_bin uop_mul j_int (k_callB W ucal_len (t.free "len" (by decide +kernel)) (by decide +kernel) boot_fn_len (by decide +kernel) (ja_cons (k_var W 0 (by decide +kernel)) ja_nil rfl) rfl rfl)) j_int) ja_nil rfl) rfl) (by kernel_rfl) rfl)
 (jss_cons (js_for D.pass hc (k_enum W (t.free "enumerate" (by decide +kernel)) (by decide +kernel) (ja_cons (j_slice (tl := none) (th := (some (wC (.int 63)))) (k_var W 0 (by decide +kernel)) trivial j_int) ja_nil rfl) rfl) (jg_tup hc (jgs_cons (k_name W 5 (by decide +kernel)) (jgs_cons (k_name W 6 (by decide +kernel)) jgs_nil rfl) rfl) rfl rfl) (jss_cons (k_set W 7 (by decide +kernel) (k_callTy W ucal_int (t.free "int" (by decide +kernel)) (by decide +kernel) boot_ty_int (by decide +kernel) (ja_cons (k_var W 6 (by decide +kernel)) ja_nil rfl) rfl rfl) rfl)
 (jss_cons (k_set W 4 (by decide +kernel) (j_bin uop_mod (k_callTy W ucal_int (t.free "int" (by decide +kernel)) (by decide +kernel) boot_ty_int (by decide +kernel) (ja_cons (j_bin uop_add (j_bin uop_add (j_bin uop_add (j_bin uop_mul (k_var W 4 (by decide +kernel)) j_int) (j_bin uop_mod (k_callTy W ucal_int (t.free "int" (by decide +kernel)) (by decide +kernel) boot_ty_int (by decide +kernel) (ja_cons (k_var W 7 (by decide +kernel)) ja_nil rfl) rfl rfl) j_int)) (j_bin uop_mul j_int (k_var W 5 (by decide +kernel)))) j_int) ja_nil rfl) rfl rfl) j_int) rfl)
 (jss_cons (js_if (jt_cmp (uop_lt W.u64) (k_var W 7 (by decide +kernel)) (j_bin uop_pow j_int j_int) rfl) (jss_cons (js_expr (j_bm PySem.F.plainAttrs_list PySem.F.slot_list_append PySem.F.type_list_append umt_append (k_var W 3 (by decide +kernel)) (ja_cons (j_bin uop_mod (k_callTy W ucal_int (t.free "int" (by decide +kernel)) (by decide +kernel) boot_ty_int (by decide +kernel) (ja_cons (k_call W hc F__law_stir hk__law_stir tk (by decide +kernel) (ja_cons (k_var W 4 (by decide +kernel)) (ja_cons (k_var W 5 (by decide +kernel)) ja_nil rfl) rfl) rfl rfl) ja_nil rfl) rfl rfl) j_int) ja_nil rfl) rfl rfl rfl rfl rfl) rfl)
 jss_nil)
 (jss_cons (k_set W 7 (by decide +kernel) (j_bin uop_sub (k_var W 7 (by decide +kernel)) (j_bin uop_pow j_int j_int)) rfl)
 (jss_cons (js_for D.pass hc (k_range1 W (t.free "range" (by decide +kernel)) (by decide +kernel) (ja_cons j_int ja_nil rfl) rfl) (k_name W 8 (by decide +kernel)) (jss_cons (js_if (jt_cmp uop_gt (k_var W 7 (by decide +kernel)) j_int rfl) (jss_cons (js_expr (j_bm PySem.F.plainAttrs_list PySem.F.slot_list_append PySem.F.type_list_append umt_append (k_var W 3 (by decide +kernel)) (ja_cons (j_bin uop_mod (k_callTy W ucal_int (t.free "int" (by decide +kernel)) (by decide +kernel) boot_ty_int (by decide +kernel) (ja_cons (k_var W 7 (by decide +kernel)) ja_nil rfl) rfl rfl) j_int) ja_nil rfl) rfl rfl rfl rfl rfl) rfl)
 (jss_cons (k_set W 7 (by decide +kernel) (j_bin uop_fdiv (k_var W 7 (by decide +kernel)) j_int) rfl)
 jss_nil))
 jss_nil)
 jss_nil) (fun _ => rfl))
 jss_nil)))
 jss_nil))) (fun _ => rfl))
 (jss_cons (js_for D.pass hc (k_range1 W (t.free "range" (by decide +kernel)) (by decide +kernel) (ja_cons (j_bin uop_sub (k_var W 1 (by decide +kernel)) (k_callB W ucal_len (t.free "len" (by decide +kernel)) (by decide +kernel) boot_fn_len (by decide +kernel) (ja_cons (k_var W 3 (by decide +kernel)) ja_nil rfl) rfl rfl)) ja_nil rfl) rfl) (k_name W 2 (by decide +kernel)) (jss_cons (js_expr (j_bm PySem.F.plainAttrs_list PySem.F.slot_list_append PySem.F.type_list_append umt_append (k_var W 3 (by decide +kernel)) (ja_cons (j_bin uop_mod (k_callTy W ucal_int (t.free "int" (by decide +kernel)) (by decide +kernel) boot_ty_int (by decide +kernel) (ja_cons (k_call W hc F__law_stir hk__law_stir tk (by decide +kernel) (ja_cons (k_var W 4 (by decide +kernel)) (ja_cons (j_bin uop_add j_int (k_var W 2 (by decide +kernel))) ja_nil rfl) rfl) rfl rfl) ja_nil rfl) rfl rfl) j_int) ja_nil rfl) rfl rfl rfl rfl rfl) rfl)
 jss_nil) (fun _ => rfl))
 (jss_cons (js_expr (j_bm0 PySem.F.plainAttrs_list PySem.F.slot_list_reverse PySem.F.type_list_reverse umt_reverse (k_var W 3 (by decide +kernel)) rfl rfl) rfl)
 (jss_cons (js_ret (k_var W 3 (by decide +kernel)))
 jss_nil)))))
theorem bd__law_draws (kV doc pm : Value) (an : Option Addr) (cdv ct : Value) (us : List Value) (hl : us.length = ps__law_draws.length) : bindArgs (PySem.W.fnOf "_law_draws" "_law_draws" (defArgs st__law_draws) (defBody st__law_draws) (defScope st__law_draws) .none kV doc pm an cdv ct) ⟨us, []⟩ = pure (ps__law_draws.zip us) := match us, hl with | [_, _], _ => rfl
/-! ### _law_take -/
def N__law_take : List Str := ["draws", "many"]
def ps__law_take : List Str := ["draws", "many"]
theorem sc__law_take : FnScope N__law_take ps__law_take (defScope st__law_take) := ⟨rfl, rfl, rfl, by decide +kernel, rfl, by decide +kernel, by decide +kernel⟩
def w__law_take : UXK → WS := fun E =>
 (wSeq (wRet (wIf (wB (wBin uNe (wVar 0) (wLst wNil))) (wBin uMod (wCB uInt1 (wCons (wBM "list" uPop (wVar 0) wNil) wNil)) (wVar 1)) (wC (.int 0))))
 wNext)
theorem jj__law_take (t : Txt tx w K mg) (X : Cx) (g : Gd) (E : UXK) (D : DefX P w K mg base k N__law_take (defScope st__law_take) X) (tk : Takes X (Wof X g fun ux _ M => E ux M)) : JSs X g (defBody st__law_take) (w__law_take E) :=
 have W := D.wk sc__law_take.nd; have hc := D.calm
 (jss_cons (js_ret (j_if (jt_cmp (uop_ne W.u64) (k_var W 0 (by decide +kernel)) (j_lst ja_nil) rfl) (j_bin uop_mod (k_callTy W ucal_int (t.free "int" (by decide +kernel)) (by decide +kernel) boot_ty_int (by decide +kernel) (ja_cons (j_bm0 PySem.F.plainAttrs_list PySem.F.slot_list_pop PySem.F.type_list_pop umt_pop (k_var W 0 (by decide +kernel)) rfl rfl) ja_nil rfl) rfl rfl) (k_var W 1 (by decide +kernel))) j_int))
 jss_nil)
theorem bd__law_take (kV doc pm : Value) (an : Option Addr) (cdv ct : Value) (us : List Value) (hl : us.length = ps__law_take.length) : bindArgs (PySem.W.fnOf "_law_take" "_law_take" (defArgs st__law_take) (defBody st__law_take) (defScope st__law_take) .none kV doc pm an cdv ct) ⟨us, []⟩ = pure (ps__law_take.zip us) := match us, hl with | [_, _], _ => rfl
/-! ### _law_pick -/
def N__law_pick : List Str := ["draws", "things"]
def ps__law_pick : List Str := ["draws", "things"]
theorem sc__law_pick : FnScope N__law_pick ps__law_pick (defScope st__law_pick) := ⟨rfl, rfl, rfl, by decide +kernel, rfl, by decide +kernel, by decide +kernel⟩
def w__law_pick (sp__law_take : USp) : UXK → WS := fun E =>
 (wSeq (wRet (wBin uIdx0 (wVar 1) (wCall sp__law_take (fun ux _ M => E ux M) (wCons (wVar 0) (wCons (wCB uLen (wCons (wVar 1) wNil)) wNil)))))
 wNext)
theorem jj__law_pick (t : Txt tx w K mg) {k__law_take : Nat} {sp__law_take : USp} (F__law_take : FnV P w K mg base k__law_take "_law_take" st__law_take ps__law_take sp__law_take) (hk__law_take : k__law_take ≤ k) (X : Cx) (g : Gd) (E : UXK) (D : DefX P w K mg base k N__law_pick (defScope st__law_pick) X) (tk : Takes X (Wof X g fun ux _ M => E ux M)) : JSs X g (defBody st__law_pick) (w__law_pick sp__law_take E) :=
 have W := D.wk sc__law_pick.nd; have hc := D.calm
 (jss_cons (js_ret (j_idx (uix0 W.u65) (k_var W 1 (by decide +kernel)) (k_call W hc F__law_take hk__law_take tk (by decide +kernel) (ja_cons (k_var W 0 (by decide +kernel)) (ja_cons (k_callB W ucal_len (t.free "len" (by decide +kernel)) (by decide +kernel) boot_fn_len (by decide +kernel) (ja_cons (k_var W 1 (by decide +kernel)) ja_nil rfl) rfl rfl) ja_nil rfl) rfl) rfl rfl) (fun _ _ => rfl)))
 jss_nil)
theorem bd__law_pick (kV doc pm : Value) (an : Option Addr) (cdv ct : Value) (us : List Value) (hl : us.length = ps__law_pick.length) : bindArgs (PySem.W.fnOf "_law_pick" "_law_pick" (defArgs st__law_pick) (defBody st__law_pick) (defScope st__law_pick) .none kV doc pm an cdv ct) ⟨us, []⟩ = pure (ps__law_pick.zip us) := match us, hl with | [_, _], _ => rfl
/-! ### _law_is_whole -/
def N__law_is_whole : List Str := ["value"]
def ps__law_is_whole : List Str := ["value"]
theorem sc__law_is_whole : FnScope N__law_is_whole ps__law_is_whole (defScope st__law_is_whole) := ⟨rfl, rfl, rfl, by decide +kernel, rfl, by decide +kernel, by decide +kernel⟩
def w__law_is_whole : UXK → WS := fun E =>
 (wSeq (wRet (wAnd (wCB uIsi (wCons (wVar 0) (wCons (wC (.ty "int")) wNil))) (wNot (wCB uIsi (wCons (wVar 0) (wCons (wC (.ty "bool")) wNil))))))
 wNext)
theorem jj__law_is_whole (t : Txt tx w K mg) (X : Cx) (g : Gd) (E : UXK) (D : DefX P w K mg base k N__law_is_whole (defScope st__law_is_whole) X) (tk : Takes X (Wof X g fun ux _ M => E ux M)) : JSs X g (defBody st__law_is_whole) (w__law_is_whole E) :=
 have W := D.wk sc__law_is_whole.nd; have hc := D.calm
 (jss_cons (js_ret (j_and (k_callB W ucal_isi (t.free "isinstance" (by decide +kernel)) (by decide +kernel) boot_fn_isinstance (by decide +kernel) (ja_cons (k_var W 0 (by decide +kernel)) (ja_cons (k_ty W (t.free "int" (by decide +kernel)) (by decide +kernel) boot_ty_int (by decide +kernel)) ja_nil rfl) rfl) rfl rfl) (j_one (j_not (k_callB W ucal_isi (t.free "isinstance" (by decide +kernel)) (by decide +kernel) boot_fn_isinstance (by decide +kernel) (ja_cons (k_var W 0 (by decide +kernel)) (ja_cons (k_ty W (t.free "bool" (by decide +kernel)) (by decide +kernel) boot_ty_bool (by decide +kernel)) ja_nil rfl) rfl) rfl rfl)))))
 jss_nil)
theorem bd__law_is_whole (kV doc pm : Value) (an : Option Addr) (cdv ct : Value) (us : List Value) (hl : us.length = ps__law_is_whole.length) : bindArgs (PySem.W.fnOf "_law_is_whole" "_law_is_whole" (defArgs st__law_is_whole) (defBody st__law_is_whole) (defScope st__law_is_whole) .none kV doc pm an cdv ct) ⟨us, []⟩ = pure (ps__law_is_whole.zip us) := match us, hl with | [_], _ => rfl
/-! ### _law_same -/
def N__law_same : List Str := ["got", "due", "k"]
def ps__law_same : List Str := ["got", "due"]
theorem sc__law_same : FnScope N__law_same ps__law_same (defScope st__law_same) := ⟨rfl, rfl, rfl, by decide +kernel, rfl, by decide +kernel, by decide +kernel⟩
def w__law_same (sp__law_same : USp) : UXK → WS := fun E =>
 (wSeq (wIfS (wOrT (wTr (wCB uIsi (wCons (wVar 1) (wCons (wC (.ty "tuple")) wNil)))) (wTr (wCB uIsi (wCons (wVar 1) (wCons (wC (.ty "list")) wNil))))) (wSeq (wIfS (wOrT (wAndT (wTr (wCB uIsi (wCons (wVar 1) (wCons (wC (.ty "tuple")) wNil)))) (wNotT (wTr (wCB uIsi (wCons (wVar 0) (wCons (wC (.ty "tuple")) wNil)))))) (wAndT (wTr (wCB uIsi (wCons (wVar 1) (wCons (wC (.ty "list")) wNil)))) (wNotT (wTr (wCB uIsi (wCons (wVar 0) (wCons (wC (.ty "list")) wNil))))))) (wSeq (wRet (wC (.bl false)))
 wNext)
 wNext)
 (wSeq (wRet (wAnd (wBin uEq (wCB uLen (wCons (wVar 0) wNil)) (wCB uLen (wCons (wVar 1) wNil))) (wCB uAll (wCons (wComp false (wRng1 (wCons (wCB uLen (wCons (wVar 1) wNil)) wNil)) (wName 2) wYes (wCall sp__law_same (fun _ _ _ => False) (wCons (wBin uIdx0 (wVar 0) (wVar 2)) (wCons (wBin uIdx0 (wVar 1) (wVar 2)) wNil))) [2]) wNil))))
 wNext))
 wNext)
 (wSeq (wIfS (wB (wBin uIs (wVar 1) (wC .non))) (wSeq (wRet (wBin uIs (wVar 0) (wC .non)))
 wNext)
 wNext)
 (wSeq (wIfS (wTr (wCB uIsi (wCons (wVar 1) (wCons (wC (.ty "bool")) wNil)))) (wSeq (wRet (wAnd (wCB uIsi (wCons (wVar 0) (wCons (wC (.ty "bool")) wNil))) (wBin uEq (wVar 0) (wVar 1))))
 wNext)
 wNext)
 (wSeq (wIfS (wTr (wCB uIsi (wCons (wVar 1) (wCons (wC (.ty "int")) wNil)))) (wSeq (wRet (wAnd (wCB uIsi (wCons (wVar 0) (wCons (wC (.ty "int")) wNil))) (wAnd (wNot (wCB uIsi (wCons (wVar 0) (wCons (wC (.ty "bool")) wNil)))) (wBin uEq (wVar 0) (wVar 1)))))
 wNext)
 wNext)
 (wSeq (wRet (wAnd (wCB uIsi (wCons (wVar 0) (wCons (wC (.ty "str")) wNil))) (wBin uEq (wVar 0) (wVar 1))))
 wNext)))))
theorem jj__law_same (t : Txt tx w K mg) {k__law_same : Nat} {sp__law_same : USp} (F__law_same : FnV P w K mg base k__law_same "_law_same" st__law_same ps__law_same sp__law_same) (hk__law_same : k__law_same ≤ k) (X : Cx) (g : Gd) (E : UXK) (D : DefX P w K mg base k N__law_same (defScope st__law_same) X) (tk : Takes X (Wof X g fun ux _ M => E ux M)) : JSs X g (defBody st__law_same) (w__law_same sp__law_same E) :=
 have W := D.wk sc__law_same.nd; have hc := D.calm
 (jss_cons (js_if (jt_of (jw_or (jt_truth (k_callB W ucal_isi (t.free "isinstance" (by decide +kernel)) (by decide +kernel) boot_fn_isinstance (by decide +kernel) (ja_cons (k_var W 1 (by decide +kernel)) (ja_cons (k_ty W (t.free "tuple" (by decide +kernel)) (by decide +kernel) boot_ty_tuple (by decide +kernel)) ja_nil rfl) rfl) rfl rfl) (fun _ => rfl)) (jw_or1 (jt_truth (k_callB W ucal_isi (t.free "isinstance" (by decide +kernel)) (by decide +kernel) boot_fn_isinstance (by decide +kernel) (ja_cons (k_var W 1 (by decide +kernel)) (ja_cons (k_ty W (t.free "list" (by decide +kernel)) (by decide +kernel) boot_ty_list (by decide +kernel)) ja_nil rfl) rfl) rfl rfl) (fun _ => rfl))))) (jss_cons (js_if (jt_of (jw_or (jt_of (jw_and (jt_truth (k_callB W ucal_isi (t.free "isinstance" (by decide +kernel)) (by decide +kernel) boot_fn_isinstance (by decide +kernel) (ja_cons (k_var W 1 (by decide +kernel)) (ja_cons (k_ty W (t.free "tuple" (by decide +kernel)) (by decide +kernel) boot_ty_tuple (by decide +kernel)) ja_nil rfl) rfl) rfl rfl) (fun _ => rfl)) (jw_and1 (jt_not (jt_truth (k_callB W ucal_isi (t.free "isinstance" (by decide +kernel)) (by decide +kernel) boot_fn_isinstance (by decide +kernel) (ja_cons (k_var W 0 (by decide +kernel)) (ja_cons (k_ty W (t.free "tuple" (by decide +kernel)) (by decide +kernel) boot_ty_tuple (by decide +kernel)) ja_nil rfl) rfl) rfl rfl) (fun _ => rfl)))))) (jw_or1 (jt_of (jw_and (jt_truth (k_callB W ucal_isi (t.free "isinstance" (by decide +kernel)) (by decide +kernel) boot_fn_isinstance (by decide +kernel) (ja_cons (k_var W 1 (by decide +kernel)) (ja_cons (k_ty W (t.free "list" (by decide +kernel)) (by decide +kernel) boot_ty_list (by decide +kernel)) ja_nil rfl) rfl) rfl rfl) (fun _ => rfl)) (jw_and1 (jt_not (jt_truth (k_callB W ucal_isi (t.free "isinstance" (by decide +kernel)) (by decide +kernel) boot_fn_isinstance (by decide +kernel) (ja_cons (k_var W 0 (by decide +kernel)) (ja_cons (k_ty W (t.free "list" (by decide +kernel)) (by decide +kernel) boot_ty_list (by decide +kernel)) ja_nil rfl) rfl) rfl rfl) (fun _ => rfl))))))))) (jss_cons (js_ret j_bl)
 jss_nil)
 jss_nil)
 (jss_cons (js_ret (j_and (j_cmp (uop_eq W.u64) (k_callB W ucal_len (t.free "len" (by decide +kernel)) (by decide +kernel) boot_fn_len (by decide +kernel) (ja_cons (k_var W 0 (by decide +kernel)) ja_nil rfl) rfl rfl) (k_callB W ucal_len (t.free "len" (by decide +kernel)) (by decide +kernel) boot_fn_len (by decide +kernel) (ja_cons (k_var W 1 (by decide +kernel)) ja_nil rfl) rfl rfl) rfl) (j_one (k_callB W (ucal_all hc) (t.free "all" (by decide +kernel)) (by decide +kernel) boot_fn_all (by decide +kernel) (ja_cons (k_comp W hc false [("k", 2)] (by decide +kernel) (k_range1 W (t.free "range" (by decide +kernel)) (by decide +kernel) (ja_cons (k_callB W ucal_len (t.free "len" (by decide +kernel)) (by decide +kernel) boot_fn_len (by decide +kernel) (ja_cons (k_var W 1 (by decide +kernel)) ja_nil rfl) rfl rfl) ja_nil rfl) rfl) (fun Y1 W1 hc1 => ⟨(k_nameo W1 [2] 2 (by decide +kernel) (by decide)), jts_nil, (k_call W1 hc1 F__law_same hk__law_same takes_no (by decide +kernel) (ja_cons (j_idx (uix0 W1.u65) (k_var W1 0 (by decide +kernel)) (k_var W1 2 (by decide +kernel)) (fun _ _ => rfl)) (ja_cons (j_idx (uix0 W1.u65) (k_var W1 1 (by decide +kernel)) (k_var W1 2 (by decide +kernel)) (fun _ _ => rfl)) ja_nil rfl) rfl) rfl rfl)⟩) (fun _ => rfl)) ja_nil rfl) rfl rfl))))
 jss_nil))
 jss_nil)
 (jss_cons (js_if (jt_cmp uop_is (k_var W 1 (by decide +kernel)) j_non rfl) (jss_cons (js_ret (j_cmp uop_is (k_var W 0 (by decide +kernel)) j_non rfl))
 jss_nil)
 jss_nil)
 (jss_cons (js_if (jt_truth (k_callB W ucal_isi (t.free "isinstance" (by decide +kernel)) (by decide +kernel) boot_fn_isinstance (by decide +kernel) (ja_cons (k_var W 1 (by decide +kernel)) (ja_cons (k_ty W (t.free "bool" (by decide +kernel)) (by decide +kernel) boot_ty_bool (by decide +kernel)) ja_nil rfl) rfl) rfl rfl) (fun _ => rfl)) (jss_cons (js_ret (j_and (k_callB W ucal_isi (t.free "isinstance" (by decide +kernel)) (by decide +kernel) boot_fn_isinstance (by decide +kernel) (ja_cons (k_var W 0 (by decide +kernel)) (ja_cons (k_ty W (t.free "bool" (by decide +kernel)) (by decide +kernel) boot_ty_bool (by decide +kernel)) ja_nil rfl) rfl) rfl rfl) (j_one (j_cmp (uop_eq W.u64) (k_var W 0 (by decide +kernel)) (k_var W 1 (by decide +kernel)) rfl))))
 jss_nil)
 jss_nil)
 (jss_cons (js_if (jt_truth (k_callB W ucal_isi (t.free "isinstance" (by decide +kernel)) (by decide +kernel) boot_fn_isinstance (by decide +kernel) (ja_cons (k_var W 1 (by decide +kernel)) (ja_cons (k_ty W (t.free "int" (by decide +kernel)) (by decide +kernel) boot_ty_int (by decide +kernel)) ja_nil rfl) rfl) rfl rfl) (fun _ => rfl)) (jss_cons (js_ret (j_and (k_callB W ucal_isi (t.free "isinstance" (by decide +kernel)) (by decide +kernel) boot_fn_isinstance (by decide +kernel) (ja_cons (k_var W 0 (by decide +kernel)) (ja_cons (k_ty W (t.free "int" (by decide +kernel)) (by decide +kernel) boot_ty_int (by decide +kernel)) ja_nil rfl) rfl) rfl rfl) (j_and (j_not (k_callB W ucal_isi (t.free "isinstance" (by decide +kernel)) (by decide +kernel) boot_fn_isinstance (by decide +kernel) (ja_cons (k_var W 0 (by decide +kernel)) (ja_cons (k_ty W (t.free "bool" (by decide +kernel)) (by decide +kernel) boot_ty_bool (by decide +kernel)) ja_nil rfl) rfl) rfl rfl)) (j_one (j_cmp (uop_eq W.u64) (k_var W 0 (by decide +kernel)) (k_var W 1 (by decide +kernel)) rfl)))))
 jss_nil)
 jss_nil)
 (jss_cons (js_ret (j_and (k_callB W ucal_isi (t.free "isinstance" (by decide +kernel)) (by decide +kernel) boot_fn_isinstance (by decide +kernel) (ja_cons (k_var W 0 (by decide +kernel)) (ja_cons (k_ty W (t.free "str" (by decide +kernel)) (by decide +kernel) boot_ty_str (by decide +kernel)) ja_nil rfl) rfl) rfl rfl) (j_one (j_cmp (uop_eq W.u64) (k_var W 0 (by decide +kernel)) (k_var W 1 (by decide +kernel)) rfl))))
 jss_nil)))))
theorem bd__law_same (kV doc pm : Value) (an : Option Addr) (cdv ct : Value) (us : List Value) (hl : us.length = ps__law_same.length) : bindArgs (PySem.W.fnOf "_law_same" "_law_same" (defArgs st__law_same) (defBody st__law_same) (defScope st__law_same) .none kV doc pm an cdv ct) ⟨us, []⟩ = pure (ps__law_same.zip us) := match us, hl with | [_, _], _ => rfl
/-! ### _law_tags -/
def N__law_tags : List Str := ["draws", "many", "base", "k", "letters", "found", "tag", "j", "sign"]
def ps__law_tags : List Str := ["draws", "many"]
theorem sc__law_tags : FnScope N__law_tags ps__law_tags (defScope st__law_tags) := ⟨rfl, rfl, rfl, by decide +kernel, rfl, by decide +kernel, by decide +kernel⟩
def w__law_tags (sp__law_pick : USp) (sp__law_take : USp) : UXK → WS := fun E =>
 (wSeq (wAsg (wTup (wCons (wC (.str "abcdefghijklmnopqrstuvwxyz")) (wCons (wLstH wNil) wNil))) (wGtup 2 (wGcons (wName 4) (wGcons (wName 5) wGnil))))
 (wSeq (wSet 2 (wCall sp__law_pick (fun ux _ M => E ux M) (wCons (wVar 0) (wCons (wVar 4) wNil))))
 (wSeq (wFor (wRng1 (wCons (wVar 1) wNil)) (wName 3)
 (wSeq (wSet 6 (wBM "str" uJoin (wC (.str "")) (wCons (wComp false (wRng1 (wCons (wBin uAdd (wC (.int 1)) (wCall sp__law_take (fun ux _ M => E ux M) (wCons (wVar 0) (wCons (wCall sp__law_pick (fun ux _ M => E ux M) (wCons (wVar 0) (wCons (wLst (wCons (wC (.int 1)) (wCons (wC (.int 2)) (wCons (wC (.int 8)) wNil)))) wNil))) wNil)))) wNil)) (wName 7) wYes (wCall sp__law_pick (fun _ _ _ => False) (wCons (wVar 0) (wCons (wVar 4) wNil))) [7]) wNil)))
 (wSeq (wIfS (wB (wBin uEq (wCall sp__law_take (fun ux _ M => E ux M) (wCons (wVar 0) (wCons (wC (.int 3)) wNil))) (wC (.int 0)))) (wSeq (wSet 6 (wBin uAdd (wVar 2) (wBM "str" uJoin (wC (.str "")) (wCons (wComp false (wRng1 (wCons (wCall sp__law_take (fun ux _ M => E ux M) (wCons (wVar 0) (wCons (wC (.int 4)) wNil))) wNil)) (wName 7) wYes (wCall sp__law_pick (fun _ _ _ => False) (wCons (wVar 0) (wCons (wC (.str "ab")) wNil))) [7]) wNil))))
 wNext)
 wNext)
 (wSeq (wIfS (wB (wBin uIn0 (wVar 6) (wVar 5))) (wSeq (wSet 6 (wBin uIdx0 (wComp false (wIt (wVar 4)) (wName 8) (wB (wBin uNotIn0 (wBin uAdd (wBin uAdd (wVar 2) (wC (.str "q"))) (wVar 8)) (wVar 5))) (wBin uAdd (wBin uAdd (wVar 2) (wC (.str "q"))) (wVar 8)) [8]) (wC (.int 0))))
 wNext)
 wNext)
 (wSeq (wDrop (wBM "list" uAppend (wVar 5) (wCons (wVar 6) wNil)))
 wNext)))))
 (wSeq (wRet (wVar 5))
 wNext))))
theorem jj__law_tags (t : Txt tx w K mg) {k__law_pick : Nat} {sp__law_pick : USp} (F__law_pick : FnV P w K mg base k__law_pick "_law_pick" st__law_pick ps__law_pick sp__law_pick) (hk__law_pick : k__law_pick ≤ k) {k__law_take : Nat} {sp__law_take : USp} (F__law_take : FnV P w K mg base k__law_take "_law_take" st__law_take ps__law_take sp__law_take) (hk__law_take : k__law_take ≤ k) (X : Cx) (g : Gd) (E : UXK) (D : DefX P w K mg base k N__law_tags (defScope st__law_tags) X) (tk : Takes X (Wof X g fun ux _ M => E ux M)) : JSs X g (defBody st__law_tags) (w__law_tags sp__law_pick sp__law_take E) :=
 have W := D.wk sc__law_tags.nd; have hc := D.calm
 (jss_cons (k_asg D (j_tup (ja_cons j_str (ja_cons (j_lstH ja_nil) ja_nil rfl) rfl)) (jg_tup hc (jgs_cons (k_name W 4 (by decide +kernel)) (jgs_cons (k_name W 5 (by decide +kernel)) jgs_nil rfl) rfl) rfl rfl) rfl (by kernel_rfl) rfl)
 (jss_cons (k_set W 2 (by decide +kernel) (k_call W hc F__law_pick hk__law_pick tk (by decide +kernel) (ja_cons (k_var W 0 (by decide +kernel)) (ja_cons (k_var W 4 (by decide +kernel)) ja_nil rfl) rfl) rfl rfl) rfl)
 (jss_cons (js_for D.pass hc (k_range1 W (t.free "range" (by decide +kernel)) (by decide +kernel) (ja_cons (k_var W 1 (by decide +kernel)) ja_nil rfl) rfl) (k_name W 3 (by decide +kernel)) (jss_cons (k_set W 6 (by decide +kernel) (j_bm PySem.F.plainAttrs_str PySem.F.slot_str_join PySem.F.type_str_join umt_join j_str (ja_cons (k_comp W hc false [("j", 7)] (by decide +kernel) (k_range1 W (t.free "range" (by decide +kernel)) (by decide +kernel) (ja_cons (j_bin uop_add j_int (k_call W hc F__law_take hk__law_take tk (by decide +kernel) (ja_cons (k_var W 0 (by decide +kernel)) (ja_cons (k_call W hc F__law_pick hk__law_pick tk (by decide +kernel) (ja_cons (k_var W 0 (by decide +kernel)) (ja_cons (j_lst (ja_cons j_int (ja_cons j_int (ja_cons j_int ja_nil rfl) rfl) rfl)) ja_nil rfl) rfl) rfl rfl) ja_nil rfl) rfl) rfl rfl)) ja_nil rfl) rfl) (fun Y1 W1 hc1 => ⟨(k_nameo W1 [7] 7 (by decide +kernel) (by decide)), jts_nil, (k_call W1 hc1 F__law_pick hk__law_pick takes_no (by decide +kernel) (ja_cons (k_var W1 0 (by decide +kernel)) (ja_cons (k_var W1 4 (by decide +kernel)) ja_nil rfl) rfl) rfl rfl)⟩) (fun _ => rfl)) ja_nil rfl) rfl rfl rfl rfl rfl) rfl)
 (jss_cons (js_if (jt_cmp (uop_eq W.u64) (k_call W hc F__law_take hk__law_take tk (by decide +kernel) (ja_cons (k_var W 0 (by decide +kernel)) (ja_cons j_int ja_nil rfl) rfl) rfl rfl) j_int rfl) (jss_cons (k_set W 6 (by decide +kernel) (j_bin uop_add (k_var W 2 (by decide +kernel)) (j_bm PySem.F.plainAttrs_str PySem.F.slot_str_join PySem.F.type_str_join umt_join j_str (ja_cons (k_comp W hc false [("j", 7)] (by decide +kernel) (k_range1 W (t.free "range" (by decide +kernel)) (by decide +kernel) (ja_cons (k_call W hc F__law_take hk__law_take tk (by decide +kernel) (ja_cons (k_var W 0 (by decide +kernel)) (ja_cons j_int ja_nil rfl) rfl) rfl rfl) ja_nil rfl) rfl) (fun Y1 W1 hc1 => ⟨(k_nameo W1 [7] 7 (by decide +kernel) (by decide)), jts_nil, (k_call W1 hc1 F__law_pick hk__law_pick takes_no (by decide +kernel) (ja_cons (k_var W1 0 (by decide +kernel)) (ja_cons j_str ja_nil rfl) rfl) rfl rfl)⟩) (fun _ => rfl)) ja_nil rfl) rfl rfl rfl rfl rfl)) rfl)
 jss_nil)
 jss_nil)
 (jss_cons (js_if (jt_cmp (uop_in0 W.u65) (k_var W 6 (by decide +kernel)) (k_var W 5 (by decide +kernel)) rfl) (jss_cons (k_set W 6 (by decide +kernel) (j_idx (uix0 W.u65) (k_comp W hc false [("sign", 8)] (by decide +kernel) (ji_it (k_var W 4 (by decide +kernel))) (fun Y1 W1 hc1 => ⟨(k_nameo W1 [8] 8 (by decide +kernel) (by decide)), (jts_one (jt_cmp (uop_notIn0 W1.u65) (j_bin uop_add (j_bin uop_add (k_var W1 2 (by decide +kernel)) j_str) (k_var W1 8 (by decide +kernel))) (k_var W1 5 (by decide +kernel)) rfl)), (j_bin uop_add (j_bin uop_add (k_var W1 2 (by decide +kernel)) j_str) (k_var W1 8 (by decide +kernel)))⟩) (fun _ => rfl)) j_int (fun _ _ => rfl)) rfl)
 jss_nil)
 jss_nil)
 (jss_cons (js_expr (j_bm PySem.F.plainAttrs_list PySem.F.slot_list_append PySem.F.type_list_append umt_append (k_var W 5 (by decide +kernel)) (ja_cons (k_var W 6 (by decide +kernel)) ja_nil rfl) rfl rfl rfl rfl rfl) rfl)
 jss_nil)))) (fun _ => rfl))
 (jss_cons (js_ret (k_var W 5 (by decide +kernel)))
 jss_nil))))
theorem bd__law_tags (kV doc pm : Value) (an : Option Addr) (cdv ct : Value) (us : List Value) (hl : us.length = ps__law_tags.length) : bindArgs (PySem.W.fnOf "_law_tags" "_law_tags" (defArgs st__law_tags) (defBody st__law_tags) (defScope st__law_tags) .none kV doc pm an cdv ct) ⟨us, []⟩ = pure (ps__law_tags.zip us) := match us, hl with | [_, _], _ => rfl
/-! ### _law_is_tag -/
def N__law_is_tag : List Str := ["value", "tag", "sign"]
def ps__law_is_tag : List Str := ["value"]
theorem sc__law_is_tag : FnScope N__law_is_tag ps__law_is_tag (defScope st__law_is_tag) := ⟨rfl, rfl, rfl, by decide +kernel, rfl, by decide +kernel, by decide +kernel⟩
def w__law_is_tag : UXK → WS := fun E =>
 (wSeq (wIfS (wNotT (wTr (wCB uIsi (wCons (wVar 0) (wCons (wC (.ty "str")) wNil))))) (wSeq (wRet (wC (.bl false)))
 wNext)
 wNext)
 (wSeq (wSet 1 (wIf (wB (wBin uEq (wSl (wVar 0) (some (wUn uNeg (wC (.int 1)))) none) (wC (.str "!")))) (wSl (wVar 0) none (some (wUn uNeg (wC (.int 1))))) (wVar 0)))
 (wSeq (wRet (wAnd (wChain uLe uLe (wC (.int 1)) (wCB uLen (wCons (wVar 1) wNil)) (wC (.int 8))) (wCB uAll (wCons (wComp false (wIt (wVar 1)) (wName 2) wYes (wBin uIn0 (wVar 2) (wC (.str "abcdefghijklmnopqrstuvwxyz"))) [2]) wNil))))
 wNext)))
theorem jj__law_is_tag (t : Txt tx w K mg) (X : Cx) (g : Gd) (E : UXK) (D : DefX P w K mg base k N__law_is_tag (defScope st__law_is_tag) X) (tk : Takes X (Wof X g fun ux _ M => E ux M)) : JSs X g (defBody st__law_is_tag) (w__law_is_tag E) :=
 have W := D.wk sc__law_is_tag.nd; have hc := D.calm
 (jss_cons (js_if (jt_not (jt_truth (k_callB W ucal_isi (t.free "isinstance" (by decide +kernel)) (by decide +kernel) boot_fn_isinstance (by decide +kernel) (ja_cons (k_var W 0 (by decide +kernel)) (ja_cons (k_ty W (t.free "str" (by decide +kernel)) (by decide +kernel) boot_ty_str (by decide +kernel)) ja_nil rfl) rfl) rfl rfl) (fun _ => rfl))) (jss_cons (js_ret j_bl)
 jss_nil)
 jss_nil)
 (jss_cons (k_set W 1 (by decide +kernel) (j_if (jt_cmp (uop_eq W.u64) (j_slice (tl := (some (wUn uNeg (wC (.int 1))))) (th := none) (k_var W 0 (by decide +kernel)) (j_un uun_neg j_int) trivial) j_str rfl) (j_slice (tl := none) (th := (some (wUn uNeg (wC (.int 1))))) (k_var W 0 (by decide +kernel)) trivial (j_un uun_neg j_int)) (k_var W 0 (by decide +kernel))) rfl)
 (jss_cons (js_ret (j_and (j_chain uop_le uop_le j_int (k_callB W ucal_len (t.free "len" (by decide +kernel)) (by decide +kernel) boot_fn_len (by decide +kernel) (ja_cons (k_var W 1 (by decide +kernel)) ja_nil rfl) rfl rfl) j_int rfl) (j_one (k_callB W (ucal_all hc) (t.free "all" (by decide +kernel)) (by decide +kernel) boot_fn_all (by decide +kernel) (ja_cons (k_comp W hc false [("sign", 2)] (by decide +kernel) (ji_it (k_var W 1 (by decide +kernel))) (fun Y1 W1 hc1 => ⟨(k_nameo W1 [2] 2 (by decide +kernel) (by decide)), jts_nil, (j_cmp (uop_in0 W1.u65) (k_var W1 2 (by decide +kernel)) j_str rfl)⟩) (fun _ => rfl)) ja_nil rfl) rfl rfl))))
 jss_nil)))
theorem bd__law_is_tag (kV doc pm : Value) (an : Option Addr) (cdv ct : Value) (us : List Value) (hl : us.length = ps__law_is_tag.length) : bindArgs (PySem.W.fnOf "_law_is_tag" "_law_is_tag" (defArgs st__law_is_tag) (defBody st__law_is_tag) (defScope st__law_is_tag) .none kV doc pm an cdv ct) ⟨us, []⟩ = pure (ps__law_is_tag.zip us) := match us, hl with | [_], _ => rfl
/-! ### _law_is_kind -/
def N__law_is_kind : List Str := ["value"]
def ps__law_is_kind : List Str := ["value"]
theorem sc__law_is_kind : FnScope N__law_is_kind ps__law_is_kind (defScope st__law_is_kind) := ⟨rfl, rfl, rfl, by decide +kernel, rfl, by decide +kernel, by decide +kernel⟩
def w__law_is_kind : UXK → WS := fun E =>
 (wSeq (wRet (wAnd (wCB uIsi (wCons (wVar 0) (wCons (wC (.ty "str")) wNil))) (wBin uIn0 (wVar 0) (wLst (wCons (wC (.str "$int")) (wCons (wC (.str "$text")) (wCons (wC (.str "$int!")) (wCons (wC (.str "$text!")) wNil))))))))
 wNext)
theorem jj__law_is_kind (t : Txt tx w K mg) (X : Cx) (g : Gd) (E : UXK) (D : DefX P w K mg base k N__law_is_kind (defScope st__law_is_kind) X) (tk : Takes X (Wof X g fun ux _ M => E ux M)) : JSs X g (defBody st__law_is_kind) (w__law_is_kind E) :=
 have W := D.wk sc__law_is_kind.nd; have hc := D.calm
 (jss_cons (js_ret (j_and (k_callB W ucal_isi (t.free "isinstance" (by decide +kernel)) (by decide +kernel) boot_fn_isinstance (by decide +kernel) (ja_cons (k_var W 0 (by decide +kernel)) (ja_cons (k_ty W (t.free "str" (by decide +kernel)) (by decide +kernel) boot_ty_str (by decide +kernel)) ja_nil rfl) rfl) rfl rfl) (j_one (j_cmp (uop_in0 W.u65) (k_var W 0 (by decide +kernel)) (j_lst (ja_cons j_str (ja_cons j_str (ja_cons j_str (ja_cons j_str ja_nil rfl) rfl) rfl) rfl)) rfl))))
 jss_nil)
theorem bd__law_is_kind (kV doc pm : Value) (an : Option Addr) (cdv ct : Value) (us : List Value) (hl : us.length = ps__law_is_kind.length) : bindArgs (PySem.W.fnOf "_law_is_kind" "_law_is_kind" (defArgs st__law_is_kind) (defBody st__law_is_kind) (defScope st__law_is_kind) .none kV doc pm an cdv ct) ⟨us, []⟩ = pure (ps__law_is_kind.zip us) := match us, hl with | [_], _ => rfl
/-! ### _law_parts -/
def N__law_parts : List Str := ["part"]
def ps__law_parts : List Str := ["part"]
theorem sc__law_parts : FnScope N__law_parts ps__law_parts (defScope st__law_parts) := ⟨rfl, rfl, rfl, by decide +kernel, rfl, by decide +kernel, by decide +kernel⟩
def w__law_parts : UXK → WS := fun E =>
 (wSeq (wRet (wIf (wB (wBin uEq (wSl (wBin uIdx0 (wVar 0) (wC (.int 0))) none (some (wC (.int 1)))) (wC (.str "$")))) (wTup wNil) (wBin uIdx0 (wVar 0) (wC (.int 1)))))
 wNext)
theorem jj__law_parts (t : Txt tx w K mg) (X : Cx) (g : Gd) (E : UXK) (D : DefX P w K mg base k N__law_parts (defScope st__law_parts) X) (tk : Takes X (Wof X g fun ux _ M => E ux M)) : JSs X g (defBody st__law_parts) (w__law_parts E) :=
 have W := D.wk sc__law_parts.nd; have hc := D.calm
 (jss_cons (js_ret (j_if (jt_cmp (uop_eq W.u64) (j_slice (tl := none) (th := (some (wC (.int 1)))) (j_idx (uix0 W.u65) (k_var W 0 (by decide +kernel)) j_int (fun _ _ => rfl)) trivial j_int) j_str rfl) (j_tup ja_nil) (j_idx (uix0 W.u65) (k_var W 0 (by decide +kernel)) j_int (fun _ _ => rfl))))
 jss_nil)
theorem bd__law_parts (kV doc pm : Value) (an : Option Addr) (cdv ct : Value) (us : List Value) (hl : us.length = ps__law_parts.length) : bindArgs (PySem.W.fnOf "_law_parts" "_law_parts" (defArgs st__law_parts) (defBody st__law_parts) (defScope st__law_parts) .none kV doc pm an cdv ct) ⟨us, []⟩ = pure (ps__law_parts.zip us) := match us, hl with | [_], _ => rfl
/-! ### _law_places -/
def N__law_places : List Str := ["part", "found", "k", "inner", "place"]
def ps__law_places : List Str := ["part"]
theorem sc__law_places : FnScope N__law_places ps__law_places (defScope st__law_places) := ⟨rfl, rfl, rfl, by decide +kernel, rfl, by decide +kernel, by decide +kernel⟩
def w__law_places (sp__law_parts : USp) (sp__law_places : USp) : UXK → WS := fun E =>
 (wSeq (wSet 1 (wC (.lst [(.tup [])])))
 (wSeq (wFor (wEnum (wCons (wCall sp__law_parts (fun ux _ M => E ux M) (wCons (wVar 0) wNil)) wNil)) (wGtup 2 (wGcons (wName 2) (wGcons (wName 3) wGnil)))
 (wSeq (wSet 1 (wBin uAdd (wVar 1) (wComp false (wIt (wCall sp__law_places (fun ux _ M => E ux M) (wCons (wVar 3) wNil))) (wName 4) wYes (wBin uAdd (wTup (wCons (wVar 2) wNil)) (wVar 4)) [4])))
 wNext))
 (wSeq (wRet (wVar 1))
 wNext)))
theorem jj__law_places (t : Txt tx w K mg) {k__law_parts : Nat} {sp__law_parts : USp} (F__law_parts : FnV P w K mg base k__law_parts "_law_parts" st__law_parts ps__law_parts sp__law_parts) (hk__law_parts : k__law_parts ≤ k) {k__law_places : Nat} {sp__law_places : USp} (F__law_places : FnV P w K mg base k__law_places "_law_places" st__law_places ps__law_places sp__law_places) (hk__law_places : k__law_places ≤ k) (X : Cx) (g : Gd) (E : UXK) (D : DefX P w K mg base k N__law_places (defScope st__law_places) X) (tk : Takes X (Wof X g fun ux _ M => E ux M)) : JSs X g (defBody st__law_places) (w__law_places sp__law_parts sp__law_places E) :=
 have W := D.wk sc__law_places.nd; have hc := D.calm
 (jss_cons (k_set W 1 (by decide +kernel) (j_pur (j_lst (ja_cons (j_tup ja_nil) ja_nil rfl)) (pur_lst (purA_cons (pur_tup purA_nil (by decide)) purA_nil) (by decide))) rfl)
 (jss_cons (js_for D.pass hc (k_enum W (t.free "enumerate" (by decide +kernel)) (by decide +kernel) (ja_cons (k_call W hc F__law_parts hk__law_parts tk (by decide +kernel) (ja_cons (k_var W 0 (by decide +kernel)) ja_nil rfl) rfl rfl) ja_nil rfl) rfl) (jg_tup hc (jgs_cons (k_name W 2 (by decide +kernel)) (jgs_cons (k_name W 3 (by decide +kernel)) jgs_nil rfl) rfl) rfl rfl) (jss_cons (k_set W 1 (by decide +kernel) (j_bin uop_add (k_var W 1 (by decide +kernel)) (k_comp W hc false [("place", 4)] (by decide +kernel) (ji_it (k_call W hc F__law_places hk__law_places tk (by decide +kernel) (ja_cons (k_var W 3 (by decide +kernel)) ja_nil rfl) rfl rfl)) (fun Y1 W1 hc1 => ⟨(k_nameo W1 [4] 4 (by decide +kernel) (by decide)), jts_nil, (j_bin uop_add (j_tup (ja_cons (k_var W1 2 (by decide +kernel)) ja_nil rfl)) (k_var W1 4 (by decide +kernel)))⟩) (fun _ => rfl))) rfl)
 jss_nil) (fun _ => rfl))
 (jss_cons (js_ret (k_var W 1 (by decide +kernel)))
 jss_nil)))
theorem bd__law_places (kV doc pm : Value) (an : Option Addr) (cdv ct : Value) (us : List Value) (hl : us.length = ps__law_places.length) : bindArgs (PySem.W.fnOf "_law_places" "_law_places" (defArgs st__law_places) (defBody st__law_places) (defScope st__law_places) .none kV doc pm an cdv ct) ⟨us, []⟩ = pure (ps__law_places.zip us) := match us, hl with | [_], _ => rfl
/-! ### _law_at -/
def N__law_at : List Str := ["part", "place", "k"]
def ps__law_at : List Str := ["part", "place"]
theorem sc__law_at : FnScope N__law_at ps__law_at (defScope st__law_at) := ⟨rfl, rfl, rfl, by decide +kernel, rfl, by decide +kernel, by decide +kernel⟩
def w__law_at : UXK → WS := fun E =>
 (wSeq (wFor (wIt (wVar 1)) (wName 2)
 (wSeq (wSet 0 (wBin uIdx0 (wBin uIdx0 (wVar 0) (wC (.int 1))) (wVar 2)))
 wNext))
 (wSeq (wRet (wVar 0))
 wNext))
theorem jj__law_at (t : Txt tx w K mg) (X : Cx) (g : Gd) (E : UXK) (D : DefX P w K mg base k N__law_at (defScope st__law_at) X) (tk : Takes X (Wof X g fun ux _ M => E ux M)) : JSs X g (defBody st__law_at) (w__law_at E) :=
 have W := D.wk sc__law_at.nd; have hc := D.calm
 (jss_cons (js_for D.pass hc (ji_it (k_var W 1 (by decide +kernel))) (k_name W 2 (by decide +kernel)) (jss_cons (k_set W 0 (by decide +kernel) (j_idx (uix0 W.u65) (j_idx (uix0 W.u65) (k_var W 0 (by decide +kernel)) j_int (fun _ _ => rfl)) (k_var W 2 (by decide +kernel)) (fun _ _ => rfl)) rfl)
 jss_nil) (fun _ => rfl))
 (jss_cons (js_ret (k_var W 0 (by decide +kernel)))
 jss_nil))
theorem bd__law_at (kV doc pm : Value) (an : Option Addr) (cdv ct : Value) (us : List Value) (hl : us.length = ps__law_at.length) : bindArgs (PySem.W.fnOf "_law_at" "_law_at" (defArgs st__law_at) (defBody st__law_at) (defScope st__law_at) .none kV doc pm an cdv ct) ⟨us, []⟩ = pure (ps__law_at.zip us) := match us, hl with | [_, _], _ => rfl
/-! ### _law_put_in -/
def N__law_put_in : List Str := ["part", "place", "new", "k"]
def ps__law_put_in : List Str := ["part", "place", "new"]
theorem sc__law_put_in : FnScope N__law_put_in ps__law_put_in (defScope st__law_put_in) := ⟨rfl, rfl, rfl, by decide +kernel, rfl, by decide +kernel, by decide +kernel⟩
def w__law_put_in (sp__law_put_in : USp) : UXK → WS := fun E =>
 (wSeq (wSet 3 (wBin uIdx0 (wVar 1) (wC (.int 0))))
 (wSeq (wIfS (wB (wBin uEq (wCB uLen (wCons (wVar 1) wNil)) (wC (.int 1)))) (wSeq (wRet (wTup (wCons (wBin uIdx0 (wVar 0) (wC (.int 0))) (wCons (wBin uAdd (wBin uAdd (wSl (wBin uIdx0 (wVar 0) (wC (.int 1))) none (some (wVar 3))) (wTup (wCons (wVar 2) wNil))) (wSl (wBin uIdx0 (wVar 0) (wC (.int 1))) (some (wVar 3)) none)) wNil))))
 wNext)
 wNext)
 (wSeq (wRet (wTup (wCons (wBin uIdx0 (wVar 0) (wC (.int 0))) (wCons (wBin uAdd (wBin uAdd (wSl (wBin uIdx0 (wVar 0) (wC (.int 1))) none (some (wVar 3))) (wTup (wCons (wCall sp__law_put_in (fun ux _ M => E ux M) (wCons (wBin uIdx0 (wBin uIdx0 (wVar 0) (wC (.int 1))) (wVar 3)) (wCons (wSl (wVar 1) (some (wC (.int 1))) none) (wCons (wVar 2) wNil)))) wNil))) (wSl (wBin uIdx0 (wVar 0) (wC (.int 1))) (some (wBin uAdd (wVar 3) (wC (.int 1)))) none)) wNil))))
 wNext)))
theorem jj__law_put_in (t : Txt tx w K mg) {k__law_put_in : Nat} {sp__law_put_in : USp} (F__law_put_in : FnV P w K mg base k__law_put_in "_law_put_in" st__law_put_in ps__law_put_in sp__law_put_in) (hk__law_put_in : k__law_put_in ≤ k) (X : Cx) (g : Gd) (E : UXK) (D : DefX P w K mg base k N__law_put_in (defScope st__law_put_in) X) (tk : Takes X (Wof X g fun ux _ M => E ux M)) : JSs X g (defBody st__law_put_in) (w__law_put_in sp__law_put_in E) :=
 have W := D.wk sc__law_put_in.nd; have hc := D.calm
 (jss_cons (k_set W 3 (by decide +kernel) (j_idx (uix0 W.u65) (k_var W 1 (by decide +kernel)) j_int (fun _ _ => rfl)) rfl)
 (jss_cons (js_if (jt_cmp (uop_eq W.u64) (k_callB W ucal_len (t.free "len" (by decide +kernel)) (by decide +kernel) boot_fn_len (by decide +kernel) (ja_cons (k_var W 1 (by decide +kernel)) ja_nil rfl) rfl rfl) j_int rfl) (jss_cons (js_ret (j_tup (ja_cons (j_idx (uix0 W.u65) (k_var W 0 (by decide +kernel)) j_int (fun _ _ => rfl)) (ja_cons (j_bin uop_add (j_bin uop_add (j_slice (tl := none) (th := (some (wVar 3))) (j_idx (uix0 W.u65) (k_var W 0 (by decide +kernel)) j_int (fun _ _ => rfl)) trivial (k_var W 3 (by decide +kernel))) (j_tup (ja_cons (k_var W 2 (by decide +kernel)) ja_nil rfl))) (j_slice (tl := (some (wVar 3))) (th := none) (j_idx (uix0 W.u65) (k_var W 0 (by decide +kernel)) j_int (fun _ _ => rfl)) (k_var W 3 (by decide +kernel)) trivial)) ja_nil rfl) rfl)))
 jss_nil)
 jss_nil)
 (jss_cons (js_ret (j_tup (ja_cons (j_idx (uix0 W.u65) (k_var W 0 (by decide +kernel)) j_int (fun _ _ => rfl)) (ja_cons (j_bin uop_add (j_bin uop_add (j_slice (tl := none) (th := (some (wVar 3))) (j_idx (uix0 W.u65) (k_var W 0 (by decide +kernel)) j_int (fun _ _ => rfl)) trivial (k_var W 3 (by decide +kernel))) (j_tup (ja_cons (k_call W hc F__law_put_in hk__law_put_in tk (by decide +kernel) (ja_cons (j_idx (uix0 W.u65) (j_idx (uix0 W.u65) (k_var W 0 (by decide +kernel)) j_int (fun _ _ => rfl)) (k_var W 3 (by decide +kernel)) (fun _ _ => rfl)) (ja_cons (j_slice (tl := (some (wC (.int 1)))) (th := none) (k_var W 1 (by decide +kernel)) j_int trivial) (ja_cons (k_var W 2 (by decide +kernel)) ja_nil rfl) rfl) rfl) rfl rfl) ja_nil rfl))) (j_slice (tl := (some (wBin uAdd (wVar 3) (wC (.int 1))))) (th := none) (j_idx (uix0 W.u65) (k_var W 0 (by decide +kernel)) j_int (fun _ _ => rfl)) (j_bin uop_add (k_var W 3 (by decide +kernel)) j_int) trivial)) ja_nil rfl) rfl)))
 jss_nil)))
theorem bd__law_put_in (kV doc pm : Value) (an : Option Addr) (cdv ct : Value) (us : List Value) (hl : us.length = ps__law_put_in.length) : bindArgs (PySem.W.fnOf "_law_put_in" "_law_put_in" (defArgs st__law_put_in) (defBody st__law_put_in) (defScope st__law_put_in) .none kV doc pm an cdv ct) ⟨us, []⟩ = pure (ps__law_put_in.zip us) := match us, hl with | [_, _, _], _ => rfl
/-! ### _law_nodes -/
def N__law_nodes : List Str := ["part", "place"]
def ps__law_nodes : List Str := ["part"]
theorem sc__law_nodes : FnScope N__law_nodes ps__law_nodes (defScope st__law_nodes) := ⟨rfl, rfl, rfl, by decide +kernel, rfl, by decide +kernel, by decide +kernel⟩
def w__law_nodes (sp__law_places : USp) (sp__law_at : USp) : UXK → WS := fun E =>
 (wSeq (wRet (wComp false (wIt (wCall sp__law_places (fun ux _ M => E ux M) (wCons (wVar 0) wNil))) (wName 1) (wB (wBin uNe (wSl (wBin uIdx0 (wCall sp__law_at (fun _ _ _ => False) (wCons (wVar 0) (wCons (wVar 1) wNil))) (wC (.int 0))) none (some (wC (.int 1)))) (wC (.str "$")))) (wVar 1) [1]))
 wNext)
theorem jj__law_nodes (t : Txt tx w K mg) {k__law_places : Nat} {sp__law_places : USp} (F__law_places : FnV P w K mg base k__law_places "_law_places" st__law_places ps__law_places sp__law_places) (hk__law_places : k__law_places ≤ k) {k__law_at : Nat} {sp__law_at : USp} (F__law_at : FnV P w K mg base k__law_at "_law_at" st__law_at ps__law_at sp__law_at) (hk__law_at : k__law_at ≤ k) (X : Cx) (g : Gd) (E : UXK) (D : DefX P w K mg base k N__law_nodes (defScope st__law_nodes) X) (tk : Takes X (Wof X g fun ux _ M => E ux M)) : JSs X g (defBody st__law_nodes) (w__law_nodes sp__law_places sp__law_at E) :=
 have W := D.wk sc__law_nodes.nd; have hc := D.calm
 (jss_cons (js_ret (k_comp W hc false [("place", 1)] (by decide +kernel) (ji_it (k_call W hc F__law_places hk__law_places tk (by decide +kernel) (ja_cons (k_var W 0 (by decide +kernel)) ja_nil rfl) rfl rfl)) (fun Y1 W1 hc1 => ⟨(k_nameo W1 [1] 1 (by decide +kernel) (by decide)), (jts_one (jt_cmp (uop_ne W1.u64) (j_slice (tl := none) (th := (some (wC (.int 1)))) (j_idx (uix0 W1.u65) (k_call W1 hc1 F__law_at hk__law_at takes_no (by decide +kernel) (ja_cons (k_var W1 0 (by decide +kernel)) (ja_cons (k_var W1 1 (by decide +kernel)) ja_nil rfl) rfl) rfl rfl) j_int (fun _ _ => rfl)) trivial j_int) j_str rfl)), (k_var W1 1 (by decide +kernel))⟩) (fun _ => rfl)))
 jss_nil)
theorem bd__law_nodes (kV doc pm : Value) (an : Option Addr) (cdv ct : Value) (us : List Value) (hl : us.length = ps__law_nodes.length) : bindArgs (PySem.W.fnOf "_law_nodes" "_law_nodes" (defArgs st__law_nodes) (defBody st__law_nodes) (defScope st__law_nodes) .none kV doc pm an cdv ct) ⟨us, []⟩ = pure (ps__law_nodes.zip us) := match us, hl with | [_], _ => rfl
/-! ### _law_leaf -/
def N__law_leaf : List Str := ["draws"]
def ps__law_leaf : List Str := ["draws"]
theorem sc__law_leaf : FnScope N__law_leaf ps__law_leaf (defScope st__law_leaf) := ⟨rfl, rfl, rfl, by decide +kernel, rfl, by decide +kernel, by decide +kernel⟩
def w__law_leaf (sp__law_take : USp) (sp__law_pick : USp) : UXK → WS := fun E =>
 (wSeq (wIfS (wB (wBin uEq (wCall sp__law_take (fun ux _ M => E ux M) (wCons (wVar 0) (wCons (wC (.int 2)) wNil))) (wC (.int 0)))) (wSeq (wRet (wTup (wCons (wC (.str "$int")) (wCons (wCall sp__law_pick (fun ux _ M => E ux M) (wCons (wVar 0) (wCons (wLst (wCons (wC (.str "0")) (wCons (wC (.str "7")) (wCons (wC (.str "-3")) (wCons (wC (.str "12")) (wCons (wC (.str "10")) (wCons (wC (.str "-10")) wNil))))))) wNil))) wNil))))
 wNext)
 wNext)
 (wSeq (wRet (wTup (wCons (wC (.str "$text")) (wCons (wCall sp__law_pick (fun ux _ M => E ux M) (wCons (wVar 0) (wCons (wLst (wCons (wC (.str "")) (wCons (wC (.str "x")) (wCons (wC (.str "0")) (wCons (wC (.str "a b")) (wCons (wC (.str "say \"x\"")) (wCons (wC (.str "~!")) (wCons (wC (.str "12")) (wCons (wC (.str "\\")) wNil))))))))) wNil))) wNil))))
 wNext))
theorem jj__law_leaf (t : Txt tx w K mg) {k__law_take : Nat} {sp__law_take : USp} (F__law_take : FnV P w K mg base k__law_take "_law_take" st__law_take ps__law_take sp__law_take) (hk__law_take : k__law_take ≤ k) {k__law_pick : Nat} {sp__law_pick : USp} (F__law_pick : FnV P w K mg base k__law_pick "_law_pick" st__law_pick ps__law_pick sp__law_pick) (hk__law_pick : k__law_pick ≤ k) (X : Cx) (g : Gd) (E : UXK) (D : DefX P w K mg base k N__law_leaf (defScope st__law_leaf) X) (tk : Takes X (Wof X g fun ux _ M => E ux M)) : JSs X g (defBody st__law_leaf) (w__law_leaf sp__law_take sp__law_pick E) :=
 have W := D.wk sc__law_leaf.nd; have hc := D.calm
 (jss_cons (js_if (jt_cmp (uop_eq W.u64) (k_call W hc F__law_take hk__law_take tk (by decide +kernel) (ja_cons (k_var W 0 (by decide +kernel)) (ja_cons j_int ja_nil rfl) rfl) rfl rfl) j_int rfl) (jss_cons (js_ret (j_tup (ja_cons j_str (ja_cons (k_call W hc F__law_pick hk__law_pick tk (by decide +kernel) (ja_cons (k_var W 0 (by decide +kernel)) (ja_cons (j_lst (ja_cons j_str (ja_cons j_str (ja_cons j_str (ja_cons j_str (ja_cons j_str (ja_cons j_str ja_nil rfl) rfl) rfl) rfl) rfl) rfl)) ja_nil rfl) rfl) rfl rfl) ja_nil rfl) rfl)))
 jss_nil)
 jss_nil)
 (jss_cons (js_ret (j_tup (ja_cons j_str (ja_cons (k_call W hc F__law_pick hk__law_pick tk (by decide +kernel) (ja_cons (k_var W 0 (by decide +kernel)) (ja_cons (j_lst (ja_cons j_str (ja_cons j_str (ja_cons j_str (ja_cons j_str (ja_cons j_str (ja_cons j_str (ja_cons j_str (ja_cons j_str ja_nil rfl) rfl) rfl) rfl) rfl) rfl) rfl) rfl)) ja_nil rfl) rfl) rfl rfl) ja_nil rfl) rfl)))
 jss_nil))
theorem bd__law_leaf (kV doc pm : Value) (an : Option Addr) (cdv ct : Value) (us : List Value) (hl : us.length = ps__law_leaf.length) : bindArgs (PySem.W.fnOf "_law_leaf" "_law_leaf" (defArgs st__law_leaf) (defBody st__law_leaf) (defScope st__law_leaf) .none kV doc pm an cdv ct) ⟨us, []⟩ = pure (ps__law_leaf.zip us) := match us, hl with | [_], _ => rfl
/-! ### _law_document -/
def N__law_document : List Str := ["draws", "tags", "many", "found", "k", "place", "new"]
def ps__law_document : List Str := ["draws", "tags", "many"]
theorem sc__law_document : FnScope N__law_document ps__law_document (defScope st__law_document) := ⟨rfl, rfl, rfl, by decide +kernel, rfl, by decide +kernel, by decide +kernel⟩
def w__law_document (sp__law_pick : USp) (sp__law_nodes : USp) (sp__law_take : USp) (sp__law_leaf : USp) (sp__law_put_in : USp) (sp__law_at : USp) : UXK → WS := fun E =>
 (wSeq (wSet 3 (wTup (wCons (wCall sp__law_pick (fun ux _ M => E ux M) (wCons (wVar 0) (wCons (wVar 1) wNil))) (wCons (wTup wNil) wNil))))
 (wSeq (wFor (wRng1 (wCons (wBin uSub (wVar 2) (wC (.int 1))) wNil)) (wName 4)
 (wSeq (wSet 5 (wCall sp__law_pick (fun ux _ M => E ux M) (wCons (wVar 0) (wCons (wCall sp__law_nodes (fun ux _ M => E ux M) (wCons (wVar 3) wNil)) wNil))))
 (wSeq (wSet 6 (wIf (wB (wBin uEq (wCall sp__law_take (fun ux _ M => E ux M) (wCons (wVar 0) (wCons (wC (.int 3)) wNil))) (wC (.int 0)))) (wCall sp__law_leaf (fun ux _ M => E ux M) (wCons (wVar 0) wNil)) (wTup (wCons (wCall sp__law_pick (fun ux _ M => E ux M) (wCons (wVar 0) (wCons (wVar 1) wNil))) (wCons (wTup wNil) wNil)))))
 (wSeq (wSet 3 (wCall sp__law_put_in (fun ux _ M => E ux M) (wCons (wVar 3) (wCons (wBin uAdd (wVar 5) (wTup (wCons (wCall sp__law_take (fun ux _ M => E ux M) (wCons (wVar 0) (wCons (wBin uAdd (wCB uLen (wCons (wBin uIdx0 (wCall sp__law_at (fun ux _ M => E ux M) (wCons (wVar 3) (wCons (wVar 5) wNil))) (wC (.int 1))) wNil)) (wC (.int 1))) wNil))) wNil))) (wCons (wVar 6) wNil)))))
 wNext))))
 (wSeq (wRet (wVar 3))
 wNext)))
theorem jj__law_document (t : Txt tx w K mg) {k__law_pick : Nat} {sp__law_pick : USp} (F__law_pick : FnV P w K mg base k__law_pick "_law_pick" st__law_pick ps__law_pick sp__law_pick) (hk__law_pick : k__law_pick ≤ k) {k__law_nodes : Nat} {sp__law_nodes : USp} (F__law_nodes : FnV P w K mg base k__law_nodes "_law_nodes" st__law_nodes ps__law_nodes sp__law_nodes) (hk__law_nodes : k__law_nodes ≤ k) {k__law_take : Nat} {sp__law_take : USp} (F__law_take : FnV P w K mg base k__law_take "_law_take" st__law_take ps__law_take sp__law_take) (hk__law_take : k__law_take ≤ k) {k__law_leaf : Nat} {sp__law_leaf : USp} (F__law_leaf : FnV P w K mg base k__law_leaf "_law_leaf" st__law_leaf ps__law_leaf sp__law_leaf) (hk__law_leaf : k__law_leaf ≤ k) {k__law_put_in : Nat} {sp__law_put_in : USp} (F__law_put_in : FnV P w K mg base k__law_put_in "_law_put_in" st__law_put_in ps__law_put_in sp__law_put_in) (hk__law_put_in : k__law_put_in ≤ k) {k__law_at : Nat} {sp__law_at : USp} (F__law_at : FnV P w K mg base k__law_at "_law_at" st__law_at ps__law_at sp__law_at) (hk__law_at : k__law_at ≤ k) (X : Cx) (g : Gd) (E : UXK) (D : DefX P w K mg base k N__law_document (defScope st__law_document) X) (tk : Takes X (Wof X g fun ux _ M => E ux M)) : JSs X g (defBody st__law_document) (w__law_document sp__law_pick sp__law_nodes sp__law_take sp__law_leaf sp__law_put_in sp__law_at E) :=
 have W := D.wk sc__law_document.nd; have hc := D.calm
 (jss_cons (k_set W 3 (by decide +kernel) (j_tup (ja_cons (k_call W hc F__law_pick hk__law_pick tk (by decide +kernel) (ja_cons (k_var W 0 (by decide +kernel)) (ja_cons (k_var W 1 (by decide +kernel)) ja_nil rfl) rfl) rfl rfl) (ja_cons (j_tup ja_nil) ja_nil rfl) rfl)) rfl)
 (jss_cons (js_for D.pass hc (k_range1 W (t.free "range" (by decide +kernel)) (by decide +kernel) (ja_cons (j_bin uop_sub (k_var W 2 (by decide +kernel)) j_int) ja_nil rfl) rfl) (k_name W 4 (by decide +kernel)) (jss_cons (k_set W 5 (by decide +kernel) (k_call W hc F__law_pick hk__law_pick tk (by decide +kernel) (ja_cons (k_var W 0 (by decide +kernel)) (ja_cons (k_call W hc F__law_nodes hk__law_nodes tk (by decide +kernel) (ja_cons (k_var W 3 (by decide +kernel)) ja_nil rfl) rfl rfl) ja_nil rfl) rfl) rfl rfl) rfl)
 (jss_cons (k_set W 6 (by decide +kernel) (j_if (jt_cmp (uop_eq W.u64) (k_call W hc F__law_take hk__law_take tk (by decide +kernel) (ja_cons (k_var W 0 (by decide +kernel)) (ja_cons j_int ja_nil rfl) rfl) rfl rfl) j_int rfl) (k_call W hc F__law_leaf hk__law_leaf tk (by decide +kernel) (ja_cons (k_var W 0 (by decide +kernel)) ja_nil rfl) rfl rfl) (j_tup (ja_cons (k_call W hc F__law_pick hk__law_pick tk (by decide +kernel) (ja_cons (k_var W 0 (by decide +kernel)) (ja_cons (k_var W 1 (by decide +kernel)) ja_nil rfl) rfl) rfl rfl) (ja_cons (j_tup ja_nil) ja_nil rfl) rfl))) rfl)
 (jss_cons (k_set W 3 (by decide +kernel) (k_call W hc F__law_put_in hk__law_put_in tk (by decide +kernel) (ja_cons (k_var W 3 (by decide +kernel)) (ja_cons (j_bin uop_add (k_var W 5 (by decide +kernel)) (j_tup (ja_cons (k_call W hc F__law_take hk__law_take tk (by decide +kernel) (ja_cons (k_var W 0 (by decide +kernel)) (ja_cons (j_bin uop_add (k_callB W ucal_len (t.free "len" (by decide +kernel)) (by decide +kernel) boot_fn_len (by decide +kernel) (ja_cons (j_idx (uix0 W.u65) (k_call W hc F__law_at hk__law_at tk (by decide +kernel) (ja_cons (k_var W 3 (by decide +kernel)) (ja_cons (k_var W 5 (by decide +kernel)) ja_nil rfl) rfl) rfl rfl) j_int (fun _ _ => rfl)) ja_nil rfl) rfl rfl) j_int) ja_nil rfl) rfl) rfl rfl) ja_nil rfl))) (ja_cons (k_var W 6 (by decide +kernel)) ja_nil rfl) rfl) rfl) rfl rfl) rfl)
 jss_nil))) (fun _ => rfl))
 (jss_cons (js_ret (k_var W 3 (by decide +kernel)))
 jss_nil)))
theorem bd__law_document (kV doc pm : Value) (an : Option Addr) (cdv ct : Value) (us : List Value) (hl : us.length = ps__law_document.length) : bindArgs (PySem.W.fnOf "_law_document" "_law_document" (defArgs st__law_document) (defBody st__law_document) (defScope st__law_document) .none kV doc pm an cdv ct) ⟨us, []⟩ = pure (ps__law_document.zip us) := match us, hl with | [_, _, _], _ => rfl
/-! ### _law_bent -/
def N__law_bent : List Str := ["draws", "value", "k", "way"]
def ps__law_bent : List Str := ["draws", "value"]
theorem sc__law_bent : FnScope N__law_bent ps__law_bent (defScope st__law_bent) := ⟨rfl, rfl, rfl, by decide +kernel, rfl, by decide +kernel, by decide +kernel⟩
def w__law_bent (sp__law_take : USp) (sp__law_bent : USp) (sp__law_is_whole : USp) (sp__law_pick : USp) : UXK → WS := fun E =>
 (wSeq (wIfS (wAndT (wTr (wCB uIsi (wCons (wVar 1) (wCons (wC (.ty "tuple")) wNil)))) (wAndT (wB (wBin uNe (wVar 1) (wTup wNil))) (wB (wBin uGt (wCall sp__law_take (fun ux _ M => E ux M) (wCons (wVar 0) (wCons (wC (.int 6)) wNil))) (wC (.int 0)))))) (wSeq (wPar 2 3 (wCons (wCall sp__law_take (fun ux _ M => E ux M) (wCons (wVar 0) (wCons (wCB uLen (wCons (wVar 1) wNil)) wNil))) (wCons (wCall sp__law_take (fun ux _ M => E ux M) (wCons (wVar 0) (wCons (wC (.int 9)) wNil))) wNil)))
 (wSeq (wIfS (wB (wBin uLt (wVar 3) (wC (.int 3)))) (wSeq (wRet (wBin uIdx0 (wLst (wCons (wBin uAdd (wSl (wVar 1) none (some (wVar 2))) (wSl (wVar 1) (some (wBin uAdd (wVar 2) (wC (.int 1)))) none)) (wCons (wBin uAdd (wSl (wVar 1) none (some (wBin uAdd (wVar 2) (wC (.int 1))))) (wSl (wVar 1) (some (wVar 2)) none)) (wCons (wBin uAdd (wSl (wVar 1) none (some (wVar 2))) (wUn uBack (wSl (wVar 1) (some (wVar 2)) none))) wNil)))) (wVar 3)))
 wNext)
 wNext)
 (wSeq (wRet (wBin uAdd (wBin uAdd (wSl (wVar 1) none (some (wVar 2))) (wTup (wCons (wCall sp__law_bent (fun ux _ M => E ux M) (wCons (wVar 0) (wCons (wBin uIdx0 (wVar 1) (wVar 2)) wNil))) wNil))) (wSl (wVar 1) (some (wBin uAdd (wVar 2) (wC (.int 1)))) none)))
 wNext)))
 wNext)
 (wSeq (wIfS (wAndT (wTr (wCall sp__law_is_whole (fun ux _ M => E ux M) (wCons (wVar 1) wNil))) (wB (wBin uGt (wCall sp__law_take (fun ux _ M => E ux M) (wCons (wVar 0) (wCons (wC (.int 5)) wNil))) (wC (.int 0))))) (wSeq (wRet (wBin uAdd (wVar 1) (wCall sp__law_pick (fun ux _ M => E ux M) (wCons (wVar 0) (wCons (wLst (wCons (wC (.int 1)) (wCons (wUn uNeg (wC (.int 1))) (wCons (wC (.int 2)) (wCons (wUn uNeg (wVar 1)) (wCons (wBin uPow (wC (.int 10)) (wC (.int 6))) (wCons (wUn uNeg (wC (.int 2))) wNil))))))) wNil)))))
 wNext)
 wNext)
 (wSeq (wIfS (wAndT (wTr (wCB uIsi (wCons (wVar 1) (wCons (wC (.ty "str")) wNil)))) (wB (wBin uGt (wCall sp__law_take (fun ux _ M => E ux M) (wCons (wVar 0) (wCons (wC (.int 4)) wNil))) (wC (.int 0))))) (wSeq (wRet (wCall sp__law_pick (fun ux _ M => E ux M) (wCons (wVar 0) (wCons (wLst (wCons (wBin uAdd (wVar 1) (wC (.str "x"))) (wCons (wSl (wVar 1) (some (wC (.int 1))) none) (wCons (wBin uAdd (wVar 1) (wC (.str "!"))) (wCons (wC (.str "")) (wCons (wC (.str "$int")) (wCons (wC (.str "$text")) (wCons (wC (.str "0")) (wCons (wC (.str "A")) (wCons (wC (.str "head")) (wCons (wC (.str "take")) (wCons (wC (.str "keep")) (wCons (wC (.str "drop")) (wCons (wC (.str "open")) wNil)))))))))))))) wNil))))
 wNext)
 wNext)
 (wSeq (wRet (wCall sp__law_pick (fun ux _ M => E ux M) (wCons (wVar 0) (wCons (wLst (wCons (wC .non) (wCons (wTup wNil) (wCons (wLst wNil) (wCons (wC (.bl true)) (wCons (wC (.str "a")) (wCons (wC (.int 0)) (wCons (wUn uNeg (wC (.int 1))) (wCons (wTup (wCons (wVar 1) wNil)) (wCons (wLst (wCons (wC (.str "x")) wNil)) (wCons wDict0 (wCons (wC (.tup [(.str "a"), (.tup [])])) (wCons (wTup (wCons (wC (.str "$int")) (wCons (wC (.str "0")) wNil))) (wCons (wIf (wTr (wCB uIsi (wCons (wVar 1) (wCons (wC (.ty "tuple")) wNil)))) (wCB uList (wCons (wVar 1) wNil)) (wC (.bl false))) wNil)))))))))))))) wNil))))
 wNext))))
theorem jj__law_bent (t : Txt tx w K mg) {k__law_take : Nat} {sp__law_take : USp} (F__law_take : FnV P w K mg base k__law_take "_law_take" st__law_take ps__law_take sp__law_take) (hk__law_take : k__law_take ≤ k) {k__law_bent : Nat} {sp__law_bent : USp} (F__law_bent : FnV P w K mg base k__law_bent "_law_bent" st__law_bent ps__law_bent sp__law_bent) (hk__law_bent : k__law_bent ≤ k) {k__law_is_whole : Nat} {sp__law_is_whole : USp} (F__law_is_whole : FnV P w K mg base k__law_is_whole "_law_is_whole" st__law_is_whole ps__law_is_whole sp__law_is_whole) (hk__law_is_whole : k__law_is_whole ≤ k) {k__law_pick : Nat} {sp__law_pick : USp} (F__law_pick : FnV P w K mg base k__law_pick "_law_pick" st__law_pick ps__law_pick sp__law_pick) (hk__law_pick : k__law_pick ≤ k) (X : Cx) (g : Gd) (E : UXK) (D : DefX P w K mg base k N__law_bent (defScope st__law_bent) X) (tk : Takes X (Wof X g fun ux _ M => E ux M)) : JSs X g (defBody st__law_bent) (w__law_bent sp__law_take sp__law_bent sp__law_is_whole sp__law_pick E) :=
 have W := D.wk sc__law_bent.nd; have hc := D.calm
 (jss_cons (js_if (jt_of (jw_and (jt_truth (k_callB W ucal_isi (t.free "isinstance" (by decide +kernel)) (by decide +kernel) boot_fn_isinstance (by decide +kernel) (ja_cons (k_var W 1 (by decide +kernel)) (ja_cons (k_ty W (t.free "tuple" (by decide +kernel)) (by decide +kernel) boot_ty_tuple (by decide +kernel)) ja_nil rfl) rfl) rfl rfl) (fun _ => rfl)) (jw_and (jt_cmp (uop_ne W.u64) (k_var W 1 (by decide +kernel)) (j_tup ja_nil) rfl) (jw_and1 (jt_cmp uop_gt (k_call W hc F__law_take hk__law_take tk (by decide +kernel) (ja_cons (k_var W 0 (by decide +kernel)) (ja_cons j_int ja_nil rfl) rfl) rfl rfl) j_int rfl))))) (jss_cons (k_par D sc__law_bent.nd 2 3 (by decide +kernel) (ja_cons (k_call W hc F__law_take hk__law_take tk (by decide +kernel) (ja_cons (k_var W 0 (by decide +kernel)) (ja_cons (k_callB W ucal_len (t.free "len" (by decide +kernel)) (by decide +kernel) boot_fn_len (by decide +kernel) (ja_cons (k_var W 1 (by decide +kernel)) ja_nil rfl) rfl rfl) ja_nil rfl) rfl) rfl rfl) (ja_cons (k_call W hc F__law_take hk__law_take tk (by decide +kernel) (ja_cons (k_var W 0 (by decide +kernel)) (ja_cons j_int ja_nil rfl) rfl) rfl rfl) ja_nil rfl) rfl) (by kernel_rfl) rfl)
 (jss_cons (js_if (jt_cmp (uop_lt W.u64) (k_var W 3 (by decide +kernel)) j_int rfl) (jss_cons (js_ret (j_idx (uix0 W.u65) (j_lst (ja_cons (j_bin uop_add (j_slice (tl := none) (th := (some (wVar 2))) (k_var W 1 (by decide +kernel)) trivial (k_var W 2 (by decide +kernel))) (j_slice (tl := (some (wBin uAdd (wVar 2) (wC (.int 1))))) (th := none) (k_var W 1 (by decide +kernel)) (j_bin uop_add (k_var W 2 (by decide +kernel)) j_int) trivial)) (ja_cons (j_bin uop_add (j_slice (tl := none) (th := (some (wBin uAdd (wVar 2) (wC (.int 1))))) (k_var W 1 (by decide +kernel)) trivial (j_bin uop_add (k_var W 2 (by decide +kernel)) j_int)) (j_slice (tl := (some (wVar 2))) (th := none) (k_var W 1 (by decide +kernel)) (k_var W 2 (by decide +kernel)) trivial)) (ja_cons (j_bin uop_add (j_slice (tl := none) (th := (some (wVar 2))) (k_var W 1 (by decide +kernel)) trivial (k_var W 2 (by decide +kernel))) (j_back (j_slice (tl := (some (wVar 2))) (th := none) (k_var W 1 (by decide +kernel)) (k_var W 2 (by decide +kernel)) trivial))) ja_nil rfl) rfl) rfl)) (k_var W 3 (by decide +kernel)) (fun _ _ => rfl)))
 jss_nil)
 jss_nil)
 (jss_cons (js_ret (j_bin uop_add (j_bin uop_add (j_slice (tl := none) (th := (some (wVar 2))) (k_var W 1 (by decide +kernel)) trivial (k_var W 2 (by decide +kernel))) (j_tup (ja_cons (k_call W hc F__law_bent hk__law_bent tk (by decide +kernel) (ja_cons (k_var W 0 (by decide +kernel)) (ja_cons (j_idx (uix0 W.u65) (k_var W 1 (by decide +kernel)) (k_var W 2 (by decide +kernel)) (fun _ _ => rfl)) ja_nil rfl) rfl) rfl rfl) ja_nil rfl))) (j_slice (tl := (some (wBin uAdd (wVar 2) (wC (.int 1))))) (th := none) (k_var W 1 (by decide +kernel)) (j_bin uop_add (k_var W 2 (by decide +kernel)) j_int) trivial)))
 jss_nil)))
 jss_nil)
 (jss_cons (js_if (jt_of (jw_and (jt_truth (k_call W hc F__law_is_whole hk__law_is_whole tk (by decide +kernel) (ja_cons (k_var W 1 (by decide +kernel)) ja_nil rfl) rfl rfl) (fun _ => rfl)) (jw_and1 (jt_cmp uop_gt (k_call W hc F__law_take hk__law_take tk (by decide +kernel) (ja_cons (k_var W 0 (by decide +kernel)) (ja_cons j_int ja_nil rfl) rfl) rfl rfl) j_int rfl)))) (jss_cons (js_ret (j_bin uop_add (k_var W 1 (by decide +kernel)) (k_call W hc F__law_pick hk__law_pick tk (by decide +kernel) (ja_cons (k_var W 0 (by decide +kernel)) (ja_cons (j_lst (ja_cons j_int (ja_cons (j_un uun_neg j_int) (ja_cons j_int (ja_cons (j_un uun_neg (k_var W 1 (by decide +kernel))) (ja_cons (j_bin uop_pow j_int j_int) (ja_cons (j_un uun_neg j_int) ja_nil rfl) rfl) rfl) rfl) rfl) rfl)) ja_nil rfl) rfl) rfl rfl)))
 jss_nil)
 jss_nil)
 (jss_cons (js_if (jt_of (jw_and (jt_truth (k_callB W ucal_isi (t.free "isinstance" (by decide +kernel)) (by decide +kernel) boot_fn_isinstance (by decide +kernel) (ja_cons (k_var W 1 (by decide +kernel)) (ja_cons (k_ty W (t.free "str" (by decide +kernel)) (by decide +kernel) boot_ty_str (by decide +kernel)) ja_nil rfl) rfl) rfl rfl) (fun _ => rfl)) (jw_and1 (jt_cmp uop_gt (k_call W hc F__law_take hk__law_take tk (by decide +kernel) (ja_cons (k_var W 0 (by decide +kernel)) (ja_cons j_int ja_nil rfl) rfl) rfl rfl) j_int rfl)))) (jss_cons (js_ret (k_call W hc F__law_pick hk__law_pick tk (by decide +kernel) (ja_cons (k_var W 0 (by decide +kernel)) (ja_cons (j_lst (ja_cons (j_bin uop_add (k_var W 1 (by decide +kernel)) j_str) (ja_cons (j_slice (tl := (some (wC (.int 1)))) (th := none) (k_var W 1 (by decide +kernel)) j_int trivial) (ja_cons (j_bin uop_add (k_var W 1 (by decide +kernel)) j_str) (ja_cons j_str (ja_cons j_str (ja_cons j_str (ja_cons j_str (ja_cons j_str (ja_cons j_str (ja_cons j_str (ja_cons j_str (ja_cons j_str (ja_cons j_str ja_nil rfl) rfl) rfl) rfl) rfl) rfl) rfl) rfl) rfl) rfl) rfl) rfl) rfl)) ja_nil rfl) rfl) rfl rfl))
 jss_nil)
 jss_nil)
 (jss_cons (js_ret (k_call W hc F__law_pick hk__law_pick tk (by decide +kernel) (ja_cons (k_var W 0 (by decide +kernel)) (ja_cons (j_lst (ja_cons j_non (ja_cons (j_tup ja_nil) (ja_cons (j_lst ja_nil) (ja_cons j_bl (ja_cons j_str (ja_cons j_int (ja_cons (j_un uun_neg j_int) (ja_cons (j_tup (ja_cons (k_var W 1 (by decide +kernel)) ja_nil rfl)) (ja_cons (j_lst (ja_cons j_str ja_nil rfl)) (ja_cons j_dict0 (ja_cons (j_pur (j_tup (ja_cons j_str (ja_cons (j_tup ja_nil) ja_nil rfl) rfl)) (pur_tup (purA_cons pur_c (purA_cons (pur_tup purA_nil (by decide)) purA_nil)) (by decide))) (ja_cons (j_tup (ja_cons j_str (ja_cons j_str ja_nil rfl) rfl)) (ja_cons (j_if (jt_truth (k_callB W ucal_isi (t.free "isinstance" (by decide +kernel)) (by decide +kernel) boot_fn_isinstance (by decide +kernel) (ja_cons (k_var W 1 (by decide +kernel)) (ja_cons (k_ty W (t.free "tuple" (by decide +kernel)) (by decide +kernel) boot_ty_tuple (by decide +kernel)) ja_nil rfl) rfl) rfl rfl) (fun _ => rfl)) (k_callTy W ucal_list (t.free "list" (by decide +kernel)) (by decide +kernel) boot_ty_list (by decide +kernel) (ja_cons (k_var W 1 (by decide +kernel)) ja_nil rfl) rfl rfl) j_bl) ja_nil rfl) rfl) rfl) rfl) rfl) rfl) rfl) rfl) rfl) rfl) rfl) rfl) rfl)) ja_nil rfl) rfl) rfl rfl))
 jss_nil))))
theorem bd__law_bent (kV doc pm : Value) (an : Option Addr) (cdv ct : Value) (us : List Value) (hl : us.length = ps__law_bent.length) : bindArgs (PySem.W.fnOf "_law_bent" "_law_bent" (defArgs st__law_bent) (defBody st__law_bent) (defScope st__law_bent) .none kV doc pm an cdv ct) ⟨us, []⟩ = pure (ps__law_bent.zip us) := match us, hl with | [_, _], _ => rfl
/-! ### _law_is_deed -/
def N__law_is_deed : List Str := ["label", "value"]
def ps__law_is_deed : List Str := ["label", "value"]
theorem sc__law_is_deed : FnScope N__law_is_deed ps__law_is_deed (defScope st__law_is_deed) := ⟨rfl, rfl, rfl, by decide +kernel, rfl, by decide +kernel, by decide +kernel⟩
def w__law_is_deed (sp__law_is_tag : USp) (sp__law_is_kind : USp) : UXK → WS := fun E =>
 (wSeq (wIfS (wOrT (wNotT (wTr (wCB uIsi (wCons (wVar 1) (wCons (wC (.ty "tuple")) wNil))))) (wOrT (wB (wBin uEq (wVar 1) (wTup wNil))) (wNotT (wTr (wCB uIsi (wCons (wBin uIdx0 (wVar 1) (wC (.int 0))) (wCons (wC (.ty "str")) wNil))))))) (wSeq (wRet (wC (.bl false)))
 wNext)
 wNext)
 (wSeq (wIfS (wAndT (wB (wBin uEq (wBin uIdx0 (wVar 1) (wC (.int 0))) (wC (.str "keep")))) (wB (wBin uEq (wCB uLen (wCons (wVar 1) wNil)) (wC (.int 2))))) (wSeq (wIfS (wTr (wCall sp__law_is_tag (fun ux _ M => E ux M) (wCons (wVar 0) wNil))) (wSeq (wRet (wCall sp__law_is_tag (fun ux _ M => E ux M) (wCons (wBin uIdx0 (wVar 1) (wC (.int 1))) wNil)))
 wNext)
 wNext)
 (wSeq (wRet (wAnd (wCall sp__law_is_kind (fun ux _ M => E ux M) (wCons (wBin uIdx0 (wVar 1) (wC (.int 1))) wNil)) (wNot (wAnd (wBin uEq (wSl (wVar 0) none (some (wC (.int 5)))) (wC (.str "$text"))) (wBin uEq (wSl (wBin uIdx0 (wVar 1) (wC (.int 1))) none (some (wC (.int 4)))) (wC (.str "$int")))))))
 wNext))
 wNext)
 (wSeq (wRet (wAnd (wBin uEq (wCB uLen (wCons (wVar 1) wNil)) (wC (.int 1))) (wOr (wBin uEq (wBin uIdx0 (wVar 1) (wC (.int 0))) (wC (.str "drop"))) (wAnd (wBin uEq (wBin uIdx0 (wVar 1) (wC (.int 0))) (wC (.str "open"))) (wCall sp__law_is_tag (fun ux _ M => E ux M) (wCons (wVar 0) wNil))))))
 wNext)))
theorem jj__law_is_deed (t : Txt tx w K mg) {k__law_is_tag : Nat} {sp__law_is_tag : USp} (F__law_is_tag : FnV P w K mg base k__law_is_tag "_law_is_tag" st__law_is_tag ps__law_is_tag sp__law_is_tag) (hk__law_is_tag : k__law_is_tag ≤ k) {k__law_is_kind : Nat} {sp__law_is_kind : USp} (F__law_is_kind : FnV P w K mg base k__law_is_kind "_law_is_kind" st__law_is_kind ps__law_is_kind sp__law_is_kind) (hk__law_is_kind : k__law_is_kind ≤ k) (X : Cx) (g : Gd) (E : UXK) (D : DefX P w K mg base k N__law_is_deed (defScope st__law_is_deed) X) (tk : Takes X (Wof X g fun ux _ M => E ux M)) : JSs X g (defBody st__law_is_deed) (w__law_is_deed sp__law_is_tag sp__law_is_kind E) :=
 have W := D.wk sc__law_is_deed.nd; have hc := D.calm
 (jss_cons (js_if (jt_of (jw_or (jt_not (jt_truth (k_callB W ucal_isi (t.free "isinstance" (by decide +kernel)) (by decide +kernel) boot_fn_isinstance (by decide +kernel) (ja_cons (k_var W 1 (by decide +kernel)) (ja_cons (k_ty W (t.free "tuple" (by decide +kernel)) (by decide +kernel) boot_ty_tuple (by decide +kernel)) ja_nil rfl) rfl) rfl rfl) (fun _ => rfl))) (jw_or (jt_cmp (uop_eq W.u64) (k_var W 1 (by decide +kernel)) (j_tup ja_nil) rfl) (jw_or1 (jt_not (jt_truth (k_callB W ucal_isi (t.free "isinstance" (by decide +kernel)) (by decide +kernel) boot_fn_isinstance (by decide +kernel) (ja_cons (j_idx (uix0 W.u65) (k_var W 1 (by decide +kernel)) j_int (fun _ _ => rfl)) (ja_cons (k_ty W (t.free "str" (by decide +kernel)) (by decide +kernel) boot_ty_str (by decide +kernel)) ja_nil rfl) rfl) rfl rfl) (fun _ => rfl))))))) (jss_cons (js_ret j_bl)
 jss_nil)
 jss_nil)
 (jss_cons (js_if (jt_of (jw_and (jt_cmp (uop_eq W.u64) (j_idx (uix0 W.u65) (k_var W 1 (by decide +kernel)) j_int (fun _ _ => rfl)) j_str rfl) (jw_and1 (jt_cmp (uop_eq W.u64) (k_callB W ucal_len (t.free "len" (by decide +kernel)) (by decide +kernel) boot_fn_len (by decide +kernel) (ja_cons (k_var W 1 (by decide +kernel)) ja_nil rfl) rfl rfl) j_int rfl)))) (jss_cons (js_if (jt_truth (k_call W hc F__law_is_tag hk__law_is_tag tk (by decide +kernel) (ja_cons (k_var W 0 (by decide +kernel)) ja_nil rfl) rfl rfl) (fun _ => rfl)) (jss_cons (js_ret (k_call W hc F__law_is_tag hk__law_is_tag tk (by decide +kernel) (ja_cons (j_idx (uix0 W.u65) (k_var W 1 (by decide +kernel)) j_int (fun _ _ => rfl)) ja_nil rfl) rfl rfl))
 jss_nil)
 jss_nil)
 (jss_cons (js_ret (j_and (k_call W hc F__law_is_kind hk__law_is_kind tk (by decide +kernel) (ja_cons (j_idx (uix0 W.u65) (k_var W 1 (by decide +kernel)) j_int (fun _ _ => rfl)) ja_nil rfl) rfl rfl) (j_one (j_not (j_and (j_cmp (uop_eq W.u64) (j_slice (tl := none) (th := (some (wC (.int 5)))) (k_var W 0 (by decide +kernel)) trivial j_int) j_str rfl) (j_one (j_cmp (uop_eq W.u64) (j_slice (tl := none) (th := (some (wC (.int 4)))) (j_idx (uix0 W.u65) (k_var W 1 (by decide +kernel)) j_int (fun _ _ => rfl)) trivial j_int) j_str rfl)))))))
 jss_nil))
 jss_nil)
 (jss_cons (js_ret (j_and (j_cmp (uop_eq W.u64) (k_callB W ucal_len (t.free "len" (by decide +kernel)) (by decide +kernel) boot_fn_len (by decide +kernel) (ja_cons (k_var W 1 (by decide +kernel)) ja_nil rfl) rfl rfl) j_int rfl) (j_one (j_or (j_cmp (uop_eq W.u64) (j_idx (uix0 W.u65) (k_var W 1 (by decide +kernel)) j_int (fun _ _ => rfl)) j_str rfl) (j_one (j_and (j_cmp (uop_eq W.u64) (j_idx (uix0 W.u65) (k_var W 1 (by decide +kernel)) j_int (fun _ _ => rfl)) j_str rfl) (j_one (k_call W hc F__law_is_tag hk__law_is_tag tk (by decide +kernel) (ja_cons (k_var W 0 (by decide +kernel)) ja_nil rfl) rfl rfl))))))))
 jss_nil)))
theorem bd__law_is_deed (kV doc pm : Value) (an : Option Addr) (cdv ct : Value) (us : List Value) (hl : us.length = ps__law_is_deed.length) : bindArgs (PySem.W.fnOf "_law_is_deed" "_law_is_deed" (defArgs st__law_is_deed) (defBody st__law_is_deed) (defScope st__law_is_deed) .none kV doc pm an cdv ct) ⟨us, []⟩ = pure (ps__law_is_deed.zip us) := match us, hl with | [_, _], _ => rfl
/-! ### _law_is_migration -/
def N__law_is_migration : List Str := ["value", "k", "part", "label", "deed"]
def ps__law_is_migration : List Str := ["value"]
theorem sc__law_is_migration : FnScope N__law_is_migration ps__law_is_migration (defScope st__law_is_migration) := ⟨rfl, rfl, rfl, by decide +kernel, rfl, by decide +kernel, by decide +kernel⟩
def w__law_is_migration (sp__law_is_tag : USp) (sp__law_is_kind : USp) (sp__law_is_deed : USp) : UXK → WS := fun E =>
 (wSeq (wIfS (wOrT (wNotT (wTr (wCB uIsi (wCons (wVar 0) (wCons (wC (.ty "tuple")) wNil))))) (wNotT (wTr (wCB uAll (wCons (wComp false (wIt (wVar 0)) (wName 2) wYes (wAnd (wCB uIsi (wCons (wVar 2) (wCons (wC (.ty "tuple")) wNil))) (wAnd (wBin uEq (wCB uLen (wCons (wVar 2) wNil)) (wC (.int 2))) (wOr (wCall sp__law_is_tag (fun _ _ _ => False) (wCons (wBin uIdx0 (wVar 2) (wC (.int 0))) wNil)) (wCall sp__law_is_kind (fun _ _ _ => False) (wCons (wBin uIdx0 (wVar 2) (wC (.int 0))) wNil))))) [2]) wNil))))) (wSeq (wRet (wC (.bl false)))
 wNext)
 wNext)
 (wSeq (wIfS (wNotT (wTr (wCB uAll (wCons (wComp false (wIt (wVar 0)) (wGtup 2 (wGcons (wName 3) (wGcons (wName 4) wGnil))) wYes (wCall sp__law_is_deed (fun _ _ _ => False) (wCons (wVar 3) (wCons (wVar 4) wNil))) [3, 4]) wNil)))) (wSeq (wRet (wC (.bl false)))
 wNext)
 wNext)
 (wSeq (wRet (wCB uAll (wCons (wComp false (wRng1 (wCons (wBin uSub (wCB uLen (wCons (wVar 0) wNil)) (wC (.int 1))) wNil)) (wName 1) wYes (wBin uLt (wBin uIdx0 (wBin uIdx0 (wVar 0) (wVar 1)) (wC (.int 0))) (wBin uIdx0 (wBin uIdx0 (wVar 0) (wBin uAdd (wVar 1) (wC (.int 1)))) (wC (.int 0)))) [1]) wNil)))
 wNext)))
theorem jj__law_is_migration (t : Txt tx w K mg) {k__law_is_tag : Nat} {sp__law_is_tag : USp} (F__law_is_tag : FnV P w K mg base k__law_is_tag "_law_is_tag" st__law_is_tag ps__law_is_tag sp__law_is_tag) (hk__law_is_tag : k__law_is_tag ≤ k) {k__law_is_kind : Nat} {sp__law_is_kind : USp} (F__law_is_kind : FnV P w K mg base k__law_is_kind "_law_is_kind" st__law_is_kind ps__law_is_kind sp__law_is_kind) (hk__law_is_kind : k__law_is_kind ≤ k) {k__law_is_deed : Nat} {sp__law_is_deed : USp} (F__law_is_deed : FnV P w K mg base k__law_is_deed "_law_is_deed" st__law_is_deed ps__law_is_deed sp__law_is_deed) (hk__law_is_deed : k__law_is_deed ≤ k) (X : Cx) (g : Gd) (E : UXK) (D : DefX P w K mg base k N__law_is_migration (defScope st__law_is_migration) X) (tk : Takes X (Wof X g fun ux _ M => E ux M)) : JSs X g (defBody st__law_is_migration) (w__law_is_migration sp__law_is_tag sp__law_is_kind sp__law_is_deed E) :=
 have W := D.wk sc__law_is_migration.nd; have hc := D.calm
 (jss_cons (js_if (jt_of (jw_or (jt_not (jt_truth (k_callB W ucal_isi (t.free "isinstance" (by decide +kernel)) (by decide +kernel) boot_fn_isinstance (by decide +kernel) (ja_cons (k_var W 0 (by decide +kernel)) (ja_cons (k_ty W (t.free "tuple" (by decide +kernel)) (by decide +kernel) boot_ty_tuple (by decide +kernel)) ja_nil rfl) rfl) rfl rfl) (fun _ => rfl))) (jw_or1 (jt_not (jt_truth (k_callB W (ucal_all hc) (t.free "all" (by decide +kernel)) (by decide +kernel) boot_fn_all (by decide +kernel) (ja_cons (k_comp W hc false [("part", 2)] (by decide +kernel) (ji_it (k_var W 0 (by decide +kernel))) (fun Y1 W1 hc1 => ⟨(k_nameo W1 [2] 2 (by decide +kernel) (by decide)), jts_nil, (j_and (k_callB W1 ucal_isi (t.free "isinstance" (by decide +kernel)) (by decide +kernel) boot_fn_isinstance (by decide +kernel) (ja_cons (k_var W1 2 (by decide +kernel)) (ja_cons (k_ty W1 (t.free "tuple" (by decide +kernel)) (by decide +kernel) boot_ty_tuple (by decide +kernel)) ja_nil rfl) rfl) rfl rfl) (j_and (j_cmp (uop_eq W1.u64) (k_callB W1 ucal_len (t.free "len" (by decide +kernel)) (by decide +kernel) boot_fn_len (by decide +kernel) (ja_cons (k_var W1 2 (by decide +kernel)) ja_nil rfl) rfl rfl) j_int rfl) (j_one (j_or (k_call W1 hc1 F__law_is_tag hk__law_is_tag takes_no (by decide +kernel) (ja_cons (j_idx (uix0 W1.u65) (k_var W1 2 (by decide +kernel)) j_int (fun _ _ => rfl)) ja_nil rfl) rfl rfl) (j_one (k_call W1 hc1 F__law_is_kind hk__law_is_kind takes_no (by decide +kernel) (ja_cons (j_idx (uix0 W1.u65) (k_var W1 2 (by decide +kernel)) j_int (fun _ _ => rfl)) ja_nil rfl) rfl rfl))))))⟩) (fun _ => rfl)) ja_nil rfl) rfl rfl) (fun _ => rfl)))))) (jss_cons (js_ret j_bl)
 jss_nil)
 jss_nil)
 (jss_cons (js_if (jt_not (jt_truth (k_callB W (ucal_all hc) (t.free "all" (by decide +kernel)) (by decide +kernel) boot_fn_all (by decide +kernel) (ja_cons (k_comp W hc false [("label", 3), ("deed", 4)] (by decide +kernel) (ji_it (k_var W 0 (by decide +kernel))) (fun Y1 W1 hc1 => ⟨(jgo_tup hc1 (jgso_cons (k_nameo W1 [3, 4] 3 (by decide +kernel) (by decide)) (jgso_cons (k_nameo W1 [3, 4] 4 (by decide +kernel) (by decide)) jgso_nil rfl) rfl) rfl rfl), jts_nil, (k_call W1 hc1 F__law_is_deed hk__law_is_deed takes_no (by decide +kernel) (ja_cons (k_var W1 3 (by decide +kernel)) (ja_cons (k_var W1 4 (by decide +kernel)) ja_nil rfl) rfl) rfl rfl)⟩) (fun _ => rfl)) ja_nil rfl) rfl rfl) (fun _ => rfl))) (jss_cons (js_ret j_bl)
 jss_nil)
 jss_nil)
 (jss_cons (js_ret (k_callB W (ucal_all hc) (t.free "all" (by decide +kernel)) (by decide +kernel) boot_fn_all (by decide +kernel) (ja_cons (k_comp W hc false [("k", 1)] (by decide +kernel) (k_range1 W (t.free "range" (by decide +kernel)) (by decide +kernel) (ja_cons (j_bin uop_sub (k_callB W ucal_len (t.free "len" (by decide +kernel)) (by decide +kernel) boot_fn_len (by decide +kernel) (ja_cons (k_var W 0 (by decide +kernel)) ja_nil rfl) rfl rfl) j_int) ja_nil rfl) rfl) (fun Y1 W1 hc1 => ⟨(k_nameo W1 [1] 1 (by decide +kernel) (by decide)), jts_nil, (j_cmp (uop_lt W1.u64) (j_idx (uix0 W1.u65) (j_idx (uix0 W1.u65) (k_var W1 0 (by decide +kernel)) (k_var W1 1 (by decide +kernel)) (fun _ _ => rfl)) j_int (fun _ _ => rfl)) (j_idx (uix0 W1.u65) (j_idx (uix0 W1.u65) (k_var W1 0 (by decide +kernel)) (j_bin uop_add (k_var W1 1 (by decide +kernel)) j_int) (fun _ _ => rfl)) j_int (fun _ _ => rfl)) rfl)⟩) (fun _ => rfl)) ja_nil rfl) rfl rfl))
 jss_nil)))
theorem bd__law_is_migration (kV doc pm : Value) (an : Option Addr) (cdv ct : Value) (us : List Value) (hl : us.length = ps__law_is_migration.length) : bindArgs (PySem.W.fnOf "_law_is_migration" "_law_is_migration" (defArgs st__law_is_migration) (defBody st__law_is_migration) (defScope st__law_is_migration) .none kV doc pm an cdv ct) ⟨us, []⟩ = pure (ps__law_is_migration.zip us) := match us, hl with | [_], _ => rfl
/-! ### _law_deed -/
def N__law_deed : List Str := ["migration", "label", "found", "one", "deed"]
def ps__law_deed : List Str := ["migration", "label"]
theorem sc__law_deed : FnScope N__law_deed ps__law_deed (defScope st__law_deed) := ⟨rfl, rfl, rfl, by decide +kernel, rfl, by decide +kernel, by decide +kernel⟩
def w__law_deed : UXK → WS := fun E =>
 (wSeq (wSet 2 (wComp false (wIt (wVar 0)) (wGtup 2 (wGcons (wName 3) (wGcons (wName 4) wGnil))) (wB (wBin uEq (wVar 3) (wVar 1))) (wVar 4) [3, 4]))
 (wSeq (wRet (wIf (wB (wBin uNe (wVar 2) (wLst wNil))) (wBin uIdx0 (wVar 2) (wC (.int 0))) (wTup (wCons (wC (.str "keep")) (wCons (wVar 1) wNil)))))
 wNext))
theorem jj__law_deed (t : Txt tx w K mg) (X : Cx) (g : Gd) (E : UXK) (D : DefX P w K mg base k N__law_deed (defScope st__law_deed) X) (tk : Takes X (Wof X g fun ux _ M => E ux M)) : JSs X g (defBody st__law_deed) (w__law_deed E) :=
 have W := D.wk sc__law_deed.nd; have hc := D.calm
 (jss_cons (k_setComp W hc (by rw [D.sc]; rfl) false 2 [("one", 3), ("deed", 4)] (by decide +kernel) (by decide +kernel) (by decide +kernel) (ji_it (k_var W 0 (by decide +kernel))) (fun Y1 W1 hc1 => ⟨(jgo_tup hc1 (jgso_cons (k_nameo W1 [3, 4] 3 (by decide +kernel) (by decide)) (jgso_cons (k_nameo W1 [3, 4] 4 (by decide +kernel) (by decide)) jgso_nil rfl) rfl) rfl rfl), (jts_one (jt_cmp (uop_eq W1.u64) (k_var W1 3 (by decide +kernel)) (k_var W1 1 (by decide +kernel)) rfl)), (k_var W1 4 (by decide +kernel))⟩) (fun _ => rfl))
 (jss_cons (js_ret (j_if (jt_cmp (uop_ne W.u64) (k_var W 2 (by decide +kernel)) (j_lst ja_nil) rfl) (j_idx (uix0 W.u65) (k_var W 2 (by decide +kernel)) j_int (fun _ _ => rfl)) (j_tup (ja_cons j_str (ja_cons (k_var W 1 (by decide +kernel)) ja_nil rfl) rfl))))
 jss_nil))
theorem bd__law_deed (kV doc pm : Value) (an : Option Addr) (cdv ct : Value) (us : List Value) (hl : us.length = ps__law_deed.length) : bindArgs (PySem.W.fnOf "_law_deed" "_law_deed" (defArgs st__law_deed) (defBody st__law_deed) (defScope st__law_deed) .none kV doc pm an cdv ct) ⟨us, []⟩ = pure (ps__law_deed.zip us) := match us, hl with | [_, _], _ => rfl
/-! ### _law_forest -/
def N__law_forest : List Str := ["migration", "part", "one", "deed", "inner"]
def ps__law_forest : List Str := ["migration", "part"]
theorem sc__law_forest : FnScope N__law_forest ps__law_forest (defScope st__law_forest) := ⟨rfl, rfl, rfl, by decide +kernel, rfl, by decide +kernel, by decide +kernel⟩
def w__law_forest (sp__law_deed : USp) (sp__law_forest : USp) : UXK → WS := fun E =>
 (wSeq (wPar 3 4 (wCons (wCall sp__law_deed (fun ux _ M => E ux M) (wCons (wVar 0) (wCons (wBin uIdx0 (wVar 1) (wC (.int 0))) wNil))) (wCons (wTup wNil) wNil)))
 (wSeq (wIfS (wB (wBin uEq (wBin uIdx0 (wVar 3) (wC (.int 0))) (wC (.str "drop")))) (wSeq (wRet (wTup wNil))
 wNext)
 wNext)
 (wSeq (wIfS (wB (wBin uEq (wSl (wBin uIdx0 (wVar 1) (wC (.int 0))) none (some (wC (.int 1)))) (wC (.str "$")))) (wSeq (wRet (wTup (wCons (wTup (wCons (wBin uIdx0 (wVar 3) (wC (.int 1))) (wCons (wBin uIdx0 (wVar 1) (wC (.int 1))) wNil))) wNil)))
 wNext)
 wNext)
 (wSeq (wFor (wIt (wBin uIdx0 (wVar 1) (wC (.int 1)))) (wName 2)
 (wSeq (wSet 4 (wBin uAdd (wVar 4) (wCall sp__law_forest (fun ux _ M => E ux M) (wCons (wVar 0) (wCons (wVar 2) wNil)))))
 wNext))
 (wSeq (wRet (wIf (wB (wBin uEq (wBin uIdx0 (wVar 3) (wC (.int 0))) (wC (.str "open")))) (wVar 4) (wTup (wCons (wTup (wCons (wBin uIdx0 (wVar 3) (wC (.int 1))) (wCons (wVar 4) wNil))) wNil))))
 wNext)))))
theorem jj__law_forest (t : Txt tx w K mg) {k__law_deed : Nat} {sp__law_deed : USp} (F__law_deed : FnV P w K mg base k__law_deed "_law_deed" st__law_deed ps__law_deed sp__law_deed) (hk__law_deed : k__law_deed ≤ k) {k__law_forest : Nat} {sp__law_forest : USp} (F__law_forest : FnV P w K mg base k__law_forest "_law_forest" st__law_forest ps__law_forest sp__law_forest) (hk__law_forest : k__law_forest ≤ k) (X : Cx) (g : Gd) (E : UXK) (D : DefX P w K mg base k N__law_forest (defScope st__law_forest) X) (tk : Takes X (Wof X g fun ux _ M => E ux M)) : JSs X g (defBody st__law_forest) (w__law_forest sp__law_deed sp__law_forest E) :=
 have W := D.wk sc__law_forest.nd; have hc := D.calm
 (jss_cons (k_par D sc__law_forest.nd 3 4 (by decide +kernel) (ja_cons (k_call W hc F__law_deed hk__law_deed tk (by decide +kernel) (ja_cons (k_var W 0 (by decide +kernel)) (ja_cons (j_idx (uix0 W.u65) (k_var W 1 (by decide +kernel)) j_int (fun _ _ => rfl)) ja_nil rfl) rfl) rfl rfl) (ja_cons (j_tup ja_nil) ja_nil rfl) rfl) (by kernel_rfl) rfl)
 (jss_cons (js_if (jt_cmp (uop_eq W.u64) (j_idx (uix0 W.u65) (k_var W 3 (by decide +kernel)) j_int (fun _ _ => rfl)) j_str rfl) (jss_cons (js_ret (j_tup ja_nil))
 jss_nil)
 jss_nil)
 (jss_cons (js_if (jt_cmp (uop_eq W.u64) (j_slice (tl := none) (th := (some (wC (.int 1)))) (j_idx (uix0 W.u65) (k_var W 1 (by decide +kernel)) j_int (fun _ _ => rfl)) trivial j_int) j_str rfl) (jss_cons (js_ret (j_tup (ja_cons (j_tup (ja_cons (j_idx (uix0 W.u65) (k_var W 3 (by decide +kernel)) j_int (fun _ _ => rfl)) (ja_cons (j_idx (uix0 W.u65) (k_var W 1 (by decide +kernel)) j_int (fun _ _ => rfl)) ja_nil rfl) rfl)) ja_nil rfl)))
 jss_nil)
 jss_nil)
 (jss_cons (js_for D.pass hc (ji_it (j_idx (uix0 W.u65) (k_var W 1 (by decide +kernel)) j_int (fun _ _ => rfl))) (k_name W 2 (by decide +kernel)) (jss_cons (k_set W 4 (by decide +kernel) (j_bin uop_add (k_var W 4 (by decide +kernel)) (k_call W hc F__law_forest hk__law_forest tk (by decide +kernel) (ja_cons (k_var W 0 (by decide +kernel)) (ja_cons (k_var W 2 (by decide +kernel)) ja_nil rfl) rfl) rfl rfl)) rfl)
 jss_nil) (fun _ => rfl))
 (jss_cons (js_ret (j_if (jt_cmp (uop_eq W.u64) (j_idx (uix0 W.u65) (k_var W 3 (by decide +kernel)) j_int (fun _ _ => rfl)) j_str rfl) (k_var W 4 (by decide +kernel)) (j_tup (ja_cons (j_tup (ja_cons (j_idx (uix0 W.u65) (k_var W 3 (by decide +kernel)) j_int (fun _ _ => rfl)) (ja_cons (k_var W 4 (by decide +kernel)) ja_nil rfl) rfl)) ja_nil rfl))))
 jss_nil)))))
theorem bd__law_forest (kV doc pm : Value) (an : Option Addr) (cdv ct : Value) (us : List Value) (hl : us.length = ps__law_forest.length) : bindArgs (PySem.W.fnOf "_law_forest" "_law_forest" (defArgs st__law_forest) (defBody st__law_forest) (defScope st__law_forest) .none kV doc pm an cdv ct) ⟨us, []⟩ = pure (ps__law_forest.zip us) := match us, hl with | [_, _], _ => rfl
/-! ### _law_migrated -/
def N__law_migrated : List Str := ["migration", "document"]
def ps__law_migrated : List Str := ["migration", "document"]
theorem sc__law_migrated : FnScope N__law_migrated ps__law_migrated (defScope st__law_migrated) := ⟨rfl, rfl, rfl, by decide +kernel, rfl, by decide +kernel, by decide +kernel⟩
def w__law_migrated (sp__law_deed : USp) (sp__law_forest : USp) : UXK → WS := fun E =>
 (wSeq (wRet (wIf (wB (wBin uEq (wBin uIdx0 (wCall sp__law_deed (fun ux _ M => E ux M) (wCons (wVar 0) (wCons (wBin uIdx0 (wVar 1) (wC (.int 0))) wNil))) (wC (.int 0))) (wC (.str "keep")))) (wBin uIdx0 (wCall sp__law_forest (fun ux _ M => E ux M) (wCons (wVar 0) (wCons (wVar 1) wNil))) (wC (.int 0))) (wC .non)))
 wNext)
theorem jj__law_migrated (t : Txt tx w K mg) {k__law_deed : Nat} {sp__law_deed : USp} (F__law_deed : FnV P w K mg base k__law_deed "_law_deed" st__law_deed ps__law_deed sp__law_deed) (hk__law_deed : k__law_deed ≤ k) {k__law_forest : Nat} {sp__law_forest : USp} (F__law_forest : FnV P w K mg base k__law_forest "_law_forest" st__law_forest ps__law_forest sp__law_forest) (hk__law_forest : k__law_forest ≤ k) (X : Cx) (g : Gd) (E : UXK) (D : DefX P w K mg base k N__law_migrated (defScope st__law_migrated) X) (tk : Takes X (Wof X g fun ux _ M => E ux M)) : JSs X g (defBody st__law_migrated) (w__law_migrated sp__law_deed sp__law_forest E) :=
 have W := D.wk sc__law_migrated.nd; have hc := D.calm
 (jss_cons (js_ret (j_if (jt_cmp (uop_eq W.u64) (j_idx (uix0 W.u65) (k_call W hc F__law_deed hk__law_deed tk (by decide +kernel) (ja_cons (k_var W 0 (by decide +kernel)) (ja_cons (j_idx (uix0 W.u65) (k_var W 1 (by decide +kernel)) j_int (fun _ _ => rfl)) ja_nil rfl) rfl) rfl rfl) j_int (fun _ _ => rfl)) j_str rfl) (j_idx (uix0 W.u65) (k_call W hc F__law_forest hk__law_forest tk (by decide +kernel) (ja_cons (k_var W 0 (by decide +kernel)) (ja_cons (k_var W 1 (by decide +kernel)) ja_nil rfl) rfl) rfl rfl) j_int (fun _ _ => rfl)) j_non))
 jss_nil)
theorem bd__law_migrated (kV doc pm : Value) (an : Option Addr) (cdv ct : Value) (us : List Value) (hl : us.length = ps__law_migrated.length) : bindArgs (PySem.W.fnOf "_law_migrated" "_law_migrated" (defArgs st__law_migrated) (defBody st__law_migrated) (defScope st__law_migrated) .none kV doc pm an cdv ct) ⟨us, []⟩ = pure (ps__law_migrated.zip us) := match us, hl with | [_, _], _ => rfl
/-! ### _law_migration -/
def N__law_migration : List Str := ["draws", "labels", "words", "label", "found", "tags", "word"]
def ps__law_migration : List Str := ["draws", "labels", "words"]
theorem sc__law_migration : FnScope N__law_migration ps__law_migration (defScope st__law_migration) := ⟨rfl, rfl, rfl, by decide +kernel, rfl, by decide +kernel, by decide +kernel⟩
def w__law_migration (sp__law_pick : USp) (sp__law_take : USp) : UXK → WS := fun E =>
 (wSeq (wPar 4 5 (wCons (wLstH wNil) (wCons (wComp false (wIt (wVar 1)) (wName 3) (wB (wBin uNe (wSl (wVar 3) none (some (wC (.int 1)))) (wC (.str "$")))) (wVar 3) [3]) wNil)))
 (wSeq (wFor (wIt (wSortSetA (wVar 1))) (wName 3)
 (wSeq (wSet 6 (wCall sp__law_pick (fun ux _ M => E ux M) (wCons (wVar 0) (wCons (wVar 2) wNil))))
 (wSeq (wIfS (wB (wBin uGt (wCall sp__law_take (fun ux _ M => E ux M) (wCons (wVar 0) (wCons (wC (.int 3)) wNil))) (wC (.int 0)))) (wSeq (wIfS (wB (wBin uEq (wVar 6) (wC (.str "keep")))) (wSeq (wDrop (wBM "list" uAppend (wVar 4) (wCons (wTup (wCons (wVar 3) (wCons (wTup (wCons (wC (.str "keep")) (wCons (wIf (wB (wBin uNe (wSl (wVar 3) none (some (wC (.int 1)))) (wC (.str "$")))) (wCall sp__law_pick (fun ux _ M => E ux M) (wCons (wVar 0) (wCons (wVar 5) wNil))) (wIf (wB (wBin uEq (wCall sp__law_take (fun ux _ M => E ux M) (wCons (wVar 0) (wCons (wC (.int 2)) wNil))) (wC (.int 0)))) (wC (.str "$text")) (wVar 3))) wNil))) wNil))) wNil)))
 wNext)
 (wSeq (wDrop (wBM "list" uAppend (wVar 4) (wCons (wIf (wOrT (wB (wBin uEq (wVar 6) (wC (.str "drop")))) (wB (wBin uNe (wSl (wVar 3) none (some (wC (.int 1)))) (wC (.str "$"))))) (wTup (wCons (wVar 3) (wCons (wTup (wCons (wVar 6) wNil)) wNil))) (wTup (wCons (wVar 3) (wCons (wTup (wCons (wC (.str "drop")) wNil)) wNil)))) wNil)))
 wNext))
 wNext)
 wNext)
 wNext)))
 (wSeq (wRet (wCB uTuple (wCons (wVar 4) wNil)))
 wNext)))
theorem jj__law_migration (t : Txt tx w K mg) {k__law_pick : Nat} {sp__law_pick : USp} (F__law_pick : FnV P w K mg base k__law_pick "_law_pick" st__law_pick ps__law_pick sp__law_pick) (hk__law_pick : k__law_pick ≤ k) {k__law_take : Nat} {sp__law_take : USp} (F__law_take : FnV P w K mg base k__law_take "_law_take" st__law_take ps__law_take sp__law_take) (hk__law_take : k__law_take ≤ k) (X : Cx) (g : Gd) (E : UXK) (D : DefX P w K mg base k N__law_migration (defScope st__law_migration) X) (tk : Takes X (Wof X g fun ux _ M => E ux M)) : JSs X g (defBody st__law_migration) (w__law_migration sp__law_pick sp__law_take E) :=
 have W := D.wk sc__law_migration.nd; have hc := D.calm
 (jss_cons (k_par D sc__law_migration.nd 4 5 (by decide +kernel) (ja_cons (j_lstH ja_nil) (ja_cons (k_comp W hc false [("label", 3)] (by decide +kernel) (ji_it (k_var W 1 (by decide +kernel))) (fun Y1 W1 hc1 => ⟨(k_nameo W1 [3] 3 (by decide +kernel) (by decide)), (jts_one (jt_cmp (uop_ne W1.u64) (j_slice (tl := none) (th := (some (wC (.int 1)))) (k_var W1 3 (by decide +kernel)) trivial j_int) j_str rfl)), (k_var W1 3 (by decide +kernel))⟩) (fun _ => rfl)) ja_nil rfl) rfl) (by kernel_rfl) rfl)
 (jss_cons (js_for D.pass hc (ji_it (k_sortSetA W hc (t.free "sorted" (by decide +kernel)) (t.free "set" (by decide +kernel)) (by decide +kernel) (by decide +kernel) (k_var W 1 (by decide +kernel)) rfl rfl rfl rfl)) (k_name W 3 (by decide +kernel)) (jss_cons (k_set W 6 (by decide +kernel) (k_call W hc F__law_pick hk__law_pick tk (by decide +kernel) (ja_cons (k_var W 0 (by decide +kernel)) (ja_cons (k_var W 2 (by decide +kernel)) ja_nil rfl) rfl) rfl rfl) rfl)
 (jss_cons (js_if (jt_cmp uop_gt (k_call W hc F__law_take hk__law_take tk (by decide +kernel) (ja_cons (k_var W 0 (by decide +kernel)) (ja_cons j_int ja_nil rfl) rfl) rfl rfl) j_int rfl) (jss_cons (js_if (jt_cmp (uop_eq W.u64) (k_var W 6 (by decide +kernel)) j_str rfl) (jss_cons (js_expr (j_bm PySem.F.plainAttrs_list PySem.F.slot_list_append PySem.F.type_list_append umt_append (k_var W 4 (by decide +kernel)) (ja_cons (j_tup (ja_cons (k_var W 3 (by decide +kernel)) (ja_cons (j_tup (ja_cons j_str (ja_cons (j_if (jt_cmp (uop_ne W.u64) (j_slice (tl := none) (th := (some (wC (.int 1)))) (k_var W 3 (by decide +kernel)) trivial j_int) j_str rfl) (k_call W hc F__law_pick hk__law_pick tk (by decide +kernel) (ja_cons (k_var W 0 (by decide +kernel)) (ja_cons (k_var W 5 (by decide +kernel)) ja_nil rfl) rfl) rfl rfl) (j_if (jt_cmp (uop_eq W.u64) (k_call W hc F__law_take hk__law_take tk (by decide +kernel) (ja_cons (k_var W 0 (by decide +kernel)) (ja_cons j_int ja_nil rfl) rfl) rfl rfl) j_int rfl) j_str (k_var W 3 (by decide +kernel)))) ja_nil rfl) rfl)) ja_nil rfl) rfl)) ja_nil rfl) rfl rfl rfl rfl rfl) rfl)
 jss_nil)
 (jss_cons (js_expr (j_bm PySem.F.plainAttrs_list PySem.F.slot_list_append PySem.F.type_list_append umt_append (k_var W 4 (by decide +kernel)) (ja_cons (j_if (jt_of (jw_or (jt_cmp (uop_eq W.u64) (k_var W 6 (by decide +kernel)) j_str rfl) (jw_or1 (jt_cmp (uop_ne W.u64) (j_slice (tl := none) (th := (some (wC (.int 1)))) (k_var W 3 (by decide +kernel)) trivial j_int) j_str rfl)))) (j_tup (ja_cons (k_var W 3 (by decide +kernel)) (ja_cons (j_tup (ja_cons (k_var W 6 (by decide +kernel)) ja_nil rfl)) ja_nil rfl) rfl)) (j_tup (ja_cons (k_var W 3 (by decide +kernel)) (ja_cons (j_tup (ja_cons j_str ja_nil rfl)) ja_nil rfl) rfl))) ja_nil rfl) rfl rfl rfl rfl rfl) rfl)
 jss_nil))
 jss_nil)
 jss_nil)
 jss_nil)) (fun _ => rfl))
 (jss_cons (js_ret (k_callTy W ucal_tuple (t.free "tuple" (by decide +kernel)) (by decide +kernel) boot_ty_tuple (by decide +kernel) (ja_cons (k_var W 4 (by decide +kernel)) ja_nil rfl) rfl rfl))
 jss_nil)))
theorem bd__law_migration (kV doc pm : Value) (an : Option Addr) (cdv ct : Value) (us : List Value) (hl : us.length = ps__law_migration.length) : bindArgs (PySem.W.fnOf "_law_migration" "_law_migration" (defArgs st__law_migration) (defBody st__law_migration) (defScope st__law_migration) .none kV doc pm an cdv ct) ⟨us, []⟩ = pure (ps__law_migration.zip us) := match us, hl with | [_, _, _], _ => rfl
/-! ### _law_both_of -/
def N__law_both_of : List Str := ["migration", "other", "found", "label", "deed", "part"]
def ps__law_both_of : List Str := ["migration", "other"]
theorem sc__law_both_of : FnScope N__law_both_of ps__law_both_of (defScope st__law_both_of) := ⟨rfl, rfl, rfl, by decide +kernel, rfl, by decide +kernel, by decide +kernel⟩
def w__law_both_of (sp__law_deed : USp) : UXK → WS := fun E =>
 (wSeq (wSet 2 (wLstH wNil))
 (wSeq (wFor (wIt (wSortSetA (wComp false (wIt (wBin uAdd (wVar 0) (wVar 1))) (wName 5) wYes (wBin uIdx0 (wVar 5) (wC (.int 0))) [5]))) (wName 3)
 (wSeq (wSet 4 (wCall sp__law_deed (fun ux _ M => E ux M) (wCons (wVar 0) (wCons (wVar 3) wNil))))
 (wSeq (wIfS (wB (wBin uEq (wBin uIdx0 (wVar 4) (wC (.int 0))) (wC (.str "keep")))) (wSeq (wSet 4 (wCall sp__law_deed (fun ux _ M => E ux M) (wCons (wVar 1) (wCons (wBin uIdx0 (wVar 4) (wC (.int 1))) wNil))))
 wNext)
 wNext)
 (wSeq (wIfS (wB (wBin uNe (wVar 4) (wTup (wCons (wC (.str "keep")) (wCons (wVar 3) wNil))))) (wSeq (wDrop (wBM "list" uAppend (wVar 2) (wCons (wTup (wCons (wVar 3) (wCons (wVar 4) wNil))) wNil)))
 wNext)
 wNext)
 wNext))))
 (wSeq (wRet (wCB uTuple (wCons (wVar 2) wNil)))
 wNext)))
theorem jj__law_both_of (t : Txt tx w K mg) {k__law_deed : Nat} {sp__law_deed : USp} (F__law_deed : FnV P w K mg base k__law_deed "_law_deed" st__law_deed ps__law_deed sp__law_deed) (hk__law_deed : k__law_deed ≤ k) (X : Cx) (g : Gd) (E : UXK) (D : DefX P w K mg base k N__law_both_of (defScope st__law_both_of) X) (tk : Takes X (Wof X g fun ux _ M => E ux M)) : JSs X g (defBody st__law_both_of) (w__law_both_of sp__law_deed E) :=
 have W := D.wk sc__law_both_of.nd; have hc := D.calm
 (jss_cons (k_set W 2 (by decide +kernel) (j_lstH ja_nil) rfl)
 (jss_cons (js_for D.pass hc (ji_it (k_sortSetA W hc (t.free "sorted" (by decide +kernel)) (t.free "set" (by decide +kernel)) (by decide +kernel) (by decide +kernel) (k_comp W hc false [("part", 5)] (by decide +kernel) (ji_it (j_bin uop_add (k_var W 0 (by decide +kernel)) (k_var W 1 (by decide +kernel)))) (fun Y1 W1 hc1 => ⟨(k_nameo W1 [5] 5 (by decide +kernel) (by decide)), jts_nil, (j_idx (uix0 W1.u65) (k_var W1 5 (by decide +kernel)) j_int (fun _ _ => rfl))⟩) (fun _ => rfl)) rfl rfl rfl rfl)) (k_name W 3 (by decide +kernel)) (jss_cons (k_set W 4 (by decide +kernel) (k_call W hc F__law_deed hk__law_deed tk (by decide +kernel) (ja_cons (k_var W 0 (by decide +kernel)) (ja_cons (k_var W 3 (by decide +kernel)) ja_nil rfl) rfl) rfl rfl) rfl)
 (jss_cons (js_if (jt_cmp (uop_eq W.u64) (j_idx (uix0 W.u65) (k_var W 4 (by decide +kernel)) j_int (fun _ _ => rfl)) j_str rfl) (jss_cons (k_set W 4 (by decide +kernel) (k_call W hc F__law_deed hk__law_deed tk (by decide +kernel) (ja_cons (k_var W 1 (by decide +kernel)) (ja_cons (j_idx (uix0 W.u65) (k_var W 4 (by decide +kernel)) j_int (fun _ _ => rfl)) ja_nil rfl) rfl) rfl rfl) rfl)
 jss_nil)
 jss_nil)
 (jss_cons (js_if (jt_cmp (uop_ne W.u64) (k_var W 4 (by decide +kernel)) (j_tup (ja_cons j_str (ja_cons (k_var W 3 (by decide +kernel)) ja_nil rfl) rfl)) rfl) (jss_cons (js_expr (j_bm PySem.F.plainAttrs_list PySem.F.slot_list_append PySem.F.type_list_append umt_append (k_var W 2 (by decide +kernel)) (ja_cons (j_tup (ja_cons (k_var W 3 (by decide +kernel)) (ja_cons (k_var W 4 (by decide +kernel)) ja_nil rfl) rfl)) ja_nil rfl) rfl rfl rfl rfl rfl) rfl)
 jss_nil)
 jss_nil)
 jss_nil))) (fun _ => rfl))
 (jss_cons (js_ret (k_callTy W ucal_tuple (t.free "tuple" (by decide +kernel)) (by decide +kernel) boot_ty_tuple (by decide +kernel) (ja_cons (k_var W 2 (by decide +kernel)) ja_nil rfl) rfl rfl))
 jss_nil)))
theorem bd__law_both_of (kV doc pm : Value) (an : Option Addr) (cdv ct : Value) (us : List Value) (hl : us.length = ps__law_both_of.length) : bindArgs (PySem.W.fnOf "_law_both_of" "_law_both_of" (defArgs st__law_both_of) (defBody st__law_both_of) (defScope st__law_both_of) .none kV doc pm an cdv ct) ⟨us, []⟩ = pure (ps__law_both_of.zip us) := match us, hl with | [_, _], _ => rfl
/-! ### _law_told -/
def N__law_told : List Str := ["which", "first", "second", "told", "word"]
def ps__law_told : List Str := ["which", "first", "second"]
theorem sc__law_told : FnScope N__law_told ps__law_told (defScope st__law_told) := ⟨rfl, rfl, rfl, by decide +kernel, rfl, by decide +kernel, by decide +kernel⟩
def w__law_told (sp_forest_of : USp) (sp_migrated : USp) (sp_plain_migration : USp) (sp_both_migrations : USp) : UXK → WS := fun E =>
 (wSeq (wAsg (wTup (wCons (wC .non) (wCons (wC (.str "")) wNil))) (wGtup 2 (wGcons (wName 3) (wGcons (wName 4) wGnil))))
 (wSeq (wTryM (fun ex' => (wSeq (wIfS (wB (wBin uEq (wVar 0) (wC (.int 0)))) (wSeq (wSet 3 (wCallK 1 1 sp_forest_of ex' (wCons (wVar 1) wNil) (wCons (wVar 2) wNil)))
 wNext)
 (wSeq (wIfS (wB (wBin uEq (wVar 0) (wC (.int 1)))) (wSeq (wSet 3 (wCallK 1 1 sp_migrated ex' (wCons (wVar 1) wNil) (wCons (wVar 2) wNil)))
 wNext)
 (wSeq (wSet 3 (wIf (wB (wBin uEq (wVar 0) (wC (.int 2)))) (wCallK 0 1 sp_plain_migration ex' wNil (wCons (wVar 1) wNil)) (wCallK 1 1 sp_both_migrations ex' (wCons (wVar 1) wNil) (wCons (wVar 2) wNil))))
 wNext))
 wNext))
 wNext))
 [((fun n => if n = "InvalidMigration" then some true else if n = "InvalidPart" then some false else if n = "InvalidDocument" then some false else none), (wSeq (wSet 4 (wC (.str "migration")))
 wNext)),
 ((fun n => if n = "InvalidPart" then some true else if n = "InvalidDocument" then some false else none), (wSeq (wSet 4 (wC (.str "part")))
 wNext)),
 ((fun n => if n = "InvalidDocument" then some true else none), (wSeq (wSet 4 (wC (.str "document")))
 wNext))] (fun ux _ M => E ux M))
 (wSeq (wRet (wIf (wB (wBin uEq (wVar 4) (wC (.str "")))) (wLst (wCons (wVar 3) wNil)) (wVar 4)))
 wNext)))
theorem jj__law_told (t : Txt tx w K mg) {k_forest_of : Nat} {sp_forest_of : USp} (F_forest_of : FnV P w K mg base k_forest_of "forest_of" st_forest_of ps_forest_of sp_forest_of) (hk_forest_of : k_forest_of ≤ k) {k_migrated : Nat} {sp_migrated : USp} (F_migrated : FnV P w K mg base k_migrated "migrated" st_migrated ps_migrated sp_migrated) (hk_migrated : k_migrated ≤ k) {k_plain_migration : Nat} {sp_plain_migration : USp} (F_plain_migration : FnV P w K mg base k_plain_migration "plain_migration" st_plain_migration ps_plain_migration sp_plain_migration) (hk_plain_migration : k_plain_migration ≤ k) {k_both_migrations : Nat} {sp_both_migrations : USp} (F_both_migrations : FnV P w K mg base k_both_migrations "both_migrations" st_both_migrations ps_both_migrations sp_both_migrations) (hk_both_migrations : k_both_migrations ≤ k) (X : Cx) (g : Gd) (E : UXK) (D : DefX P w K mg base k N__law_told (defScope st__law_told) X) (tk : Takes X (Wof X g fun ux _ M => E ux M)) : JSs X g (defBody st__law_told) (w__law_told sp_forest_of sp_migrated sp_plain_migration sp_both_migrations E) :=
 have W := D.wk sc__law_told.nd; have hc := D.calm
 (jss_cons (k_asg D (j_tup (ja_cons j_non (ja_cons j_str ja_nil rfl) rfl)) (jg_tup hc (jgs_cons (k_name W 3 (by decide +kernel)) (jgs_cons (k_name W 4 (by decide +kernel)) jgs_nil rfl) rfl) rfl rfl) rfl (by kernel_rfl) rfl)
 (jss_cons (k_tryM D sc__law_told.nd tk
 (fun Y g ex' D tk' => have W' := D.wk sc__law_told.nd; have hc' := D.calm; (jss_cons (js_if (jt_cmp (uop_eq W'.u64) (k_var W' 0 (by decide +kernel)) j_int rfl) (jss_cons (k_set W' 3 (by decide +kernel) (k_callK W' hc' (n := 1) (ks := ["part"]) F_forest_of hk_forest_of (fun _ _ _ _ _ _ _ us ws h1 h2 => match us, ws, h1, h2 with | [_], [_], _, _ => rfl) tk' (by decide +kernel) (ja_cons (k_var W' 1 (by decide +kernel)) ja_nil rfl) (jk_cons (k_var W' 2 (by decide +kernel)) jk_nil) rfl rfl rfl rfl) rfl)
 jss_nil)
 (jss_cons (js_if (jt_cmp (uop_eq W'.u64) (k_var W' 0 (by decide +kernel)) j_int rfl) (jss_cons (k_set W' 3 (by decide +kernel) (k_callK W' hc' (n := 1) (ks := ["document"]) F_migrated hk_migrated (fun _ _ _ _ _ _ _ us ws h1 h2 => match us, ws, h1, h2 with | [_], [_], _, _ => rfl) tk' (by decide +kernel) (ja_cons (k_var W' 1 (by decide +kernel)) ja_nil rfl) (jk_cons (k_var W' 2 (by decide +kernel)) jk_nil) rfl rfl rfl rfl) rfl)
 jss_nil)
 (jss_cons (k_set W' 3 (by decide +kernel) (j_if (jt_cmp (uop_eq W'.u64) (k_var W' 0 (by decide +kernel)) j_int rfl) (k_callK0 W' hc' (ks := ["migration"]) F_plain_migration hk_plain_migration (fun _ _ _ _ _ _ _ us ws h1 h2 => match us, ws, h1, h2 with | [], [_], _, _ => rfl) tk' (by decide +kernel) (jk_cons (k_var W' 1 (by decide +kernel)) jk_nil) rfl rfl rfl) (k_callK W' hc' (n := 1) (ks := ["other_migration"]) F_both_migrations hk_both_migrations (fun _ _ _ _ _ _ _ us ws h1 h2 => match us, ws, h1, h2 with | [_], [_], _, _ => rfl) tk' (by decide +kernel) (ja_cons (k_var W' 1 (by decide +kernel)) ja_nil rfl) (jk_cons (k_var W' 2 (by decide +kernel)) jk_nil) rfl rfl rfl rfl)) rfl)
 jss_nil))
 jss_nil))
 jss_nil))
 (.cons (t.catch (x := "InvalidMigration") (by decide +kernel) (sub := (fun n => if n = "InvalidMigration" then some true else if n = "InvalidPart" then some false else if n = "InvalidDocument" then some false else none)) (by intro n b h; split at h; (cases h; subst_vars; decide +kernel); split at h; (cases h; subst_vars; decide +kernel); split at h; (cases h; subst_vars; decide +kernel);  cases h)) (by decide +kernel) (fun Y W' hS => (jss_cons (k_set W' 4 (by decide +kernel) j_str rfl)
 jss_nil)) (.cons (t.catch (x := "InvalidPart") (by decide +kernel) (sub := (fun n => if n = "InvalidPart" then some true else if n = "InvalidDocument" then some false else none)) (by intro n b h; split at h; (cases h; subst_vars; decide +kernel); split at h; (cases h; subst_vars; decide +kernel);  cases h)) (by decide +kernel) (fun Y W' hS => (jss_cons (k_set W' 4 (by decide +kernel) j_str rfl)
 jss_nil)) (.cons (t.catch (x := "InvalidDocument") (by decide +kernel) (sub := (fun n => if n = "InvalidDocument" then some true else none)) (by intro n b h; split at h; (cases h; subst_vars; decide +kernel);  cases h)) (by decide +kernel) (fun Y W' hS => (jss_cons (k_set W' 4 (by decide +kernel) j_str rfl)
 jss_nil)) .nil))))
 (jss_cons (js_ret (j_if (jt_cmp (uop_eq W.u64) (k_var W 4 (by decide +kernel)) j_str rfl) (j_lst (ja_cons (k_var W 3 (by decide +kernel)) ja_nil rfl)) (k_var W 4 (by decide +kernel))))
 jss_nil)))
theorem bd__law_told (kV doc pm : Value) (an : Option Addr) (cdv ct : Value) (us : List Value) (hl : us.length = ps__law_told.length) : bindArgs (PySem.W.fnOf "_law_told" "_law_told" (defArgs st__law_told) (defBody st__law_told) (defScope st__law_told) .none kV doc pm an cdv ct) ⟨us, []⟩ = pure (ps__law_told.zip us) := match us, hl with | [_, _, _], _ => rfl
/-! ### _law_one_right -/
def N__law_one_right : List Str := ["migration", "document", "place", "due", "told", "plain", "part"]
def ps__law_one_right : List Str := ["migration", "document"]
theorem sc__law_one_right : FnScope N__law_one_right ps__law_one_right (defScope st__law_one_right) := ⟨rfl, rfl, rfl, by decide +kernel, rfl, by decide +kernel, by decide +kernel⟩
def w__law_one_right (sp__law_places : USp) (sp__law_migrated : USp) (sp__law_forest : USp) (sp__law_at : USp) (sp__law_told : USp) (sp__law_same : USp) : UXK → WS := fun E =>
 (wSeq (wSet 2 (wBin uIdx0 (wCall sp__law_places (fun ux _ M => E ux M) (wCons (wVar 1) wNil)) (wUn uNeg (wC (.int 1)))))
 (wSeq (wSet 3 (wLst (wCons (wLst (wCons (wCall sp__law_forest (fun ux _ M => E ux M) (wCons (wVar 0) (wCons (wVar 1) wNil))) wNil)) (wCons (wLst (wCons (wCall sp__law_forest (fun ux _ M => E ux M) (wCons (wVar 0) (wCons (wCall sp__law_at (fun ux _ M => E ux M) (wCons (wVar 1) (wCons (wVar 2) wNil))) wNil))) wNil)) (wCons (wLst (wCons (wCall sp__law_migrated (fun ux _ M => E ux M) (wCons (wVar 0) (wCons (wVar 1) wNil))) wNil)) wNil)))))
 (wSeq (wSet 4 (wLst (wCons (wCall sp__law_told (fun ux _ M => E ux M) (wCons (wC (.int 0)) (wCons (wVar 0) (wCons (wVar 1) wNil)))) (wCons (wCall sp__law_told (fun ux _ M => E ux M) (wCons (wC (.int 0)) (wCons (wVar 0) (wCons (wCall sp__law_at (fun ux _ M => E ux M) (wCons (wVar 1) (wCons (wVar 2) wNil))) wNil)))) (wCons (wCall sp__law_told (fun ux _ M => E ux M) (wCons (wC (.int 1)) (wCons (wVar 0) (wCons (wVar 1) wNil)))) wNil)))))
 (wSeq (wSet 5 (wCB uTuple (wCons (wComp false (wIt (wVar 0)) (wName 6) (wB (wBin uNe (wBin uIdx0 (wVar 6) (wC (.int 1))) (wTup (wCons (wC (.str "keep")) (wCons (wBin uIdx0 (wVar 6) (wC (.int 0))) wNil))))) (wVar 6) [6]) wNil)))
 (wSeq (wIfS (wOrT (wNotT (wTr (wCall sp__law_same (fun ux _ M => E ux M) (wCons (wVar 4) (wCons (wVar 3) wNil))))) (wNotT (wTr (wCall sp__law_same (fun ux _ M => E ux M) (wCons (wCall sp__law_told (fun ux _ M => E ux M) (wCons (wC (.int 2)) (wCons (wVar 0) (wCons (wC .non) wNil)))) (wCons (wLst (wCons (wVar 5) wNil)) wNil)))))) (wSeq (wRet (wC (.bl false)))
 wNext)
 wNext)
 (wSeq (wRet (wCall sp__law_same (fun ux _ M => E ux M) (wCons (wLst (wCons (wCall sp__law_told (fun ux _ M => E ux M) (wCons (wC (.int 0)) (wCons (wVar 5) (wCons (wVar 1) wNil)))) (wCons (wCall sp__law_told (fun ux _ M => E ux M) (wCons (wC (.int 1)) (wCons (wVar 5) (wCons (wVar 1) wNil)))) wNil))) (wCons (wLst (wCons (wBin uIdx0 (wVar 3) (wC (.int 0))) (wCons (wBin uIdx0 (wVar 3) (wC (.int 2))) wNil))) wNil))))
 wNext))))))
theorem jj__law_one_right (t : Txt tx w K mg) {k__law_places : Nat} {sp__law_places : USp} (F__law_places : FnV P w K mg base k__law_places "_law_places" st__law_places ps__law_places sp__law_places) (hk__law_places : k__law_places ≤ k) {k__law_migrated : Nat} {sp__law_migrated : USp} (F__law_migrated : FnV P w K mg base k__law_migrated "_law_migrated" st__law_migrated ps__law_migrated sp__law_migrated) (hk__law_migrated : k__law_migrated ≤ k) {k__law_forest : Nat} {sp__law_forest : USp} (F__law_forest : FnV P w K mg base k__law_forest "_law_forest" st__law_forest ps__law_forest sp__law_forest) (hk__law_forest : k__law_forest ≤ k) {k__law_at : Nat} {sp__law_at : USp} (F__law_at : FnV P w K mg base k__law_at "_law_at" st__law_at ps__law_at sp__law_at) (hk__law_at : k__law_at ≤ k) {k__law_told : Nat} {sp__law_told : USp} (F__law_told : FnV P w K mg base k__law_told "_law_told" st__law_told ps__law_told sp__law_told) (hk__law_told : k__law_told ≤ k) {k__law_same : Nat} {sp__law_same : USp} (F__law_same : FnV P w K mg base k__law_same "_law_same" st__law_same ps__law_same sp__law_same) (hk__law_same : k__law_same ≤ k) (X : Cx) (g : Gd) (E : UXK) (D : DefX P w K mg base k N__law_one_right (defScope st__law_one_right) X) (tk : Takes X (Wof X g fun ux _ M => E ux M)) : JSs X g (defBody st__law_one_right) (w__law_one_right sp__law_places sp__law_migrated sp__law_forest sp__law_at sp__law_told sp__law_same E) :=
 have W := D.wk sc__law_one_right.nd; have hc := D.calm
 (jss_cons (k_set W 2 (by decide +kernel) (j_idx (uix0 W.u65) (k_call W hc F__law_places hk__law_places tk (by decide +kernel) (ja_cons (k_var W 1 (by decide +kernel)) ja_nil rfl) rfl rfl) (j_un uun_neg j_int) (fun _ _ => rfl)) rfl)
 (jss_cons (k_set W 3 (by decide +kernel) (j_lst (ja_cons (j_lst (ja_cons (k_call W hc F__law_forest hk__law_forest tk (by decide +kernel) (ja_cons (k_var W 0 (by decide +kernel)) (ja_cons (k_var W 1 (by decide +kernel)) ja_nil rfl) rfl) rfl rfl) ja_nil rfl)) (ja_cons (j_lst (ja_cons (k_call W hc F__law_forest hk__law_forest tk (by decide +kernel) (ja_cons (k_var W 0 (by decide +kernel)) (ja_cons (k_call W hc F__law_at hk__law_at tk (by decide +kernel) (ja_cons (k_var W 1 (by decide +kernel)) (ja_cons (k_var W 2 (by decide +kernel)) ja_nil rfl) rfl) rfl rfl) ja_nil rfl) rfl) rfl rfl) ja_nil rfl)) (ja_cons (j_lst (ja_cons (k_call W hc F__law_migrated hk__law_migrated tk (by decide +kernel) (ja_cons (k_var W 0 (by decide +kernel)) (ja_cons (k_var W 1 (by decide +kernel)) ja_nil rfl) rfl) rfl rfl) ja_nil rfl)) ja_nil rfl) rfl) rfl)) rfl)
 (jss_cons (k_set W 4 (by decide +kernel) (j_lst (ja_cons (k_call W hc F__law_told hk__law_told tk (by decide +kernel) (ja_cons j_int (ja_cons (k_var W 0 (by decide +kernel)) (ja_cons (k_var W 1 (by decide +kernel)) ja_nil rfl) rfl) rfl) rfl rfl) (ja_cons (k_call W hc F__law_told hk__law_told tk (by decide +kernel) (ja_cons j_int (ja_cons (k_var W 0 (by decide +kernel)) (ja_cons (k_call W hc F__law_at hk__law_at tk (by decide +kernel) (ja_cons (k_var W 1 (by decide +kernel)) (ja_cons (k_var W 2 (by decide +kernel)) ja_nil rfl) rfl) rfl rfl) ja_nil rfl) rfl) rfl) rfl rfl) (ja_cons (k_call W hc F__law_told hk__law_told tk (by decide +kernel) (ja_cons j_int (ja_cons (k_var W 0 (by decide +kernel)) (ja_cons (k_var W 1 (by decide +kernel)) ja_nil rfl) rfl) rfl) rfl rfl) ja_nil rfl) rfl) rfl)) rfl)
 (jss_cons (k_set W 5 (by decide +kernel) (k_callTy W ucal_tuple (t.free "tuple" (by decide +kernel)) (by decide +kernel) boot_ty_tuple (by decide +kernel) (ja_cons (k_comp W hc false [("part", 6)] (by decide +kernel) (ji_it (k_var W 0 (by decide +kernel))) (fun Y1 W1 hc1 => ⟨(k_nameo W1 [6] 6 (by decide +kernel) (by decide)), (jts_one (jt_cmp (uop_ne W1.u64) (j_idx (uix0 W1.u65) (k_var W1 6 (by decide +kernel)) j_int (fun _ _ => rfl)) (j_tup (ja_cons j_str (ja_cons (j_idx (uix0 W1.u65) (k_var W1 6 (by decide +kernel)) j_int (fun _ _ => rfl)) ja_nil rfl) rfl)) rfl)), (k_var W1 6 (by decide +kernel))⟩) (fun _ => rfl)) ja_nil rfl) rfl rfl) rfl)
 (jss_cons (js_if (jt_of (jw_or (jt_not (jt_truth (k_call W hc F__law_same hk__law_same tk (by decide +kernel) (ja_cons (k_var W 4 (by decide +kernel)) (ja_cons (k_var W 3 (by decide +kernel)) ja_nil rfl) rfl) rfl rfl) (fun _ => rfl))) (jw_or1 (jt_not (jt_truth (k_call W hc F__law_same hk__law_same tk (by decide +kernel) (ja_cons (k_call W hc F__law_told hk__law_told tk (by decide +kernel) (ja_cons j_int (ja_cons (k_var W 0 (by decide +kernel)) (ja_cons j_non ja_nil rfl) rfl) rfl) rfl rfl) (ja_cons (j_lst (ja_cons (k_var W 5 (by decide +kernel)) ja_nil rfl)) ja_nil rfl) rfl) rfl rfl) (fun _ => rfl)))))) (jss_cons (js_ret j_bl)
 jss_nil)
 jss_nil)
 (jss_cons (js_ret (k_call W hc F__law_same hk__law_same tk (by decide +kernel) (ja_cons (j_lst (ja_cons (k_call W hc F__law_told hk__law_told tk (by decide +kernel) (ja_cons j_int (ja_cons (k_var W 5 (by decide +kernel)) (ja_cons (k_var W 1 (by decide +kernel)) ja_nil rfl) rfl) rfl) rfl rfl) (ja_cons (k_call W hc F__law_told hk__law_told tk (by decide +kernel) (ja_cons j_int (ja_cons (k_var W 5 (by decide +kernel)) (ja_cons (k_var W 1 (by decide +kernel)) ja_nil rfl) rfl) rfl) rfl rfl) ja_nil rfl) rfl)) (ja_cons (j_lst (ja_cons (j_idx (uix0 W.u65) (k_var W 3 (by decide +kernel)) j_int (fun _ _ => rfl)) (ja_cons (j_idx (uix0 W.u65) (k_var W 3 (by decide +kernel)) j_int (fun _ _ => rfl)) ja_nil rfl) rfl)) ja_nil rfl) rfl) rfl rfl))
 jss_nil))))))
theorem bd__law_one_right (kV doc pm : Value) (an : Option Addr) (cdv ct : Value) (us : List Value) (hl : us.length = ps__law_one_right.length) : bindArgs (PySem.W.fnOf "_law_one_right" "_law_one_right" (defArgs st__law_one_right) (defBody st__law_one_right) (defScope st__law_one_right) .none kV doc pm an cdv ct) ⟨us, []⟩ = pure (ps__law_one_right.zip us) := match us, hl with | [_, _], _ => rfl
/-! ### _law_two_right -/
def N__law_two_right : List Str := ["one", "other", "document", "both", "later", "part"]
def ps__law_two_right : List Str := ["one", "other", "document"]
theorem sc__law_two_right : FnScope N__law_two_right ps__law_two_right (defScope st__law_two_right) := ⟨rfl, rfl, rfl, by decide +kernel, rfl, by decide +kernel, by decide +kernel⟩
def w__law_two_right (sp__law_told : USp) (sp__law_same : USp) (sp__law_both_of : USp) (sp__law_forest : USp) : UXK → WS := fun E =>
 (wSeq (wSet 3 (wCall sp__law_told (fun ux _ M => E ux M) (wCons (wC (.int 3)) (wCons (wVar 0) (wCons (wVar 1) wNil)))))
 (wSeq (wIfS (wNotT (wTr (wCall sp__law_same (fun ux _ M => E ux M) (wCons (wVar 3) (wCons (wLst (wCons (wCall sp__law_both_of (fun ux _ M => E ux M) (wCons (wVar 0) (wCons (wVar 1) wNil))) wNil)) wNil))))) (wSeq (wRet (wC (.bl false)))
 wNext)
 wNext)
 (wSeq (wSet 4 (wTup wNil))
 (wSeq (wFor (wIt (wCall sp__law_forest (fun ux _ M => E ux M) (wCons (wVar 0) (wCons (wVar 2) wNil)))) (wName 5)
 (wSeq (wSet 4 (wBin uAdd (wVar 4) (wCall sp__law_forest (fun ux _ M => E ux M) (wCons (wVar 1) (wCons (wVar 5) wNil)))))
 wNext))
 (wSeq (wRet (wCall sp__law_same (fun ux _ M => E ux M) (wCons (wCall sp__law_told (fun ux _ M => E ux M) (wCons (wC (.int 0)) (wCons (wBin uIdx0 (wVar 3) (wC (.int 0))) (wCons (wVar 2) wNil)))) (wCons (wLst (wCons (wVar 4) wNil)) wNil))))
 wNext)))))
theorem jj__law_two_right (t : Txt tx w K mg) {k__law_told : Nat} {sp__law_told : USp} (F__law_told : FnV P w K mg base k__law_told "_law_told" st__law_told ps__law_told sp__law_told) (hk__law_told : k__law_told ≤ k) {k__law_same : Nat} {sp__law_same : USp} (F__law_same : FnV P w K mg base k__law_same "_law_same" st__law_same ps__law_same sp__law_same) (hk__law_same : k__law_same ≤ k) {k__law_both_of : Nat} {sp__law_both_of : USp} (F__law_both_of : FnV P w K mg base k__law_both_of "_law_both_of" st__law_both_of ps__law_both_of sp__law_both_of) (hk__law_both_of : k__law_both_of ≤ k) {k__law_forest : Nat} {sp__law_forest : USp} (F__law_forest : FnV P w K mg base k__law_forest "_law_forest" st__law_forest ps__law_forest sp__law_forest) (hk__law_forest : k__law_forest ≤ k) (X : Cx) (g : Gd) (E : UXK) (D : DefX P w K mg base k N__law_two_right (defScope st__law_two_right) X) (tk : Takes X (Wof X g fun ux _ M => E ux M)) : JSs X g (defBody st__law_two_right) (w__law_two_right sp__law_told sp__law_same sp__law_both_of sp__law_forest E) :=
 have W := D.wk sc__law_two_right.nd; have hc := D.calm
 (jss_cons (k_set W 3 (by decide +kernel) (k_call W hc F__law_told hk__law_told tk (by decide +kernel) (ja_cons j_int (ja_cons (k_var W 0 (by decide +kernel)) (ja_cons (k_var W 1 (by decide +kernel)) ja_nil rfl) rfl) rfl) rfl rfl) rfl)
 (jss_cons (js_if (jt_not (jt_truth (k_call W hc F__law_same hk__law_same tk (by decide +kernel) (ja_cons (k_var W 3 (by decide +kernel)) (ja_cons (j_lst (ja_cons (k_call W hc F__law_both_of hk__law_both_of tk (by decide +kernel) (ja_cons (k_var W 0 (by decide +kernel)) (ja_cons (k_var W 1 (by decide +kernel)) ja_nil rfl) rfl) rfl rfl) ja_nil rfl)) ja_nil rfl) rfl) rfl rfl) (fun _ => rfl))) (jss_cons (js_ret j_bl)
 jss_nil)
 jss_nil)
 (jss_cons (k_set W 4 (by decide +kernel) (j_tup ja_nil) rfl)
 (jss_cons (js_for D.pass hc (ji_it (k_call W hc F__law_forest hk__law_forest tk (by decide +kernel) (ja_cons (k_var W 0 (by decide +kernel)) (ja_cons (k_var W 2 (by decide +kernel)) ja_nil rfl) rfl) rfl rfl)) (k_name W 5 (by decide +kernel)) (jss_cons (k_set W 4 (by decide +kernel) (j_bin uop_add (k_var W 4 (by decide +kernel)) (k_call W hc F__law_forest hk__law_forest tk (by decide +kernel) (ja_cons (k_var W 1 (by decide +kernel)) (ja_cons (k_var W 5 (by decide +kernel)) ja_nil rfl) rfl) rfl rfl)) rfl)
 jss_nil) (fun _ => rfl))
 (jss_cons (js_ret (k_call W hc F__law_same hk__law_same tk (by decide +kernel) (ja_cons (k_call W hc F__law_told hk__law_told tk (by decide +kernel) (ja_cons j_int (ja_cons (j_idx (uix0 W.u65) (k_var W 3 (by decide +kernel)) j_int (fun _ _ => rfl)) (ja_cons (k_var W 2 (by decide +kernel)) ja_nil rfl) rfl) rfl) rfl rfl) (ja_cons (j_lst (ja_cons (k_var W 4 (by decide +kernel)) ja_nil rfl)) ja_nil rfl) rfl) rfl rfl))
 jss_nil)))))
theorem bd__law_two_right (kV doc pm : Value) (an : Option Addr) (cdv ct : Value) (us : List Value) (hl : us.length = ps__law_two_right.length) : bindArgs (PySem.W.fnOf "_law_two_right" "_law_two_right" (defArgs st__law_two_right) (defBody st__law_two_right) (defScope st__law_two_right) .none kV doc pm an cdv ct) ⟨us, []⟩ = pure (ps__law_two_right.zip us) := match us, hl with | [_, _, _], _ => rfl
/-! ### law -/
def N_law : List Str := ["script", "draws", "turn", "tags", "three", "migration", "odd", "document", "labels", "value", "one", "two", "three_of", "left", "right", "k", "due", "which"]
def ps_law : List Str := ["script"]
theorem sc_law : FnScope N_law ps_law (defScope st_law) := ⟨rfl, rfl, rfl, by decide +kernel, rfl, by decide +kernel, by decide +kernel⟩
def w_law (sp__law_draws : USp) (sp__law_tags : USp) (sp__law_pick : USp) (sp__law_document : USp) (sp__law_take : USp) (sp__law_migration : USp) (sp__law_one_right : USp) (sp__law_bent : USp) (sp__law_is_migration : USp) (sp__law_same : USp) (sp_is_migration : USp) (sp__law_told : USp) (sp__law_two_right : USp) (sp_both_migrations : USp) : UXK → WS := fun E =>
 (wSeq (wSet 1 (wCall sp__law_draws (fun ux _ M => E ux M) (wCons (wVar 0) (wCons (wC (.int 500)) wNil))))
 (wSeq (wFor (wRng1 (wCons (wC (.int 3)) wNil)) (wName 2)
 (wSeq (wSet 3 (wCall sp__law_tags (fun ux _ M => E ux M) (wCons (wVar 1) (wCons (wC (.int 3)) wNil))))
 (wSeq (wAsg (wTup (wCons (wCall sp__law_document (fun ux _ M => E ux M) (wCons (wVar 1) (wCons (wVar 3) (wCons (wBin uAdd (wC (.int 1)) (wCall sp__law_take (fun ux _ M => E ux M) (wCons (wVar 1) (wCons (wC (.int 12)) wNil)))) wNil)))) (wCons (wBin uAdd (wBin uAdd (wVar 3) (wLst (wCons (wC (.str "$int")) (wCons (wC (.str "$text")) wNil)))) (wCall sp__law_pick (fun ux _ M => E ux M) (wCons (wVar 1) (wCons (wC (.lst [(.lst []), (.lst [(.str "m!")]), (.lst [(.str "$int!"), (.str "zz")])])) wNil)))) wNil))) (wGtup 2 (wGcons (wName 7) (wGcons (wName 8) wGnil))))
 (wSeq (wSet 4 (wComp false (wRng1 (wCons (wC (.int 3)) wNil)) (wName 15) wYes (wCall sp__law_migration (fun _ _ _ => False) (wCons (wVar 1) (wCons (wVar 8) (wCons (wCall sp__law_pick (fun _ _ _ => False) (wCons (wVar 1) (wCons (wC (.lst [(.lst [(.str "keep"), (.str "open"), (.str "drop")]), (.lst [(.str "keep"), (.str "keep"), (.str "open"), (.str "drop")]), (.lst [(.str "keep")])])) wNil))) wNil)))) [15]))
 (wSeq (wFor (wIt (wVar 4)) (wName 5)
 (wSeq (wIfS (wNotT (wTr (wCall sp__law_one_right (fun ux _ M => E ux M) (wCons (wVar 5) (wCons (wVar 7) wNil))))) (wSeq (wRet (wC (.bl false)))
 wNext)
 wNext)
 (wSeq (wFor (wIt (wLst (wCons (wVar 5) (wCons (wCall sp__law_bent (fun ux _ M => E ux M) (wCons (wVar 1) (wCons (wVar 5) wNil))) (wCons (wBin uAdd (wVar 5) (wVar 5)) (wCons (wC (.tup [(.tup [(.str "a"), (.tup [(.str "keep"), (.str "$int")])])])) (wCons (wC (.tup [(.tup [(.str "$text"), (.tup [(.str "keep"), (.str "$int")])])])) (wCons (wC (.tup [(.tup [(.str "$int"), (.tup [(.str "open")])])])) wNil)))))))) (wName 9)
 (wSeq (wSet 16 (wCall sp__law_is_migration (fun ux _ M => E ux M) (wCons (wVar 9) wNil)))
 (wSeq (wIfS (wNotT (wTr (wCall sp__law_same (fun ux _ M => E ux M) (wCons (wCall sp_is_migration (fun ux _ M => E ux M) (wCons (wVar 9) wNil)) (wCons (wVar 16) wNil))))) (wSeq (wRet (wC (.bl false)))
 wNext)
 wNext)
 (wSeq (wIfS (wAndT (wNotT (wTr (wVar 16))) (wB (wBin uNe (wComp false (wRng1 (wCons (wC (.int 4)) wNil)) (wName 17) wYes (wCall sp__law_told (fun _ _ _ => False) (wCons (wVar 17) (wCons (wVar 9) (wCons (wC .non) wNil)))) [17]) (wRepL (wCons (wC (.str "migration")) wNil) (wC (.int 4)))))) (wSeq (wRet (wC (.bl false)))
 wNext)
 wNext)
 wNext))))
 wNext)))
 (wSeq (wAsg (wVar 4) (wGunp 3 (wGcons (wName 10) (wGcons (wName 11) (wGcons (wName 12) wGnil)))))
 (wSeq (wIfS (wOrT (wNotT (wTr (wCall sp__law_two_right (fun ux _ M => E ux M) (wCons (wVar 10) (wCons (wVar 11) (wCons (wVar 7) wNil)))))) (wOrT (wNotT (wTr (wCall sp__law_two_right (fun ux _ M => E ux M) (wCons (wVar 11) (wCons (wVar 12) (wCons (wVar 7) wNil)))))) (wNotT (wTr (wCall sp__law_two_right (fun ux _ M => E ux M) (wCons (wVar 10) (wCons (wTup wNil) (wCons (wVar 7) wNil)))))))) (wSeq (wRet (wC (.bl false)))
 wNext)
 wNext)
 (wSeq (wPar 13 14 (wCons (wCall sp_both_migrations (fun ux _ M => E ux M) (wCons (wCall sp_both_migrations (fun ux _ M => E ux M) (wCons (wVar 10) (wCons (wVar 11) wNil))) (wCons (wVar 12) wNil))) (wCons (wCall sp_both_migrations (fun ux _ M => E ux M) (wCons (wVar 10) (wCons (wCall sp_both_migrations (fun ux _ M => E ux M) (wCons (wVar 11) (wCons (wVar 12) wNil))) wNil))) wNil)))
 (wSeq (wIfS (wOrT (wNotT (wTr (wCall sp__law_same (fun ux _ M => E ux M) (wCons (wVar 13) (wCons (wVar 14) wNil))))) (wNotT (wTr (wCall sp__law_same (fun ux _ M => E ux M) (wCons (wCall sp__law_told (fun ux _ M => E ux M) (wCons (wC (.int 2)) (wCons (wVar 13) (wCons (wC .non) wNil)))) (wCons (wLst (wCons (wVar 13) wNil)) wNil)))))) (wSeq (wRet (wC (.bl false)))
 wNext)
 wNext)
 (wSeq (wSet 6 (wCall sp__law_pick (fun ux _ M => E ux M) (wCons (wVar 1) (wCons (wC (.lst [.non, (.tup [(.str "A"), (.tup [])]), (.lst [(.str "a"), (.tup [])]), (.tup [(.str "a"), (.tup [(.tup [(.str "b")])])]), (.tup [(.str "$int"), (.str "x")])])) wNil))))
 (wSeq (wIfS (wB (wBin uNe (wLst (wCons (wCall sp__law_told (fun ux _ M => E ux M) (wCons (wC (.int 0)) (wCons (wVar 10) (wCons (wVar 6) wNil)))) (wCons (wCall sp__law_told (fun ux _ M => E ux M) (wCons (wC (.int 1)) (wCons (wVar 10) (wCons (wVar 6) wNil)))) (wCons (wCall sp__law_told (fun ux _ M => E ux M) (wCons (wC (.int 1)) (wCons (wVar 10) (wCons (wTup (wCons (wC (.str "$int")) (wCons (wC (.str "0")) wNil))) wNil)))) (wCons (wCall sp__law_told (fun ux _ M => E ux M) (wCons (wC (.int 3)) (wCons (wVar 10) (wCons (wVar 6) wNil)))) wNil))))) (wLst (wCons (wC (.str "part")) (wCons (wC (.str "document")) (wCons (wC (.str "document")) (wCons (wC (.str "migration")) wNil))))))) (wSeq (wRet (wC (.bl false)))
 wNext)
 wNext)
 wNext)))))))))))
 (wSeq (wRet (wC (.bl true)))
 wNext)))
theorem jj_law (t : Txt tx w K mg) {k__law_draws : Nat} {sp__law_draws : USp} (F__law_draws : FnV P w K mg base k__law_draws "_law_draws" st__law_draws ps__law_draws sp__law_draws) (hk__law_draws : k__law_draws ≤ k) {k__law_tags : Nat} {sp__law_tags : USp} (F__law_tags : FnV P w K mg base k__law_tags "_law_tags" st__law_tags ps__law_tags sp__law_tags) (hk__law_tags : k__law_tags ≤ k) {k__law_pick : Nat} {sp__law_pick : USp} (F__law_pick : FnV P w K mg base k__law_pick "_law_pick" st__law_pick ps__law_pick sp__law_pick) (hk__law_pick : k__law_pick ≤ k) {k__law_document : Nat} {sp__law_document : USp} (F__law_document : FnV P w K mg base k__law_document "_law_document" st__law_document ps__law_document sp__law_document) (hk__law_document : k__law_document ≤ k) {k__law_take : Nat} {sp__law_take : USp} (F__law_take : FnV P w K mg base k__law_take "_law_take" st__law_take ps__law_take sp__law_take) (hk__law_take : k__law_take ≤ k) {k__law_migration : Nat} {sp__law_migration : USp} (F__law_migration : FnV P w K mg base k__law_migration "_law_migration" st__law_migration ps__law_migration sp__law_migration) (hk__law_migration : k__law_migration ≤ k) {k__law_one_right : Nat} {sp__law_one_right : USp} (F__law_one_right : FnV P w K mg base k__law_one_right "_law_one_right" st__law_one_right ps__law_one_right sp__law_one_right) (hk__law_one_right : k__law_one_right ≤ k) {k__law_bent : Nat} {sp__law_bent : USp} (F__law_bent : FnV P w K mg base k__law_bent "_law_bent" st__law_bent ps__law_bent sp__law_bent) (hk__law_bent : k__law_bent ≤ k) {k__law_is_migration : Nat} {sp__law_is_migration : USp} (F__law_is_migration : FnV P w K mg base k__law_is_migration "_law_is_migration" st__law_is_migration ps__law_is_migration sp__law_is_migration) (hk__law_is_migration : k__law_is_migration ≤ k) {k__law_same : Nat} {sp__law_same : USp} (F__law_same : FnV P w K mg base k__law_same "_law_same" st__law_same ps__law_same sp__law_same) (hk__law_same : k__law_same ≤ k) {k_is_migration : Nat} {sp_is_migration : USp} (F_is_migration : FnV P w K mg base k_is_migration "is_migration" st_is_migration ps_is_migration sp_is_migration) (hk_is_migration : k_is_migration ≤ k) {k__law_told : Nat} {sp__law_told : USp} (F__law_told : FnV P w K mg base k__law_told "_law_told" st__law_told ps__law_told sp__law_told) (hk__law_told : k__law_told ≤ k) {k__law_two_right : Nat} {sp__law_two_right : USp} (F__law_two_right : FnV P w K mg base k__law_two_right "_law_two_right" st__law_two_right ps__law_two_right sp__law_two_right) (hk__law_two_right : k__law_two_right ≤ k) {k_both_migrations : Nat} {sp_both_migrations : USp} (F_both_migrations : FnV P w K mg base k_both_migrations "both_migrations" st_both_migrations ps_both_migrations sp_both_migrations) (hk_both_migrations : k_both_migrations ≤ k) (X : Cx) (g : Gd) (E : UXK) (D : DefX P w K mg base k N_law (defScope st_law) X) (tk : Takes X (Wof X g fun ux _ M => E ux M)) : JSs X g (defBody st_law) (w_law sp__law_draws sp__law_tags sp__law_pick sp__law_document sp__law_take sp__law_migration sp__law_one_right sp__law_bent sp__law_is_migration sp__law_same sp_is_migration sp__law_told sp__law_two_right sp_both_migrations E) :=
 have W := D.wk sc_law.nd; have hc := D.calm
 (jss_cons (k_set W 1 (by decide +kernel) (k_call W hc F__law_draws hk__law_draws tk (by decide +kernel) (ja_cons (k_var W 0 (by decide +kernel)) (ja_cons j_int ja_nil rfl) rfl) rfl rfl) rfl)
 (jss_cons (js_for D.pass hc (k_range1 W (t.free "range" (by decide +kernel)) (by decide +kernel) (ja_cons j_int ja_nil rfl) rfl) (k_name W 2 (by decide +kernel)) (jss_cons (k_set W 3 (by decide +kernel) (k_call W hc F__law_tags hk__law_tags tk (by decide +kernel) (ja_cons (k_var W 1 (by decide +kernel)) (ja_cons j_int ja_nil rfl) rfl) rfl rfl) rfl)
 (jss_cons (k_asg D (j_tup (ja_cons (k_call W hc F__law_document hk__law_document tk (by decide +kernel) (ja_cons (k_var W 1 (by decide +kernel)) (ja_cons (k_var W 3 (by decide +kernel)) (ja_cons (j_bin uop_add j_int (k_call W hc F__law_take hk__law_take tk (by decide +kernel) (ja_cons (k_var W 1 (by decide +kernel)) (ja_cons j_int ja_nil rfl) rfl) rfl rfl)) ja_nil rfl) rfl) rfl) rfl rfl) (ja_cons (j_bin uop_add (j_bin uop_add (k_var W 3 (by decide +kernel)) (j_lst (ja_cons j_str (ja_cons j_str ja_nil rfl) rfl))) (k_call W hc F__law_pick hk__law_pick tk (by decide +kernel) (ja_cons (k_var W 1 (by decide +kernel)) (ja_cons (j_pur (j_lst (ja_cons (j_lst ja_nil) (ja_cons (j_lst (ja_cons j_str ja_nil rfl)) (ja_cons (j_lst (ja_cons j_str (ja_cons j_str ja_nil rfl) rfl)) ja_nil rfl) rfl) rfl)) (pur_lst (purA_cons (pur_lst purA_nil (by decide)) (purA_cons (pur_lst (purA_cons pur_c purA_nil) (by decide)) (purA_cons (pur_lst (purA_cons pur_c (purA_cons pur_c purA_nil)) (by decide)) purA_nil))) (by decide))) ja_nil rfl) rfl) rfl rfl)) ja_nil rfl) rfl)) (jg_tup hc (jgs_cons (k_name W 7 (by decide +kernel)) (jgs_cons (k_name W 8 (by decide +kernel)) jgs_nil rfl) rfl) rfl rfl) rfl (by kernel_rfl) rfl)
 (jss_cons (k_setComp W hc (by rw [D.sc]; rfl) false 4 [("k", 15)] (by decide +kernel) (by decide +kernel) (by decide +kernel) (k_range1 W (t.free "range" (by decide +kernel)) (by decide +kernel) (ja_cons j_int ja_nil rfl) rfl) (fun Y1 W1 hc1 => ⟨(k_nameo W1 [15] 15 (by decide +kernel) (by decide)), jts_nil, (k_call W1 hc1 F__law_migration hk__law_migration takes_no (by decide +kernel) (ja_cons (k_var W1 1 (by decide +kernel)) (ja_cons (k_var W1 8 (by decide +kernel)) (ja_cons (k_call W1 hc1 F__law_pick hk__law_pick takes_no (by decide +kernel) (ja_cons (k_var W1 1 (by decide +kernel)) (ja_cons (j_pur (j_lst (ja_cons (j_lst (ja_cons j_str (ja_cons j_str (ja_cons j_str ja_nil rfl) rfl) rfl)) (ja_cons (j_lst (ja_cons j_str (ja_cons j_str (ja_cons j_str (ja_cons j_str ja_nil rfl) rfl) rfl) rfl)) (ja_cons (j_lst (ja_cons j_str ja_nil rfl)) ja_nil rfl) rfl) rfl)) (pur_lst (purA_cons (pur_lst (purA_cons pur_c (purA_cons pur_c (purA_cons pur_c purA_nil))) (by decide)) (purA_cons (pur_lst (purA_cons pur_c (purA_cons pur_c (purA_cons pur_c (purA_cons pur_c purA_nil)))) (by decide)) (purA_cons (pur_lst (purA_cons pur_c purA_nil) (by decide)) purA_nil))) (by decide))) ja_nil rfl) rfl) rfl rfl) ja_nil rfl) rfl) rfl) rfl rfl)⟩) (fun _ => rfl))
 (jss_cons (js_for D.pass hc (ji_it (k_var W 4 (by decide +kernel))) (k_name W 5 (by decide +kernel)) (jss_cons (js_if (jt_not (jt_truth (k_call W hc F__law_one_right hk__law_one_right tk (by decide +kernel) (ja_cons (k_var W 5 (by decide +kernel)) (ja_cons (k_var W 7 (by decide +kernel)) ja_nil rfl) rfl) rfl rfl) (fun _ => rfl))) (jss_cons (js_ret j_bl)
 jss_nil)
 jss_nil)
 (jss_cons (js_for D.pass hc (ji_it (j_lst (ja_cons (k_var W 5 (by decide +kernel)) (ja_cons (k_call W hc F__law_bent hk__law_bent tk (by decide +kernel) (ja_cons (k_var W 1 (by decide +kernel)) (ja_cons (k_var W 5 (by decide +kernel)) ja_nil rfl) rfl) rfl rfl) (ja_cons (j_bin uop_add (k_var W 5 (by decide +kernel)) (k_var W 5 (by decide +kernel))) (ja_cons (j_pur (j_tup (ja_cons (j_tup (ja_cons j_str (ja_cons (j_tup (ja_cons j_str (ja_cons j_str ja_nil rfl) rfl)) ja_nil rfl) rfl)) ja_nil rfl)) (pur_tup (purA_cons (pur_tup (purA_cons pur_c (purA_cons (pur_tup (purA_cons pur_c (purA_cons pur_c purA_nil)) (by decide)) purA_nil)) (by decide)) purA_nil) (by decide))) (ja_cons (j_pur (j_tup (ja_cons (j_tup (ja_cons j_str (ja_cons (j_tup (ja_cons j_str (ja_cons j_str ja_nil rfl) rfl)) ja_nil rfl) rfl)) ja_nil rfl)) (pur_tup (purA_cons (pur_tup (purA_cons pur_c (purA_cons (pur_tup (purA_cons pur_c (purA_cons pur_c purA_nil)) (by decide)) purA_nil)) (by decide)) purA_nil) (by decide))) (ja_cons (j_pur (j_tup (ja_cons (j_tup (ja_cons j_str (ja_cons (j_tup (ja_cons j_str ja_nil rfl)) ja_nil rfl) rfl)) ja_nil rfl)) (pur_tup (purA_cons (pur_tup (purA_cons pur_c (purA_cons (pur_tup (purA_cons pur_c purA_nil) (by decide)) purA_nil)) (by decide)) purA_nil) (by decide))) ja_nil rfl) rfl) rfl) rfl) rfl) rfl))) (k_name W 9 (by decide +kernel)) (jss_cons (k_set W 16 (by decide +kernel) (k_call W hc F__law_is_migration hk__law_is_migration tk (by decide +kernel) (ja_cons (k_var W 9 (by decide +kernel)) ja_nil rfl) rfl rfl) rfl)
 (jss_cons (js_if (jt_not (jt_truth (k_call W hc F__law_same hk__law_same tk (by decide +kernel) (ja_cons (k_call W hc F_is_migration hk_is_migration tk (by decide +kernel) (ja_cons (k_var W 9 (by decide +kernel)) ja_nil rfl) rfl rfl) (ja_cons (k_var W 16 (by decide +kernel)) ja_nil rfl) rfl) rfl rfl) (fun _ => rfl))) (jss_cons (js_ret j_bl)
 jss_nil)
 jss_nil)
 (jss_cons (js_if (jt_of (jw_and (jt_not (jt_truth (k_var W 16 (by decide +kernel)) (fun _ => rfl))) (jw_and1 (jt_cmp (uop_ne W.u64) (k_comp W hc false [("which", 17)] (by decide +kernel) (k_range1 W (t.free "range" (by decide +kernel)) (by decide +kernel) (ja_cons j_int ja_nil rfl) rfl) (fun Y1 W1 hc1 => ⟨(k_nameo W1 [17] 17 (by decide +kernel) (by decide)), jts_nil, (k_call W1 hc1 F__law_told hk__law_told takes_no (by decide +kernel) (ja_cons (k_var W1 17 (by decide +kernel)) (ja_cons (k_var W1 9 (by decide +kernel)) (ja_cons j_non ja_nil rfl) rfl) rfl) rfl rfl)⟩) (fun _ => rfl)) (j_repL (ja_cons j_str ja_nil rfl) j_int) rfl)))) (jss_cons (js_ret j_bl)
 jss_nil)
 jss_nil)
 jss_nil))) (fun _ => rfl))
 jss_nil)) (fun _ => rfl))
 (jss_cons (k_asg D (k_var W 4 (by decide +kernel)) (jg_unp hc (jgs_cons (k_name W 10 (by decide +kernel)) (jgs_cons (k_name W 11 (by decide +kernel)) (jgs_cons (k_name W 12 (by decide +kernel)) jgs_nil rfl) rfl) rfl) rfl rfl) rfl (by kernel_rfl) rfl)
 (jss_cons (js_if (jt_of (jw_or (jt_not (jt_truth (k_call W hc F__law_two_right hk__law_two_right tk (by decide +kernel) (ja_cons (k_var W 10 (by decide +kernel)) (ja_cons (k_var W 11 (by decide +kernel)) (ja_cons (k_var W 7 (by decide +kernel)) ja_nil rfl) rfl) rfl) rfl rfl) (fun _ => rfl))) (jw_or (jt_not (jt_truth (k_call W hc F__law_two_right hk__law_two_right tk (by decide +kernel) (ja_cons (k_var W 11 (by decide +kernel)) (ja_cons (k_var W 12 (by decide +kernel)) (ja_cons (k_var W 7 (by decide +kernel)) ja_nil rfl) rfl) rfl) rfl rfl) (fun _ => rfl))) (jw_or1 (jt_not (jt_truth (k_call W hc F__law_two_right hk__law_two_right tk (by decide +kernel) (ja_cons (k_var W 10 (by decide +kernel)) (ja_cons (j_tup ja_nil) (ja_cons (k_var W 7 (by decide +kernel)) ja_nil rfl) rfl) rfl) rfl rfl) (fun _ => rfl))))))) (jss_cons (js_ret j_bl)
 jss_nil)
 jss_nil)
 (jss_cons (k_par D sc_law.nd 13 14 (by decide +kernel) (ja_cons (k_call W hc F_both_migrations hk_both_migrations tk (by decide +kernel) (ja_cons (k_call W hc F_both_migrations hk_both_migrations tk (by decide +kernel) (ja_cons (k_var W 10 (by decide +kernel)) (ja_cons (k_var W 11 (by decide +kernel)) ja_nil rfl) rfl) rfl rfl) (ja_cons (k_var W 12 (by decide +kernel)) ja_nil rfl) rfl) rfl rfl) (ja_cons (k_call W hc F_both_migrations hk_both_migrations tk (by decide +kernel) (ja_cons (k_var W 10 (by decide +kernel)) (ja_cons (k_call W hc F_both_migrations hk_both_migrations tk (by decide +kernel) (ja_cons (k_var W 11 (by decide +kernel)) (ja_cons (k_var W 12 (by decide +kernel)) ja_nil rfl) rfl) rfl rfl) ja_nil rfl) rfl) rfl rfl) ja_nil rfl) rfl) (by kernel_rfl) rfl)
 (jss_cons (js_if (jt_of (jw_or (jt_not (jt_truth (k_call W hc F__law_same hk__law_same tk (by decide +kernel) (ja_cons (k_var W 13 (by decide +kernel)) (ja_cons (k_var W 14 (by decide +kernel)) ja_nil rfl) rfl) rfl rfl) (fun _ => rfl))) (jw_or1 (jt_not (jt_truth (k_call W hc F__law_same hk__law_same tk (by decide +kernel) (ja_cons (k_call W hc F__law_told hk__law_told tk (by decide +kernel) (ja_cons j_int (ja_cons (k_var W 13 (by decide +kernel)) (ja_cons j_non ja_nil rfl) rfl) rfl) rfl rfl) (ja_cons (j_lst (ja_cons (k_var W 13 (by decide +kernel)) ja_nil rfl)) ja_nil rfl) rfl) rfl rfl) (fun _ => rfl)))))) (jss_cons (js_ret j_bl)
 jss_nil)
 jss_nil)
 (jss_cons (k_set W 6 (by decide +kernel) (k_call W hc F__law_pick hk__law_pick tk (by decide +kernel) (ja_cons (k_var W 1 (by decide +kernel)) (ja_cons (j_pur (j_lst (ja_cons j_non (ja_cons (j_tup (ja_cons j_str (ja_cons (j_tup ja_nil) ja_nil rfl) rfl)) (ja_cons (j_lst (ja_cons j_str (ja_cons (j_tup ja_nil) ja_nil rfl) rfl)) (ja_cons (j_tup (ja_cons j_str (ja_cons (j_tup (ja_cons (j_tup (ja_cons j_str ja_nil rfl)) ja_nil rfl)) ja_nil rfl) rfl)) (ja_cons (j_tup (ja_cons j_str (ja_cons j_str ja_nil rfl) rfl)) ja_nil rfl) rfl) rfl) rfl) rfl)) (pur_lst (purA_cons pur_c (purA_cons (pur_tup (purA_cons pur_c (purA_cons (pur_tup purA_nil (by decide)) purA_nil)) (by decide)) (purA_cons (pur_lst (purA_cons pur_c (purA_cons (pur_tup purA_nil (by decide)) purA_nil)) (by decide)) (purA_cons (pur_tup (purA_cons pur_c (purA_cons (pur_tup (purA_cons (pur_tup (purA_cons pur_c purA_nil) (by decide)) purA_nil) (by decide)) purA_nil)) (by decide)) (purA_cons (pur_tup (purA_cons pur_c (purA_cons pur_c purA_nil)) (by decide)) purA_nil))))) (by decide))) ja_nil rfl) rfl) rfl rfl) rfl)
 (jss_cons (js_if (jt_cmp (uop_ne W.u64) (j_lst (ja_cons (k_call W hc F__law_told hk__law_told tk (by decide +kernel) (ja_cons j_int (ja_cons (k_var W 10 (by decide +kernel)) (ja_cons (k_var W 6 (by decide +kernel)) ja_nil rfl) rfl) rfl) rfl rfl) (ja_cons (k_call W hc F__law_told hk__law_told tk (by decide +kernel) (ja_cons j_int (ja_cons (k_var W 10 (by decide +kernel)) (ja_cons (k_var W 6 (by decide +kernel)) ja_nil rfl) rfl) rfl) rfl rfl) (ja_cons (k_call W hc F__law_told hk__law_told tk (by decide +kernel) (ja_cons j_int (ja_cons (k_var W 10 (by decide +kernel)) (ja_cons (j_tup (ja_cons j_str (ja_cons j_str ja_nil rfl) rfl)) ja_nil rfl) rfl) rfl) rfl rfl) (ja_cons (k_call W hc F__law_told hk__law_told tk (by decide +kernel) (ja_cons j_int (ja_cons (k_var W 10 (by decide +kernel)) (ja_cons (k_var W 6 (by decide +kernel)) ja_nil rfl) rfl) rfl) rfl rfl) ja_nil rfl) rfl) rfl) rfl)) (j_lst (ja_cons j_str (ja_cons j_str (ja_cons j_str (ja_cons j_str ja_nil rfl) rfl) rfl) rfl)) rfl) (jss_cons (js_ret j_bl)
 jss_nil)
 jss_nil)
 jss_nil)))))))))) (fun _ => rfl))
 (jss_cons (js_ret j_bl)
 jss_nil)))
theorem bd_law (kV doc pm : Value) (an : Option Addr) (cdv ct : Value) (us : List Value) (hl : us.length = ps_law.length) : bindArgs (PySem.W.fnOf "law" "law" (defArgs st_law) (defBody st_law) (defScope st_law) .none kV doc pm an cdv ct) ⟨us, []⟩ = pure (ps_law.zip us) := match us, hl with | [_], _ => rfl
end
end Law

namespace Law
open PySem PySem.Spec PyProof.Rows L2 Pu Sem
theorem ty6 {n : String} (h : n = "int" ∨ n = "bool" ∨ n = "str" ∨ n = "list" ∨ n = "tuple" ∨ n = "dict" := by simp) : n = "int" ∨ n = "bool" ∨ n = "str" ∨ n = "list" ∨ n = "tuple" ∨ n = "dict" := h
theorem Sm.no_ref {a : Addr} (h : Sm (.ref a)) : False := by have := h.1; simp [pvU] at this
theorem Sm.no_pr {a : List U} (h : Sm (.pr a)) : False := by have := h.1; simp [pvU] at this
def isRow : U → Int → Bool
  | .tup us, n => (us.length : Int) == n
  | _, _ => false
def sp_is_row : USp := sp2 fun u v M R _ => ∃ n, v = .int n ∧ Sm u ∧ R (.bl (isRow u n)) M
theorem pure_is_row (a b : U) (M : Mp) (R : UK) (E : UXK) (h : sp_is_row [a, b] M R E) : w_is_row E (endU R) [some a, some b] M := by
  obtain ⟨n, rfl, h1, q⟩ := h
  replace q := ret_of q
  have t := h1.noref M "tuple" ty6
  cases a <;> first | exact (Sm.no_ref h1).elim | exact (Sm.no_pr h1).elim | (simp [w_is_row, t, tyN, isA]; exact q _ rfl)
def sp_bare : USp := sp1 fun u M R _ => ∃ l, u = .str l ∧ Sm u ∧ R (.str (bareS l)) M
theorem pure_bare (a : U) (M : Mp) (R : UK) (E : UXK) (h : sp_bare [a] M R E) : w_bare E (endU R) [some a] M := by
  obtain ⟨l, rfl, h1, q⟩ := h
  replace q := ret_of q
  have z := h1.str
  simp [w_bare, z]
  split <;> refine q _ ?_ <;> simp_all [bareS]
theorem signs_len (z : Str) : (signsU z).length = z.length := by simp [signsU, Str.length]
theorem all_signs (p : Nat → Bool) (z : Str) : ((signsU z).all fun x => match x with | .str ⟨c⟩ => (match c.toList with | [k] => p k | _ => false) | _ => false) = z.cps.toList.all p := by
  unfold signsU
  rw [List.all_map]
  rfl
/-- the sign's test, of a one-sign text -/
def on1 (p : Nat → Bool) : U → Bool := fun x => match x with | .str ⟨c⟩ => (match c.toList with | [k] => p k | _ => false) | _ => false
theorem on1_ (p : Nat → Bool) (c : Nat) : on1 p (.str ⟨#[c]⟩) = p c := rfl
theorem mem_signs {z : Str} {x : U} (h : x ∈ signsU z) : ∃ c, x = .str ⟨#[c]⟩ := by
  obtain ⟨c, _, e⟩ := List.mem_map.mp h
  exact ⟨c, e.symm⟩
def sp_is_tag : USp := sp1 fun u M R _ => Sm u ∧ R (.bl (isTag u)) M
theorem pure_is_tag (a : U) (M : Mp) (R : UK) (E : UXK) (h : sp_is_tag [a] M R E) : w_is_tag sp_bare E (endU R) [some a, none, none] M := by
  obtain ⟨h1, q⟩ := h
  replace q := ret_of q
  have t := h1.noref M "str" ty6
  cases a <;> first | exact (Sm.no_ref h1).elim | exact (Sm.no_pr h1).elim | (simp [w_is_tag, t, tyN, isA]; try exact q _ rfl)
  rename_i l
  have z := h1.str
  have z2 := bare_len l
  refine ⟨l, rfl, h1, ?_⟩
  have z3 : (bareS l).length ≤ sizeLine := by omega
  simp [lenU, z3]
  split
  · split
    · refine all_map (on1 fun c => decide (c ∈ letters.cps.toList)) any_keep (by rw [signs_len]; exact z3) (fun x hx M' R q => ?_) ?_
      · obtain ⟨c, rfl⟩ := mem_signs hx
        simp
        simpa [on1_, letters] using q
      · refine q _ ?_
        rw [show (signsU (bareS l)).all (on1 fun c => decide (c ∈ letters.cps.toList)) = signsIn letters (bareS l) from all_signs _ _]
        have k1 : 1 ≤ (bareS l).length := by omega
        have k2 : (bareS l).length ≤ 8 := by omega
        simp [isTag, isTagS, k1, k2]
    · refine q _ ?_
      have k2 : ¬ (bareS l).length ≤ 8 := by omega
      have k3 : ¬ ((bareS l).length : Int) ≤ 8 := by omega
      simp [isTag, isTagS, k2, k3]
  · refine q _ ?_
    have k2 : ¬ 1 ≤ (bareS l).length := by omega
    simp [isTag, isTagS, k2]
def sp_is_kind : USp := sp1 fun u M R _ => Sm u ∧ R (.bl (isKind u)) M
theorem pure_is_kind (a : U) (M : Mp) (R : UK) (E : UXK) (h : sp_is_kind [a] M R E) : w_is_kind sp_bare E (endU R) [some a] M := by
  obtain ⟨h1, q⟩ := h
  replace q := ret_of q
  have t := h1.noref M "str" ty6
  cases a <;> first | exact (Sm.no_ref h1).elim | exact (Sm.no_pr h1).elim | (simp [w_is_kind, t, tyN, isA]; try exact q _ rfl)
  rename_i l
  exact ⟨l, rfl, h1, by simp; exact q _ rfl⟩
def sp_is_integer_text : USp := sp1 fun u M R _ => ∃ l, u = .str l ∧ Sm u ∧ R (.bl (isIntS l)) M
theorem first_at {z : Str} (h : ¬ z = ("" : Str)) : ∃ c, atI z.cps.toList 0 = some c ∧ firstS z = ⟨#[c]⟩ := by
  obtain ⟨⟨l⟩⟩ := z
  cases l with
  | nil => exact absurd rfl h
  | cons c r => exact ⟨c, by simp [atI, ixN], rfl⟩
theorem pure_is_integer_text (a : U) (M : Mp) (R : UK) (E : UXK) (h : sp_is_integer_text [a] M R E) : w_is_integer_text E (endU R) [some a, none, none] M := by
  obtain ⟨l, rfl, h1, q⟩ := h
  replace q := ret_of q
  have z := h1.str
  have z2 := idig_len l
  have z3 : (intDigits l).length ≤ sizeLine := by omega
  unfold w_is_integer_text
  rw [wSeq_, wSet_]
  refine wIf_pure (cutStr l none (some 1) == ("-" : Str)) (.str (cutStr l (some 1) none)) (.str l) (fun RT h => by simpa [z] using h) (fun R h => by simpa [z] using h) (fun R h => by simpa using h) (.str (intDigits l)) (by unfold intDigits; split <;> rfl) ?_
  simp
  split
  · rename_i e
    refine q _ ?_
    simp [isIntS, e]
  · rename_i e
    refine all_map (on1 fun c => decide (c ∈ digits.cps.toList)) any_keep (by rw [signs_len]; exact z3) (fun x hx M' R q => ?_) ?_
    · obtain ⟨c, rfl⟩ := mem_signs hx
      simp
      simpa [on1_, digits] using q
    · rw [show (signsU (intDigits l)).all (on1 fun c => decide (c ∈ digits.cps.toList)) = signsIn digits (intDigits l) from all_signs _ _]
      obtain ⟨c, k1, k2⟩ := first_at e
      cases e2 : signsIn digits (intDigits l)
      · simp
        refine q _ ?_
        simp [isIntS, e2]
      · simp
        split
        · rename_i e3
          refine q _ ?_
          have e4 : (intDigits l == ("" : Str)) = false := by simpa using e
          have e5 : (l == ("0" : Str)) = true := by simpa using e3
          simp [isIntS, e2, e4, e5]
        · rename_i e3
          refine ⟨z3, c, k1, q _ ?_⟩
          have e4 : (intDigits l == ("" : Str)) = false := by simpa using e
          have e5 : (l == ("0" : Str)) = false := by simpa using e3
          simp [isIntS, e2, e5, e4, k2, bne]
def sp_is_text_of : USp := sp2 fun k u M R _ => ∃ l, k = .str l ∧ Sm k ∧ Sm u ∧ R (.bl (isTextOf l u)) M
theorem pure_is_text_of (a b : U) (M : Mp) (R : UK) (E : UXK) (h : sp_is_text_of [a, b] M R E) : w_is_text_of sp_bare sp_is_integer_text E (endU R) [some a, some b, none] M := by
  obtain ⟨l, rfl, h0, h1, q⟩ := h
  replace q := ret_of q
  have t := h1.noref M "str" ty6
  cases b <;> first | exact (Sm.no_ref h1).elim | exact (Sm.no_pr h1).elim | (simp [w_is_text_of, t, tyN, isA]; try exact q _ rfl)
  rename_i x
  refine ⟨l, rfl, h0, ?_⟩
  simp
  split
  · rename_i e
    exact ⟨x, rfl, h1, q _ (by simp [isTextOf, isTextS, e])⟩
  · rename_i e
    have z := h1.str
    refine all_map (on1 okSign) any_keep (by rw [signs_len]; exact z) (fun y hy M' R q => ?_) ?_
    · obtain ⟨c, rfl⟩ := mem_signs hy
      simp
      rw [on1_] at q
      unfold okSign sign1 at q
      cases e1 : strLt ⟨#[c]⟩ " " <;> simp [e1] at q ⊢ <;> exact q
    · refine q _ ?_
      rw [show (signsU x).all (on1 okSign) = x.cps.toList.all okSign from all_signs _ _]
      simp [isTextOf, isTextS, e]
def sp_is_part (n : Nat) : USp := sp1 fun u M R _ => Sm u ∧ depU u < n ∧ R (.bl (isPart u)) M
theorem dep_in {us : List U} {u : U} (m : u ∈ us) : depU u < depU (.tup us) := by
  have := dep_mem m
  simp only [depU]
  omega
theorem pure_is_part (n : Nat) (a : U) (M : Mp) (R : UK) (E : UXK) (h : sp_is_part (n + 1) [a] M R E) : w_is_part sp_is_row sp_is_kind sp_is_text_of sp_is_tag (sp_is_part n) E (endU R) [some a, none] M := by
  obtain ⟨h1, hd, q⟩ := h
  replace q := ret_of q
  simp [w_is_part]
  refine ⟨2, rfl, h1, ?_⟩
  simp
  have no : isRow a 2 = false → isPart a = false := fun e => by
    cases a <;> try rfl
    rename_i us
    match us, e with
    | [], _ => rfl
    | [x], _ => cases x <;> rfl
    | [x, y], e => simp [isRow] at e
    | x :: y :: z :: r, _ => cases x <;> rfl
  cases e : isRow a 2 with
  | false => simp; exact q _ (by rw [no e])
  | true =>
    obtain ⟨x, y, rfl⟩ : ∃ x y, a = .tup [x, y] := by
      cases a <;> try (cases e; done)
      rename_i us
      match us, e with
      | [], e => simp [isRow] at e
      | [_], e => simp [isRow] at e
      | [x, y], _ => exact ⟨x, y, rfl⟩
      | _ :: _ :: _ :: r, e => simp [isRow] at e; omega
    have hx : Sm x := h1.mem (by simp)
    have hy : Sm y := h1.mem (by simp)
    have dy : depU y < depU (.tup [x, y]) := dep_in (by simp)
    have t := hy.noref M "tuple" ty6
    simp
    refine ⟨hx, ?_⟩
    simp
    cases e2 : isKind x with
    | true =>
      simp
      cases x <;> try (cases e2; done)
      rename_i l
      refine ⟨l, rfl, hx, hy, q _ ?_⟩
      have e2 : isKindS l = true := e2
      simp [isPart, e2]
    | false =>
      simp
      refine ⟨hx, ?_⟩
      simp
      have pp : isPart (.tup [x, y]) = (isTag x && isPartsT y) := by
        cases x <;> try rfl
        rename_i l
        have e2 : isKindS l = false := e2
        simp [isPart, e2, isTag]
      cases e3 : isTag x with
      | false => simp; exact q _ (by rw [pp, e3]; rfl)
      | true =>
        simp [t]
        cases y <;> first | exact (Sm.no_ref hy).elim | exact (Sm.no_pr hy).elim | (simp [tyN, isA]; try exact q _ (by rw [pp, e3]; rfl))
        rename_i ps
        refine all_map isPart any_keep hy.tup (fun p hp M' R q => ?_) (q _ ?_)
        · simp
          refine ⟨hy.mem hp, ?_, q⟩
          have := dep_in hp
          omega
        · rw [pp, e3, isPartsT, isParts_all]
          rfl
def sp_is_document : USp := sp1 fun u M R _ => Sm u ∧ depU u < 40 ∧ R (.bl (isDoc u)) M
theorem pure_is_document (a : U) (M : Mp) (R : UK) (E : UXK) (h : sp_is_document [a] M R E) : w_is_document (sp_is_part 40) sp_is_tag E (endU R) [some a] M := by
  obtain ⟨h1, hd, q⟩ := h
  replace q := ret_of q
  simp [w_is_document]
  refine ⟨h1, hd, ?_⟩
  simp
  cases e : isPart a with
  | false => simp; exact q _ (by simp [isDoc, e])
  | true =>
    simp
    cases a <;> try (simp [isPart] at e; done)
    rename_i us
    match us, e with
    | [], e => simp [isPart] at e
    | x :: r, e =>
      simp
      exact ⟨h1.mem (by simp), q _ (by simp [isDoc, e])⟩
end Law

namespace Law
open PySem PySem.Spec PyProof.Rows L2 Pu Sem
def sp_check_part : USp := sp1 fun u M R E => Sm u ∧ depU u < 40 ∧ if isPart u = true then R .non M else E ⟨"InvalidPart", []⟩ M
theorem pure_check_part (a : U) (M : Mp) (R : UK) (E : UXK) (h : sp_check_part [a] M R E) : w_check_part (sp_is_part 40) E (endU R) [some a] M := by
  obtain ⟨h1, hd, q⟩ := h
  simp [w_check_part]
  refine ⟨h1, hd, ?_⟩
  simp
  cases e : isPart a with
  | false => simp [e] at q ⊢; exact q
  | true => simp [e] at q ⊢; exact .same q
end Law

namespace Law
open PySem PySem.Spec PyProof.Rows L2 Pu Sem
def isLblU (u : U) : Bool := isTag u || isKind u
def sp_is_label : USp := sp1 fun u M R _ => Sm u ∧ R (.bl (isLblU u)) M
theorem pure_is_label (a : U) (M : Mp) (R : UK) (E : UXK) (h : sp_is_label [a] M R E) : w_is_label sp_is_tag sp_is_kind E (endU R) [some a] M := by
  obtain ⟨h1, q⟩ := h
  replace q := ret_of q
  simp [w_is_label]
  refine ⟨h1, ?_⟩
  cases e : isTag a with
  | true => simp; exact q _ (by simp [isLblU, e])
  | false => simp; exact ⟨h1, q _ (by simp [isLblU, e])⟩
end Law

namespace Law
open PySem PySem.Spec PyProof.Rows L2 Pu Sem
def sp_check_document : USp := sp1 fun u M R E => Sm u ∧ depU u < 40 ∧ if isDoc u = true then R .non M else E ⟨"InvalidDocument", []⟩ M
theorem pure_check_document (a : U) (M : Mp) (R : UK) (E : UXK) (h : sp_check_document [a] M R E) : w_check_document sp_is_document E (endU R) [some a] M := by
  obtain ⟨h1, hd, q⟩ := h
  simp [w_check_document]
  refine ⟨h1, hd, ?_⟩
  simp
  cases e : isDoc a with
  | false => simp [e] at q ⊢; exact q
  | true => simp [e] at q ⊢; exact .same q
end Law

namespace Law
open PySem PySem.Spec PyProof.Rows L2 Pu Sem
theorem uIdx_at {M : Mp} {a : Addr} {us : List U} {i : Int} {u : U} {R : UK} (m : M a = some (.lst us)) (h : atI us i = some u) : uIdx0 (.ref a) (.int i) M R ↔ R u M := by
  unfold uIdx0 uIdx
  simp only [m]
  constructor
  · rintro ⟨i', u', e, h', q⟩
    cases e
    rw [h] at h'
    cases h'
    exact q
  · intro q; exact ⟨i, u, rfl, h, q⟩
theorem uSet_at {M : Mp} {a : Addr} {us : List U} {i : Int} {j : Nat} {v : U} {R : Mp → Prop} (m : M a = some (.lst us)) (h : ixN us.length i = some j) : uSetL (.ref a) (.int i) v M R ↔ R (put M a (.lst (us.set j v))) := by
  unfold uSetL
  constructor
  · rintro ⟨a', us', k', j', e1, e2, m', h', q⟩
    cases e1
    cases e2
    rw [m] at m'
    cases m'
    rw [h] at h'
    cases h'
    exact q
  · intro q; exact ⟨a, us, i, j, rfl, rfl, m, h, q⟩
theorem tyU_at {M : Mp} {p : Addr} {us : List U} (m : M p = some (.lst us)) : tyU "list" M (.ref p) := .inl ⟨rfl, us, m⟩
theorem lenU_at {M : Mp} {p : Addr} {us : List U} (m : M p = some (.lst us)) : lenU M (.ref p) = some us.length := by simp [lenU, m]
/-! the draws -/
theorem cmul_l {i j : Int} (h : 0 ≤ i) (k : i < 18446744073709551616) : CMul i j := .inl ⟨by omega, by omega⟩
theorem cmul_r {i j : Int} (h : 0 ≤ j) (k : j < 18446744073709551616) : CMul i j := .inr ⟨by omega, by omega⟩
def sp__law_stir : USp := sp2 fun s k M R _ => ∃ i j : Int, s = .int i ∧ k = .int j ∧ 0 ≤ j ∧ j ≤ 1000000 ∧ ∀ x : Int, R (.int x) M
theorem pure__law_stir (u v : U) (M : Mp) (R : UK) (E : UXK) (h : sp__law_stir [u, v] M R E) : w__law_stir E (endU R) [some u, some v, none] M := by
  obtain ⟨i, j, rfl, rfl, j0, j1, q⟩ := h
  simp [w__law_stir]
  refine ⟨cmul_r (by decide) (by decide), cmul_l (by decide) (by decide), cmul_r j0 (by omega), cmul_l (by decide) (by decide), cmul_r (by decide) (by decide), cmul_r (by decide) (by decide), cmul_l (by decide) (by decide), .same (q _)⟩
def sp__law_take0 : USp := sp2 fun d m M R _ => ∃ (a : Addr) (k : Int) (ns : List Int), d = .ref a ∧ m = .int k ∧ 0 < k ∧ k < 1000000 ∧ M a = some (.lst (ns.map .int)) ∧ ns.length ≤ 200000 ∧ ∀ (i : Int) (ms : List Int), 0 ≤ i → i < k → ms.length ≤ 200000 → R (.int i) (put M a (.lst (ms.map .int)))
theorem fit_cells (cs : List Int) : Fit (.lst (cs.map .int)) := by
  refine ⟨?_, ?_⟩
  · simp only [okU]
    induction cs with
    | nil => rfl
    | cons c cs ih => simpa [okUs, okU] using ih
  · have : depUs (cs.map U.int) ≤ 1 := by
      induction cs with
      | nil => simp [depUs]
      | cons c cs ih => simp [depUs, depU]; omega
    simp only [depU]
    omega
theorem uNe_draws {M : Mp} {b : Addr} {cs : List Int} {R : UK} (m : M b = some (.lst (cs.map .int))) : uNe (.ref b) (.lst []) M R ↔ R (.bl (!cs.isEmpty)) M := by
  have e : Pu.eqU (.lst (cs.map .int)) (.lst []) = cs.isEmpty := by cases cs <;> simp [Pu.eqU, eqUs]
  unfold uNe
  have e1 : rs M (.ref b) = .lst (cs.map .int) := by simp [rs, m]
  have e2 : rs M (.lst []) = .lst [] := rfl
  rw [e1, e2, e]
  exact ⟨fun h => h.2, fun h => ⟨⟨fit_cells cs, by simpa using fit_cells []⟩, h⟩⟩
theorem pure__law_take0 (u v : U) (M : Mp) (R : UK) (E : UXK) (h : sp__law_take0 [u, v] M R E) : w__law_take E (endU R) [some u, some v] M := by
  obtain ⟨a, k, ns, rfl, rfl, k0, k1, ma, hl, q⟩ := h
  simp [w__law_take]
  rw [uNe_draws ma]
  rcases List.eq_nil_or_concat ns with e | ⟨ms, n, e⟩
  · subst e
    simp
    have := q 0 [] (by omega) k0 (by simp)
    rw [put_eq ma] at this
    exact .same this
  · subst e
    have : ((ms ++ [n]).isEmpty) = false := by simp
    simp
    refine ⟨tyU_at ma, a, (ms ++ [n]).map .int, .int n, rfl, rfl, by simpa using ma, by simp, ?_⟩
    simp
    refine ⟨k0, .same (q _ ms (Int.emod_nonneg _ (by omega)) (Int.emod_lt_of_pos _ k0) (by simp at hl; omega))⟩
def sp__law_take : USp := sp2 fun d m M R _ => ∃ (a : Addr) (k : Int), d = .ref a ∧ m = .int k ∧ 0 < k ∧ k < 1000000 ∧ Dr M a ∧ ∀ i : Int, 0 ≤ i → i < k → R (.int i) M
theorem abs__law_take {K : PySem.W.Frag} : ∀ us M R (E : UXK) H, RepM K M H → sp__law_take us M R E → ∃ M1 R1, RepM K M1 H ∧ Stp M H M1 H ∧ sp__law_take0 us M1 R1 (fun _ _ => False) ∧ ∀ u M1' H', R1 u M1' → RepM K M1' H' → ∃ M', RepM K M' H' ∧ Stp M1' H' M' H' ∧ R u M' := by
  intro us M R E H r h
  match us, h with
  | [d, m], h =>
    obtain ⟨a, k, rfl, rfl, k0, k1, dr, q⟩ := h
    obtain ⟨ns, hl, r1, s1⟩ := dr.open_ r
    refine ⟨_, fun u M' => ∃ (i : Int) (ms : List Int), u = .int i ∧ 0 ≤ i ∧ i < k ∧ ms.length ≤ 200000 ∧ M' = put M a (.lst (ms.map .int)), r1, s1, ⟨a, k, ns, rfl, rfl, k0, k1, put_same, hl, fun i ms i0 i1 hm => ⟨i, ms, rfl, i0, i1, hm, by rw [put_put]⟩⟩, ?_⟩
    rintro u M2 H2 ⟨i, ms, rfl, i0, i1, hm, rfl⟩ r2
    obtain ⟨r3, s3⟩ := Dr.close r2 put_same hm
    rw [put_put, put_eq (show M a = some (.hid (cellsP 200000)) from dr)] at r3 s3
    exact ⟨M, r3, s3, q i i0 i1⟩
theorem take_at {a : Addr} {k : Int} {M : Mp} {R : UK} {E : UXK} (dr : Dr M a) (k0 : 0 < k) (k1 : k < 1000000) (q : ∀ i : Int, 0 ≤ i → i < k → R (.int i) M) : sp__law_take [.ref a, .int k] M R E := ⟨a, k, rfl, rfl, k0, k1, dr, q⟩
def sp__law_pick : USp := sp2 fun d r M R _ => ∃ (a : Addr), d = .ref a ∧ Dr M a ∧ (∃ us, r = .lst us ∨ r = .tup us ∨ ∃ z, r = .str z) ∧ rowItems r ≠ [] ∧ (rowItems r).length < 1000000 ∧ ∀ x, x ∈ rowItems r → R x M
theorem pure__law_pick (u v : U) (M : Mp) (R : UK) (E : UXK) (h : sp__law_pick [u, v] M R E) : w__law_pick sp__law_take E (endU R) [some u, some v] M := by
  obtain ⟨a, rfl, dr, ⟨us, hr⟩, hne, hl, q⟩ := h
  have hp : 0 < (rowItems v).length := List.length_pos_iff.mpr hne
  rcases hr with e | e | ⟨z, e⟩ <;> subst e
  · simp only [rowItems] at hp hl q
    simp [w__law_pick]
    refine take_at dr (by omega) (by omega) fun i h0 h1 => ?_
    obtain ⟨x, e, m⟩ := at_row h0 h1
    simp
    exact ⟨x, e, .same (q x m)⟩
  · simp only [rowItems] at hp hl q
    simp [w__law_pick]
    refine take_at dr (by omega) (by omega) fun i h0 h1 => ?_
    obtain ⟨x, e, m⟩ := at_row h0 h1
    simp
    exact ⟨x, e, .same (q x m)⟩
  · simp only [rowItems] at hp hl q
    rw [signsU_len] at hp hl
    have hz : z.length ≤ sizeLine := by rw [sizeLine_eq]; omega
    simp [w__law_pick, lenU, hz]
    refine take_at dr (by omega) (by omega) fun i h0 h1 => ?_
    have h2 : i < z.cps.toList.length := by simpa [Str.length] using h1
    obtain ⟨c, e, m⟩ := at_row h0 h2
    simp [hz]
    exact ⟨c, e, .same (q _ (List.mem_map.mpr ⟨c, m, rfl⟩))⟩
theorem pick_l {a : Addr} {us : List U} {M : Mp} {R : UK} {E : UXK} (dr : Dr M a) (hne : us ≠ []) (hl : us.length < 1000000) (q : ∀ x ∈ us, R x M) : sp__law_pick [.ref a, .lst us] M R E := ⟨a, rfl, dr, ⟨us, .inl rfl⟩, hne, hl, q⟩
theorem pick_t {a : Addr} {us : List U} {M : Mp} {R : UK} {E : UXK} (dr : Dr M a) (hne : us ≠ []) (hl : us.length < 1000000) (q : ∀ x ∈ us, R x M) : sp__law_pick [.ref a, .tup us] M R E := ⟨a, rfl, dr, ⟨us, .inr (.inl rfl)⟩, hne, hl, q⟩
theorem pick_s {a : Addr} {z : Str} {M : Mp} {R : UK} {E : UXK} (dr : Dr M a) (hz : 0 < z.length ∧ z.length < 1000000) (q : ∀ c ∈ z.cps.toList, R (.str ⟨#[c]⟩) M) : sp__law_pick [.ref a, .str z] M R E :=
  ⟨a, rfl, dr, ⟨[], .inr (.inr ⟨_, rfl⟩)⟩, fun e => by have := signsU_len z; simp only [rowItems] at e; rw [e] at this; simp at this; omega, by simp only [rowItems]; rw [signsU_len]; omega, fun x hx => by obtain ⟨c, hc, rfl⟩ := List.mem_map.mp hx; exact q c hc⟩
/-- the draws of a script -/
def sp__law_draws0 : USp := sp2 fun u m M R _ => ∃ (ns : List Int) (k : Int), u = .lst (ns.map .int) ∧ ns.length ≤ 63 ∧ m = .int k ∧ 0 ≤ k ∧ k ≤ 100000 ∧ ∀ a (ds : List Int), M a = none → ds.length ≤ 200000 → R (.ref a) (put M a (.lst (ds.map .int)))
theorem cut_map {α β : Type} (f : α → β) (xs : List α) (lo hi : Option Int) : cutU (xs.map f) lo hi = (cutU xs lo hi).map f := by
  unfold cutU
  simp [List.map_drop, List.map_take]
theorem numb_mem {us : List U} {x : U} (h : x ∈ Pu.numbered us) : ∃ (i : Nat) (u : U), x = .pr [.int (i : Nat), u] ∧ i < us.length ∧ us[i]? = some u := by
  obtain ⟨i, hi, e⟩ := List.mem_iff_getElem.mp h
  obtain ⟨u, h1, h2⟩ := numbered_get (us := us) (i := i) (u := x) (by rw [List.getElem?_eq_getElem hi, e])
  exact ⟨i, u, h2, (List.getElem?_eq_some_iff.mp h1).1, h1⟩
theorem numb_len (us : List U) : (Pu.numbered us).length = us.length := by simp [Pu.numbered]
theorem pure__law_draws0 (u v : U) (M : Mp) (R : UK) (E : UXK) (h : sp__law_draws0 [u, v] M R E) : w__law_draws sp__law_stir E (endU R) [some u, some v, none, none, none, none, none, none, none] M := by
  obtain ⟨ns, k, rfl, hl, rfl, k0, k1, q⟩ := h
  have zz : 1000000 ≤ sizeLine := by rw [sizeLine_eq]; decide
  have z0 : 0 ≤ sizeLine := by omega
  have pw : CPow 10 18 := ⟨by decide, by decide, by decide⟩
  unfold w__law_draws
  refine seq_gen fun D1 nx1 _ _ _ => ?_
  simp
  intro p fp
  refine ⟨cmul_l (by decide) (by decide), _, _, ⟨rfl, rfl⟩, nx1 _ _ ?_⟩
  refine seq_gen fun D2 nx2 _ _ _ => ?_
  have hc : cutU (ns.map U.int) none (some 63) = ns.map U.int := by
    rw [cut_map]
    congr 1
    have := cut_to ns 63
    rw [show ((63 : Nat) : Int) = 63 from rfl] at this
    rw [this, List.take_of_length_le hl]
  simp only [wFor_, wEnum_, wCons_, wNil_, wSl_, wVar_s, wVar_0, wC_, wOpt_n, wOpt_s]
  refine ⟨_, rfl, ?_⟩
  simp only [asInt_, uSl_l, hc]
  refine loop_K (fun rest s m => ∃ (x5 x6 x7 x8 : Option U) (sd : Int) (ds : List Int), s = [some (.lst (ns.map .int)), some (.int k), none, some (.ref p), some (.int sd), x5, x6, x7, x8] ∧ m = put M p (.lst (ds.map .int)) ∧ ds.length + 60 * rest.length ≤ 3780 ∧ ∀ x ∈ rest, x ∈ Pu.numbered (ns.map U.int)) _ _ _ ⟨none, none, none, none, _, [], rfl, rfl, by rw [numb_len]; simp; omega, fun _ h => h⟩ ?_ ?_
  · rintro s m ⟨x5, x6, x7, x8, sd, ds, rfl, rfl, hd, _⟩
    refine nx2 _ _ ?_
    simp only [List.length_nil, Nat.mul_zero, Nat.add_zero] at hd
    refine seq_gen fun D3 nx3 _ _ _ => ?_
    simp
    refine ⟨ds.length, by simp [lenU, put_same], by omega, by omega, ?_⟩
    refine loop_K (fun rest s m => ∃ (x2 : Option U) (ds : List Int), s = [some (.lst (ns.map .int)), some (.int k), x2, some (.ref p), some (.int sd), x5, x6, x7, x8] ∧ m = put M p (.lst (ds.map .int)) ∧ ds.length + rest.length ≤ 200000 ∧ ∀ x ∈ rest, ∃ i : Nat, x = .int (i : Nat) ∧ i ≤ 100000) _ _ _ ⟨none, ds, rfl, rfl, by simp; omega, fun x hx => by
      obtain ⟨i, hi, rfl⟩ := List.mem_map.mp hx
      exact ⟨i, rfl, by have := List.mem_range.mp hi; omega⟩⟩ ?_ ?_
    · rintro s m ⟨x2, ds, rfl, rfl, hd, _⟩
      refine nx3 _ _ ?_
      simp
      refine ⟨tyU_at put_same, p, ds.map .int, rfl, rfl, put_same, ?_⟩
      rw [put_put, ← List.map_reverse]
      simp only [List.length_nil, Nat.add_zero] at hd
      exact .same (q p ds.reverse fp (by simpa using hd))
    · rintro x rest s m K ⟨x2, ds, rfl, rfl, hd, hr⟩ ih
      obtain ⟨i, rfl, hi⟩ := hr x List.mem_cons_self
      simp only [List.length_cons] at hd
      simp
      refine ⟨tyU_at put_same, sd, 100 + (i : Int), rfl, rfl, by omega, by omega, fun y => ?_⟩
      simp
      refine ⟨p, ds.map .int, _, rfl, rfl, put_same, by simp; omega, ?_⟩
      rw [put_put]
      exact ih _ _ trivial ⟨_, ds ++ [y % 6480], rfl, by simp, by simp; omega, fun x hx => hr x (List.mem_cons_of_mem _ hx)⟩
  · rintro x rest s m K ⟨x5, x6, x7, x8, sd, ds, rfl, rfl, hd, hr⟩ ih
    obtain ⟨i, u, rfl, hi, hu⟩ := numb_mem (hr x List.mem_cons_self)
    have hu2 := List.mem_of_getElem? hu
    obtain ⟨c, _, rfl⟩ := List.mem_map.mp hu2
    simp only [List.length_map] at hi
    simp only [List.length_cons] at hd
    rw [wGtup_p]
    refine ⟨rfl, _, _, rfl, _, _, rfl, rfl, ?_⟩
    refine seq_gen fun D3 nx3 _ _ _ => ?_
    simp
    refine nx3 _ _ ?_
    refine seq_gen fun D4 nx4 _ _ _ => ?_
    simp
    refine ⟨cmul_r (by decide) (by decide), cmul_l (by decide) (by decide), nx4 _ _ ?_⟩
    refine seq_gen fun D5 nx5 _ _ _ => ?_
    simp
    refine ⟨pw, ?_⟩
    split
    · refine ⟨tyU_at put_same, _, _, rfl, rfl, by omega, by omega, fun y => ?_⟩
      simp
      refine ⟨p, ds.map .int, _, rfl, rfl, put_same, by simp; omega, ?_⟩
      rw [put_put]
      refine nx5 _ _ ?_
      simp
      exact ih _ _ trivial ⟨_, _, _, _, _, ds ++ [y % 6480], rfl, by simp, by simp; omega, fun x hx => hr x (List.mem_cons_of_mem _ hx)⟩
    · refine ⟨pw, ?_⟩
      refine loop_K (fun rest' s m => ∃ (x8 : Option U) (ds : List Int) (c : Int), s = [some (.lst (ns.map .int)), some (.int k), none, some (.ref p), some (.int _), some (.int i), some (.int _), some (.int c), x8] ∧ m = put M p (.lst (ds.map .int)) ∧ ds.length + rest'.length + 60 * rest.length ≤ 3780) _ _ _ ⟨x8, ds, _, rfl, rfl, by simp; omega⟩ ?_ ?_
      · rintro s m ⟨x8, ds, c, rfl, rfl, hd⟩
        refine nx5 _ _ ?_
        simp
        exact ih _ _ trivial ⟨_, _, _, _, _, ds, rfl, rfl, by simpa using hd, fun x hx => hr x (List.mem_cons_of_mem _ hx)⟩
      · rintro x rest' s m K' ⟨x8, ds, c, rfl, rfl, hd⟩ ih'
        simp only [List.length_cons] at hd
        simp
        split
        · refine ⟨tyU_at put_same, p, ds.map .int, _, rfl, rfl, put_same, by simp; omega, ?_⟩
          simp
          refine ⟨⟨by decide, by decide⟩, ?_⟩
          rw [put_put]
          exact ih' _ _ trivial ⟨_, ds ++ [c % 6480], _, rfl, by simp, by simp; omega⟩
        · exact ih' _ _ trivial ⟨_, ds, _, rfl, rfl, by omega⟩
def sp__law_draws : USp := sp2 fun u m M R _ => ∃ (ns : List Int) (k : Int), u = .lst (ns.map .int) ∧ ns.length ≤ 63 ∧ m = .int k ∧ 0 ≤ k ∧ k ≤ 100000 ∧ ∀ a, M a = none → Dr (put M a (.hid (cellsP 200000))) a → R (.ref a) (put M a (.hid (cellsP 200000)))
theorem abs__law_draws {K : PySem.W.Frag} : ∀ us M R (E : UXK) H, RepM K M H → sp__law_draws us M R E → ∃ M1 R1, RepM K M1 H ∧ Stp M H M1 H ∧ sp__law_draws0 us M1 R1 (fun _ _ => False) ∧ ∀ u M1' H', R1 u M1' → RepM K M1' H' → ∃ M', RepM K M' H' ∧ Stp M1' H' M' H' ∧ R u M' := by
  intro us M R E H r h
  match us, h with
  | [u, m], h =>
    obtain ⟨ns, k, rfl, hl, rfl, k0, k1, q⟩ := h
    refine ⟨M, fun u M' => ∃ (a : Addr) (ds : List Int), u = .ref a ∧ M a = none ∧ ds.length ≤ 200000 ∧ M' = put M a (.lst (ds.map .int)), r, Stp.refl _ _, ⟨ns, k, rfl, hl, rfl, k0, k1, fun a ds fa hd => ⟨a, ds, rfl, fa, hd, rfl⟩⟩, ?_⟩
    rintro u M2 H2 ⟨a, ds, rfl, fa, hd, rfl⟩ r2
    obtain ⟨r3, s3⟩ := Dr.close r2 put_same hd
    rw [put_put] at r3 s3
    exact ⟨_, r3, s3, q a fa put_same⟩
end Law

namespace Law
open PySem PySem.Spec PyProof.Rows L2 Pu Sem
/-! tags -/
theorem near_nodup (c : Nat) : (letters.cps.toList.map fun l => (sgn c ++ ("q" : Str)) ++ sgn l).Nodup := by
  have inj : ∀ x y : Nat, (sgn c ++ ("q" : Str)) ++ sgn x = (sgn c ++ ("q" : Str)) ++ sgn y → x = y := fun x y e => by
    have e := congrArg (fun s : Str => s.cps.toList) e
    simp only [app_list, show ∀ z, (sgn z).cps.toList = [z] from fun _ => rfl] at e
    simpa using e
  have nd : letters.cps.toList.Nodup := by decide +kernel
  exact (List.pairwise_map).mpr (nd.imp fun {x y} h e => h (inj x y e))
theorem near_tag {l c : Nat} (hl : l ∈ letters.cps.toList) (hc : c ∈ letters.cps.toList) : TagW ((sgn c ++ ("q" : Str)) ++ sgn l) := by
  have e : ((sgn c ++ ("q" : Str)) ++ sgn l).cps.toList = [c, 113, l] := by rw [app_list, app_list]; rfl
  refine tagw_list (by rw [e]; simp) (by rw [e]; simp) fun x hx => ?_
  rw [e] at hx
  simp at hx
  rcases hx with h | h | h <;> subst h
  · exact hc
  · decide +kernel
  · exact hl
def Lt1 (z : Str) (u : U) : Prop := ∃ c, u = .str (sgn c) ∧ c ∈ z.cps.toList
theorem lt1_list {z : Str} : ∀ {us : List U}, (∀ u ∈ us, Lt1 z u) → ∃ cs : List Nat, us = cs.map (fun c => U.str (sgn c)) ∧ ∀ c ∈ cs, c ∈ z.cps.toList
  | [], _ => ⟨[], rfl, by simp⟩
  | u :: us, h => by
    obtain ⟨c, rfl, hc⟩ := h u List.mem_cons_self
    obtain ⟨cs, rfl, hcs⟩ := lt1_list fun x hx => h x (List.mem_cons_of_mem _ hx)
    exact ⟨c :: cs, rfl, fun x hx => by rcases List.mem_cons.mp hx with e | hx; · subst e; exact hc
                                        · exact hcs x hx⟩
theorem join_tag {cs : List Nat} (h1 : 1 ≤ cs.length) (h2 : cs.length ≤ 8) (h : ∀ c ∈ cs, c ∈ letters.cps.toList) : TagW (Txt.join ("" : Str) (cs.map sgn)) :=
  tagw_list (by rw [joinS_signs]; exact h1) (by rw [joinS_signs]; exact h2) (by rw [joinS_signs]; exact h)
/-- "".join of a list of signs -/
theorem join_at {M : Mp} {cs : List Nat} {R : UK} (h : cs.length ≤ 1000) (q : R (.str (Txt.join ("" : Str) (cs.map sgn))) M) : uJoin (.str "") [.lst (cs.map fun c => U.str (sgn c))] M R := by
  refine ⟨("" : Str), _, cs.map sgn, rfl, rfl, ?_, ?_, q⟩
  · show some _ = some _
    rw [List.map_map]
    rfl
  · rw [List.map_map, show (Str.length ∘ sgn) = fun _ => 1 from rfl, show ("" : Str).length = 0 from rfl]
    have : ∀ l : List Nat, (l.map fun _ => (1 : Nat)).sum = l.length := fun l => by
      induction l with
      | nil => rfl
      | cons x l ih => rw [List.map_cons, List.sum_cons, ih, List.length_cons]; omega
    rw [this, List.length_map]
    omega
def sp__law_tags : USp := sp2 fun d m M R _ => ∃ (a : Addr) (n : Nat), d = .ref a ∧ m = .int n ∧ n ≤ 26 ∧ Dr M a ∧ ∀ ts : List Str, (∀ t ∈ ts, TagW t) → ts.Nodup → ts.length = n → R (.lst (ts.map .str)) M
theorem pure__law_tags (u v : U) (M : Mp) (R : UK) (E : UXK) (h : sp__law_tags [u, v] M R E) : w__law_tags sp__law_pick sp__law_take E (endU R) [some u, some v, none, none, none, none, none, none, none] M := by
  obtain ⟨a, n, rfl, rfl, hn, dr, q⟩ := h
  have zz : 1000000 ≤ sizeLine := by rw [sizeLine_eq]; decide
  have z1 : 1 ≤ sizeLine := by omega
  have z2 : 2 ≤ sizeLine := by omega
  have z3 : 3 ≤ sizeLine := by omega
  have hl26 : letters.cps.toList.length = 26 := by decide +kernel
  have habc : ∀ c ∈ ("ab" : Str).cps.toList, c ∈ letters.cps.toList := by decide +kernel
  unfold w__law_tags
  refine seq_gen fun D1 nx1 _ _ _ => ?_
  simp [z2]
  intro p fp
  refine nx1 _ _ ?_
  refine seq_gen fun D2 nx2 _ _ _ => ?_
  simp
  refine pick_s (dr.put fp) (by constructor <;> decide +kernel) fun bc hbc => nx2 _ _ ?_
  refine seq_gen fun D3 nx3 _ _ _ => ?_
  simp only [wFor_, wRng1_, wCons_, wNil_, wVar_s, wVar_0]
  refine ⟨_, rfl, n, rfl, by omega, by omega, ?_⟩
  refine loop_K (fun rest s m => ∃ (k t j sg : Option U) (ts : List Str), s = [some (.ref a), some (.int (n : Nat)), some (.str (sgn bc)), k, some (.str "abcdefghijklmnopqrstuvwxyz"), some (.ref p), t, j, sg] ∧ m = put M p (.lst (ts.map .str)) ∧ ts.length + rest.length = n ∧ ts.Nodup ∧ ∀ t ∈ ts, TagW t) _ _ _ ⟨none, none, none, none, [], rfl, rfl, by simp, by simp, by simp⟩ ?_ ?_
  · rintro s m ⟨k, t, j, sg, ts, rfl, rfl, hl, hnd, htag⟩
    refine nx3 _ _ ?_
    simp
    exact Fin.lst (.ofPut fp) put_same fp (q ts htag hnd (by simpa using hl))
  · rintro x rest s m K ⟨k, t, j, sg, ts, rfl, rfl, hl, hnd, htag⟩ ih
    simp only [List.length_cons] at hl
    have dr1 : Dr (put M p (.lst (ts.map .str))) a := dr.put fp
    have mp : put M p (.lst (ts.map .str)) p = some (.lst (ts.map .str)) := put_same
    simp only [wName_]
    refine seq_gen fun D4 nx4 _ _ _ => ?_
    simp [z3]
    refine ⟨rfl, pick_l dr1 (by simp) (by simp) fun y hy => ?_⟩
    obtain ⟨m8, rfl, m0, m1⟩ : ∃ i : Int, y = .int i ∧ 0 < i ∧ i ≤ 8 := by
      simp at hy
      rcases hy with e | e | e <;> subst e <;> exact ⟨_, rfl, by decide, by decide⟩
    refine take_at dr1 m0 (by omega) fun i i0 i1 => ?_
    simp
    refine ⟨by omega, by omega, ?_⟩
    refine comp_any (Q := Lt1 letters) (by simp; omega) (fun x hx D acc R fD qR => ?_) fun vs hvs hvl => ?_
    · simp
      exact pick_s (dr1.put fD) (by constructor <;> decide +kernel) fun c hc => qR _ ⟨c, rfl, hc⟩
    obtain ⟨cs, rfl, hcs⟩ := lt1_list hvs
    simp only [List.length_map, List.length_range] at hvl
    refine join_at (by omega) ?_
    have tw := join_tag (by omega) (by omega) hcs
    generalize Txt.join ("" : Str) (cs.map sgn) = t1 at tw
    refine nx4 _ _ ?_
    refine seq_gen fun D5 nx5 _ _ _ => ?_
    have go5 : ∀ (t1 : Str) (j : Option U), TagW t1 → D5.nx [some (.ref a), some (.int (n : Nat)), some (.str (sgn bc)), some x, some (.str "abcdefghijklmnopqrstuvwxyz"), some (.ref p), some (.str t1), j, sg] (put M p (.lst (ts.map .str))) := fun t1 j tw => by
      refine nx5 _ _ ?_
      refine seq_gen fun D6 nx6 _ _ _ => ?_
      have go6 : ∀ (t1 : Str) (sg : Option U), TagW t1 → t1 ∉ ts → D6.nx [some (.ref a), some (.int (n : Nat)), some (.str (sgn bc)), some x, some (.str "abcdefghijklmnopqrstuvwxyz"), some (.ref p), some (.str t1), j, sg] (put M p (.lst (ts.map .str))) := fun t1 sg tw hni => by
        refine nx6 _ _ ?_
        simp
        refine ⟨tyU_at mp, p, ts.map .str, _, rfl, rfl, mp, by simp; omega, ?_⟩
        rw [put_put]
        refine ih _ _ trivial ⟨_, _, _, _, ts ++ [t1], rfl, by simp, by simp; omega, ?_, fun t ht => ?_⟩
        · rw [List.nodup_append]
          refine ⟨hnd, by simp, fun x hx y hy e => ?_⟩
          simp at hy
          subst hy e
          exact hni hx
        · rcases List.mem_append.mp ht with ht | ht
          · exact htag t ht
          · simp at ht; subst ht; exact tw
      simp
      refine uIn_strs mp ?_
      simp
      split
      · refine comp_filterM (M := put M p (.lst (ts.map .str))) (fun x => match x with | .str l => !decide (((sgn bc ++ ("q" : Str)) ++ l) ∈ ts) | _ => false) (fun x => match x with | .str l => .str ((sgn bc ++ ("q" : Str)) ++ l) | _ => .non) ?_ (fun x hx D acc R fD qR => ?_) ?_
        · rw [signsU_len]; decide +kernel
        · obtain ⟨c, hc, rfl⟩ := List.mem_map.mp hx
          have e1 : ∀ c, (⟨#[c]⟩ : Str).length = 1 := fun _ => rfl
          have e2 : ("q" : Str).length = 1 := rfl
          have e4 : (sgn bc ++ ("q" : Str)).length = 2 := by rw [slen_list, app_list]; rfl
          have e5 : (sgn bc).length = 1 := rfl
          simp [e1, e2, e4, e5, z2, z3]
          refine uNotIn_strs (xs := ts) (by rw [put_ne (fun e => by rw [← e, mp] at fD; cases fD)]; exact mp) ?_
          simp
          have e6 : (⟨#[c]⟩ : Str) = sgn c := rfl
          by_cases hts : ((sgn bc ++ ("q" : Str)) ++ sgn c) ∈ ts
          · simpa [hts, e6] using qR
          · simpa [hts, e6] using qR
        · have hf : ((signsU ("abcdefghijklmnopqrstuvwxyz" : Str)).filter (fun x => match x with | .str l => !decide (((sgn bc ++ ("q" : Str)) ++ l) ∈ ts) | _ => false)).map (fun x => match x with | .str l => U.str ((sgn bc ++ ("q" : Str)) ++ l) | _ => .non) =
              ((letters.cps.toList.map fun l => (sgn bc ++ ("q" : Str)) ++ sgn l).filter fun s => !decide (s ∈ ts)).map U.str := by
            unfold signsU
            rw [List.filter_map, List.map_map, List.filter_map, List.map_map]
            rfl
          rw [hf]
          have hnt : ∀ t ∈ (letters.cps.toList.map fun l => (sgn bc ++ ("q" : Str)) ++ sgn l), TagW t := fun t ht => by
            obtain ⟨l, hl, rfl⟩ := List.mem_map.mp ht
            exact near_tag hl hbc
          have hnl : (letters.cps.toList.map fun l => (sgn bc ++ ("q" : Str)) ++ sgn l).length = 26 := by rw [List.length_map, hl26]
          have hnn := near_nodup bc
          generalize (letters.cps.toList.map fun l => (sgn bc ++ ("q" : Str)) ++ sgn l) = ns at hnt hnl hnn
          cases hfe : ns.filter (fun s => !decide (s ∈ ts)) with
          | nil =>
            exfalso
            have : ∀ x ∈ ns, x ∈ ts := fun x hx => by
              have := List.filter_eq_nil_iff.mp hfe x hx
              simpa using this
            have := nodup_len hnn this
            omega
          | cons t r =>
            have ht : t ∈ ns.filter (fun s => !decide (s ∈ ts)) := by rw [hfe]; exact List.mem_cons_self
            obtain ⟨ht1, ht2⟩ := List.mem_filter.mp ht
            simp
            exact go6 t _ (hnt t ht1) (by simpa using ht2)
      · rename_i hni
        exact go6 t1 _ tw hni
    simp
    refine take_at dr1 (by decide) (by decide) fun i i0 i1 => ?_
    simp
    split
    · refine ⟨rfl, take_at dr1 (by decide) (by decide) fun i i0 i1 => ?_⟩
      refine ⟨i, rfl, by omega, by omega, ?_⟩
      refine comp_any (Q := Lt1 ("ab" : Str)) (by simp; omega) (fun x hx D acc R fD qR => ?_) fun vs hvs hvl => ?_
      · simp
        exact pick_s (dr1.put fD) (by constructor <;> decide +kernel) fun c hc => qR _ ⟨c, rfl, hc⟩
      obtain ⟨cs, rfl, hcs⟩ := lt1_list hvs
      simp only [List.length_map, List.length_range] at hvl
      refine join_at (by omega) ?_
      have e : (sgn bc ++ Txt.join ("" : Str) (cs.map sgn)).cps.toList = bc :: cs := by rw [app_list, joinS_signs]; rfl
      have e5 : (sgn bc).length = 1 := rfl
      simp
      refine ⟨?_, go5 _ _ (tagw_list (by rw [e]; simp) (by rw [e]; simp; omega) fun x hx => ?_)⟩
      · rw [e5, slen_list, joinS_signs]; omega
      · rw [e] at hx
        rcases List.mem_cons.mp hx with h | h
        · subst h; exact hbc
        · exact habc x (hcs x h)
    · exact go5 _ _ tw
end Law

namespace Law
open PySem PySem.Spec PyProof.Rows L2 Pu Sem
theorem zLine : 1000000 ≤ sizeLine := by rw [sizeLine_eq]; decide
theorem partLabel {l : Str} {y : U} (h : Sm (.tup [.str l, y])) : l.length ≤ sizeLine := (h.mem (u := .str l) (by simp)).str
theorem lawKind_iff {l : Str} (h : isLabelS l = true) : (cutStr l none (some 1) = ("$" : Str)) = (isKindS l = true) := by
  have := lawKind_eq h
  unfold lawKind at this
  rw [← this]; simp
def sp__law_parts : USp := sp1 fun u M R _ => isPart u = true ∧ Sm u ∧ R (.tup (partsP u)) M
theorem pure__law_parts (u : U) (M : Mp) (R : UK) (E : UXK) (h : sp__law_parts [u] M R E) : w__law_parts E (endU R) [some u] M := by
  obtain ⟨hp, hs, q⟩ := h
  cases partC hp with
  | @kind l x k t =>
    have z := partLabel hs
    have hl : isLabelS l = true := by simp [isLabelS, k]
    simp [w__law_parts, z, lawKind_iff hl, k]
    exact .same q
  | @tag l ps k t hh =>
    have z := partLabel hs
    have hl : isLabelS l = true := by simp [isLabelS, t]
    simp [w__law_parts, z, lawKind_iff hl, k]
    exact .same q
theorem kid_sm {l p : U} {ps : List U} (h : Sm (.tup [l, .tup ps])) (m : p ∈ ps) : Sm p ∧ depU p + 2 ≤ depU (.tup [l, .tup ps]) ∧ nd p ≤ nd (.tup [l, .tup ps]) := by
  have h1 : Sm (.tup ps) := h.mem (by simp)
  have h2 := h1.mem m
  have := dep_mem m
  have := nd_mem m
  exact ⟨h2, by simp only [depU, depUs]; omega, by simp only [nd, nds]; omega⟩
def sp__law_places (n : Nat) : USp := sp1 fun u M R _ => isPart u = true ∧ Sm u ∧ depU u < n ∧ R (.lst ((placesP u).map plU)) M
theorem placesPs_app : ∀ (a b : List U) (k : Nat), placesPs k (a ++ b) = placesPs k a ++ placesPs (k + a.length) b
  | [], b, k => by simp [placesPs]
  | x :: a, b, k => by simp only [List.cons_append, placesPs, placesPs_app a b (k + 1), List.append_assoc, List.length_cons]; rw [show k + 1 + a.length = k + (a.length + 1) by omega]
theorem pure__law_places (n : Nat) (u : U) (M : Mp) (R : UK) (E : UXK) (h : sp__law_places (n + 1) [u] M R E) : w__law_places sp__law_parts (sp__law_places n) E (endU R) [some u, none, none, none, none] M := by
  obtain ⟨hp, hs, hd, q⟩ := h
  have zz := zLine
  have hln := placesP_len u hp
  have hnd := labels_nd u
  have hsz := hs.2
  unfold w__law_places
  refine seq_gen fun D1 nx1 _ _ _ => ?_
  simp
  refine nx1 _ _ ?_
  refine seq_gen fun D2 nx2 _ _ _ => ?_
  simp only [wFor_, wEnum_, wCons_, wNil_, wCall_, wVar_s, wVar_0]
  refine ⟨_, rfl, hp, hs, ?_⟩
  cases partC hp with
  | @kind l x k t =>
    have e0 : partsP (.tup [.str l, .str x]) = [] := rfl
    have e1 : Pu.numbered ([] : List U) = [] := rfl
    simp only [e0, e1, loopU_nil]
    refine nx2 _ _ ?_
    simp
    rw [placesP_leaf] at q
    exact .same q
  | @tag l ps k t hh =>
    have e0 : partsP (.tup [.str l, .tup ps]) = ps := rfl
    simp only [e0]
    rw [placesP_node] at q hln
    simp only [List.length_cons] at hln
    refine loop_K (fun rest s m => ∃ (x2 x3 x4 : Option U) (a b : List U), s = [some (.tup [.str l, .tup ps]), some (.lst (([] :: placesPs 0 a).map plU)), x2, x3, x4] ∧ M = m ∧ ps = a ++ b ∧ rest = (b.zipIdx a.length).map fun p => .pr [.int (p.2 : Nat), p.1]) _ _ _ ⟨none, none, none, [], ps, by simp [placesPs, plU], rfl, rfl, rfl⟩ ?_ ?_
    · rintro s m ⟨x2, x3, x4, a, b, rfl, rfl, e, hb⟩
      have hb : b = [] := by
        cases b with
        | nil => rfl
        | cons x b => simp at hb
      subst hb
      simp only [List.append_nil] at e
      subst e
      refine nx2 _ _ ?_
      simp
      exact .same (by simpa using q)
    · rintro x rest s m K ⟨x2, x3, x4, a, b, rfl, rfl, e, hb⟩ ih
      cases b with
      | nil => simp at hb
      | cons p b =>
        simp only [List.zipIdx_cons, List.map_cons, List.cons.injEq] at hb
        obtain ⟨rfl, hb⟩ := hb
        have hm : p ∈ ps := by rw [e]; simp
        obtain ⟨s1, s2, s3⟩ := kid_sm hs hm
        have hall : placesPs 0 ps = placesPs 0 a ++ ((placesP p).map (a.length :: ·) ++ placesPs (a.length + 1) b) := by
          rw [e, placesPs_app, Nat.zero_add]
          rfl
        rw [hall] at hln
        simp only [List.length_append, List.length_map] at hln
        rw [wGtup_p]
        refine ⟨rfl, _, _, rfl, _, _, rfl, rfl, ?_⟩
        refine seq_gen fun D3 nx3 _ _ _ => ?_
        simp
        refine ⟨hh p hm, s1, by omega, ?_⟩
        refine comp_map (fun x => match x with | .tup us => .tup (.int (a.length : Nat) :: us) | _ => .non) any_keep (by simp; omega) (fun x hx M' R' q' => ?_) ?_
        · obtain ⟨pl, hpl, rfl⟩ := List.mem_map.mp hx
          have hl2 : pl.length < 1000000 := by
            obtain ⟨q0, hq0⟩ := (mem_placesP (hh p hm)).mp hpl
            have h4 := (at_size (hh p hm) s1.1 hq0).2.2.2.1
            have h5 := labels_nd p
            have h6 := s1.2
            have h7 := part_len (at_isPart (hh p hm) hq0)
            omega
          simp [plU]
          exact ⟨by omega, by omega, by simpa [plU] using q'⟩
        · have hmap : ((placesP p).map plU).map (fun x => match x with | .tup us => U.tup (.int (a.length : Nat) :: us) | _ => .non) = ((placesP p).map (a.length :: ·)).map plU := by
            rw [List.map_map, List.map_map]
            refine List.map_congr_left fun pl _ => ?_
            simp [plU]
          rw [hmap]
          simp
          refine ⟨by omega, ?_⟩
          refine nx3 _ _ ?_
          simp
          refine ih _ _ trivial ⟨some (.int (a.length : Nat)), some p, x4, a ++ [p], b, ?_, rfl, by simp [e], by simpa using hb⟩
          rw [placesPs_app]
          simp [placesPs]
def sp__law_at : USp := sp2 fun u w M R _ => ∃ pl q, w = plU pl ∧ isPart u = true ∧ atN u pl = some q ∧ R q M
theorem pure__law_at (u v : U) (M : Mp) (R : UK) (E : UXK) (h : sp__law_at [u, v] M R E) : w__law_at E (endU R) [some u, some v, none] M := by
  obtain ⟨pl, q', rfl, hp, hat, q⟩ := h
  unfold w__law_at
  refine seq_gen fun D1 nx1 _ _ _ => ?_
  simp [plU]
  refine loop_K (fun rest s m => ∃ (u : U) (pl' : List Nat) (x : Option U), s = [some u, some (plU pl), x] ∧ M = m ∧ rest = pl'.map (fun (k : Nat) => U.int (k : Int)) ∧ isPart u = true ∧ atN u pl' = some q') _ _ _ ⟨u, pl, none, by simp [plU], rfl, rfl, hp, hat⟩ ?_ ?_
  · rintro s m ⟨u, pl', x, rfl, rfl, e, hp, hat⟩
    have : pl' = [] := by simpa using e.symm
    subst this
    rw [atN_nil] at hat
    cases hat
    refine nx1 _ _ ?_
    simp
    exact .same q
  · rintro x rest s m K ⟨u, pl', x2, rfl, rfl, e, hp, hat⟩ ih
    cases pl' with
    | nil => simp at e
    | cons k r =>
      simp only [List.map_cons, List.cons.injEq] at e
      obtain ⟨rfl, e⟩ := e
      rw [atN_cons] at hat
      cases e1 : (partsP u)[k]? with
      | none => rw [e1] at hat; cases hat
      | some p =>
        rw [e1] at hat
        obtain ⟨l, ps, rfl, e2, e3, e4, hpp, _⟩ := step_at hp e1
        simp
        exact ⟨p, e4, ih _ _ trivial ⟨p, r, _, rfl, rfl, e, hpp, hat⟩⟩
theorem cut_at {ps : List U} (k : Nat) : cutU ps none (some (k : Int)) = ps.take k ∧ cutU ps (some (k : Int)) none = ps.drop k ∧ cutU ps (some ((k : Int) + 1)) none = ps.drop (k + 1) := by
  refine ⟨cut_to ps k, cut_from ps k, ?_⟩
  have := cut_from ps (k + 1)
  rwa [show ((k + 1 : Nat) : Int) = (k : Int) + 1 by omega] at this
def sp__law_put_in (n : Nat) : USp := sp3 fun u w x M R _ => ∃ (pl : List Nat) (k : Nat) (q : U), w = plU (pl ++ [k]) ∧ isPart u = true ∧ Sm u ∧ pl.length < n ∧ n ≤ 1000 ∧ atN u pl = some q ∧ leafU q = false ∧ k ≤ (partsP q).length ∧ R (insP u pl k x) M
theorem pure__law_put_in (n : Nat) (u v w : U) (M : Mp) (R : UK) (E : UXK) (h : sp__law_put_in (n + 1) [u, v, w] M R E) : w__law_put_in (sp__law_put_in n) E (endU R) [some u, some v, some w, none] M := by
  obtain ⟨pl, k, q', rfl, hp, hs, hl, hn, hat, hlf, hk, q⟩ := h
  have zz := zLine
  have z1 : 1 ≤ sizeLine := by omega
  have z2 : 2 ≤ sizeLine := by omega
  cases pl with
  | nil =>
    rw [atN_nil] at hat
    cases hat
    obtain ⟨l, ps, rfl, kl, tl, hps, e⟩ := node_form hp hlf
    rw [e] at hk
    have hsz := hs.2
    have hlen := len_nds ps
    simp only [nd, nds] at hsz
    obtain ⟨c1, c2, c3⟩ := cut_at (ps := ps) k
    simp [w__law_put_in, plU, z1, z2, c1, c2]
    refine ⟨by omega, by omega, .same ?_⟩
    simpa [insP, e, labU] using q
  | cons j pl =>
    rw [atN_cons] at hat
    cases e : (partsP u)[j]? with
    | none => rw [e] at hat; cases hat
    | some p =>
      rw [e] at hat
      obtain ⟨l, ps, rfl, e2, e3, e4, hpp, kl, tl, hps⟩ := step_at hp e
      have hm := List.mem_of_getElem? e3
      obtain ⟨s1, s2, s3⟩ := kid_sm hs hm
      have hsz := hs.2
      have hlen := len_nds ps
      simp only [nd, nds] at hsz
      obtain ⟨c1, c2, c3⟩ := cut_at (ps := ps) j
      have hne : ¬ ((pl.length : Int) + 1 + 1 = 1) := by omega
      simp [w__law_put_in, plU, z1, z2, c1, c2, c3, hne]
      refine ⟨p, e4, ?_⟩
      have hc : cutU (U.int (j : Int) :: (pl.map (fun (k : Nat) => U.int (k : Int)) ++ [.int (k : Nat)])) (some 1) none = pl.map (fun (k : Nat) => U.int (k : Int)) ++ [.int (k : Nat)] := by
        have := cut_from (U.int (j : Int) :: (pl.map (fun (k : Nat) => U.int (k : Int)) ++ [.int (k : Nat)])) 1
        rw [show ((1 : Nat) : Int) = 1 from rfl] at this
        rw [this]; rfl
      rw [hc]
      simp only [List.length_cons] at hl
      refine ⟨pl, k, q', by simp [plU], hpp, s1, by omega, by omega, hat, hlf, hk, ?_⟩
      refine ⟨by omega, by omega, .same ?_⟩
      simpa [insP, e2, e3, labU] using q
def sp__law_nodes : USp := sp1 fun u M R _ => isPart u = true ∧ Sm u ∧ depU u < 60 ∧ leafU u = false ∧ ∀ ws : List (List Nat), ws ≠ [] → ws.length ≤ (labelsP u).length → (∀ w ∈ ws, ∃ q, atN u w = some q ∧ leafU q = false) → R (.lst (ws.map plU)) M
theorem pure__law_nodes (u : U) (M : Mp) (R : UK) (E : UXK) (h : sp__law_nodes [u] M R E) : w__law_nodes (sp__law_places 60) sp__law_at E (endU R) [some u, none] M := by
  obtain ⟨hp, hs, hd, hlf, q⟩ := h
  have zz := zLine
  have hln := placesP_len u hp
  have hnd := labels_nd u
  have hsz := hs.2
  simp [w__law_nodes]
  refine ⟨hp, hs, hd, ?_⟩
  classical
  let tst : U → Bool := fun x => (placesP u).any fun pl => decide (x = plU pl) && (match atN u pl with | some q => !leafU q | none => false)
  have tst_at : ∀ pl ∈ placesP u, tst (plU pl) = (match atN u pl with | some q => !leafU q | none => false) := fun pl hpl => by
    show ((placesP u).any fun pl' => decide (plU pl = plU pl') && _) = _
    rw [Bool.eq_iff_iff, List.any_eq_true]
    constructor
    · rintro ⟨pl', h1, h2⟩
      simp only [Bool.and_eq_true, decide_eq_true_eq] at h2
      rw [plU_inj h2.1]
      exact h2.2
    · intro h
      exact ⟨pl, hpl, by simp only [Bool.and_eq_true, decide_eq_true_eq, true_and]; exact h⟩
  refine comp_filter tst id any_keep (by simp; omega) (fun x hx M' R' q' => ?_) ?_
  · obtain ⟨pl, hpl, rfl⟩ := List.mem_map.mp hx
    obtain ⟨qq, hq⟩ := (mem_placesP hp).mp hpl
    have hqp := at_isPart hp hq
    obtain ⟨v1, v2, v3, v4, v5⟩ := at_size hp hs.1 hq
    obtain ⟨l, y, rfl, hl, e1, e2⟩ := part_form hqp
    have sq : Sm (.tup [.str l, y]) := ⟨v1, by omega⟩
    have z := partLabel sq
    rw [tst_at pl hpl, hq] at q'
    simp only [e1, id] at q'
    simp
    refine ⟨pl, _, rfl, hp, hq, ?_⟩
    simp [z, lawKind_iff hl]
    cases hk : isKindS l with
    | true => rw [hk] at q'; simpa using q'
    | false => rw [hk] at q'; simpa using q'
  · have hf : (((placesP u).map plU).filter tst).map id = ((placesP u).filter fun pl => tst (plU pl)).map plU := by rw [List.map_id, List.filter_map]; rfl
    rw [hf]
    refine .same (q _ ?_ (by rw [← hln]; exact List.length_filter_le _ _) fun w hw => ?_)
    · have h0 : ([] : List Nat) ∈ placesP u := (mem_placesP hp).mpr ⟨u, atN_nil⟩
      refine List.ne_nil_of_mem (List.mem_filter.mpr ⟨h0, ?_⟩)
      rw [tst_at _ h0, atN_nil]
      simp [hlf]
    · obtain ⟨h1, h2⟩ := List.mem_filter.mp hw
      rw [tst_at _ h1] at h2
      cases e : atN u w with
      | none => rw [e] at h2; cases h2
      | some qq => rw [e] at h2; exact ⟨qq, rfl, by simpa using h2⟩
end Law

namespace Law
open PySem PySem.Spec PyProof.Rows L2 Pu Sem
def intRow : List Str := ["0", "7", "-3", "12", "10", "-10"]
def textRow : List Str := ["", "x", "0", "a b", "say \"x\"", "~!", "12", "\\"]
theorem intRow_ok : ∀ x ∈ intRow, isTextS "$int" x = true ∧ okStr x = true ∧ x.length ≤ 7 := by decide +kernel
theorem textRow_ok : ∀ x ∈ textRow, isTextS "$text" x = true ∧ okStr x = true ∧ x.length ≤ 7 := by decide +kernel
structure LeafP (p : U) : Prop where
  ex : ∃ l x : Str, p = .tup [.str l, .str x] ∧ (l = ("$int" : Str) ∨ l = ("$text" : Str)) ∧ isTextS l x = true ∧ okStr x = true ∧ x.length ≤ 7
theorem LeafP.facts {p : U} (h : LeafP p) : isPart p = true ∧ pvU p = true ∧ nd p ≤ 16 ∧ leafU p = true ∧ (labelsP p).length = 1 ∧ (∀ l ∈ labelsP p, l = ("$int" : Str) ∨ l = ("$text" : Str)) ∧ depU p ≤ 1 := by
  obtain ⟨l, x, rfl, hl, ht, ho, hx⟩ := h.ex
  have hk : isKindS l = true ∧ okStr l = true ∧ l.length ≤ 5 := by rcases hl with e | e <;> subst e <;> decide +kernel
  obtain ⟨k1, k2, k3⟩ := hk
  refine ⟨?_, by simp [pvU, pvUs, k2, ho], by simp only [nd, nds]; omega, k1, by rw [labelsP_kind]; rfl, fun y hy => ?_, by simp [depU, depUs]⟩
  · unfold isPart
    rw [if_pos k1]
    exact ht
  · rw [labelsP_kind] at hy
    simp at hy
    subst hy
    exact hl
def sp__law_leaf : USp := sp1 fun d M R _ => ∃ a, d = .ref a ∧ Dr M a ∧ ∀ p, LeafP p → R p M
theorem pure__law_leaf (u : U) (M : Mp) (R : UK) (E : UXK) (h : sp__law_leaf [u] M R E) : w__law_leaf sp__law_take sp__law_pick E (endU R) [some u] M := by
  obtain ⟨a, rfl, dr, q⟩ := h
  have zz := zLine
  have z2 : 2 ≤ sizeLine := by omega
  have z6 : 6 ≤ sizeLine := by omega
  have z8 : 8 ≤ sizeLine := by omega
  simp [w__law_leaf, z2, z6, z8]
  refine take_at dr (by decide) (by decide) fun i i0 i1 => ?_
  simp
  split
  · refine pick_l dr (by simp) (by simp) fun x hx => ?_
    have hx' : x ∈ intRow.map U.str := hx
    obtain ⟨z, hz, rfl⟩ := List.mem_map.mp hx'
    obtain ⟨g1, g2, g3⟩ := intRow_ok z hz
    exact .same (q _ ⟨_, z, rfl, .inl rfl, g1, g2, g3⟩)
  · refine pick_l dr (by simp) (by simp) fun x hx => ?_
    have hx' : x ∈ textRow.map U.str := hx
    obtain ⟨z, hz, rfl⟩ := List.mem_map.mp hx'
    obtain ⟨g1, g2, g3⟩ := textRow_ok z hz
    exact .same (q _ ⟨_, z, rfl, .inr rfl, g1, g2, g3⟩)
/-- drawn documents of n nodes and leaves -/
structure Dc (ts : List Str) (p : U) (n : Nat) : Prop where
  part : isPart p = true
  doc : isDoc p = true
  pv : pvU p = true
  sz : nd p ≤ 16 * n
  cnt : (labelsP p).length = n
  lab : ∀ l ∈ labelsP p, l ∈ ts ∨ l = ("$int" : Str) ∨ l = ("$text" : Str)
theorem Dc.dep {ts : List Str} {p : U} {n : Nat} (h : Dc ts p n) : depU p ≤ 2 * n := by have := dep_labels p h.part; rw [h.cnt] at this; exact this
theorem Dc.sm {ts : List Str} {p : U} {n : Nat} (h : Dc ts p n) (hn : n ≤ 1000) : Sm p := ⟨h.pv, by have := h.sz; omega⟩
theorem doc_noleaf {p : U} (h : isDoc p = true) : leafU p = false := by
  unfold isDoc at h
  simp only [Bool.and_eq_true] at h
  obtain ⟨hp, h⟩ := h
  cases partC hp with
  | @kind l x k t =>
    exfalso
    have : isTagS l = true := h
    have hh : isTagS l = false := by rcases kind_four k with e | e | e | e <;> subst e <;> decide +kernel
    rw [hh] at this
    cases this
  | @tag l ps k t hh => exact k
theorem tag_doc {l : Str} (h : TagW l) : Dc [l] (.tup [.str l, .tup []]) 1 := by
  have hp : isPart (.tup [.str l, .tup []]) = true := isPart_node h.nokind h.tag (by simp)
  have := h.le
  refine ⟨hp, by simp [isDoc, hp, isTag, h.tag], by simp [pvU, pvUs, h.ok], by simp only [nd, nds]; omega, by rw [labelsP_tag]; simp [labelsPs], fun x hx => ?_⟩
  rw [labelsP_tag] at hx
  simp [labelsPs] at hx
  subst hx
  simp
def sp__law_document : USp := sp3 fun d t m M R _ => ∃ (a : Addr) (ts : List Str) (n : Nat), d = .ref a ∧ t = .lst (ts.map .str) ∧ m = .int (n : Nat) ∧ Dr M a ∧ ts ≠ [] ∧ ts.length ≤ 1000 ∧ (∀ t ∈ ts, TagW t) ∧ 1 ≤ n ∧ n ≤ 25 ∧ ∀ p, Dc ts p n → R p M
theorem pure__law_document (u v w : U) (M : Mp) (R : UK) (E : UXK) (h : sp__law_document [u, v, w] M R E) : w__law_document sp__law_pick sp__law_nodes sp__law_take sp__law_leaf (sp__law_put_in 60) sp__law_at E (endU R) [some u, some v, some w, none, none, none, none] M := by
  obtain ⟨a, ts, n, rfl, rfl, rfl, dr, hne, htl, hts, n1, n2, q⟩ := h
  have zz := zLine
  have z1 : 1 ≤ sizeLine := by omega
  have z2 : 2 ≤ sizeLine := by omega
  have one : ∀ (R' : UK) (E' : UXK), (∀ t ∈ ts, R' (.str t) M) → sp__law_pick [.ref a, .lst (ts.map .str)] M R' E' := fun R' E' hq =>
    pick_l dr (by simpa using hne) (by simp; omega) fun x hx => by obtain ⟨t, ht, rfl⟩ := List.mem_map.mp hx; exact hq t ht
  unfold w__law_document
  refine seq_gen fun D1 nx1 _ _ _ => ?_
  simp [z2]
  refine one _ _ fun t ht => nx1 _ _ ?_
  have d0 : Dc ts (.tup [.str t, .tup []]) 1 := by
    have g := tag_doc (hts t ht)
    refine ⟨g.part, g.doc, g.pv, g.sz, g.cnt, fun l hl => .inl ?_⟩
    rw [labelsP_tag] at hl
    simp [labelsPs] at hl
    subst hl; exact ht
  refine seq_gen fun D2 nx2 _ _ _ => ?_
  simp only [wFor_, wRng1_, wCons_, wNil_, wVar_s, wVar_0, wBin_, wC_]
  refine ⟨_, rfl, trivial, (n : Int) - 1, rfl, by omega, by omega, ?_⟩
  refine loop_K (fun rest s m => ∃ (f : U) (k : Nat) (x4 x5 x6 : Option U), s = [some (.ref a), some (.lst (ts.map .str)), some (.int (n : Nat)), some f, x4, x5, x6] ∧ M = m ∧ Dc ts f k ∧ k + rest.length = n) _ _ _ ⟨_, 1, none, none, none, rfl, rfl, d0, by simp; omega⟩ ?_ ?_
  · rintro s m ⟨f, k, x4, x5, x6, rfl, rfl, g, hk⟩
    refine nx2 _ _ ?_
    simp
    simp at hk
    subst hk
    exact .same (q f g)
  · rintro x rest s m K ⟨f, k, x4, x5, x6, rfl, rfl, g, hk⟩ ih
    simp only [List.length_cons] at hk
    have gd := g.dep
    have gs := g.sm (by omega)
    have gsz := g.sz
    simp only [wName_]
    refine seq_gen fun D3 nx3 _ _ _ => ?_
    simp
    refine ⟨g.part, gs, by omega, doc_noleaf g.doc, fun ws wne wl hws => ?_⟩
    refine pick_l dr (by simpa using wne) (by simp; have := g.cnt; omega) fun y hy => ?_
    obtain ⟨pl, hpl, rfl⟩ := List.mem_map.mp hy
    obtain ⟨nq, hat, hlf⟩ := hws pl hpl
    refine nx3 _ _ ?_
    refine seq_gen fun D4 nx4 _ _ _ => ?_
    have hnq := at_isPart g.part hat
    obtain ⟨v1, v2, v3, v4, v5⟩ := at_size g.part g.pv hat
    obtain ⟨l, ps, rfl, kl, tl, hps, e⟩ := node_form hnq hlf
    have psl := len_nds ps
    have gcnt := g.cnt
    have rest_ok : ∀ nw, (isPart nw = true ∧ pvU nw = true ∧ nd nw ≤ 16 ∧ (labelsP nw).length = 1 ∧ ∀ l ∈ labelsP nw, l ∈ ts ∨ l = ("$int" : Str) ∨ l = ("$text" : Str)) →
        D4.nx [some (.ref a), some (.lst (ts.map .str)), some (.int (n : Nat)), some f, some x, some (plU pl), some nw] M := fun nw ⟨w1, w2, w3, w4, w5⟩ => by
      refine nx4 _ _ ?_
      refine seq_gen fun D5 nx5 _ _ _ => ?_
      simp [z1]
      refine ⟨pl, _, rfl, g.part, hat, ?_⟩
      simp
      simp only [nd, nds] at v3
      refine take_at dr (by omega) (by omega) fun i i0 i1 => ?_
      simp only [plU]
      simp
      refine ⟨by omega, ?_⟩
      have e7 : U.tup (pl.map (fun (k : Nat) => U.int (k : Int)) ++ [.int i]) = plU (pl ++ [i.toNat]) := by
        unfold plU
        rw [List.map_append]
        simp
        omega
      rw [e7]
      refine ⟨pl, i.toNat, _, rfl, g.part, gs, by omega, by omega, hat, hlf, by rw [e]; omega, nx5 _ _ ?_⟩
      obtain ⟨i1', i2, i3, i4, i5, i6⟩ := insP_ok (x := nw) (k := i.toNat) g.part g.pv hat hlf (by rw [e]; omega) w1 w2
      simp
      refine ih _ _ trivial ⟨_, k + 1, _, _, _, rfl, rfl, ⟨i1', i6, i2, by omega, by omega, fun l hl => ?_⟩, by omega⟩
      rcases i5 l hl with h | h
      · exact g.lab l h
      · exact w5 l h
    simp
    refine take_at dr (by decide) (by decide) fun i i0 i1 => ?_
    simp
    split
    · refine ⟨a, rfl, dr, fun p hp => ?_⟩
      obtain ⟨p1, p2, p3, p4, p5, p6, p7⟩ := hp.facts
      exact rest_ok p ⟨p1, p2, p3, p5, fun l hl => .inr (p6 l hl)⟩
    · refine one _ _ fun t ht => ?_
      have g0 := tag_doc (hts t ht)
      refine ⟨z2, rest_ok _ ⟨g0.part, g0.pv, g0.sz, g0.cnt, fun l hl => .inl ?_⟩⟩
      rw [labelsP_tag] at hl
      simp [labelsPs] at hl
      subst hl; exact ht
end Law

namespace Law
open PySem PySem.Spec PyProof.Rows L2 Pu Sem
def sp__law_is_whole : USp := sp1 fun u M R _ => Sm u ∧ R (.bl (isIntU u)) M
theorem pure__law_is_whole (a : U) (M : Mp) (R : UK) (E : UXK) (h : sp__law_is_whole [a] M R E) : w__law_is_whole E (endU R) [some a] M := by
  obtain ⟨h1, q⟩ := h
  replace q := ret_of q
  have t1 := h1.noref M "int" ty6
  have t2 := h1.noref M "bool" ty6
  cases a <;> first | exact (Sm.no_ref h1).elim | exact (Sm.no_pr h1).elim | exact (Sm.no_ty h1).elim | (simp [w__law_is_whole, t1, t2, tyN, isA]; exact q _ rfl)
def sp__law_same (n : Nat) : USp := sp2 fun u v M R _ => Sm u ∧ Sm v ∧ okU v = true ∧ depU v < n ∧ R (.bl (sameB u v)) M
theorem same_all {n : Nat} {us vs : List U} {x y : U} {M : Mp} {R : UK} (hx : (x = .tup us ∧ y = .tup vs) ∨ (x = .lst us ∧ y = .lst vs)) (h1 : Sm x) (h2 : Sm y) (ho : okUs vs = true) (hd : depU y < n + 1) (hl : us.length = vs.length) (q : R (.bl (sameBs us vs)) M) :
    CompG false Any (wName 2) wYes (wCall (sp__law_same n) (fun _ _ _ => False) (wCons (wBin uIdx0 (wVar 0) (wVar 2)) (wCons (wBin uIdx0 (wVar 1) (wVar 2)) wNil))) [some x, some y, none] ((List.range vs.length).map fun i => U.int ((i : Nat) : Int)) M fun x M1 => uAll [x] M1 R := by
  have hz : vs.length ≤ sizeLine := by
    rcases hx with ⟨_, e⟩ | ⟨_, e⟩ <;> subst e
    · exact h2.tup
    · exact h2.lst
  refine all_map (onInt fun i => sameB (us.getD i.toNat .non) (vs.getD i.toNat .non)) any_keep (by simpa using hz) (fun w hw M' R q => ?_) ?_
  · obtain ⟨i, hi, rfl⟩ := List.mem_map.mp hw
    have hi : i < vs.length := by simpa using hi
    have hi' : i < us.length := by omega
    have e : us[i]? = some us[i] := List.getElem?_eq_getElem hi'
    have e' : vs[i]? = some vs[i] := List.getElem?_eq_getElem hi
    have m : us[i] ∈ us := List.getElem_mem hi'
    have m' : vs[i] ∈ vs := List.getElem_mem hi
    have eq1 : us.getD i .non = us[i] := by simp [List.getD_eq_getElem?_getD, e]
    have eq2 : vs.getD i .non = vs[i] := by simp [List.getD_eq_getElem?_getD, e']
    simp only [onInt, Int.toNat_natCast, eq1, eq2] at q
    have hd2 : depU vs[i] < depU y := by
      rcases hx with ⟨_, e⟩ | ⟨_, e⟩ <;> subst e
      · exact dep_in m'
      · have := dep_mem m'; simp only [depU]; omega
    have s1 : Sm us[i] := by
      rcases hx with ⟨e, _⟩ | ⟨e, _⟩ <;> subst e
      · exact h1.mem m
      · exact h1.meml m
    have s2 : Sm vs[i] := by
      rcases hx with ⟨_, e⟩ | ⟨_, e⟩ <;> subst e
      · exact h2.mem m'
      · exact h2.meml m'
    rcases hx with ⟨ex, ey⟩ | ⟨ex, ey⟩ <;> subst ex ey <;> simp <;> exact ⟨us[i], atI_nat e, vs[i], atI_nat e', s1, s2, okU_mem' ho m', by omega, q⟩
  · rw [List.all_map]
    have e : ((onInt fun i => sameB (us.getD i.toNat .non) (vs.getD i.toNat .non)) ∘ fun i : Nat => U.int ((i : Nat) : Int)) = fun i : Nat => sameB (us.getD i .non) (vs.getD i .non) := by
      funext i
      simp [onInt]
    rw [e, sameBs_range us vs hl]
    exact q
theorem pure__law_same (n : Nat) (a b : U) (M : Mp) (R : UK) (E : UXK) (h : sp__law_same (n + 1) [a, b] M R E) : w__law_same (sp__law_same n) E (endU R) [some a, some b, none] M := by
  obtain ⟨h1, h2, ho, hd, q⟩ := h
  replace q := ret_of q
  have t1 : ∀ n, (n = "int" ∨ n = "bool" ∨ n = "str" ∨ n = "list" ∨ n = "tuple" ∨ n = "dict") → tyOk M a n := h1.noref M
  have t2 : ∀ n, (n = "int" ∨ n = "bool" ∨ n = "str" ∨ n = "list" ∨ n = "tuple" ∨ n = "dict") → tyOk M b n := h2.noref M
  have a1 := t1 "tuple" ty6; have a2 := t1 "list" ty6; have a3 := t1 "bool" ty6; have a4 := t1 "int" ty6; have a5 := t1 "str" ty6
  have b1 := t2 "tuple" ty6; have b2 := t2 "list" ty6; have b3 := t2 "bool" ty6; have b4 := t2 "int" ty6; have b5 := t2 "str" ty6
  have z : 2 ≤ sizeLine := by have := zLine; omega
  cases b <;> first | exact (Sm.no_ref h2).elim | exact (Sm.no_ty h2).elim | exact (Sm.no_pr h2).elim | (simp [okU] at ho; done) | skip
  · cases a <;> first | exact (Sm.no_ref h1).elim | exact (Sm.no_ty h1).elim | exact (Sm.no_pr h1).elim | (simp [w__law_same, a1, a2, a3, a4, a5, b1, b2, b3, b4, b5, tyN, isA, tysOf, isNonU, z]; exact q _ rfl)
  · cases a <;> first | exact (Sm.no_ref h1).elim | exact (Sm.no_ty h1).elim | exact (Sm.no_pr h1).elim | (simp [w__law_same, a1, a2, a3, a4, a5, b1, b2, b3, b4, b5, tyN, isA, tysOf, isNonU, z]; exact q _ rfl)
  · cases a <;> first | exact (Sm.no_ref h1).elim | exact (Sm.no_ty h1).elim | exact (Sm.no_pr h1).elim | (simp [w__law_same, a1, a2, a3, a4, a5, b1, b2, b3, b4, b5, tyN, isA, tysOf, isNonU, z]; exact q _ rfl)
  · cases a <;> first | exact (Sm.no_ref h1).elim | exact (Sm.no_ty h1).elim | exact (Sm.no_pr h1).elim | (simp [w__law_same, a1, a2, a3, a4, a5, b1, b2, b3, b4, b5, tyN, isA, tysOf, isNonU, z]; exact q _ rfl)
  · rename_i vs
    cases a <;> first | exact (Sm.no_ref h1).elim | exact (Sm.no_ty h1).elim | exact (Sm.no_pr h1).elim | (simp [w__law_same, a1, a2, a3, a4, a5, b1, b2, b3, b4, b5, tyN, isA, tysOf, isNonU, z]; try exact q _ rfl)
    rename_i us
    split
    · rename_i hl
      have hz := h2.tup
      rw [sizeLine_eq] at hz
      refine ⟨by omega, same_all (.inl ⟨rfl, rfl⟩) h1 h2 (by simpa [okU] using ho) hd (by omega) (q _ (by simp [sameB]))⟩
    · rename_i hl
      exact q _ (by simp only [sameB]; rw [sameBs_len (by omega)]; simp [hl])
  · rename_i vs
    cases a <;> first | exact (Sm.no_ref h1).elim | exact (Sm.no_ty h1).elim | exact (Sm.no_pr h1).elim | (simp [w__law_same, a1, a2, a3, a4, a5, b1, b2, b3, b4, b5, tyN, isA, tysOf, isNonU, z]; try exact q _ rfl)
    rename_i us
    split
    · rename_i hl
      have hz := h2.lst
      rw [sizeLine_eq] at hz
      refine ⟨by omega, same_all (.inr ⟨rfl, rfl⟩) h1 h2 (by simpa [okU] using ho) hd (by omega) (q _ (by simp [sameB]))⟩
    · rename_i hl
      exact q _ (by simp only [sameB]; rw [sameBs_len (by omega)]; simp [hl])
end Law

namespace Law
open PySem PySem.Spec PyProof.Rows L2 Pu Sem
theorem signs_all (z : Str) (p : Nat → Bool) : (signsU z).all (fun u => match u with | .str s => (match s.cps.toList with | [c] => p c | _ => false) | _ => false) = z.cps.toList.all p := by
  unfold signsU
  rw [List.all_map]
  rfl
def sp__law_is_tag : USp := sp1 fun u M R _ => Sm u ∧ R (.bl (isTag u)) M
theorem pure__law_is_tag (a : U) (M : Mp) (R : UK) (E : UXK) (h : sp__law_is_tag [a] M R E) : w__law_is_tag E (endU R) [some a, none, none] M := by
  obtain ⟨h1, q⟩ := h
  replace q := ret_of q
  have t := h1.noref M "str" ty6
  cases a <;> first | exact (Sm.no_ref h1).elim | exact (Sm.no_pr h1).elim | exact (Sm.no_ty h1).elim | (simp [w__law_is_tag, t, tyN, isA, -wIf_, -wSet_]; try exact q _ rfl)
  rename_i l
  have z := h1.str
  have z2 := bare_len l
  have z3 : (bareS l).length ≤ sizeLine := by omega
  rw [wSet_]
  refine wIf_pure (cutStr l (some (-1)) none == ("!" : Str)) (.str (cutStr l none (some (-1)))) (.str l) (fun RT h => by simpa [z] using h) (fun R h => by simpa [z] using h) (fun R h => by simpa using h) (.str (bareS l)) (by unfold bareS; split <;> rfl) ?_
  simp [lenU, z3]
  split
  · split
    · rename_i k1 k2
      refine all_map (fun u => match u with | .str s => (match s.cps.toList with | [c] => decide (c ∈ letters.cps.toList) | _ => false) | _ => false) any_keep (by rw [signsU_len]; exact z3) (fun x hx M' R q => ?_) ?_
      · obtain ⟨c, hc, rfl⟩ := List.mem_map.mp hx
        simp
        simpa [letters] using q
      · rw [signs_all]
        refine q _ ?_
        have k1' : 1 ≤ (bareS l).length := by omega
        have k2' : (bareS l).length ≤ 8 := by omega
        simp [isTag, isTagS, signsIn, k1', k2']
    · rename_i k1 k2
      have : ¬ (bareS l).length ≤ 8 := by omega
      exact q _ (by simp [isTag, isTagS, this]; omega)
  · rename_i k1
    have : ¬ 1 ≤ (bareS l).length := by omega
    exact q _ (by simp [isTag, isTagS, this])
def sp__law_is_kind : USp := sp1 fun u M R _ => Sm u ∧ R (.bl (isKind u)) M
theorem kinds_any (l : Str) : ([U.str ("$int" : Str), .str "$text", .str "$int!", .str "$text!"].any fun z => Pu.eqU z (.str l)) = isKindS l := by
  have h1 : ([U.str ("$int" : Str), .str "$text", .str "$int!", .str "$text!"].any fun z => Pu.eqU z (.str l)) = decide (l = ("$int" : Str) ∨ l = ("$text" : Str) ∨ l = ("$int!" : Str) ∨ l = ("$text!" : Str)) := by
    rw [Bool.eq_iff_iff]
    simp [Pu.eqU]
    constructor
    · rintro (h | h | h | h)
      · exact .inl h.symm
      · exact .inr (.inl h.symm)
      · exact .inr (.inr (.inl h.symm))
      · exact .inr (.inr (.inr h.symm))
    · rintro (h | h | h | h)
      · exact .inl h.symm
      · exact .inr (.inl h.symm)
      · exact .inr (.inr (.inl h.symm))
      · exact .inr (.inr (.inr h.symm))
  rw [h1]
  cases k : isKindS l with
  | true =>
    rcases kind_four k with e | e | e | e <;> simp [e]
  | false =>
    have : ∀ m : Str, isKindS m = true → l ≠ m := fun m hm e => by rw [e, hm] at k; cases k
    have a1 := this "$int" (by decide +kernel)
    have a2 := this "$text" (by decide +kernel)
    have a3 := this "$int!" (by decide +kernel)
    have a4 := this "$text!" (by decide +kernel)
    simp [a1, a2, a3, a4]
theorem pure__law_is_kind (a : U) (M : Mp) (R : UK) (E : UXK) (h : sp__law_is_kind [a] M R E) : w__law_is_kind E (endU R) [some a] M := by
  obtain ⟨h1, q⟩ := h
  replace q := ret_of q
  have t := h1.noref M "str" ty6
  have z4 : 4 ≤ sizeLine := by have := zLine; omega
  cases a <;> first | exact (Sm.no_ref h1).elim | exact (Sm.no_pr h1).elim | exact (Sm.no_ty h1).elim | (simp [w__law_is_kind, t, tyN, isA, z4]; try exact q _ rfl)
  rename_i l
  refine uIn_l (.inl ⟨rfl, rfl⟩) ?_
  rw [kinds_any]
  exact q _ rfl
end Law

namespace Law
open PySem PySem.Spec PyProof.Rows L2 Pu Sem
def sp__law_bent (k : Nat) : USp := sp2 fun d u M R _ => ∃ (a : Addr), d = .ref a ∧ Dr M a ∧ pvU u = true ∧ nd u ≤ 100000 ∧ depU u < k ∧ k ≤ 100 ∧ ∀ v, Bt u v → R v M
/-- the last row: b the box -/
def oddRow (u b : U) : List U := [.non, .tup [], .lst [], .bl true, .str "a", .int 0, .int (-1), .tup [u], .lst [.str "x"], .dct [] [], .tup [.str "a", .tup []], .tup [.str "$int", .str "0"], b]
theorem oddRow_ok {u b : U} (hu : pvU u = true) (hb : Bt u b) : ∀ v ∈ oddRow u b, Bt u v := by
  have k : ∀ v : U, pvU v = true → nd v ≤ 60 → depU v ≤ 3 → Bt u v := fun v h1 h2 h3 => ⟨h1, by omega, by omega⟩
  have e1 : Bt u (.tup [u]) := ⟨by simp [pvU, pvUs, hu], by simp only [nd, nds]; omega, by simp [depU, depUs] <;> omega⟩
  intro v hv
  simp only [oddRow, List.mem_cons, List.not_mem_nil, or_false] at hv
  rcases hv with e | e | e | e | e | e | e | e | e | e | e | e | e <;> subst e
  · exact k _ (by decide +kernel) (by decide +kernel) (by decide +kernel)
  · exact k _ (by decide +kernel) (by decide +kernel) (by decide +kernel)
  · exact k _ (by decide +kernel) (by decide +kernel) (by decide +kernel)
  · exact k _ (by decide +kernel) (by decide +kernel) (by decide +kernel)
  · exact k _ (by decide +kernel) (by decide +kernel) (by decide +kernel)
  · exact k _ (by decide +kernel) (by decide +kernel) (by decide +kernel)
  · exact k _ (by decide +kernel) (by decide +kernel) (by decide +kernel)
  · exact e1
  · exact k _ (by decide +kernel) (by decide +kernel) (by decide +kernel)
  · exact k _ (by decide +kernel) (by decide +kernel) (by decide +kernel)
  · exact k _ (by decide +kernel) (by decide +kernel) (by decide +kernel)
  · exact k _ (by decide +kernel) (by decide +kernel) (by decide +kernel)
  · exact hb
def strRow (z : Str) : List U := [.str (z ++ ("x" : Str)), .str (cutStr z (some 1) none), .str (z ++ ("!" : Str)), .str "", .str "$int", .str "$text", .str "0", .str "A", .str "head", .str "take", .str "keep", .str "drop", .str "open"]
theorem strRow_ok {z : Str} (hz : okStr z = true) : ∀ v ∈ strRow z, Bt (.str z) v := by
  have k : ∀ s : Str, okStr s = true → s.length ≤ 2 * z.length + 40 → Bt (.str z) (.str s) := fun s h1 h2 => ⟨by simpa [pvU] using h1, by simp only [nd]; omega, by simp only [depU]; omega⟩
  have w : ∀ s : Str, okStr s = true → s.length ≤ 40 → Bt (.str z) (.str s) := fun s h1 h2 => k s h1 (by omega)
  intro v hv
  simp only [strRow, List.mem_cons, List.not_mem_nil, or_false] at hv
  rcases hv with e | e | e | e | e | e | e | e | e | e | e | e | e <;> subst e
  · exact k _ (okStr_app hz (by decide +kernel)) (by rw [len_app]; have : ("x" : Str).length = 1 := rfl; omega)
  · exact k _ (okStr_cut hz _ _) (by have := cutStr_len z (some 1) none; omega)
  · exact k _ (okStr_app hz (by decide +kernel)) (by rw [len_app]; have : ("!" : Str).length = 1 := rfl; omega)
  all_goals exact w _ (by decide +kernel) (by decide +kernel)
theorem pure__law_bent (k : Nat) (u v : U) (M : Mp) (R : UK) (E : UXK) (h : sp__law_bent (k + 1) [u, v] M R E) : w__law_bent sp__law_take (sp__law_bent k) sp__law_is_whole sp__law_pick E (endU R) [some u, some v, none, none] M := by
  obtain ⟨a, rfl, dr, hp, hz, hd, hk, q⟩ := h
  have zz := zLine
  have z13 : 13 ≤ sizeLine := by omega
  have z6 : 6 ≤ sizeLine := by omega
  have z3 : 3 ≤ sizeLine := by omega
  have z2 : 2 ≤ sizeLine := by omega
  have z1 : 1 ≤ sizeLine := by omega
  have pw : CPow 10 6 := ⟨by decide, by decide, by decide⟩
  have sm : Sm v := ⟨hp, by omega⟩
  have hfb : Bt v (.bl false) := ⟨rfl, by simp only [nd]; omega, by simp only [depU]; omega⟩
  have last : ∀ (bx : U), Bt v bx → sp__law_pick [.ref a, .lst (oddRow v bx)] M (Pu.Fin R) fun ux M2 => E ux M2 := fun bx hb =>
    pick_l dr (by simp [oddRow]) (by simp [oddRow]) fun x hx => .same (q x (oddRow_ok hp hb x hx))
  cases v with
  | ref _ => exact absurd sm Sm.no_ref
  | ty _ => exact absurd sm Sm.noTy
  | pr _ => exact absurd sm Sm.no_pr
  | non =>
    have ty0 : ∀ M, tyOk M (.non) "tuple" ∧ tyOk M (.non) "int" ∧ tyOk M (.non) "str" ∧ tyOk M (.non) "bool" := fun M => ⟨sm.noref M _ ty6, sm.noref M _ ty6, sm.noref M _ ty6, sm.noref M _ ty6⟩
    have i3 : ∀ M, isA (tyN M (.non)) "str" = false := fun _ => rfl
    have i4 : ∀ M, isA (tyN M (.non)) "tuple" = false := fun _ => rfl
    simp [w__law_bent, ty0, i3, i4, z13, z6, z2, z1]
    refine ⟨sm, ?_⟩
    simp [isIntU]
    exact last _ hfb
  | lst us =>
    have ty0 : ∀ M, tyOk M (.lst us) "tuple" ∧ tyOk M (.lst us) "int" ∧ tyOk M (.lst us) "str" ∧ tyOk M (.lst us) "bool" := fun M => ⟨sm.noref M _ ty6, sm.noref M _ ty6, sm.noref M _ ty6, sm.noref M _ ty6⟩
    have i3 : ∀ M, isA (tyN M (.lst us)) "str" = false := fun _ => rfl
    have i4 : ∀ M, isA (tyN M (.lst us)) "tuple" = false := fun _ => rfl
    simp [w__law_bent, ty0, i3, i4, z13, z6, z2, z1]
    refine ⟨sm, ?_⟩
    simp [isIntU]
    exact last _ hfb
  | dct ks us =>
    have ty0 : ∀ M, tyOk M (.dct ks us) "tuple" ∧ tyOk M (.dct ks us) "int" ∧ tyOk M (.dct ks us) "str" ∧ tyOk M (.dct ks us) "bool" := fun M => ⟨sm.noref M _ ty6, sm.noref M _ ty6, sm.noref M _ ty6, sm.noref M _ ty6⟩
    have i3 : ∀ M, isA (tyN M (.dct ks us)) "str" = false := fun _ => rfl
    have i4 : ∀ M, isA (tyN M (.dct ks us)) "tuple" = false := fun _ => rfl
    simp [w__law_bent, ty0, i3, i4, z13, z6, z2, z1]
    refine ⟨sm, ?_⟩
    simp [isIntU]
    exact last _ hfb
  | bl w =>
    have ty0 : ∀ M, tyOk M (.bl w) "tuple" ∧ tyOk M (.bl w) "int" ∧ tyOk M (.bl w) "str" ∧ tyOk M (.bl w) "bool" := fun M => ⟨sm.noref M _ ty6, sm.noref M _ ty6, sm.noref M _ ty6, sm.noref M _ ty6⟩
    have i3 : ∀ M, isA (tyN M (.bl w)) "str" = false := fun _ => rfl
    have i4 : ∀ M, isA (tyN M (.bl w)) "tuple" = false := fun _ => rfl
    simp [w__law_bent, ty0, i3, i4, z13, z6, z2, z1]
    refine ⟨sm, ?_⟩
    simp [isIntU]
    exact last _ hfb
  | int w =>
    have ty0 : ∀ M, tyOk M (.int w) "tuple" ∧ tyOk M (.int w) "int" ∧ tyOk M (.int w) "str" ∧ tyOk M (.int w) "bool" := fun M => ⟨sm.noref M _ ty6, sm.noref M _ ty6, sm.noref M _ ty6, sm.noref M _ ty6⟩
    have i3 : ∀ M, isA (tyN M (.int w)) "str" = false := fun _ => rfl
    have i4 : ∀ M, isA (tyN M (.int w)) "tuple" = false := fun _ => rfl
    simp [w__law_bent, ty0, i3, i4, z13, z6, z2, z1]
    refine ⟨sm, ?_⟩
    simp [isIntU]
    refine take_at dr (by decide) (by decide) fun i i0 i1 => ?_
    simp
    split
    · refine ⟨pw, pick_l dr (by simp) (by simp) fun x hx => ?_⟩
      have : ∃ y : Int, x = .int y := by
        simp at hx
        rcases hx with e | e | e | e | e | e <;> exact ⟨_, e⟩
      obtain ⟨y, rfl⟩ := this
      simp
      exact .same (q _ ⟨rfl, by simp [nd], by simp [depU]⟩)
    · exact last _ hfb
  | str z =>
    have ty0 : ∀ M, tyOk M (.str z) "tuple" ∧ tyOk M (.str z) "int" ∧ tyOk M (.str z) "str" ∧ tyOk M (.str z) "bool" := fun M => ⟨sm.noref M _ ty6, sm.noref M _ ty6, sm.noref M _ ty6, sm.noref M _ ty6⟩
    have i3 : ∀ M, isA (tyN M (.str z)) "str" = true := fun _ => rfl
    have i4 : ∀ M, isA (tyN M (.str z)) "tuple" = false := fun _ => rfl
    have hl : z.length ≤ sizeLine := sm.str
    have hok : okStr z = true := by simpa [pvU] using hp
    have hzl : z.length ≤ 100000 := by simp only [nd] at hz; omega
    have e1 : ("x" : Str).length = 1 := rfl
    have e2 : ("!" : Str).length = 1 := rfl
    simp [w__law_bent, ty0, i3, i4, z13, z6, z3, z2, z1, hl]
    refine ⟨sm, ?_⟩
    simp [isIntU]
    refine take_at dr (by decide) (by decide) fun i i0 i1 => ?_
    simp
    split
    · rw [e1, e2]
      refine ⟨by omega, by omega, pick_l dr (by simp) (by simp) fun x hx => .same (q x (strRow_ok hok x hx))⟩
    · exact last _ hfb
  | tup us =>
    have hl : us.length ≤ sizeLine := sm.tup
    have ty0 : ∀ M, tyOk M (.tup us) "tuple" ∧ tyOk M (.tup us) "int" ∧ tyOk M (.tup us) "str" ∧ tyOk M (.tup us) "bool" := fun M => ⟨sm.noref M _ ty6, sm.noref M _ ty6, sm.noref M _ ty6, sm.noref M _ ty6⟩
    have i3 : ∀ M, isA (tyN M (.tup us)) "str" = false := fun _ => rfl
    have i4 : ∀ M, isA (tyN M (.tup us)) "tuple" = true := fun _ => rfl
    have pu := hp
    simp [pvU] at pu
    have hlen : us.length < 100000 := by have := len_nds us; simp only [nd] at hz; omega
    simp [w__law_bent, ty0, i3, i4, z13, z6, z3, z2, z1]
    split
    · refine ⟨sm, ?_⟩
      simp [isIntU]
      exact last _ (box_tup hp)
    · rename_i hne
      have hl0 : 0 < us.length := List.length_pos_iff.mpr (by simpa using hne)
      refine take_at dr (by decide) (by decide) fun i i0 i1 => ?_
      simp
      split
      · refine take_at dr (by omega) (by omega) fun j j0 j1 => ?_
        refine take_at dr (by decide) (by decide) fun w w0 w1 => ?_
        have ex := cut_to us (j.toNat + 1)
        rw [show ((j.toNat + 1 : Nat) : Int) = j + 1 by omega] at ex
        have hjl : j.toNat < us.length := by omega
        obtain ⟨p, x, r, eu, e1, e2, e3, e4⟩ := split_k j0 j1
        have ex2 : cutU us none (some (j + 1)) = p ++ [x] := by
          have hp1 := cut_to us j.toNat
          rw [show ((j.toNat : Nat) : Int) = j by omega, e1] at hp1
          have hx := atI_pos j0 (List.getElem?_eq_getElem hjl)
          rw [e4] at hx
          cases hx
          rw [ex, hp1, List.take_succ, List.getElem?_eq_getElem hjl]
          rfl
        clear ex
        rw [eu] at pu
        have hx : pvU x = true := pvU_mem pu (by simp)
        rw [pvUs_append] at pu
        simp [pvUs] at pu
        obtain ⟨pp, px, pr⟩ := pu
        have hlen2 := hlen
        rw [eu] at hlen2
        simp only [List.length_append, List.length_cons] at hlen2
        have ret : ∀ q', pvUs q' = true → nds q' ≤ nds p + (2 * nd x + 60) + nds r → depUs q' ≤ max (max (depUs p) (depU x + 3)) (depUs r) → Bt (.tup us) (.tup q') := fun q' h1 h2 h3 => by
          rw [eu]
          exact tup_bt (by rw [← eu]; exact hp) h1 h2 h3
        refine ⟨_, _, ⟨rfl, rfl⟩, ?_⟩
        simp [e1, e2, e3, e4, ex2]
        split
        · refine ⟨by omega, by omega, by omega, ?_⟩
          obtain ⟨y, e, m⟩ := at_row (us := [U.tup (p ++ r), .tup (p ++ x :: x :: r), .tup (p ++ (r.reverse ++ [x]))]) w0 (show w < 3 by omega)
          refine ⟨y, by simpa using e, .same (q y ?_)⟩
          simp only [List.mem_cons, List.not_mem_nil, or_false] at m
          rcases m with e | e | e <;> subst e
          · exact ret _ (by rw [pvUs_append, pp, pr]; rfl) (by rw [nds_append]; omega) (by rw [depUs_append]; omega)
          · exact ret _ (by rw [pvUs_append]; simp [pvUs, pp, pr, px]) (by rw [nds_append]; simp only [nds]; omega) (by rw [depUs_append]; simp only [depUs]; omega)
          · refine ret _ ?_ ?_ ?_
            · rw [pvUs_append, pvUs_append, pvUs_rev]; simp [pvUs, pp, pr, px]
            · rw [nds_append, nds_append, nds_rev]; simp only [nds]; omega
            · rw [depUs_append, depUs_append, depUs_rev]; simp only [depUs]; omega
        · have hz' := hz
          rw [eu] at hz'
          simp only [nd, nds_append, nds] at hz'
          have hd' := hd
          rw [eu] at hd'
          simp only [depU, depUs_append, depUs] at hd'
          refine ⟨a, rfl, dr, px, by omega, by omega, by omega, fun v bt => ?_⟩
          have := bt.sz; have := bt.dep; have := bt.pv
          refine ⟨by omega, by omega, .same (q _ (ret _ ?_ ?_ ?_))⟩
          · rw [pvUs_append]; simp [pvUs, pp, pr, bt.pv]
          · rw [nds_append]; simp only [nds]; omega
          · rw [depUs_append]; simp only [depUs]; omega
      · refine ⟨sm, ?_⟩
        simp [isIntU]
        exact last _ (box_tup hp)
end Law

namespace Law
open PySem PySem.Spec PyProof.Rows L2 Pu Sem
/-! what a migration is -/
def sp_are_alike : USp := sp2 fun u v M R _ => Sm u ∧ Sm v ∧ R (.bl (alikeB u v)) M
theorem pure_are_alike (u v : U) (M : Mp) (R : UK) (E : UXK) (h : sp_are_alike [u, v] M R E) : w_are_alike sp_is_tag sp_is_kind E (endU R) [some u, some v] M := by
  obtain ⟨h1, h2, q⟩ := h
  replace q := ret_of q
  simp [w_are_alike]
  refine ⟨h1, ?_⟩
  cases a : isTag u with
  | true =>
    simp
    refine ⟨h2, ?_⟩
    cases b : isTag v with
    | true => simp; exact q _ (by simp [alikeB, a, b])
    | false =>
      simp
      refine ⟨h1, ?_⟩
      cases c : isKind u with
      | true => simp; exact ⟨h2, q _ (by simp [alikeB, a, b, c])⟩
      | false => simp; exact q _ (by simp [alikeB, a, b, c])
  | false =>
    simp
    refine ⟨h1, ?_⟩
    cases c : isKind u with
    | true => simp; exact ⟨h2, q _ (by simp [alikeB, a, c])⟩
    | false => simp; exact q _ (by simp [alikeB, a, c])
def sp_fits_deed : USp := sp2 fun u v M R _ => ∃ l, u = .str l ∧ Sm u ∧ Sm v ∧ R (.bl (deedB u v)) M
theorem pure_fits_deed (u v : U) (M : Mp) (R : UK) (E : UXK) (h : sp_fits_deed [u, v] M R E) : w_fits_deed sp_is_row sp_are_alike sp_bare sp_is_tag E (endU R) [some u, some v] M := by
  obtain ⟨l, rfl, h1, h2, q⟩ := h
  replace q := ret_of q
  have zz := zLine
  have z1 : 1 ≤ sizeLine := by omega
  have t1 := h2.noref M "tuple" ty6
  cases v <;> first | exact (Sm.no_ref h2).elim | exact (Sm.no_pr h2).elim | exact (Sm.noTy h2).elim | (simp [w_fits_deed, t1, tyN, isA]; try exact q _ rfl)
  rename_i us
  cases us with
  | nil => simp; exact q _ rfl
  | cons a r =>
    have sa : Sm a := h2.mem List.mem_cons_self
    have t2 := sa.noref M "str" ty6
    simp
    cases a <;> first | exact (Sm.no_ref sa).elim | exact (Sm.no_pr sa).elim | exact (Sm.noTy sa).elim | (simp [t2, tyN, isA]; try exact q _ rfl)
    rename_i s
    split
    · rename_i hs
      subst hs
      refine ⟨2, rfl, h2, ?_⟩
      match r, q with
      | [], q => simp [isRow]; exact q _ (by simp [deedB])
      | [x], q =>
        have sx : Sm x := h2.mem (by simp)
        simp [isRow]
        refine ⟨h1, sx, ?_⟩
        cases ha : alikeB (.str l) x with
        | false => simp; exact q _ (by simp [deedB, ha])
        | true =>
          simp
          have hx : ∃ m, x = .str m := by
            cases x <;> first | exact ⟨_, rfl⟩ | (simp [alikeB, isTag, isKind] at ha; done)
          obtain ⟨m, rfl⟩ := hx
          refine ⟨l, rfl, h1, ?_⟩
          simp
          by_cases e : bareS l = ("$text" : Str)
          · simp [e]
            refine ⟨m, rfl, sx, ?_⟩
            by_cases e2 : bareS m = ("$int" : Str)
            · simp [e2]; exact q _ (by simp [deedB, ha, bareIs, e, e2])
            · have a1 : (bareS m == ("$int" : Str)) = false := by simpa using e2
              simp [bne, a1]; exact q _ (by simp [deedB, ha, bareIs, a1])
          · have a1 : (bareS l == ("$text" : Str)) = false := by simpa using e
            simp [e]; exact q _ (by simp [deedB, ha, bareIs, a1]; try exact e)
      | x :: y :: r, q =>
        have : ¬ (((x :: y :: r).length : Int) + 1 = 2) := by simp only [List.length_cons]; omega
        have e : isRow (.tup (.str "keep" :: x :: y :: r)) 2 = false := by simp [isRow]; omega
        rw [e]
        simp
        exact q _ (by simp [deedB])
    · rename_i hs
      refine ⟨z1, uEqD_s ?_⟩
      have hd : deedB (.str l) (.tup (.str s :: r)) = (r.isEmpty && (s == ("drop" : Str) || (s == ("open" : Str) && isTag (.str l)))) := by
        simp only [deedB]; rw [if_neg (by simpa using hs)]
      rw [hd] at q
      cases r with
      | cons _ _ =>
        simp
        refine ⟨z1, uEqD_s ?_⟩
        simp
        exact q _ (by simp)
      | nil =>
        simp
        split
        · rename_i e
          exact q _ (by simp [e])
        · rename_i e
          refine ⟨z1, uEqD_s ?_⟩
          simp
          split
          · rename_i e2
            have e3 : ¬ ("open" : Str) = ("drop" : Str) := by decide +kernel
            exact ⟨h1, q _ (by simp [e2, e3])⟩
          · rename_i e2
            have a1 : (s == ("open" : Str)) = false := by simpa using e2
            have a2 : (s == ("drop" : Str)) = false := by simpa using e
            exact q _ (by simp [a1, a2])
theorem zip_asc : ∀ ps : List U, ps.all pairB = true → (zipU ps (ps.drop 1)).all (fun u => match u with | .pr [a, b] => strLt (fstS a) (fstS b) | _ => false) = ascB ps
  | [], _ => rfl
  | [p], _ => rfl
  | p :: q :: r, h => by
    have ih := zip_asc (q :: r) (by simp only [List.all_cons, Bool.and_eq_true] at h ⊢; exact h.2)
    show (strLt (fstS p) (fstS q) && (zipU (q :: r) ((q :: r).drop 1)).all _) = _
    rw [ih]
    rfl
theorem mem_zip {us ws : List U} {x : U} (h : x ∈ zipU us ws) : ∃ a b, a ∈ us ∧ b ∈ ws ∧ x = .pr [a, b] := by
  obtain ⟨i, hi, e⟩ := List.mem_iff_getElem.mp h
  have e2 : (zipU us ws)[i]? = some x := by rw [List.getElem?_eq_getElem hi, e]
  obtain ⟨a, b, h1, h2, e3⟩ := zipU_get e2
  exact ⟨a, b, List.mem_of_getElem? h1, List.mem_of_getElem? h2, e3⟩
theorem zip_len (us ws : List U) : (zipU us ws).length = min us.length ws.length := by simp [zipU]
def sp_fits_migration : USp := sp1 fun u M R _ => Sm u ∧ R (.bl (migB u)) M
theorem pure_fits_migration (u : U) (M : Mp) (R : UK) (E : UXK) (h : sp_fits_migration [u] M R E) : w_fits_migration sp_is_row sp_is_label sp_fits_deed E (endU R) [some u, none, none, none] M := by
  obtain ⟨h1, q⟩ := h
  replace q := ret_of q
  have t1 := h1.noref M "tuple" ty6
  cases u <;> first | exact (Sm.no_ref h1).elim | exact (Sm.no_pr h1).elim | exact (Sm.noTy h1).elim | (simp [w_fits_migration, t1, tyN, isA]; try exact q _ rfl)
  rename_i ps
  have hl := h1.tup
  refine all_map (fun p => isRow p 2) any_keep hl (fun x hx M' R' q' => ?_) ?_
  · simp
    exact ⟨2, rfl, h1.mem hx, q'⟩
  simp
  split
  · rename_i hrow
    have row : ∀ p ∈ ps, ∃ a b, p = .tup [a, b] := fun p hp => by
      have hr := hrow p hp
      cases p with
      | tup us =>
        match us, hr with
        | [a, b], _ => exact ⟨a, b, rfl⟩
        | [], hr => simp [isRow] at hr
        | [_], hr => simp [isRow] at hr
        | _ :: _ :: _ :: _, hr => simp [isRow] at hr; omega
      | _ => simp [isRow] at hr
    refine all_map pairB any_keep hl (fun x hx M' R' q' => ?_) ?_
    · obtain ⟨a, b, rfl⟩ := row x hx
      have sx := h1.mem hx
      have sa : Sm a := sx.mem (by simp)
      have sb : Sm b := sx.mem (by simp)
      simp
      refine ⟨sa, ?_⟩
      have hlb : isLblU a = (isTag a || isKind a) := rfl
      rw [hlb]
      cases hla : (isTag a || isKind a) with
      | false => simp; simpa [pairB, hla] using q'
      | true =>
        have ha : ∃ l, a = .str l := by cases a <;> first | exact ⟨_, rfl⟩ | (simp [isTag, isKind] at hla; done)
        obtain ⟨l, rfl⟩ := ha
        simp
        refine ⟨l, rfl, sa, sb, ?_⟩
        simpa [pairB, hla] using q'
    simp
    split
    · rename_i hp
      have hall : ps.all pairB = true := List.all_eq_true.mpr hp
      have hc : cutU ps (some 1) none = ps.drop 1 := cut_from ps 1
      rw [hc]
      refine all_map (fun u => match u with | .pr [a, b] => strLt (fstS a) (fstS b) | _ => false) any_keep (by rw [zip_len]; omega) (fun x hx M' R' q' => ?_) ?_
      · obtain ⟨a, b, ha, hb, rfl⟩ := mem_zip hx
        obtain ⟨l1, e1, rfl, _, _⟩ := pairB_form (hp a ha)
        obtain ⟨l2, e2, rfl, _, _⟩ := pairB_form (hp b (List.mem_of_mem_drop hb))
        simp [prU]
        exact q'
      · rw [zip_asc ps hall]
        exact q _ (by simp [migB, hall])
    · rename_i hp
      refine q _ ?_
      have : ps.all pairB = false := by simpa using hp
      simp [migB, this]
  · rename_i hrow
    refine q _ ?_
    have : ps.all pairB = false := by
      simp at hrow
      obtain ⟨p, hp, hr⟩ := hrow
      refine List.all_eq_false.mpr ⟨p, hp, fun hpb => ?_⟩
      obtain ⟨l, e, rfl, _, _⟩ := pairB_form hpb
      simp [isRow, prU] at hr
    simp [migB, this]
def sp_is_migration : USp := sp1 fun u M R _ => Sm u ∧ R (.bl (migB u)) M
theorem pure_is_migration (u : U) (M : Mp) (R : UK) (E : UXK) (h : sp_is_migration [u] M R E) : w_is_migration sp_fits_migration E (endU R) [some u] M := by
  obtain ⟨h1, q⟩ := h
  simp [w_is_migration]
  exact ⟨h1, .same q⟩
def sp_check_migration : USp := sp1 fun u M R E => Sm u ∧ if migB u = true then R .non M else E ⟨"InvalidMigration", []⟩ M
theorem pure_check_migration (u : U) (M : Mp) (R : UK) (E : UXK) (h : sp_check_migration [u] M R E) : w_check_migration sp_fits_migration E (endU R) [some u] M := by
  obtain ⟨h1, q⟩ := h
  simp [w_check_migration]
  refine ⟨h1, ?_⟩
  cases e : migB u with
  | true => rw [e] at q; simp at q ⊢; exact .same q
  | false => rw [e] at q; simp at q ⊢; exact q
end Law

namespace Law
open PySem PySem.Spec PyProof.Rows L2 Pu Sem
/-! deeds and forests -/
theorem compU2_flatS {D : Addr} {gt gt1 : WG} {te : WE} {w1 : WI} {vs1 : List Nat} {su1 : Sg} {M : Mp} (S : Sg → Prop) (F : U → List U) : ∀ (us acc : List U) (R : List U → Mp → Prop),
    (∀ x ∈ us, ∀ a (R : List U → (Mp → Prop) → Sg → Mp → Prop), (∀ su2, S su2 → R (F x) Any su2 (put M D (.lst a))) → gt x su1 (put M D (.lst a)) fun su2 M1 => w1 su2 M1 fun us1 keep1 M3 => R us1 keep1 su2 M3) →
    (∀ (su2 : Sg) (y : U) a (R : UK), S su2 → R y (put M D (.lst a)) → gt1 y (wipeU su2 vs1) (put M D (.lst a)) fun su3 M1 => te su3 M1 R) →
    acc.length + (us.flatMap F).length ≤ sizeLine → R (acc ++ us.flatMap F) (put M D (.lst (acc ++ us.flatMap F))) → compU2 D Any gt wYes w1 gt1 wYes te vs1 su1 us (put M D (.lst acc)) R
  | [], acc, R, _, _, _, q => ⟨acc, put_same, by simpa using q⟩
  | x :: r, acc, R, h, h1, hz, q => by
    unfold compU2
    rw [List.flatMap_cons, List.length_append] at hz
    refine h x List.mem_cons_self acc (fun us1 keep1 su2 M3 => compV D keep1 gt1 wYes te (wipeU su2 vs1) us1 M3 fun M4 => Any M4 ∧ compU2 D Any gt wYes w1 gt1 wYes te vs1 su1 r M4 R) fun su2 hs => ?_
    have := compV_any (D := D) (gt := gt1) (te := te) (su1 := wipeU su2 vs1) (M := M) id (F x) acc (fun M4 => Any M4 ∧ compU2 D Any gt wYes w1 gt1 wYes te vs1 su1 r M4 R) (fun y _ a R q => h1 su2 y a R hs q) (by omega) ⟨trivial, ?_⟩
    · exact this
    · rw [List.map_id]
      exact compU2_flatS S F r (acc ++ F x) R (fun y hy => h y (List.mem_cons_of_mem _ hy)) h1 (by rw [List.length_append]; omega) (by rw [List.flatMap_cons] at q; simpa using q)
theorem comp2_flatS {gt gt1 : WG} {te : WE} {w1 : WI} {vs1 : List Nat} {su1 : Sg} {M : Mp} {us : List U} {R : UK} (S : Sg → Prop) (F : U → List U) (hz : (us.flatMap F).length ≤ sizeLine)
    (h : ∀ x ∈ us, ∀ D a (R : List U → (Mp → Prop) → Sg → Mp → Prop), M D = none → (∀ su2, S su2 → R (F x) Any su2 (put M D (.lst a))) → gt x su1 (put M D (.lst a)) fun su2 M1 => w1 su2 M1 fun us1 keep1 M3 => R us1 keep1 su2 M3)
    (h1 : ∀ (su2 : Sg) (y : U) (M' : Mp) (R : UK), S su2 → R y M' → gt1 y (wipeU su2 vs1) M' fun su3 M1 => te su3 M1 R) (q : R (.lst (us.flatMap F)) M) : CompG2 false Any gt wYes w1 gt1 wYes te vs1 su1 us M R := fun D hD =>
  ⟨trivial, compU2_flatS S F us [] _ (fun x hx a R r => h x hx D a R hD r) (fun su2 y a R hs q => h1 su2 y _ R hs q) (by simpa using hz) (by
    unfold compEnd
    rw [if_neg Bool.false_ne_true, del_put hD]
    simpa using q)⟩
theorem uEq_keep {a b : Str} {M : Mp} {R : UK} : uEq (.str a) (.str b) M R ↔ R (.bl (a == b)) M := uEq_ss
theorem zip_pairs : ∀ ms : Mig, ((ms.map fun p => (Sum.inr p.1 : Key)).zip (ms.map fun p => dU p.2)).map (fun p => U.tup [keyU p.1, p.2]) = ms.map prU
  | [] => rfl
  | p :: ms => by rw [List.map_cons, List.map_cons, List.zip_cons_cons, List.map_cons, zip_pairs ms]; rfl
theorem look_deed {l : Str} : ∀ ms : Mig, lookU (ms.map fun p => (Sum.inr p.1 : Key)) (ms.map fun p => dU p.2) (.inr l) = (ms.lookup l).map dU
  | [] => rfl
  | (a, b) :: ms => by
    rw [List.map_cons, List.map_cons, List.lookup_cons]
    unfold lookU
    by_cases h : a = l
    · subst h
      have : (a == a) = true := by simp
      rw [if_pos rfl, this]
      rfl
    · have h2 : ¬ ((Sum.inr a : Key) = .inr l) := fun e => h (by injection e)
      have h3 : (l == a) = false := by simpa using fun e => h e.symm
      rw [if_neg h2, h3]
      exact look_deed ms
def sp_deed_of : USp := sp2 fun m l M R _ => ∃ (ms : Mig) (s : Str), m = migU ms ∧ l = .str s ∧ (ms.map (·.1)).Nodup ∧ ms.length ≤ sizeLine ∧ R (dU (deedS ms s)) M
theorem pure_deed_of (u v : U) (M : Mp) (R : UK) (E : UXK) (h : sp_deed_of [u, v] M R E) : w_deed_of E (endU R) [some u, some v] M := by
  obtain ⟨ms, s, rfl, rfl, nd, hl, q⟩ := h
  have zz := zLine
  have z2 : 2 ≤ sizeLine := by omega
  simp [w_deed_of]
  refine ⟨ms.map fun p => (Sum.inr p.1 : Key), ms.map fun p => dU p.2, by simp, ?_, ?_, rfl, z2, _, _, rfl, .inr s, rfl, fun v hv => ?_, fun hn => ?_⟩
  · rw [zip_pairs]; rfl
  · have : (ms.map fun p => (Sum.inr p.1 : Key)) = (ms.map (·.1)).map Sum.inr := by rw [List.map_map]; rfl
    rw [this]
    exact List.pairwise_map.mpr (nd.imp fun {a b} h e => h (by injection e))
  · rw [look_deed] at hv
    unfold deedS at q
    cases e : ms.lookup s with
    | none => rw [e] at hv; cases hv
    | some d =>
      rw [e] at hv q
      cases hv
      exact .same q
  · rw [look_deed] at hn
    unfold deedS at q
    cases e : ms.lookup s with
    | none => rw [e] at q; exact .same q
    | some d => rw [e] at hn; cases hn
/-- what a forest's walk asks: a good migration and a part, not great -/
structure FoIn (ms : Mig) (u : U) : Prop where
  ok : MigOk ms
  len : ms.length ≤ 1000
  part : isPart u = true
  pv : pvU u = true
  sz : nd u + 10 * (labelsP u).length ≤ 900000
theorem FoIn.sm {ms : Mig} {u : U} (h : FoIn ms u) : Sm u := ⟨h.pv, by have := h.sz; omega⟩
theorem labs_le {p : U} : ∀ {ps : List U}, p ∈ ps → (labelsP p).length ≤ (labelsPs ps).length
  | q :: ps, h => by
    simp only [labelsPs, List.length_append]
    rcases List.mem_cons.mp h with e | h
    · subst e; omega
    · have := labs_le h; omega
theorem FoIn.kid {ms : Mig} {l p : U} {ps : List U} {s : Str} (h : FoIn ms (.tup [.str s, .tup ps])) (hp : p ∈ ps) (hh : isPart p = true) : FoIn ms p := by
  have hv := h.pv
  simp [pvU, pvUs] at hv
  have h1 := nd_mem hp
  have h2 := labs_le hp
  have h3 := h.sz
  rw [labelsP_tag] at h3
  simp only [nd, nds, List.length_cons] at h3
  exact ⟨h.ok, h.len, hh, pvU_mem hv.2 hp, by omega⟩
theorem dU_first (d : Deed) : ∃ s r, dU d = .tup (.str s :: r) := by cases d <;> exact ⟨_, _, rfl⟩
def sp_forest_for (n : Nat) : USp := sp2 fun m u M R _ => ∃ ms, m = migU ms ∧ FoIn ms u ∧ depU u < n ∧ R (.tup (forestP ms u)) M
theorem forest_len {ms : Mig} (h : MigOk ms) {u : U} (hp : isPart u = true) (hv : pvU u = true) : (forestP ms u).length ≤ nd u + 10 * (labelsP u).length := by
  have := (forest_ok h u hp hv).sz
  have := len_nds (forestP ms u)
  omega
theorem forests_len {ms : Mig} (h : MigOk ms) : ∀ {ps : List U}, (∀ p ∈ ps, isPart p = true) → pvUs ps = true → (forestPs ms ps).length ≤ nds ps + 10 * (labelsPs ps).length
  | [], _, _ => by simp [forestPs]
  | p :: ps, hh, hv => by
    simp [pvUs] at hv
    have h1 := forest_len h (hh p List.mem_cons_self) hv.1
    have h2 := forests_len h (fun x hx => hh x (List.mem_cons_of_mem _ hx)) hv.2
    simp only [forestPs, nds, labelsPs, List.length_append]
    omega
theorem pure_forest_for (n : Nat) (u v : U) (M : Mp) (R : UK) (E : UXK) (h : sp_forest_for (n + 1) [u, v] M R E) : w_forest_for sp_deed_of sp_is_kind (sp_forest_for n) E (endU R) [some u, some v, none, none, none, none] M := by
  obtain ⟨ms, rfl, fi, hd, q⟩ := h
  have zz := zLine
  have z1 : 1 ≤ sizeLine := by omega
  have z2 : 2 ≤ sizeLine := by omega
  have z0 : 0 ≤ sizeLine := by omega
  have nd := strict_nodup fi.ok.asc
  have hl := fi.len
  have sm := fi.sm
  have k1 : ¬ ("keep" : Str) = ("drop" : Str) := by decide +kernel
  have k2 : ¬ ("keep" : Str) = ("open" : Str) := by decide +kernel
  have k3 : ¬ ("open" : Str) = ("drop" : Str) := by decide +kernel
  cases partC fi.part with
  | @kind l x k t =>
    rw [forest_leaf] at q
    have hf := deedS_fit fi.ok (l := l) (by simp [isLabelS, k])
    simp [w_forest_for]
    refine ⟨ms, l, rfl, rfl, nd, by omega, ?_⟩
    cases e : deedS ms l with
    | keep m =>
      rw [e] at q
      simp [dU, k1, z1, z2]
      refine ⟨sm.mem (by simp), ?_⟩
      rw [show isKind (.str l) = true from k]
      simp
      exact .same q
    | drop =>
      rw [e] at q
      simp [dU, z0]
      exact .same q
    | opn =>
      rw [e] at hf
      have : isKindS l = false := hf
      rw [k] at this
      cases this
  | @tag l ps k t hh =>
    rw [forest_node] at q
    have hv := fi.pv
    simp [pvU, pvUs] at hv
    have hlen := forests_len fi.ok hh hv.2
    have hsz := fi.sz
    rw [labelsP_tag] at hsz
    simp only [Sem.nd, nds, List.length_cons] at hsz
    have hflat := forestPs_flat ms ps
    have kid : ∀ p ∈ ps, FoIn ms p ∧ depU p < n := fun p hp => ⟨fi.kid (l := .non) hp (hh p hp), by have := dep_mem hp; simp only [depU, depUs] at hd; omega⟩
    have inner : ∀ (dd : U) (R' : UK), R' (.lst (forestPs ms ps)) M → CompG2 false Any (wName 4) wYes (wIt (wCall (sp_forest_for n) (fun _ _ _ => False) (wCons (wVar 0) (wCons (wVar 4) wNil)))) (wName 5) wYes (wVar 5) [5] [some (migU ms), some (.tup [.str l, .tup ps]), some dd, none, none, none] ps M R' := fun dd R' hq => by
      refine comp2_flatS (fun su => ∃ x, su = [some (migU ms), some (.tup [.str l, .tup ps]), some dd, none, some x, none]) (forestP ms) (by rw [← hflat]; omega) (fun x hx D a R2 fD r => ?_) (fun su2 y M' R2 ⟨x, hs⟩ r => ?_) (by rw [← hflat]; exact hq)
      · simp
        exact ⟨ms, rfl, (kid x hx).1, (kid x hx).2, r _ ⟨x, rfl⟩⟩
      · subst hs
        simp
        exact r
    simp [w_forest_for]
    refine ⟨ms, l, rfl, rfl, nd, by omega, ?_⟩
    cases e : deedS ms l with
    | keep m =>
      rw [e] at q
      simp [dU, k1, k2, z1, z2]
      refine ⟨sm.mem (by simp), ?_⟩
      rw [show isKind (.str l) = false from k]
      simp
      refine inner _ _ ?_
      simp
      exact .same q
    | drop =>
      rw [e] at q
      simp [dU, z0]
      exact .same q
    | opn =>
      rw [e] at q
      simp [dU, k3, z1, z2]
      refine ⟨sm.mem (by simp), ?_⟩
      rw [show isKind (.str l) = false from k]
      simp
      refine inner _ _ ?_
      simp
      exact .same q
end Law

namespace Law
open PySem PySem.Spec PyProof.Rows L2 Pu Sem
def GoodPs (ms : Mig) : Prop := ∀ p ∈ ms, isLabelS p.1 = true ∧ fitD p.1 p.2
theorem fit_dU {l : Str} {d : Deed} (h : fitD l d) : Fit (dU d) ∧ Sm (dU d) := by
  cases d with
  | keep m =>
    obtain ⟨l1, l2⟩ := label_len h.1.2
    have : okStr ("keep" : Str) = true := by decide +kernel
    exact ⟨⟨by simp [dU, okU, okUs, l2, this], by simp [dU, depU, depUs]⟩, ⟨by simp [dU, pvU, pvUs, l2, this], by simp only [dU, nd, nds]; have : ("keep" : Str).length = 4 := rfl; omega⟩⟩
  | drop => exact ⟨⟨by decide +kernel, by decide +kernel⟩, ⟨by decide +kernel, by decide +kernel⟩⟩
  | opn => exact ⟨⟨by decide +kernel, by decide +kernel⟩, ⟨by decide +kernel, by decide +kernel⟩⟩
theorem eq_keep (d : Deed) (l : Str) : Pu.eqU (dU d) (.tup [.str "keep", .str l]) = decide (d = .keep l) := by
  cases d with
  | keep m =>
    rw [Bool.eq_iff_iff]
    simp [dU, Pu.eqU, eqUs]
  | drop => simp [dU, Pu.eqU, eqUs]
  | opn => simp [dU, Pu.eqU, eqUs]
theorem ne_keep {l : Str} {d : Deed} {M : Mp} {R : UK} (h : fitD l d) (hl : isLabelS l = true) (q : R (.bl (!decide (d = .keep l))) M) : uNe (dU d) (.tup [.str "keep", .str l]) M R := by
  have f2 : Fit (.tup [.str ("keep" : Str), .str l]) := (fit_dU (l := l) (d := .keep l) ⟨⟨rfl, hl⟩, fun ⟨_, e1, e2⟩ => by rw [e1] at e2; exact absurd e2 (by decide +kernel)⟩).1
  have f1 := (fit_dU h).1
  have e1 : rs M (dU d) = dU d := by cases d <;> rfl
  refine ⟨?_, ?_⟩
  · rw [e1]
    show EqOk (dU d) (.tup [.str ("keep" : Str), .str l])
    cases d <;> exact ⟨f1, f2⟩
  · rw [e1]
    show R (.bl (!Pu.eqU (dU d) (.tup [.str ("keep" : Str), .str l]))) M
    rw [eq_keep]
    exact q
def sp_plain_of : USp := sp1 fun m M R _ => ∃ ms, m = migU ms ∧ GoodPs ms ∧ ms.length ≤ 1000 ∧ R (migU (plainM ms)) M
def plainT : U → Bool
  | .tup [.str l, d] => !Pu.eqU d (.tup [.str "keep", .str l])
  | _ => false
theorem plain_filter (ms : Mig) : ((ms.map prU).filter plainT).map id = (plainM ms).map prU := by
  rw [List.map_id, List.filter_map]
  unfold plainM
  congr 1
  refine List.filter_congr fun p _ => ?_
  show plainT (prU p) = _
  simp only [prU, plainT, eq_keep]
theorem pure_plain_of (u : U) (M : Mp) (R : UK) (E : UXK) (h : sp_plain_of [u] M R E) : w_plain_of E (endU R) [some u, none] M := by
  obtain ⟨ms, rfl, hg, hl, q⟩ := h
  have zz := zLine
  have z2 : 2 ≤ sizeLine := by omega
  simp [w_plain_of, migU]
  refine comp_filter plainT id any_keep (by simp; omega) (fun x hx M' R' q' => ?_) ?_
  · obtain ⟨⟨l, d⟩, hp, rfl⟩ := List.mem_map.mp hx
    obtain ⟨g1, g2⟩ := hg _ hp
    have e : plainT (prU (l, d)) = !decide (d = .keep l) := by simp only [prU, plainT, eq_keep]
    rw [e] at q'
    simp only [prU, id] at q'
    simp [prU, z2]
    refine ne_keep g2 g1 ?_
    by_cases hk : d = .keep l
    · subst hk
      simp at q' ⊢
      exact q'
    · simp [hk] at q' ⊢
      exact q'
  · rw [plain_filter]
    simp
    exact .same q
theorem norm_plain (ls : List Str) (f : Str → Deed) : plainM (ls.map fun l => (l, f l)) = normM ls f := by
  unfold plainM normM
  rw [List.filter_map]
  rfl
theorem both_good {a b : Mig} (ha : MigOk a) (hb : MigOk b) : GoodPs ((sortSetS (a.map (·.1) ++ b.map (·.1))).map fun l => (l, bothD (deedS a) (deedS b) l)) := fun p hp => by
  obtain ⟨l, hl, rfl⟩ := List.mem_map.mp hp
  rw [sortSet_mem, List.mem_append] at hl
  have hlab : isLabelS l = true := by
    rcases hl with hl | hl <;> obtain ⟨q, hq, rfl⟩ := List.mem_map.mp hl
    · exact ha.lab q hq
    · exact hb.lab q hq
  refine ⟨hlab, ?_⟩
  have hf := deedS_fit ha hlab
  show fitD l (bothD (deedS a) (deedS b) l)
  unfold bothD
  cases e : deedS a l with
  | keep m => rw [e] at hf; exact fitD_both hf (deedS_fit hb hf.1.2)
  | drop => trivial
  | opn => rw [e] at hf; exact hf
def sp_both_of : USp := sp2 fun m n M R _ => ∃ a b, m = migU a ∧ n = migU b ∧ MigOk a ∧ MigOk b ∧ a.length ≤ 400 ∧ b.length ≤ 400 ∧ R (migU (bothS a b)) M
theorem pure_both_of (u v : U) (M : Mp) (R : UK) (E : UXK) (h : sp_both_of [u, v] M R E) : w_both_of sp_deed_of sp_plain_of E (endU R) [some u, some v, none, none, none, none, none] M := by
  obtain ⟨a, b, rfl, rfl, ha, hb, la, lb, q⟩ := h
  have zz := zLine
  have z2 : 2 ≤ sizeLine := by omega
  have na := strict_nodup ha.asc
  have nb := strict_nodup hb.asc
  unfold w_both_of
  refine seq_gen fun D1 nx1 _ _ _ => ?_
  simp [migU]
  refine ⟨by omega, ?_⟩
  refine comp_map (fun x => match x with | .tup (l :: _) => l | _ => .non) any_keep (by simp; omega) (fun x hx M' R' q' => ?_) ?_
  · have hx : ∃ p : Str × Deed, x = prU p := by
      rcases List.mem_append.mp hx with hx | hx <;> obtain ⟨p, _, rfl⟩ := List.mem_map.mp hx <;> exact ⟨p, rfl⟩
    obtain ⟨p, rfl⟩ := hx
    simp [prU]
    exact q'
  · have e1 : (a.map prU ++ b.map prU).map (fun x => match x with | .tup (l :: _) => l | _ => .non) = (a.map (·.1) ++ b.map (·.1)).map U.str := by
      rw [List.map_append, List.map_append, List.map_map, List.map_map, List.map_map, List.map_map]; rfl
    rw [e1]
    refine .inl ⟨a.map (·.1) ++ b.map (·.1), rfl, by simp; omega, nx1 _ _ ?_⟩
    have hln := sortSet_len (a.map (·.1) ++ b.map (·.1))
    simp only [List.length_append, List.length_map] at hln
    have hgood := both_good ha hb
    have hbs : bothS a b = plainM ((sortSetS (a.map (·.1) ++ b.map (·.1))).map fun l => (l, bothD (deedS a) (deedS b) l)) := by rw [norm_plain]; rfl
    have hlab : ∀ l ∈ sortSetS (a.map (·.1) ++ b.map (·.1)), isLabelS l = true := fun l hl => (hgood _ (List.mem_map.mpr ⟨l, hl, rfl⟩)).1
    generalize sortSetS (a.map (·.1) ++ b.map (·.1)) = ls at hln hgood hbs hlab
    refine seq_gen fun D2 nx2 _ _ _ => ?_
    simp
    intro p fp
    refine nx2 _ _ ?_
    refine seq_gen fun D3 nx3 _ _ _ => ?_
    simp only [wFor_, wIt_, wVar_s, wVar_0]
    refine ⟨_, rfl, ?_⟩
    refine loop_K (fun rest s m => ∃ (x4 x5 : Option U) (xs ys : List Str), s = [some (migU a), some (migU b), some (.lst (ls.map .str)), some (.ref p), x4, x5, none] ∧ m = put M p (.lst ((xs.map fun l => (l, bothD (deedS a) (deedS b) l)).map prU)) ∧ ls = xs ++ ys ∧ rest = ys.map .str) _ _ _ ⟨none, none, [], ls, by simp [migU], rfl, rfl, rfl⟩ ?_ ?_
    · rintro s m ⟨x4, x5, xs, ys, rfl, rfl, e, hr⟩
      have : ys = [] := by simpa using hr.symm
      subst this
      simp only [List.append_nil] at e
      subst e
      refine nx3 _ _ ?_
      simp
      refine ⟨_, by simp [seqOf, lstOf, put_same]; rfl, ls.map fun l => (l, bothD (deedS a) (deedS b) l), ?_, hgood, by simp; omega, ?_⟩
      · simp [migU]
      · rw [← hbs]
        exact .back fp q
    · rintro x rest s m K ⟨x4, x5, xs, ys, rfl, rfl, e, hr⟩ ih
      cases ys with
      | nil => simp at hr
      | cons l ys =>
        simp only [List.map_cons, List.cons.injEq] at hr
        obtain ⟨rfl, hr⟩ := hr
        have hl : isLabelS l = true := hlab l (by rw [e]; simp)
        have hf := deedS_fit ha hl
        have hxl : xs.length ≤ ls.length := by rw [e]; simp
        simp only [wName_]
        refine seq_gen fun D4 nx4 _ _ _ => ?_
        simp
        refine ⟨a, l, rfl, rfl, na, by omega, nx4 _ _ ?_⟩
        simp
        have app : ∀ d : Deed, d = bothD (deedS a) (deedS b) l → 2 ≤ sizeLine ∧ uAppend (.ref p) [.tup [.str l, dU d]] (put M p (.lst ((xs.map fun l => (l, bothD (deedS a) (deedS b) l)).map prU))) fun x M1 => K [some (migU a), some (migU b), some (.lst (ls.map .str)), some (.ref p), some (.str l), some (dU (deedS a l)), none] M1 := fun d hd => by
          refine ⟨z2, p, _, _, rfl, rfl, put_same, by simp; omega, ?_⟩
          rw [put_put]
          refine ih _ _ trivial ⟨_, _, xs ++ [l], ys, rfl, ?_, by simp [e], hr⟩
          simp [prU, hd]
        refine ⟨tyU_at put_same, ?_⟩
        cases ed : deedS a l with
        | keep m =>
          rw [ed] at hf
          simp [dU]
          refine ⟨b, m, rfl, rfl, nb, by omega, ?_⟩
          have := app (deedS b m) (by unfold bothD; rw [ed])
          rw [ed] at this
          simpa [dU] using this
        | drop =>
          have k1 : ¬ ("drop" : Str) = ("keep" : Str) := by decide +kernel
          have := app .drop (by unfold bothD; rw [ed])
          rw [ed] at this
          simpa [dU, k1] using this
        | opn =>
          have k1 : ¬ ("open" : Str) = ("keep" : Str) := by decide +kernel
          have := app .opn (by unfold bothD; rw [ed])
          rw [ed] at this
          simpa [dU, k1] using this
theorem mig_form {m : U} (h : migB m = true) : ∃ ms, m = migU ms ∧ MigOk ms := migB_form h
def sp_plain_migration : USp := sp1 fun m M R E => Sm m ∧ (migB m = false → E ⟨"InvalidMigration", []⟩ M) ∧ ∀ ms, m = migU ms → MigOk ms → ms.length ≤ 1000 ∧ R (migU (plainM ms)) M
theorem pure_plain_migration (u : U) (M : Mp) (R : UK) (E : UXK) (h : sp_plain_migration [u] M R E) : w_plain_migration sp_check_migration sp_plain_of E (endU R) [some u] M := by
  obtain ⟨h1, h2, h3⟩ := h
  simp [w_plain_migration]
  refine ⟨h1, ?_⟩
  cases e : migB u with
  | false => simpa using h2 e
  | true =>
    simp
    obtain ⟨ms, rfl, ok⟩ := migB_form e
    obtain ⟨hl, q⟩ := h3 ms rfl ok
    exact ⟨ms, rfl, fun p hp => ⟨ok.lab p hp, ok.fit p hp⟩, hl, .same q⟩
def sp_both_migrations : USp := sp2 fun m n M R E => Sm m ∧ (migB m = false → E ⟨"InvalidMigration", []⟩ M) ∧ (migB m = true → Sm n ∧ (migB n = false → E ⟨"InvalidMigration", []⟩ M) ∧ ∀ a b, m = migU a → n = migU b → MigOk a → MigOk b → a.length ≤ 400 ∧ b.length ≤ 400 ∧ R (migU (bothS a b)) M)
theorem pure_both_migrations (u v : U) (M : Mp) (R : UK) (E : UXK) (h : sp_both_migrations [u, v] M R E) : w_both_migrations sp_check_migration sp_both_of E (endU R) [some u, some v] M := by
  obtain ⟨h1, h2, h3⟩ := h
  simp [w_both_migrations]
  refine ⟨h1, ?_⟩
  cases e : migB u with
  | false => simpa using h2 e
  | true =>
    obtain ⟨s2, h4, h5⟩ := h3 e
    simp
    refine ⟨s2, ?_⟩
    cases e2 : migB v with
    | false => simpa using h4 e2
    | true =>
      simp
      obtain ⟨a, rfl, ha⟩ := migB_form e
      obtain ⟨b, rfl, hb⟩ := migB_form e2
      obtain ⟨la, lb, q⟩ := h5 a b rfl rfl ha hb
      exact ⟨a, b, rfl, rfl, ha, hb, la, lb, .same q⟩
def sp_forest_of : USp := sp2 fun m u M R E => Sm m ∧ (migB m = false → E ⟨"InvalidMigration", []⟩ M) ∧ ∀ ms, m = migU ms → MigOk ms → Sm u ∧ depU u < 40 ∧ (isPart u = false → E ⟨"InvalidPart", []⟩ M) ∧ (isPart u = true → FoIn ms u ∧ R (.tup (forestP ms u)) M)
theorem pure_forest_of (u v : U) (M : Mp) (R : UK) (E : UXK) (h : sp_forest_of [u, v] M R E) : w_forest_of sp_check_migration sp_check_part (sp_forest_for 60) E (endU R) [some u, some v] M := by
  obtain ⟨h1, h2, h3⟩ := h
  simp [w_forest_of]
  refine ⟨h1, ?_⟩
  cases e : migB u with
  | false => simpa using h2 e
  | true =>
    obtain ⟨ms, rfl, ok⟩ := migB_form e
    obtain ⟨s2, d2, h4, h5⟩ := h3 ms rfl ok
    simp
    refine ⟨s2, d2, ?_⟩
    cases e2 : isPart v with
    | false => simpa using h4 e2
    | true =>
      simp
      obtain ⟨fi, q⟩ := h5 e2
      exact ⟨ms, rfl, fi, by omega, .same q⟩
def sp_migrated_of : USp := sp2 fun m u M R _ => ∃ ms, m = migU ms ∧ FoIn ms u ∧ depU u < 50 ∧ R (migratedS ms u) M
theorem pure_migrated_of (u v : U) (M : Mp) (R : UK) (E : UXK) (h : sp_migrated_of [u, v] M R E) : w_migrated_of sp_deed_of (sp_forest_for 60) E (endU R) [some u, some v] M := by
  obtain ⟨ms, rfl, fi, hd, q⟩ := h
  have nd := strict_nodup fi.ok.asc
  have zz := zLine
  have hl := fi.len
  obtain ⟨l, y, rfl, hlb, _, _⟩ := part_form fi.part
  have k1 : ¬ ("drop" : Str) = ("keep" : Str) := by decide +kernel
  have k2 : ¬ ("open" : Str) = ("keep" : Str) := by decide +kernel
  simp [w_migrated_of]
  refine ⟨ms, l, rfl, rfl, nd, by omega, ?_⟩
  unfold migratedS at q
  have ef : fstS (.tup [.str l, y]) = l := rfl
  rw [ef] at q
  cases e : deedS ms l with
  | drop => rw [e] at q; simp [dU, k1]; exact .same q
  | opn => rw [e] at q; simp [dU, k2]; exact .same q
  | keep m =>
    rw [e] at q
    simp [dU]
    refine ⟨ms, rfl, fi, by omega, ?_⟩
    have hne : ∃ p r, forestP ms (.tup [.str l, y]) = p :: r := by
      cases partC fi.part with
      | @kind _ x k t => rw [forest_leaf, e]; exact ⟨_, _, rfl⟩
      | @tag _ ps k t hh => rw [forest_node, e]; exact ⟨_, _, rfl⟩
    obtain ⟨p, r, hp⟩ := hne
    rw [hp] at q ⊢
    simp
    exact .same q
def sp_migrated : USp := sp2 fun m u M R E => Sm m ∧ (migB m = false → E ⟨"InvalidMigration", []⟩ M) ∧ ∀ ms, m = migU ms → MigOk ms → Sm u ∧ depU u < 40 ∧ (isDoc u = false → E ⟨"InvalidDocument", []⟩ M) ∧ (isDoc u = true → FoIn ms u ∧ R (migratedS ms u) M)
theorem pure_migrated (u v : U) (M : Mp) (R : UK) (E : UXK) (h : sp_migrated [u, v] M R E) : w_migrated sp_check_migration sp_check_document sp_migrated_of E (endU R) [some u, some v] M := by
  obtain ⟨h1, h2, h3⟩ := h
  simp [w_migrated]
  refine ⟨h1, ?_⟩
  cases e : migB u with
  | false => simpa using h2 e
  | true =>
    obtain ⟨ms, rfl, ok⟩ := migB_form e
    obtain ⟨s2, d2, h4, h5⟩ := h3 ms rfl ok
    simp
    refine ⟨s2, d2, ?_⟩
    cases e2 : isDoc v with
    | false => simpa using h4 e2
    | true =>
      simp
      obtain ⟨fi, q⟩ := h5 e2
      exact ⟨ms, rfl, fi, by omega, .same q⟩
end Law

namespace Law
open PySem PySem.Spec PyProof.Rows L2 Pu Sem
/-! the law's own words -/
theorem kind_slices {l : Str} (k : isKindS l = true) : (cutStr l none (some 5) == ("$text" : Str)) = (bareS l == ("$text" : Str)) ∧ (cutStr l none (some 4) == ("$int" : Str)) = (bareS l == ("$int" : Str)) ∧ l.length ≤ 6 := by
  rcases kind_four k with e | e | e | e <;> subst e <;> decide +kernel
def sp__law_is_deed : USp := sp2 fun u v M R _ => ∃ l, u = .str l ∧ Sm u ∧ Sm v ∧ isLabelS l = true ∧ R (.bl (deedB u v)) M
theorem pure__law_is_deed (u v : U) (M : Mp) (R : UK) (E : UXK) (h : sp__law_is_deed [u, v] M R E) : w__law_is_deed sp__law_is_tag sp__law_is_kind E (endU R) [some u, some v] M := by
  obtain ⟨l, rfl, h1, h2, hl, q⟩ := h
  replace q := ret_of q
  have zz := zLine
  have t1 := h2.noref M "tuple" ty6
  have lz := h1.str
  cases v <;> first | exact (Sm.no_ref h2).elim | exact (Sm.no_pr h2).elim | exact (Sm.noTy h2).elim | (simp [w__law_is_deed, t1, tyN, isA]; try exact q _ rfl)
  rename_i us
  cases us with
  | nil => simp; exact q _ rfl
  | cons a r =>
    have sa : Sm a := h2.mem List.mem_cons_self
    have t2 := sa.noref M "str" ty6
    simp
    cases a <;> first | exact (Sm.no_ref sa).elim | exact (Sm.no_pr sa).elim | exact (Sm.noTy sa).elim | (simp [t2, tyN, isA]; try exact q _ rfl)
    rename_i s
    by_cases hs : s = ("keep" : Str)
    · subst hs
      have kd : ¬ ("keep" : Str) = ("drop" : Str) := by decide +kernel
      have ko : ¬ ("keep" : Str) = ("open" : Str) := by decide +kernel
      rcases r with _ | ⟨x, _ | ⟨y, r⟩⟩
      · simp [kd, ko]
        exact q _ (by simp [deedB, kd, ko])
      · have sx : Sm x := h2.mem (by simp)
        simp
        refine ⟨h1, ?_⟩
        cases ht : isTag (.str l) with
        | true =>
          simp
          have hk : isKindS l = false := tag_not_kindS ht
          refine ⟨sx, q _ ?_⟩
          have : bareIs "$text" (.str l) = false := by
            cases e : bareIs "$text" (.str l) with
            | false => rfl
            | true => rw [text_kind (by simpa [bareIs] using e)] at hk; cases hk
          simp [deedB, alikeB, ht, isKind, hk, this]
        | false =>
          have hk : isKindS l = true := by
            have : isTagS l = false := ht
            simpa [isLabelS, this] using hl
          obtain ⟨c1, c2, c3⟩ := kind_slices hk
          simp
          refine ⟨sx, ?_⟩
          cases hx : isKind x with
          | false => simp; exact q _ (by simp [deedB, alikeB, ht, hx])
          | true =>
            have hxs : ∃ m, x = .str m := by
              cases x <;> first | exact ⟨_, rfl⟩ | (simp [isKind] at hx; done)
            obtain ⟨m, rfl⟩ := hxs
            have hkm : isKindS m = true := hx
            obtain ⟨d1, d2, d3⟩ := kind_slices hkm
            have mz := sx.str
            simp [lz, mz]
            have p1 : (cutStr l none (some 5) = ("$text" : Str)) = (bareS l = ("$text" : Str)) := by
              rw [Bool.eq_iff_iff] at c1; simpa using c1
            have p2 : (cutStr m none (some 4) = ("$int" : Str)) = (bareS m = ("$int" : Str)) := by
              rw [Bool.eq_iff_iff] at d2; simpa using d2
            simp only [p1, p2]
            by_cases e : bareS l = ("$text" : Str)
            · simp [e]
              by_cases e2 : bareS m = ("$int" : Str)
              · try simp [e2]
                exact q _ (by simp [deedB, alikeB, isTag, isKind, hk, hkm, bareIs, e, e2, p2])
              · have a1 : (bareS m == ("$int" : Str)) = false := by simpa using e2
                try simp [e2]
                exact q _ (by simp [deedB, alikeB, isTag, isKind, hk, hkm, bareIs, a1, e, e2, p2])
            · have a1 : (bareS l == ("$text" : Str)) = false := by simpa using e
              try simp [e]
              exact q _ (by simp [deedB, alikeB, isTag, isKind, hk, hkm, bareIs, a1, e, p1])
      · have e3 : ¬ ((r.length : Int) + 1 + 1 + 1 = 2) := by omega
        have e4 : ¬ ((r.length : Int) + 1 + 1 + 1 = 1) := by omega
        simp [e3, e4]
        exact q _ (by simp [deedB]; try omega)
    · have hd : deedB (.str l) (.tup (.str s :: r)) = (r.isEmpty && (s == ("drop" : Str) || (s == ("open" : Str) && isTag (.str l)))) := by
        simp only [deedB]; rw [if_neg (by simpa using hs)]
      rw [hd] at q
      have e3 : ¬ ("open" : Str) = ("drop" : Str) := by decide +kernel
      cases r with
      | cons x r =>
        have e4 : ¬ ((r.length : Int) + 1 + 1 = 1) := by omega
        simp [hs, e4]
        exact q _ (by simp; try omega)
      | nil =>
        simp [hs]
        by_cases c1 : s = ("drop" : Str)
        · simp [c1]; exact q _ (by simp [c1])
        · have a2 : (s == ("drop" : Str)) = false := by simpa using c1
          by_cases c2 : s = ("open" : Str)
          · simp [c2, e3]; exact ⟨h1, q _ (by simp [c2, e3])⟩
          · have a1 : (s == ("open" : Str)) = false := by simpa using c2
            simp [c1, c2]; exact q _ (by simp [a1, a2])
def firstB : U → Bool
  | .tup [l, _] => isTag l || isKind l
  | _ => false
def sp__law_is_migration : USp := sp1 fun u M R _ => Sm u ∧ R (.bl (migB u)) M
theorem asc_range : ∀ ps : List U, ((List.range (ps.length - 1)).all fun i => strLt (fstS (ps.getD i .non)) (fstS (ps.getD (i + 1) .non))) = ascB ps
  | [] => rfl
  | [p] => rfl
  | p :: q :: r => by
    have ih := asc_range (q :: r)
    have e : (p :: q :: r).length - 1 = ((q :: r).length - 1) + 1 := by simp
    rw [e, List.range_succ_eq_map, List.all_cons, List.all_map]
    simp only [ascB]
    rw [← ih]
    rfl
theorem pure__law_is_migration (u : U) (M : Mp) (R : UK) (E : UXK) (h : sp__law_is_migration [u] M R E) : w__law_is_migration sp__law_is_tag sp__law_is_kind sp__law_is_deed E (endU R) [some u, none, none, none, none] M := by
  obtain ⟨h1, q⟩ := h
  replace q := ret_of q
  have t1 := h1.noref M "tuple" ty6
  have zz := zLine
  cases u <;> first | exact (Sm.no_ref h1).elim | exact (Sm.no_pr h1).elim | exact (Sm.noTy h1).elim | (simp [w__law_is_migration, t1, tyN, isA]; try exact q _ rfl)
  rename_i ps
  have hl := h1.tup
  have hl2 : ps.length ≤ 1000000 := by have := h1.2; have := len_nds ps; simp only [nd] at *; omega
  refine all_map firstB any_keep hl (fun x hx M' R' q' => ?_) ?_
  · have sx := h1.mem hx
    have tx := sx.noref M' "tuple" ty6
    cases x <;> first | exact (Sm.no_ref sx).elim | exact (Sm.no_pr sx).elim | exact (Sm.noTy sx).elim | (simp [tx, tyN, isA]; try exact q')
    rename_i us
    match us, q' with
    | [], q' => simp; exact q'
    | [_], q' => simp; exact q'
    | [a, b], q' =>
      have sa : Sm a := sx.mem (by simp)
      simp
      refine ⟨sa, ?_⟩
      cases ha : isTag a with
      | true => simp; simpa [firstB, ha] using q'
      | false => simp; exact ⟨sa, by simpa [firstB, ha] using q'⟩
    | a :: b :: c :: r, q' =>
      have : ¬ ((r.length : Int) + 1 + 1 + 1 = 2) := by omega
      simp [this]; exact q'
  simp
  split
  · rename_i hf
    have form : ∀ p ∈ ps, ∃ l d, p = .tup [.str l, d] ∧ isLabelS l = true := fun p hp => by
      have := hf p hp
      cases p with
      | tup us =>
        match us, this with
        | [a, b], h =>
          simp only [firstB] at h
          have ha : ∃ l, a = .str l := by cases a <;> first | exact ⟨_, rfl⟩ | (simp [isTag, isKind] at h; done)
          obtain ⟨l, rfl⟩ := ha
          refine ⟨l, b, rfl, ?_⟩
          unfold isLabelS
          rw [Bool.or_comm]
          exact h
        | [], h => simp [firstB] at h
        | [_], h => simp [firstB] at h
        | _ :: _ :: _ :: _, h => simp [firstB] at h
      | _ => simp [firstB] at this
    refine all_map pairB any_keep hl (fun x hx M' R' q' => ?_) ?_
    · obtain ⟨l, d, rfl, hlb⟩ := form x hx
      have sx := h1.mem hx
      have e : pairB (.tup [.str l, d]) = deedB (.str l) d := by
        have := hf _ hx
        simp only [firstB] at this
        simp only [pairB, this, Bool.true_and]
      rw [e] at q'
      simp
      exact ⟨l, rfl, sx.mem (by simp), sx.mem (by simp), hlb, q'⟩
    simp
    split
    · rename_i hp
      have hall : ps.all pairB = true := List.all_eq_true.mpr hp
      refine ⟨by omega, by omega, ?_⟩
      refine all_map (onInt fun i => strLt (fstS (ps.getD i.toNat .non)) (fstS (ps.getD (i.toNat + 1) .non))) any_keep (by simp; omega) (fun w hw M' R' q' => ?_) ?_
      · obtain ⟨i, hi, rfl⟩ := List.mem_map.mp hw
        have hi : i < ((ps.length : Int) - 1).toNat := by simpa using hi
        have h1' : i < ps.length := by omega
        have h2' : i + 1 < ps.length := by omega
        obtain ⟨l1, e1, q1, _⟩ := pairB_form (hp _ (List.getElem_mem h1'))
        obtain ⟨l2, e2, q2, _⟩ := pairB_form (hp _ (List.getElem_mem h2'))
        have g1 : ps[i]? = some (prU (l1, e1)) := by rw [List.getElem?_eq_getElem h1', q1]
        have g2 : ps[i + 1]? = some (prU (l2, e2)) := by rw [List.getElem?_eq_getElem h2', q2]
        have d1 : ps.getD i .non = prU (l1, e1) := by simp [List.getD_eq_getElem?_getD, g1]
        have d2 : ps.getD (i + 1) .non = prU (l2, e2) := by simp [List.getD_eq_getElem?_getD, g2]
        simp only [onInt, Int.toNat_natCast, d1, d2] at q'
        have a1 := atI_nat g1
        have a2 := atI_nat g2
        rw [show ((i + 1 : Nat) : Int) = (i : Int) + 1 by omega] at a2
        simp
        refine ⟨_, a1, ?_⟩
        simp [prU]
        refine ⟨_, a2, ?_⟩
        simp [prU]
        exact q'
      · rw [List.all_map]
        have e : ((onInt fun i => strLt (fstS (ps.getD i.toNat .non)) (fstS (ps.getD (i.toNat + 1) .non))) ∘ fun i : Nat => U.int ((i : Nat) : Int)) = fun i : Nat => strLt (fstS (ps.getD i .non)) (fstS (ps.getD (i + 1) .non)) := by
          funext i
          simp [onInt]
        rw [e, asc_range]
        exact q _ (by simp [migB, hall])
    · rename_i hp
      refine q _ ?_
      have : ps.all pairB = false := by simpa using hp
      simp [migB, this]
  · rename_i hf
    refine q _ ?_
    have : ps.all pairB = false := by
      simp at hf
      obtain ⟨p, hp, hr⟩ := hf
      refine List.all_eq_false.mpr ⟨p, hp, fun hpb => ?_⟩
      obtain ⟨l, e, rfl, hlb, _⟩ := pairB_form hpb
      have : isLabelS l = true := hlb
      simp only [prU, firstB, isTag, isKind] at hr
      unfold isLabelS at this
      rw [Bool.or_comm] at this
      rw [this] at hr
      cases hr
    simp [migB, this]
end Law

namespace Law
open PySem PySem.Spec PyProof.Rows L2 Pu Sem
theorem deeds_head (l : Str) : ∀ ms : Mig, (ms.filter fun p => p.1 == l).head? = (ms.lookup l).map fun d => (l, d)
  | [] => rfl
  | (a, b) :: ms => by
    rw [List.lookup_cons, List.filter_cons]
    by_cases h : a = l
    · subst h
      simp
    · have h1 : (a == l) = false := by simpa using h
      have h2 : (l == a) = false := by simpa using fun e => h e.symm
      rw [h2]
      simp only [h1, Bool.false_eq_true, if_false]
      exact deeds_head l ms
theorem fit_deeds {ms : Mig} (h : GoodPs ms) : Fit (.lst (ms.map fun p => dU p.2)) := by
  have key : okUs (ms.map fun p => dU p.2) = true ∧ depUs (ms.map fun p => dU p.2) ≤ 2 := by
    induction ms with
    | nil => exact ⟨rfl, by simp [depUs]⟩
    | cons p ms ih =>
      obtain ⟨a, b⟩ := ih fun x hx => h x (List.mem_cons_of_mem _ hx)
      have f := (fit_dU (h p List.mem_cons_self).2).1.1
      have d : depU (dU p.2) ≤ 2 := by cases p.2 <;> simp [dU, depU, depUs]
      exact ⟨by simp [okUs, f, a], by simp only [List.map_cons, depUs]; omega⟩
  exact ⟨by simpa [okU] using key.1, by simp only [depU]; omega⟩
def sp__law_deed : USp := sp2 fun m l M R _ => ∃ (ms : Mig) (s : Str), m = migU ms ∧ l = .str s ∧ GoodPs ms ∧ ms.length ≤ 1000 ∧ R (dU (deedS ms s)) M
theorem pure__law_deed (u v : U) (M : Mp) (R : UK) (E : UXK) (h : sp__law_deed [u, v] M R E) : w__law_deed E (endU R) [some u, some v, none, none, none] M := by
  obtain ⟨ms, s, rfl, rfl, hg, hl, q⟩ := h
  have zz := zLine
  have z2 : 2 ≤ sizeLine := by omega
  unfold w__law_deed
  refine seq_gen fun D1 nx1 _ _ _ => ?_
  simp [migU]
  refine comp_filter (fun x => match x with | .tup [.str l, _] => l == s | _ => false) (fun x => match x with | .tup [_, d] => d | _ => .non) any_keep (by simp; omega) (fun x hx M' R' q' => ?_) ?_
  · obtain ⟨⟨l, d⟩, hp, rfl⟩ := List.mem_map.mp hx
    simp only [prU] at q' ⊢
    simp
    by_cases e : l = s
    · subst e; simp at q' ⊢; exact q'
    · have e' : (l == s) = false := by simpa using e
      rw [e'] at q'
      simp [e]; exact q'
  · have hf : ((ms.map prU).filter (fun x => match x with | .tup [.str l, _] => l == s | _ => false)).map (fun x => match x with | .tup [_, d] => d | _ => .non) = (ms.filter fun p => p.1 == s).map fun p => dU p.2 := by
      rw [List.filter_map, List.map_map]; rfl
    rw [hf]
    refine nx1 _ _ ?_
    have hh := deeds_head s ms
    have fit : Fit (.lst ((ms.filter fun p => p.1 == s).map fun p => dU p.2)) := fit_deeds fun p hp => hg p (List.mem_filter.mp hp).1
    unfold deedS at q
    cases e : ms.filter fun p => p.1 == s with
    | nil =>
      rw [e] at hh
      have : ms.lookup s = none := by
        cases e2 : ms.lookup s with
        | none => rfl
        | some d => rw [e2] at hh; cases hh
      rw [this] at q
      simp [z2]
      refine ⟨⟨⟨rfl, by simp [rs, depU, depUs]⟩, ⟨rfl, by simp [rs, depU, depUs]⟩⟩, ?_⟩
      simp [rs, Pu.eqU, eqUs]
      exact .same q
    | cons p r =>
      rw [e] at hh fit
      have : ms.lookup s = some p.2 ∧ p.1 = s := by
        cases e2 : ms.lookup s with
        | none => rw [e2] at hh; cases hh
        | some d =>
          rw [e2] at hh
          simp at hh
          rw [hh]
          exact ⟨rfl, rfl⟩
      rw [this.1] at q
      simp [z2]
      refine ⟨⟨fit, ⟨rfl, by simp [rs, depU, depUs]⟩⟩, ?_⟩
      simp [rs, Pu.eqU, eqUs]
      exact .same q
def sp__law_forest (n : Nat) : USp := sp2 fun m u M R _ => ∃ ms, m = migU ms ∧ FoIn ms u ∧ depU u < n ∧ R (.tup (forestP ms u)) M
theorem good_of {ms : Mig} (h : MigOk ms) : GoodPs ms := fun p hp => ⟨h.lab p hp, h.fit p hp⟩
theorem pure__law_forest (n : Nat) (u v : U) (M : Mp) (R : UK) (E : UXK) (h : sp__law_forest (n + 1) [u, v] M R E) : w__law_forest sp__law_deed (sp__law_forest n) E (endU R) [some u, some v, none, none, none] M := by
  obtain ⟨ms, rfl, fi, hd, q⟩ := h
  have zz := zLine
  have z1 : 1 ≤ sizeLine := by omega
  have z2 : 2 ≤ sizeLine := by omega
  have z0 : 0 ≤ sizeLine := by omega
  have hg := good_of fi.ok
  have hl := fi.len
  have sm := fi.sm
  have k1 : ¬ ("keep" : Str) = ("drop" : Str) := by decide +kernel
  have k2 : ¬ ("keep" : Str) = ("open" : Str) := by decide +kernel
  have k3 : ¬ ("open" : Str) = ("drop" : Str) := by decide +kernel
  unfold w__law_forest
  refine seq_gen fun D1 nx1 _ _ _ => ?_
  cases partC fi.part with
  | @kind l x k t =>
    rw [forest_leaf] at q
    have lz := partLabel sm
    have hlb : isLabelS l = true := by simp [isLabelS, k]
    have hf := deedS_fit fi.ok hlb
    simp [z0]
    refine ⟨ms, l, rfl, rfl, hg, by omega, _, _, ⟨rfl, rfl⟩, nx1 _ _ ?_⟩
    cases e : deedS ms l with
    | keep m =>
      rw [e] at q
      simp [dU, k1, z1, z2, lz, lawKind_iff hlb, k]
      exact .same q
    | drop =>
      rw [e] at q
      simp [dU, z0]
      exact .same q
    | opn =>
      rw [e] at hf
      have : isKindS l = false := hf
      rw [k] at this
      cases this
  | @tag l ps k t hh =>
    rw [forest_node] at q
    have lz := partLabel sm
    have hlb : isLabelS l = true := by simp [isLabelS, t]
    have hv := fi.pv
    simp [pvU, pvUs] at hv
    have hlen := forests_len fi.ok hh hv.2
    have hsz := fi.sz
    rw [labelsP_tag] at hsz
    simp only [Sem.nd, nds, List.length_cons] at hsz
    have kid : ∀ p ∈ ps, FoIn ms p ∧ depU p < n := fun p hp => ⟨fi.kid (l := .non) hp (hh p hp), by have := dep_mem hp; simp only [depU, depUs] at hd; omega⟩
    simp [z0]
    refine ⟨ms, l, rfl, rfl, hg, by omega, _, _, ⟨rfl, rfl⟩, nx1 _ _ ?_⟩
    refine seq_gen fun D2 nx2 rt2 _ _ => ?_
    have loop : ∀ d, d = deedS ms l → d ≠ .drop → D2.nx [some (migU ms), some (.tup [.str l, .tup ps]), none, some (dU d), some (.tup [])] M := fun d hde hdr => by
      refine nx2 _ _ ?_
      refine seq_gen fun D3 nx3 rt3 _ _ => ?_
      simp [lz, lawKind_iff hlb, k]
      refine nx3 _ _ ?_
      refine seq_gen fun D4 nx4 rt4 _ _ => ?_
      simp
      refine loop_K (fun rest s m => ∃ (x2 : Option U) (xs ys : List U), s = [some (migU ms), some (.tup [.str l, .tup ps]), x2, some (dU d), some (.tup (forestPs ms xs))] ∧ M = m ∧ ps = xs ++ ys ∧ rest = ys) _ _ _ ⟨none, [], ps, by simp [forestPs], rfl, rfl, rfl⟩ ?_ ?_
      · rintro s m ⟨x2, xs, ys, rfl, rfl, e, hr⟩
        subst hr
        simp only [List.append_nil] at e
        subst e
        refine nx4 _ _ ?_
        rw [← hde] at q
        cases d with
        | keep m => simp [dU, k2, z1, z2]; exact .same q
        | drop => exact absurd rfl hdr
        | opn => simp [dU]; exact .same q
      · rintro x rest s m K ⟨x2, xs, ys, rfl, rfl, e, hr⟩ ih
        cases ys with
        | nil => cases hr
        | cons y ys =>
          obtain ⟨rfl, rfl⟩ := List.cons.inj hr
          have hx : x ∈ ps := by rw [e]; simp
          have hfl : forestPs ms ps = forestPs ms xs ++ (forestP ms x ++ forestPs ms rest) := by rw [e, forestPs_append]; simp [forestPs]
          rw [hfl] at hlen
          simp only [List.length_append] at hlen
          simp
          refine ⟨ms, rfl, (kid x hx).1, (kid x hx).2, ?_⟩
          simp
          refine ⟨by omega, ih _ _ trivial ⟨some x, xs ++ [x], rest, ?_, rfl, by simp [e], rfl⟩⟩
          simp [forestPs_append, forestPs]
    cases e : deedS ms l with
    | keep m =>
      have := loop _ e.symm (by simp)
      simp [dU, k1]
      simpa [dU] using this
    | drop =>
      rw [e] at q
      simp [dU, z0]
      exact rt2 _ _ (.same q)
    | opn =>
      have := loop _ e.symm (by simp)
      simp [dU, k3]
      simpa [dU] using this
def sp__law_migrated : USp := sp2 fun m u M R _ => ∃ ms, m = migU ms ∧ FoIn ms u ∧ depU u < 50 ∧ R (migratedS ms u) M
theorem pure__law_migrated (u v : U) (M : Mp) (R : UK) (E : UXK) (h : sp__law_migrated [u, v] M R E) : w__law_migrated sp__law_deed (sp__law_forest 60) E (endU R) [some u, some v] M := by
  obtain ⟨ms, rfl, fi, hd, q⟩ := h
  have hg := good_of fi.ok
  have hl := fi.len
  obtain ⟨l, y, rfl, hlb, _, _⟩ := part_form fi.part
  have k1 : ¬ ("drop" : Str) = ("keep" : Str) := by decide +kernel
  have k2 : ¬ ("open" : Str) = ("keep" : Str) := by decide +kernel
  simp [w__law_migrated]
  refine ⟨ms, l, rfl, rfl, hg, by omega, ?_⟩
  unfold migratedS at q
  have ef : fstS (.tup [.str l, y]) = l := rfl
  rw [ef] at q
  cases e : deedS ms l with
  | drop => rw [e] at q; simp [dU, k1]; exact .same q
  | opn => rw [e] at q; simp [dU, k2]; exact .same q
  | keep m =>
    rw [e] at q
    simp [dU]
    refine ⟨ms, rfl, fi, by omega, ?_⟩
    have hne : ∃ p r, forestP ms (.tup [.str l, y]) = p :: r := by
      cases partC fi.part with
      | @kind _ x k t => rw [forest_leaf, e]; exact ⟨_, _, rfl⟩
      | @tag _ ps k t hh => rw [forest_node, e]; exact ⟨_, _, rfl⟩
    obtain ⟨p, r, hp⟩ := hne
    rw [hp] at q ⊢
    simp
    exact .same q
end Law

namespace Law
open PySem PySem.Spec PyProof.Rows L2 Pu Sem
def wordsL : List Str := ["keep", "open", "drop"]
def sp__law_migration : USp := sp3 fun d l w M R _ => ∃ (a : Addr) (ls ws : List Str), d = .ref a ∧ l = .lst (ls.map .str) ∧ w = .lst (ws.map .str) ∧ Dr M a ∧ (∀ x ∈ ls, isLabelS x = true) ∧ (∃ x ∈ ls, isKindS x = false) ∧ ls.length ≤ 100 ∧ (∀ x ∈ ws, x ∈ wordsL) ∧ ws ≠ [] ∧ ws.length ≤ 100 ∧
  ∀ ms, MigOk ms → ms.length ≤ 100 → R (migU ms) M
theorem first_len {l : Str} (h : isLabelS l = true) : l.length ≤ sizeLine := by have := (label_len h).1; have := zLine; omega
theorem pure__law_migration (u v w : U) (M : Mp) (R : UK) (E : UXK) (h : sp__law_migration [u, v, w] M R E) : w__law_migration sp__law_pick sp__law_take E (endU R) [some u, some v, some w, none, none, none, none] M := by
  obtain ⟨a, ls, ws, rfl, rfl, rfl, dr, hls, ⟨x0, hx0, hk0⟩, hll, hws, wne, wl, q⟩ := h
  have zz := zLine
  have z1 : 1 ≤ sizeLine := by omega
  have z2 : 2 ≤ sizeLine := by omega
  unfold w__law_migration
  refine seq_gen fun D1 nx1 _ _ _ => ?_
  simp
  intro p fp
  refine comp_filterM (M := put M p (.lst [])) (fun x => match x with | .str l => !isKindS l | _ => false) id (by simp; omega) (fun x hx D acc R' fD q' => ?_) ?_
  · obtain ⟨l, hl, rfl⟩ := List.mem_map.mp hx
    simp [first_len (hls l hl), lawKind_iff (hls l hl)]
    cases e : isKindS l
    · simpa [e] using q'
    · simpa [e] using q'
  have hf : ((ls.map U.str).filter (fun x => match x with | .str l => !isKindS l | _ => false)).map id = (ls.filter fun l => !isKindS l).map U.str := by
    rw [List.map_id, List.filter_map]; rfl
  rw [hf]
  have htags : ∀ t ∈ ls.filter (fun l => !isKindS l), isLabelS t = true ∧ isKindS t = false := fun t ht => by
    have := List.mem_filter.mp ht
    exact ⟨hls t this.1, by simpa using this.2⟩
  have htne : ls.filter (fun l => !isKindS l) ≠ [] := List.ne_nil_of_mem (List.mem_filter.mpr ⟨hx0, by simp [hk0]⟩)
  have htl : (ls.filter fun l => !isKindS l).length ≤ ls.length := List.length_filter_le _ _
  generalize ls.filter (fun l => !isKindS l) = ts at htags htne htl
  refine ⟨_, _, ⟨rfl, rfl⟩, nx1 _ _ ?_⟩
  refine seq_gen fun D2 nx2 _ _ _ => ?_
  simp only [wFor_, wIt_, wSortSetA_, wVar_s, wVar_0]
  refine ⟨_, rfl, .inl ⟨ls, rfl, by omega, ?_⟩⟩
  have hst := sortSet_strict ls
  have hln := sortSet_len ls
  have hmem : ∀ l ∈ sortSetS ls, isLabelS l = true := fun l hl => hls l (sortSet_mem.mp hl)
  generalize sortSetS ls = so at hst hln hmem
  refine loop_K (fun rest s m => ∃ (x3 x6 : Option U) (ms : Mig) (xs ys : List Str), s = [some (.ref a), some (.lst (ls.map .str)), some (.lst (ws.map .str)), x3, some (.ref p), some (.lst (ts.map .str)), x6] ∧ m = put M p (.lst (ms.map prU)) ∧ so = xs ++ ys ∧ rest = ys.map .str ∧ (ms.map (·.1)).Sublist xs ∧ GoodPs ms) _ _ _ ⟨none, none, [], [], so, rfl, rfl, rfl, rfl, by simp, by intro p hp; cases hp⟩ ?_ ?_
  · rintro s m ⟨x3, x6, ms, xs, ys, rfl, rfl, e, hr, hsub, hg⟩
    have : ys = [] := by simpa using hr.symm
    subst this
    simp only [List.append_nil] at e
    subst e
    refine nx2 _ _ ?_
    simp
    refine ⟨ms.map prU, by simp [seqOf, lstOf, put_same], .back fp (q ms ⟨fun p hp => (hg p hp).1, fun p hp => (hg p hp).2, hst.sublist hsub⟩ ?_)⟩
    have := hsub.length_le
    simp at this
    omega
  · rintro x rest s m K ⟨x3, x6, ms, xs, ys, rfl, rfl, e, hr, hsub, hg⟩ ih
    cases ys with
    | nil => simp at hr
    | cons l ys =>
      simp only [List.map_cons, List.cons.injEq] at hr
      obtain ⟨rfl, hr⟩ := hr
      have hlb : isLabelS l = true := hmem l (by rw [e]; simp)
      have dr1 : Dr (put M p (.lst (ms.map prU))) a := dr.put fp
      have hms : ms.length ≤ so.length := by
        have := hsub.length_le
        simp at this
        rw [e, List.length_append]; omega
      have skip : ∀ x6, K [some (.ref a), some (.lst (ls.map .str)), some (.lst (ws.map .str)), some (.str l), some (.ref p), some (.lst (ts.map .str)), x6] (put M p (.lst (ms.map prU))) := fun x6 =>
        ih _ _ trivial ⟨_, _, ms, xs ++ [l], ys, rfl, rfl, by simp [e], hr, hsub.trans (List.sublist_append_left _ _), hg⟩
      have app : ∀ (d : Deed) (x6 : Option U), fitD l d → uAppend (.ref p) [.tup [.str l, dU d]] (put M p (.lst (ms.map prU))) fun _ M1 => K [some (.ref a), some (.lst (ls.map .str)), some (.lst (ws.map .str)), some (.str l), some (.ref p), some (.lst (ts.map .str)), x6] M1 := fun d x6 hd => by
        refine ⟨p, _, _, rfl, rfl, put_same, by simp; omega, ?_⟩
        rw [put_put]
        refine ih _ _ trivial ⟨_, _, ms ++ [(l, d)], xs ++ [l], ys, rfl, ?_, by simp [e], hr, ?_, fun y hy => ?_⟩
        · simp [prU]
        · rw [List.map_append]
          exact hsub.append (List.Sublist.refl _)
        · rcases List.mem_append.mp hy with hy | hy
          · exact hg y hy
          · simp at hy; subst hy; exact ⟨hlb, hd⟩
      simp only [wName_]
      refine seq_gen fun D3 nx3 _ _ _ => ?_
      simp
      refine pick_l dr1 (by simpa using wne) (by simp; omega) fun wd hwd => ?_
      obtain ⟨wd, hw, rfl⟩ := List.mem_map.mp hwd
      refine nx3 _ _ ?_
      simp
      refine take_at dr1 (by decide) (by decide) fun i i0 i1 => ?_
      simp
      split
      · have k1 : ¬ ("drop" : Str) = ("keep" : Str) := by decide +kernel
        have k2 : ¬ ("open" : Str) = ("keep" : Str) := by decide +kernel
        have k3 : ¬ ("open" : Str) = ("drop" : Str) := by decide +kernel
        have hw3 := hws wd hw
        simp [wordsL] at hw3
        rcases hw3 with e3 | e3 | e3 <;> subst e3
        · simp
          refine ⟨tyU_at put_same, ?_⟩
          simp [first_len hlb, lawKind_iff hlb, z2]
          cases k : isKindS l with
          | true =>
            simp
            refine take_at dr1 (by decide) (by decide) fun j j0 j1 => ?_
            simp
            split
            · exact app (.keep "$text") _ ⟨⟨by rw [k]; decide +kernel, by decide +kernel⟩, fun ⟨_, _, e4⟩ => absurd e4 (by decide +kernel)⟩
            · exact app (.keep l) _ ⟨⟨rfl, hlb⟩, fun ⟨_, e4, e5⟩ => by rw [e4] at e5; exact absurd e5 (by decide +kernel)⟩
          | false =>
            simp
            refine pick_l dr1 (by simpa using htne) (by simp; omega) fun t ht => ?_
            obtain ⟨t, hmt, rfl⟩ := List.mem_map.mp ht
            obtain ⟨t1, t2⟩ := htags t hmt
            exact app (.keep t) _ ⟨⟨by rw [k, t2], t1⟩, fun ⟨e4, _⟩ => by rw [k] at e4; cases e4⟩
        · simp [k2]
          refine ⟨tyU_at put_same, ?_⟩
          simp [k3, first_len hlb, lawKind_iff hlb, z1, z2]
          cases k : isKindS l with
          | true => simp; exact app .drop _ trivial
          | false => simp; exact app .opn _ k
        · simp [k1]
          refine ⟨tyU_at put_same, ?_⟩
          simp [z1, z2]
          exact app .drop _ trivial
      · exact skip _
def sp__law_both_of : USp := sp2 fun m n M R _ => ∃ a b, m = migU a ∧ n = migU b ∧ MigOk a ∧ MigOk b ∧ a.length ≤ 400 ∧ b.length ≤ 400 ∧ R (migU (bothS a b)) M
theorem normM_snoc (xs : List Str) (l : Str) (f : Str → Deed) : normM (xs ++ [l]) f = normM xs f ++ (if f l = .keep l then [] else [(l, f l)]) := by
  unfold normM
  rw [List.filter_append, List.map_append]
  congr 1
  by_cases h : f l = .keep l
  · simp [h]
  · simp [h]
theorem pure__law_both_of (u v : U) (M : Mp) (R : UK) (E : UXK) (h : sp__law_both_of [u, v] M R E) : w__law_both_of sp__law_deed E (endU R) [some u, some v, none, none, none, none] M := by
  obtain ⟨a, b, rfl, rfl, ha, hb, la, lb, q⟩ := h
  have zz := zLine
  have z2 : 2 ≤ sizeLine := by omega
  have ga := good_of ha
  have gb := good_of hb
  unfold w__law_both_of
  refine seq_gen fun D1 nx1 _ _ _ => ?_
  simp
  intro p fp
  refine nx1 _ _ ?_
  refine seq_gen fun D2 nx2 _ _ _ => ?_
  simp only [wFor_, wIt_, wSortSetA_, wVar_s, wVar_0, wComp_, wBin_]
  refine ⟨_, rfl, _, rfl, ?_⟩
  simp only [migU, uAdd_tt, wItU_t]
  refine ⟨by simp; omega, ?_⟩
  refine comp_map (fun x => match x with | .tup (l :: _) => l | _ => .non) any_keep (by simp; omega) (fun x hx M' R' q' => ?_) ?_
  · have hx : ∃ p : Str × Deed, x = prU p := by
      rcases List.mem_append.mp hx with hx | hx <;> obtain ⟨p, _, rfl⟩ := List.mem_map.mp hx <;> exact ⟨p, rfl⟩
    obtain ⟨p, rfl⟩ := hx
    simp [prU]
    exact q'
  have e1 : (a.map prU ++ b.map prU).map (fun x => match x with | .tup (l :: _) => l | _ => .non) = (a.map (·.1) ++ b.map (·.1)).map U.str := by
    rw [List.map_append, List.map_append, List.map_map, List.map_map, List.map_map, List.map_map]; rfl
  rw [e1]
  refine .inl ⟨a.map (·.1) ++ b.map (·.1), rfl, by simp; omega, ?_⟩
  have hln := sortSet_len (a.map (·.1) ++ b.map (·.1))
  simp only [List.length_append, List.length_map] at hln
  have hgood := both_good ha hb
  have hbs : bothS a b = normM (sortSetS (a.map (·.1) ++ b.map (·.1))) (bothD (deedS a) (deedS b)) := rfl
  have hlab : ∀ l ∈ sortSetS (a.map (·.1) ++ b.map (·.1)), isLabelS l = true ∧ fitD l (bothD (deedS a) (deedS b) l) := fun l hl => hgood _ (List.mem_map.mpr ⟨l, hl, rfl⟩)
  generalize sortSetS (a.map (·.1) ++ b.map (·.1)) = ls at hln hgood hbs hlab
  refine loop_K (fun rest s m => ∃ (x3 x4 : Option U) (xs ys : List Str), s = [some (migU a), some (migU b), some (.ref p), x3, x4, none] ∧ m = put M p (.lst ((normM xs (bothD (deedS a) (deedS b))).map prU)) ∧ ls = xs ++ ys ∧ rest = ys.map .str) _ _ _ ⟨none, none, [], ls, by simp [migU], rfl, rfl, rfl⟩ ?_ ?_
  · rintro s m ⟨x3, x4, xs, ys, rfl, rfl, e, hr⟩
    have : ys = [] := by simpa using hr.symm
    subst this
    simp only [List.append_nil] at e
    subst e
    refine nx2 _ _ ?_
    simp
    refine ⟨_, by simp [seqOf, lstOf, put_same]; rfl, ?_⟩
    rw [hbs] at q
    exact .back fp q
  · rintro x rest s m K ⟨x3, x4, xs, ys, rfl, rfl, e, hr⟩ ih
    cases ys with
    | nil => simp at hr
    | cons l ys =>
      simp only [List.map_cons, List.cons.injEq] at hr
      obtain ⟨rfl, hr⟩ := hr
      obtain ⟨hl, hfb⟩ := hlab l (by rw [e]; simp)
      have hf := deedS_fit ha hl
      have hxl : xs.length ≤ ls.length := by rw [e]; simp
      have hnl : (normM xs (bothD (deedS a) (deedS b))).length ≤ xs.length := by unfold normM; rw [List.length_map]; exact List.length_filter_le _ _
      simp only [wName_]
      refine seq_gen fun D4 nx4 _ _ _ => ?_
      simp
      refine ⟨a, l, rfl, rfl, ga, by omega, nx4 _ _ ?_⟩
      refine seq_gen fun D5 nx5 _ _ _ => ?_
      have fin : D5.nx [some (migU a), some (migU b), some (.ref p), some (.str l), some (dU (bothD (deedS a) (deedS b) l)), none] (put M p (.lst ((normM xs (bothD (deedS a) (deedS b))).map prU))) := by
        refine nx5 _ _ ?_
        simp [z2]
        refine ne_keep hfb hl ?_
        by_cases hk : bothD (deedS a) (deedS b) l = .keep l
        · simp [hk]
          refine ih _ _ trivial ⟨some (.str l), some (.tup [.str "keep", .str l]), xs ++ [l], ys, by simp [dU], ?_, by simp [e], hr⟩
          rw [normM_snoc, if_pos hk, List.append_nil]
        · simp [hk]
          refine ⟨tyU_at put_same, p, _, _, rfl, rfl, put_same, by simp; omega, ?_⟩
          rw [put_put]
          refine ih _ _ trivial ⟨_, _, xs ++ [l], ys, rfl, ?_, by simp [e], hr⟩
          rw [normM_snoc, if_neg hk]
          simp [prU]
      have k1 : ¬ ("drop" : Str) = ("keep" : Str) := by decide +kernel
      have k2 : ¬ ("open" : Str) = ("keep" : Str) := by decide +kernel
      cases ed : deedS a l with
      | keep m =>
        have eb : bothD (deedS a) (deedS b) l = deedS b m := by unfold bothD; rw [ed]
        rw [eb] at fin
        simp [dU]
        exact ⟨b, m, rfl, rfl, gb, by omega, fin⟩
      | drop =>
        have eb : bothD (deedS a) (deedS b) l = .drop := by unfold bothD; rw [ed]
        rw [eb] at fin
        simp [dU, k1]
        simpa [dU] using fin
      | opn =>
        have eb : bothD (deedS a) (deedS b) l = .opn := by unfold bothD; rw [ed]
        rw [eb] at fin
        simp [dU, k2]
        simpa [dU] using fin
end Law

namespace Law
open PySem PySem.Spec PyProof.Rows L2 Pu Sem
def sp__law_told : USp := sp3 fun w m u M R _ => ∃ i : Int, w = .int i ∧ Sm m ∧ (migB m = false → R (.str "migration") M) ∧
  ∀ ms, m = migU ms → MigOk ms → ms.length ≤ 400 ∧
    (i = 0 → Sm u ∧ depU u < 40 ∧ (isPart u = false → R (.str "part") M) ∧ (isPart u = true → FoIn ms u ∧ R (.lst [.tup (forestP ms u)]) M)) ∧
    (i = 1 → Sm u ∧ depU u < 40 ∧ (isDoc u = false → R (.str "document") M) ∧ (isDoc u = true → FoIn ms u ∧ R (.lst [migratedS ms u]) M)) ∧
    (i = 2 → R (.lst [migU (plainM ms)]) M) ∧
    (i ≠ 0 → i ≠ 1 → i ≠ 2 → Sm u ∧ (migB u = false → R (.str "migration") M) ∧ ∀ ns, u = migU ns → MigOk ns → ns.length ≤ 400 ∧ R (.lst [migU (bothS ms ns)]) M)
theorem migU_inj {a b : Mig} (h : migU a = migU b) : a = b := by
  have h2 : a.map prU = b.map prU := by simpa [migU] using h
  refine List.map_inj_right (fun x y e => ?_) |>.mp h2
  obtain ⟨l, d⟩ := x
  obtain ⟨l', d'⟩ := y
  simp only [prU, U.tup.injEq, List.cons.injEq, U.str.injEq, and_true] at e
  rw [e.1, dU_inj e.2]
theorem pure__law_told (u v w : U) (M : Mp) (R : UK) (E : UXK) (h : sp__law_told [u, v, w] M R E) : w__law_told sp_forest_of sp_migrated sp_plain_migration sp_both_migrations E (endU R) [some u, some v, some w, none, none] M := by
  obtain ⟨i, rfl, h1, h2, h3⟩ := h
  have zz := zLine
  have z1 : 1 ≤ sizeLine := by omega
  have z2 : 2 ≤ sizeLine := by omega
  have p1 : ¬ (("InvalidPart" : Str) = ("InvalidMigration" : Str)) := by decide +kernel
  have p2 : ¬ (("InvalidDocument" : Str) = ("InvalidMigration" : Str)) := by decide +kernel
  have p3 : ¬ (("InvalidDocument" : Str) = ("InvalidPart" : Str)) := by decide +kernel
  have e0 : ∀ w : Str, w = ("migration" : Str) ∨ w = ("part" : Str) ∨ w = ("document" : Str) → ¬ w = ("" : Str) := by rintro w (e | e | e) <;> subst e <;> decide +kernel
  have e1 := e0 _ (.inl rfl)
  have e2 := e0 _ (.inr (.inl rfl))
  have e3 := e0 _ (.inr (.inr rfl))
  unfold w__law_told
  refine seq_gen fun D1 nx1 _ _ _ => ?_
  simp [z2]
  refine nx1 _ _ ?_
  refine seq_gen fun D2 nx2 rt2 _ _ => ?_
  have ret : ∀ x, R (.lst [x]) M → D2.nx [some (.int i), some v, some w, some x, some (.str "")] M := fun x hx => by
    refine nx2 _ _ ?_
    simp [z1]
    exact .same hx
  have err : ∀ (s : Str) (x : Option U), ¬ s = ("" : Str) → R (.str s) M → x = some .non → D2.nx [some (.int i), some v, some w, x, some (.str s)] M := fun s x hs hx ex => by
    subst ex
    refine nx2 _ _ ?_
    simp [hs]
    exact .same hx
  cases em : migB v with
  | false =>
    have q := h2 em
    have no : ∀ {P : Prop} (ms : Mig), v = migU ms → MigOk ms → P := fun ms e ok => by rw [e, migB_of ok] at em; cases em
    by_cases i0 : i = 0
    · subst i0
      simp
      exact ⟨h1, fun _ => by simp; exact err _ _ e1 q rfl, fun ms e ok => no ms e ok⟩
    · by_cases i1 : i = 1
      · subst i1
        simp
        exact ⟨h1, fun _ => by simp; exact err _ _ e1 q rfl, fun ms e ok => no ms e ok⟩
      · by_cases i2 : i = 2
        · subst i2
          simp
          exact ⟨h1, fun _ => by simp; exact err _ _ e1 q rfl, fun ms e ok => no ms e ok⟩
        · simp [i0, i1, i2]
          exact ⟨h1, fun _ => by simp; exact err _ _ e1 q rfl, fun e => by rw [em] at e; cases e⟩
  | true =>
    obtain ⟨ms, rfl, ok⟩ := migB_form em
    obtain ⟨hl, h4, h5, h6, h7⟩ := h3 ms rfl ok
    by_cases i0 : i = 0
    · subst i0
      obtain ⟨s1, d1, q1, q2⟩ := h4 rfl
      simp
      refine ⟨h1, (fun z => by rw [em] at z; cases z), fun ns e ok' => ⟨s1, d1, fun z => ?_, fun z => ?_⟩⟩
      · simp [p1]
        exact err _ _ e2 (q1 z) rfl
      · rw [← migU_inj e]
        exact ⟨(q2 z).1, ret _ (q2 z).2⟩
    · by_cases i1 : i = 1
      · subst i1
        obtain ⟨s1, d1, q1, q2⟩ := h5 rfl
        simp
        refine ⟨h1, (fun z => by rw [em] at z; cases z), fun ns e ok' => ⟨s1, d1, fun z => ?_, fun z => ?_⟩⟩
        · simp [p2, p3]
          exact err _ _ e3 (q1 z) rfl
        · rw [← migU_inj e]
          exact ⟨(q2 z).1, ret _ (q2 z).2⟩
      · by_cases i2 : i = 2
        · subst i2
          simp
          refine ⟨h1, (fun z => by rw [em] at z; cases z), fun ns e ok' => ⟨by rw [← migU_inj e]; omega, ?_⟩⟩
          rw [← migU_inj e]
          exact ret _ (h6 rfl)
        · obtain ⟨s1, q1, q2⟩ := h7 i0 i1 i2
          simp [i0, i1, i2]
          refine ⟨h1, (fun z => by rw [em] at z; cases z), fun _ => ⟨s1, fun z => ?_, fun a b ea eb ha hb => ?_⟩⟩
          · simp
            exact err _ _ e1 (q1 z) rfl
          · rw [← migU_inj ea]
            obtain ⟨l1, q3⟩ := q2 b eb hb
            exact ⟨hl, l1, ret _ q3⟩
end Law

namespace Law
open PySem PySem.Spec PyProof.Rows L2 Pu Sem
/-- plain data of a bound -/
structure Dt (u : U) (n d : Nat) : Prop where
  pv : pvU u = true
  ok : okU u = true
  sz : nd u ≤ n
  dep : depU u ≤ d
structure Dts (us : List U) (n d : Nat) : Prop where
  pv : pvUs us = true
  ok : okUs us = true
  sz : nds us ≤ n
  dep : depUs us ≤ d
theorem Dts.nil {d : Nat} : Dts [] 0 d := ⟨rfl, rfl, by simp [nds], by simp [depUs]⟩
theorem Dts.cons {u : U} {us : List U} {n m d : Nat} (h : Dt u n d) (k : Dts us m d) : Dts (u :: us) (n + m) d :=
  ⟨by simp [pvUs, h.pv, k.pv], by simp [okUs, h.ok, k.ok], by have := h.sz; have := k.sz; simp only [nds]; omega, by have := h.dep; have := k.dep; simp only [depUs]; omega⟩
theorem Dts.lst {us : List U} {n d : Nat} (h : Dts us n d) : Dt (.lst us) (n + 1) (d + 1) :=
  ⟨by simpa [pvU] using h.pv, by simpa [okU] using h.ok, by have := h.sz; simp only [nd]; omega, by have := h.dep; simp only [depU]; omega⟩
theorem Dts.tup {us : List U} {n d : Nat} (h : Dts us n d) : Dt (.tup us) (n + 1) (d + 1) :=
  ⟨by simpa [pvU] using h.pv, by simpa [okU] using h.ok, by have := h.sz; simp only [nd]; omega, by have := h.dep; simp only [depU]; omega⟩
theorem Dt.mono {u : U} {n d n' d' : Nat} (h : Dt u n d) (h1 : n ≤ n') (h2 : d ≤ d') : Dt u n' d' := ⟨h.pv, h.ok, by have := h.sz; omega, by have := h.dep; omega⟩
theorem Dt.one {u : U} {n d : Nat} (h : Dt u n d) : Dt (.lst [u]) (n + 1) (d + 1) := (Dts.cons h .nil).lst
theorem Dt.sm {u : U} {n d : Nat} (h : Dt u n d) (hn : n ≤ 1000000) : Sm u := ⟨h.pv, by have := h.sz; omega⟩
theorem Dts.app {us vs : List U} {n m d : Nat} (h : Dts us n d) (k : Dts vs m d) : Dts (us ++ vs) (n + m) d :=
  ⟨by rw [pvUs_append, h.pv, k.pv]; rfl, okUs_of fun u hu => by
    rcases List.mem_append.mp hu with hu | hu
    · exact okU_mem' h.ok hu
    · exact okU_mem' k.ok hu, by rw [nds_append]; have := h.sz; have := k.sz; omega, by rw [depUs_append]; have := h.dep; have := k.dep; omega⟩
theorem same_go {u : U} {n d : Nat} {M : Mp} {R : UK} {E : UXK} (h : Dt u n d) (hn : n ≤ 1000000) (hd : d < 50) (q : R (.bl true) M) : sp__law_same 50 [u, u] M R E :=
  ⟨h.sm hn, h.sm hn, h.ok, by have := h.dep; omega, by rw [same_refl u h.ok]; exact q⟩
theorem label_dt {l : Str} (h : isLabelS l = true) (d : Nat) : Dt (.str l) 10 d :=
  ⟨by simpa [pvU] using (label_len h).2, by simpa [okU] using (label_len h).2, by have := (label_len h).1; simp only [nd]; omega, by simp [depU]⟩
theorem deed_dt {l : Str} {e : Deed} (h : fitD l e) : Dt (dU e) 16 1 := by
  have k1 : Dt (.str "keep") 5 0 := ⟨by decide +kernel, by decide +kernel, by decide +kernel, by decide +kernel⟩
  have k2 : Dt (.str "drop") 5 0 := ⟨by decide +kernel, by decide +kernel, by decide +kernel, by decide +kernel⟩
  have k3 : Dt (.str "open") 5 0 := ⟨by decide +kernel, by decide +kernel, by decide +kernel, by decide +kernel⟩
  cases e with
  | keep m => exact (Dts.cons k1 (.cons (label_dt h.1.2 0) .nil)).tup.mono (by omega) (by omega)
  | drop => exact (Dts.cons k2 .nil).tup.mono (by omega) (by omega)
  | opn => exact (Dts.cons k3 .nil).tup.mono (by omega) (by omega)
theorem mig_dt {ms : Mig} (h : GoodPs ms) : Dt (migU ms) (27 * ms.length + 1) 3 := by
  refine Dts.tup ?_
  have key : ∀ ms : Mig, GoodPs ms → Dts (ms.map prU) (27 * ms.length) 2 := by
    intro ms
    induction ms with
    | nil => intro _; exact Dts.nil
    | cons p ms ih =>
      intro h
      have hp := h p List.mem_cons_self
      have a : Dt (prU p) 27 2 := (Dts.cons (label_dt hp.1 1) (.cons (deed_dt hp.2) .nil)).tup.mono (by omega) (by omega)
      have := Dts.cons a (ih fun q hq => h q (List.mem_cons_of_mem _ hq))
      refine ⟨this.pv, this.ok, ?_, this.dep⟩
      have := this.sz
      simp only [List.length_cons]
      simp only [List.map_cons] at *
      omega
  exact key ms h
theorem forest_dts {ms : Mig} {u : U} (h : MigOk ms) (hp : isPart u = true) (hv : pvU u = true) : Dts (forestP ms u) (nd u + 10 * (labelsP u).length) (depU u) := by
  have f := forest_ok h u hp hv
  exact ⟨f.pv, okUs_of fun p hm => part_ok p (f.part p hm) (pvU_mem f.pv hm), f.sz, f.dep⟩
theorem forest_dt {ms : Mig} {u : U} (h : MigOk ms) (hp : isPart u = true) (hv : pvU u = true) : Dt (.tup (forestP ms u)) (nd u + 10 * (labelsP u).length + 1) (depU u + 1) := (forest_dts h hp hv).tup
theorem migrated_dt {ms : Mig} {u : U} (h : MigOk ms) (hp : isPart u = true) (hv : pvU u = true) : Dt (migratedS ms u) (nd u + 10 * (labelsP u).length + 1) (depU u) := by
  have f := forest_dts h hp hv
  have non : Dt .non (nd u + 10 * (labelsP u).length + 1) (depU u) := ⟨rfl, rfl, by simp only [nd]; omega, by simp [depU]⟩
  unfold migratedS
  split
  · cases e : forestP ms u with
    | nil => exact non
    | cons p ps =>
      rw [e] at f
      refine ⟨by have := f.pv; simp [pvUs] at this; exact this.1, by have := f.ok; simp [okUs] at this; exact this.1, by have := f.sz; simp only [nds] at this; simp only [List.headD_cons]; omega, by have := f.dep; simp only [depUs] at this; simp only [List.headD_cons]; omega⟩
  · exact non
theorem atI_lastE {α : Type} {xs : List α} {x : α} (h : xs.getLast? = some x) : atI xs (-1) = some x := by
  have hne : xs ≠ [] := by intro e; subst e; simp at h
  have hl : 0 < xs.length := List.length_pos_iff.mpr hne
  unfold atI ixN
  rw [if_neg (by decide), if_pos (by omega)]
  rw [List.getLast?_eq_getElem?] at h
  simp only [Option.bind_some]
  rw [show (-1 + (xs.length : Int)).toNat = xs.length - 1 by omega]
  exact h
section
variable {ms ns : Mig} {m u : U} {M : Mp} {R : UK} {E : UXK} {i : Int}
theorem mig_sm (ok : MigOk ms) (hl : ms.length ≤ 1000) : Sm (migU ms) := (mig_dt (good_of ok)).sm (by omega)
theorem told_mig (ok : MigOk ms) (hl : ms.length ≤ 400) (h : ∀ ns, migU ms = migU ns → MigOk ns → ns.length ≤ 400 ∧
    (i = 0 → Sm u ∧ depU u < 40 ∧ (isPart u = false → R (.str "part") M) ∧ (isPart u = true → FoIn ns u ∧ R (.lst [.tup (forestP ns u)]) M)) ∧
    (i = 1 → Sm u ∧ depU u < 40 ∧ (isDoc u = false → R (.str "document") M) ∧ (isDoc u = true → FoIn ns u ∧ R (.lst [migratedS ns u]) M)) ∧
    (i = 2 → R (.lst [migU (plainM ns)]) M) ∧
    (i ≠ 0 → i ≠ 1 → i ≠ 2 → Sm u ∧ (migB u = false → R (.str "migration") M) ∧ ∀ ks, u = migU ks → MigOk ks → ks.length ≤ 400 ∧ R (.lst [migU (bothS ns ks)]) M)) : sp__law_told [.int i, migU ms, u] M R E :=
  ⟨i, rfl, mig_sm ok (by omega), (fun z => by rw [migB_of ok] at z; cases z), h⟩
theorem told0 (fi : FoIn ms u) (hl : ms.length ≤ 400) (hd : depU u < 40) (q : R (.lst [.tup (forestP ms u)]) M) : sp__law_told [.int 0, migU ms, u] M R E :=
  told_mig fi.ok hl fun ns e nok => by
    have e := migU_inj e
    subst e
    exact ⟨hl, (fun _ => ⟨fi.sm, hd, (fun z => by rw [fi.part] at z; cases z), fun _ => ⟨fi, q⟩⟩), (fun z => by cases z), (fun z => by cases z), fun z => absurd rfl z⟩
theorem told1 (fi : FoIn ms u) (hl : ms.length ≤ 400) (hd : depU u < 40) (hu : isDoc u = true) (q : R (.lst [migratedS ms u]) M) : sp__law_told [.int 1, migU ms, u] M R E :=
  told_mig fi.ok hl fun ns e nok => by
    have e := migU_inj e
    subst e
    exact ⟨hl, (fun z => by cases z), (fun _ => ⟨fi.sm, hd, (fun z => by rw [hu] at z; cases z), fun _ => ⟨fi, q⟩⟩), (fun z => by cases z), fun _ z => absurd rfl z⟩
theorem told2 (ok : MigOk ms) (hl : ms.length ≤ 400) (q : R (.lst [migU (plainM ms)]) M) : sp__law_told [.int 2, migU ms, u] M R E :=
  told_mig ok hl fun ns e nok => by
    have e := migU_inj e
    subst e
    exact ⟨hl, (fun z => by cases z), (fun z => by cases z), (fun _ => q), fun _ _ z => absurd rfl z⟩
theorem told3 (ok : MigOk ms) (hl : ms.length ≤ 400) (kok : MigOk ns) (kl : ns.length ≤ 400) (q : R (.lst [migU (bothS ms ns)]) M) : sp__law_told [.int 3, migU ms, migU ns] M R E :=
  told_mig ok hl fun xs e nok => by
    have e := migU_inj e
    subst e
    exact ⟨hl, (fun z => by cases z), (fun z => by cases z), (fun z => by cases z), fun _ _ _ => ⟨mig_sm kok (by omega), (fun z => by rw [migB_of kok] at z; cases z), fun ks e _ => by
      have e := migU_inj e
      subst e
      exact ⟨kl, q⟩⟩⟩
theorem told_bad (sm : Sm m) (b : migB m = false) (q : R (.str "migration") M) : sp__law_told [.int i, m, u] M R E :=
  ⟨i, rfl, sm, (fun _ => q), fun ms e ok => by rw [e, migB_of ok] at b; cases b⟩
theorem told0_bad (ok : MigOk ms) (hl : ms.length ≤ 400) (sm : Sm u) (hd : depU u < 40) (b : isPart u = false) (q : R (.str "part") M) : sp__law_told [.int 0, migU ms, u] M R E :=
  told_mig ok hl fun ns e nok => by
    have e := migU_inj e
    subst e
    exact ⟨hl, (fun _ => ⟨sm, hd, (fun _ => q), fun z => by rw [b] at z; cases z⟩), (fun z => by cases z), (fun z => by cases z), fun z => absurd rfl z⟩
theorem told1_bad (ok : MigOk ms) (hl : ms.length ≤ 400) (sm : Sm u) (hd : depU u < 40) (b : isDoc u = false) (q : R (.str "document") M) : sp__law_told [.int 1, migU ms, u] M R E :=
  told_mig ok hl fun ns e nok => by
    have e := migU_inj e
    subst e
    exact ⟨hl, (fun z => by cases z), (fun _ => ⟨sm, hd, (fun _ => q), fun z => by rw [b] at z; cases z⟩), (fun z => by cases z), fun _ z => absurd rfl z⟩
theorem told3_bad (ok : MigOk ms) (hl : ms.length ≤ 400) (sm : Sm u) (b : migB u = false) (q : R (.str "migration") M) : sp__law_told [.int 3, migU ms, u] M R E :=
  told_mig ok hl fun ns e nok => by
    have e := migU_inj e
    subst e
    exact ⟨hl, (fun z => by cases z), (fun z => by cases z), (fun z => by cases z), fun _ _ _ => ⟨sm, (fun _ => q), fun ks e ok => by rw [e, migB_of ok] at b; cases b⟩⟩
end
/-- a document of the laws -/
structure Dd (u : U) : Prop where
  doc : isDoc u = true
  part : isPart u = true
  pv : pvU u = true
  sz : nd u ≤ 400
  cnt : (labelsP u).length ≤ 30
  dep : depU u ≤ 30
theorem Dd.sm {u : U} (h : Dd u) : Sm u := ⟨h.pv, by have := h.sz; omega⟩
theorem Dd.fo {u : U} (h : Dd u) {ms : Mig} (ok : MigOk ms) (hl : ms.length ≤ 1000) : FoIn ms u := ⟨ok, hl, h.part, h.pv, by have := h.sz; have := h.cnt; omega⟩
def sp__law_one_right : USp := sp2 fun m u M R _ => ∃ ms, m = migU ms ∧ MigOk ms ∧ ms.length ≤ 100 ∧ Dd u ∧ R (.bl true) M
theorem plain_len (ms : Mig) : (plainM ms).length ≤ ms.length := List.length_filter_le _ _
theorem pure__law_one_right (u v : U) (M : Mp) (R : UK) (E : UXK) (h : sp__law_one_right [u, v] M R E) : w__law_one_right (sp__law_places 60) sp__law_migrated (sp__law_forest 60) sp__law_at sp__law_told (sp__law_same 50) E (endU R) [some u, some v, none, none, none, none, none] M := by
  obtain ⟨ms, rfl, ok, hl, dd, q⟩ := h
  have zz := zLine
  have z1 : 1 ≤ sizeLine := by omega
  have z2 : 2 ≤ sizeLine := by omega
  have z3 : 3 ≤ sizeLine := by omega
  have hdep := dd.dep
  have hsz := dd.sz
  have hcnt := dd.cnt
  have fi := dd.fo ok (by omega)
  obtain ⟨pl, hpl⟩ : ∃ pl, (placesP v).getLast? = some pl := by
    cases e : (placesP v).getLast? with
    | none => exact absurd (List.getLast?_eq_none_iff.mp e) (placesP_ne v)
    | some pl => exact ⟨pl, rfl⟩
  obtain ⟨w, hw⟩ := (mem_placesP dd.part).mp (List.mem_of_getLast? hpl)
  have hwp := at_isPart dd.part hw
  obtain ⟨wv, w1, w2, w3, _⟩ := at_size dd.part dd.pv hw
  have fw : FoIn ms w := ⟨ok, by omega, hwp, wv, by omega⟩
  have a1 : Dt (.tup (forestP ms v)) 800 40 := (forest_dt ok dd.part dd.pv).mono (by omega) (by omega)
  have a2 : Dt (.tup (forestP ms w)) 800 40 := (forest_dt ok hwp wv).mono (by omega) (by omega)
  have a3 : Dt (migratedS ms v) 800 40 := (migrated_dt ok dd.part dd.pv).mono (by omega) (by omega)
  have gm := mig_dt (good_of ok)
  have gsm := gm.sm (by omega)
  have pok := plainM_ok ok
  have pln := plain_len ms
  have gp := mig_dt (good_of pok)
  unfold w__law_one_right
  refine seq_gen fun D1 nx1 _ _ _ => ?_
  simp
  refine ⟨dd.part, dd.sm, by omega, ?_⟩
  simp
  refine ⟨plU pl, ?_, ?_⟩
  · exact atI_lastE (by rw [List.getLast?_map, hpl]; rfl)
  refine nx1 _ _ ?_
  refine seq_gen fun D2 nx2 _ _ _ => ?_
  simp
  refine ⟨ms, rfl, fi, by omega, z1, pl, w, rfl, dd.part, hw, ms, rfl, fw, by omega, z1, ms, rfl, fi, by omega, z1, z3, nx2 _ _ ?_⟩
  refine seq_gen fun D3 nx3 _ _ _ => ?_
  simp
  have hl4 : ms.length ≤ 400 := by omega
  refine told0 fi hl4 (by omega) ?_
  refine ⟨pl, w, rfl, dd.part, hw, ?_⟩
  refine told0 fw hl4 (by omega) ?_
  refine told1 fi hl4 (by omega) dd.doc ?_
  refine ⟨z3, nx3 _ _ ?_⟩
  refine seq_gen fun D4 nx4 _ _ _ => ?_
  simp [migU]
  refine comp_filter plainT id any_keep (by simp; omega) (fun x hx M' R' q' => ?_) ?_
  · obtain ⟨⟨l, d⟩, hp, rfl⟩ := List.mem_map.mp hx
    obtain ⟨g1, g2⟩ := good_of ok _ hp
    have e : plainT (prU (l, d)) = !decide (d = .keep l) := by simp only [prU, plainT, eq_keep]
    rw [e] at q'
    simp only [prU, id] at q'
    simp [prU, z2]
    refine ne_keep g2 g1 ?_
    by_cases hk : d = .keep l
    · subst hk
      simp at q' ⊢
      exact q'
    · simp [hk] at q' ⊢
      exact q'
  rw [plain_filter]
  simp
  refine nx4 _ _ ?_
  refine seq_gen fun D5 nx5 rt5 _ _ => ?_
  simp only [wIfS_, wOrT_, wNotT_, wTr_, wCall_, wCons_, wVar_s, wVar_0, wNil_, wC_, wLst_]
  simp
  have b1 : Dt (.lst [.lst [.tup (forestP ms v)], .lst [.tup (forestP ms w)], .lst [migratedS ms v]]) 3000 45 :=
    (Dts.cons a1.one (.cons a2.one (.cons a3.one .nil))).lst.mono (by omega) (by omega)
  refine same_go b1 (by omega) (by omega) ?_
  simp
  refine told2 ok hl4 ⟨z1, same_go gp.one (by omega) (by omega) ?_⟩
  simp
  refine nx5 _ _ ?_
  simp
  have fe : forestP (plainM ms) v = forestP ms v := forest_deeds (plainM_deed ok) v dd.part
  have me : migratedS (plainM ms) v = migratedS ms v := by unfold migratedS; rw [plainM_deed ok, fe]
  have fp := dd.fo pok (by omega)
  refine told0 fp (by omega) (by omega) ?_
  refine told1 fp (by omega) (by omega) dd.doc ?_
  rw [fe, me]
  refine ⟨z2, _, rfl, z2, ?_⟩
  refine same_go ((Dts.cons a1.one (.cons a3.one .nil)).lst.mono (n' := 3000) (d' := 45) (by omega) (by omega)) (by omega) (by omega) ?_
  exact .same q
def sp__law_two_right : USp := sp3 fun m n u M R _ => ∃ ms ns, m = migU ms ∧ n = migU ns ∧ MigOk ms ∧ MigOk ns ∧ ms.length ≤ 100 ∧ ns.length ≤ 100 ∧ Dd u ∧ R (.bl true) M
theorem both_len (a b : Mig) : (bothS a b).length ≤ a.length + b.length := by
  have h : (bothS a b).length = ((bothS a b).map (·.1)).length := by simp
  rw [h]
  unfold bothS
  rw [normM_fst]
  refine Nat.le_trans (List.length_filter_le _ _) ?_
  have := sortSet_len (a.map (·.1) ++ b.map (·.1))
  simpa using this
theorem pure__law_two_right (u v w : U) (M : Mp) (R : UK) (E : UXK) (h : sp__law_two_right [u, v, w] M R E) : w__law_two_right sp__law_told (sp__law_same 50) sp__law_both_of (sp__law_forest 60) E (endU R) [some u, some v, some w, none, none, none] M := by
  obtain ⟨ms, ns, rfl, rfl, ok, kok, hl, kl, dd, q⟩ := h
  have zz := zLine
  have z1 : 1 ≤ sizeLine := by omega
  have z0 : 0 ≤ sizeLine := by omega
  have hdep := dd.dep
  have hsz := dd.sz
  have hcnt := dd.cnt
  have fi := dd.fo ok (by omega)
  have bok := bothS_ok ok kok
  have bl := both_len ms ns
  have gb := mig_dt (good_of bok)
  unfold w__law_two_right
  refine seq_gen fun D1 nx1 _ _ _ => ?_
  simp
  refine told3 ok (by omega) kok (by omega) ?_
  refine nx1 _ _ ?_
  refine seq_gen fun D2 nx2 rt2 _ _ => ?_
  simp
  refine ⟨ms, ns, rfl, rfl, ok, kok, by omega, by omega, z1, same_go gb.one (by omega) (by omega) ?_⟩
  simp
  refine nx2 _ _ ?_
  refine seq_gen fun D3 nx3 _ _ _ => ?_
  simp
  refine nx3 _ _ ?_
  refine seq_gen fun D4 nx4 _ _ _ => ?_
  simp
  refine ⟨ms, rfl, fi, by omega, ?_⟩
  simp
  have fe : forestP (bothS ms ns) w = forestPs ns (forestP ms w) := forest_both ok w dd.part
  have fo := forest_ok ok w dd.part dd.pv
  have bd := forest_dts bok dd.part dd.pv
  have bn : (forestP (bothS ms ns) w).length ≤ 2000 := by have := bd.sz; have := len_nds (forestP (bothS ms ns) w); omega
  rw [fe] at bn
  have fb := dd.fo bok (by omega)
  generalize forestP ms w = fs at fe fo bn
  refine loop_K (fun rest s m => ∃ (xs : List U) (x : Option U), s = [some (migU ms), some (migU ns), some w, some (U.lst [migU (bothS ms ns)]), some (U.tup (forestPs ns xs)), x] ∧ M = m ∧ fs = xs ++ rest) _ _ _ ⟨[], none, by simp [forestPs], rfl, rfl⟩ ?_ ?_
  · rintro s m ⟨xs, x, rfl, rfl, e⟩
    simp only [List.append_nil] at e
    subst e
    refine nx4 _ _ ?_
    simp
    refine told0 fb (by omega) (by omega) ?_
    rw [fe] at bd ⊢
    refine ⟨z1, same_go (bd.tup.one.mono (n' := 3000) (d' := 45) (by omega) (by omega)) (by omega) (by omega) ?_⟩
    exact .same q
  · rintro p rest s m K ⟨xs, x, rfl, rfl, e⟩ ih
    have hp : p ∈ fs := by rw [e]; simp
    have pp := fo.part p hp
    have pv := pvU_mem fo.pv hp
    have n1 := nd_mem hp
    have n2 := labs_le hp
    have n3 := dep_mem hp
    have n4 := fo.sz
    have n5 := fo.cnt
    have n6 := fo.dep
    have e2 : fs = (xs ++ [p]) ++ rest := by rw [e]; simp
    have bb : (forestPs ns (xs ++ [p])).length ≤ 2000 := by
      rw [e2, forestPs_append, List.length_append] at bn
      omega
    rw [forestPs_append] at bb
    simp [forestPs] at bb
    simp
    refine ⟨ns, rfl, ⟨kok, by omega, pp, pv, by omega⟩, by omega, ?_⟩
    simp
    refine ⟨by omega, ih _ _ trivial ⟨xs ++ [p], some p, ?_, rfl, e2⟩⟩
    rw [forestPs_append]
    simp [forestPs]
end Law

namespace Law
open PySem PySem.Spec PyProof.Rows L2 Pu Sem
section
variable {ms ns : Mig} {m u : U} {M : Mp} {R : UK} {E : UXK} {i : Int}
theorem both_go (ok : MigOk ms) (hl : ms.length ≤ 400) (kok : MigOk ns) (kl : ns.length ≤ 400) (q : R (migU (bothS ms ns)) M) : sp_both_migrations [migU ms, migU ns] M R E :=
  ⟨mig_sm ok (by omega), (fun z => by rw [migB_of ok] at z; cases z), fun _ => ⟨mig_sm kok (by omega), (fun z => by rw [migB_of kok] at z; cases z), fun a b ea eb _ _ => by
    have ea := migU_inj ea
    have eb := migU_inj eb
    subst ea eb
    exact ⟨hl, kl, q⟩⟩⟩
theorem two_go (ok : MigOk ms) (hl : ms.length ≤ 100) (kok : MigOk ns) (kl : ns.length ≤ 100) (dd : Dd u) (q : R (.bl true) M) : sp__law_two_right [migU ms, migU ns, u] M R E := ⟨ms, ns, rfl, rfl, ok, kok, hl, kl, dd, q⟩
theorem bool_same {b : Bool} (q : R (.bl true) M) : sp__law_same 50 [.bl b, .bl b] M R E :=
  same_go (u := .bl b) (n := 1) (d := 0) ⟨rfl, rfl, by simp [nd], by simp [depU]⟩ (by omega) (by omega) q
end
def migLs : List U := [.tup [.tup [.str "a", .tup [.str "keep", .str "$int"]]], .tup [.tup [.str "$text", .tup [.str "keep", .str "$int"]]], .tup [.tup [.str "$int", .tup [.str "open"]]]]
def oddLs : List U := [.non, .tup [.str "A", .tup []], .lst [.str "a", .tup []], .tup [.str "a", .tup [.tup [.str "b"]]], .tup [.str "$int", .str "x"]]
theorem odd_bad : ∀ x ∈ oddLs, isPart x = false ∧ isDoc x = false ∧ migB x = false ∧ pvU x = true ∧ nd x ≤ 20 ∧ depU x ≤ 5 := by
  intro x hx
  simp only [oddLs, List.mem_cons, List.not_mem_nil, or_false] at hx
  rcases hx with e | e | e | e | e <;> subst e <;> decide +kernel
theorem migLs_sm : ∀ x ∈ migLs, pvU x = true ∧ nd x ≤ 60 := by
  intro x hx
  simp only [migLs, List.mem_cons, List.not_mem_nil, or_false] at hx
  rcases hx with e | e | e <;> subst e <;> decide +kernel
def kindL : List Str := ["$int", "$text"]
theorem kindL_ok : ∀ x ∈ kindL, isLabelS x = true := by decide +kernel
theorem uAdd_mig {a b : Mig} {M : Mp} {R : UK} (h : a.length + b.length ≤ sizeLine) (q : R (migU (a ++ b)) M) : uAdd (migU a) (migU b) M R := by
  unfold migU at *
  rw [uAdd_tt]
  refine ⟨by simpa using h, ?_⟩
  rw [← List.map_append]
  exact q
theorem uNe_self {us : List U} {M : Mp} {R : UK} (e : rs M (.lst us) = .lst us) (h : okU (.lst us) = true ∧ depU (.lst us) ≤ 60) (hr : Pu.eqU (.lst us) (.lst us) = true) (q : R (.bl false) M) : uNe (.lst us) (.lst us) M R := by
  refine ⟨?_, ?_⟩
  · rw [e]
    exact ⟨h, h⟩
  · rw [e, hr]
    exact q
def GM (u : U) : Prop := ∃ ms, u = migU ms ∧ MigOk ms ∧ ms.length ≤ 100
/-- what the turn holds -/
def K40 (script : U) (a : Addr) (d l three one two thr : Option U) (t3 : Option U) (s : Sg) : Prop := ∃ x2 x5 x6 x9 x13 x14 x15 x16 x17 : Option U, s = [some script, some (.ref a), x2, t3, three, x5, x6, d, l, x9, one, two, thr, x13, x14, x15, x16, x17]
theorem pure_law (u : U) (M : Mp) (R : UK) (E : UXK) (h : spLaw [u] M R E) : w_law sp__law_draws sp__law_tags sp__law_pick sp__law_document sp__law_take sp__law_migration sp__law_one_right (sp__law_bent 50) sp__law_is_migration (sp__law_same 50) sp_is_migration sp__law_told sp__law_two_right sp_both_migrations E (endU R) [some u, none, none, none, none, none, none, none, none, none, none, none, none, none, none, none, none, none] M := by
  obtain ⟨ns, e, hl, q⟩ := h
  cases e
  have zz := zLine
  have z1 : 1 ≤ sizeLine := by omega
  have z2 : 2 ≤ sizeLine := by omega
  have z3 : 3 ≤ sizeLine := by omega
  have z4 : 4 ≤ sizeLine := by omega
  have z6 : 6 ≤ sizeLine := by omega
  unfold w_law
  refine seq_gen fun D1 nx1 _ _ _ => ?_
  simp
  refine ⟨ns, 500, rfl, hl, rfl, by decide, by decide, fun a fa dr => nx1 _ _ ?_⟩
  have fw : Fewer M (put M a (.hid (cellsP 200000))) := .ofPut fa
  generalize put M a (.hid (cellsP 200000)) = M1 at dr fw
  refine seq_gen fun D2 nx2 rt2 _ _ => ?_
  simp only [wFor_, wRng1_, wCons_, wC_, wNil_]
  refine ⟨3, rfl, by decide, by decide, ?_⟩
  refine loop_K (fun rest s m => ∃ x2 x3 x4 x5 x6 x7 x8 x9 x10 x11 x12 x13 x14 x15 x16 x17 : Option U, s = [some (.lst (ns.map .int)), some (.ref a), x2, x3, x4, x5, x6, x7, x8, x9, x10, x11, x12, x13, x14, x15, x16, x17] ∧ M1 = m) _ _ _ ⟨_, _, _, _, _, _, _, _, _, _, _, _, _, _, _, _, rfl, rfl⟩ ?_ ?_
  · rintro s m ⟨x2, x3, x4, x5, x6, x7, x8, x9, x10, x11, x12, x13, x14, x15, x16, x17, rfl, rfl⟩
    refine nx2 _ _ ?_
    simp
    exact .less fw q
  · rintro t rest s m K ⟨x2, x3, x4, x5, x6, x7, x8, x9, x10, x11, x12, x13, x14, x15, x16, x17, rfl, rfl⟩ ih
    simp only [wName_]
    refine seq_gen fun D3 nx3 _ _ _ => ?_
    simp
    refine ⟨a, 3, rfl, rfl, by decide, dr, fun ts hts hnd hn => nx3 _ _ ?_⟩
    refine seq_gen fun D4 nx4 _ _ _ => ?_
    simp
    refine take_at dr (by decide) (by decide) fun i i0 i1 => ?_
    simp
    refine ⟨a, ts, (1 + i).toNat, rfl, rfl, by rw [Int.toNat_of_nonneg (by omega)], dr, (fun e => by subst e; simp at hn), by omega, hts, by omega, by omega, fun p dc => ?_⟩
    have dd : Dd p := ⟨dc.doc, dc.part, dc.pv, by have := dc.sz; omega, by have := dc.cnt; omega, by have := dc.dep; omega⟩
    refine ⟨z2, by omega, pick_l dr (by simp) (by simp) fun x hx => ?_⟩
    obtain ⟨zs, rfl, hz, hzl⟩ : ∃ zs : List Str, x = .lst (zs.map .str) ∧ zs.length ≤ 2 ∧ ∀ z ∈ zs, isLabelS z = true := by
      simp only [List.mem_cons, List.not_mem_nil, or_false] at hx
      rcases hx with e | e | e <;> subst e
      · exact ⟨[], rfl, by simp, by simp⟩
      · exact ⟨["m!"], rfl, by simp, by decide +kernel⟩
      · exact ⟨["$int!", "zz"], rfl, by simp, by decide +kernel⟩
    simp
    refine ⟨by omega, z2, ?_⟩
    rw [show (ts.map U.str ++ (U.str (Str.ofString "$int") :: U.str (Str.ofString "$text") :: zs.map .str)) = (ts ++ (kindL ++ zs)).map U.str by simp [kindL]]
    have hls : ∀ x ∈ ts ++ (kindL ++ zs), isLabelS x = true := fun x hx => by
      rcases List.mem_append.mp hx with hx | hx
      · simp [isLabelS, (hts x hx).tag]
      · rcases List.mem_append.mp hx with hx | hx
        · exact kindL_ok x hx
        · exact hzl x hx
    have hone : ∃ x ∈ ts ++ (kindL ++ zs), isKindS x = false := by
      cases ts with
      | nil => simp at hn
      | cons t ts => exact ⟨t, by simp, (hts t (by simp)).nokind⟩
    have hln : (ts ++ (kindL ++ zs)).length ≤ 100 := by simp [kindL]; omega
    generalize ts ++ (kindL ++ zs) = ls at hls hone hln
    refine nx4 _ _ ?_
    refine seq_gen fun D5 nx5 _ _ _ => ?_
    simp
    refine comp_any (Q := GM) (by simp; omega) (fun x hx D acc R fD qR => ?_) fun vs hvs hvl => ?_
    · have dr1 : Dr (put M1 D (.lst acc)) a := dr.put fD
      simp
      refine pick_l dr1 (by simp) (by simp) fun x hx => ?_
      obtain ⟨ws, rfl, hw, wne, wl⟩ : ∃ ws : List Str, x = .lst (ws.map .str) ∧ (∀ w ∈ ws, w ∈ wordsL) ∧ ws ≠ [] ∧ ws.length ≤ 100 := by
        simp only [List.mem_cons, List.not_mem_nil, or_false] at hx
        rcases hx with e | e | e <;> subst e
        · exact ⟨["keep", "open", "drop"], rfl, by decide +kernel, by simp, by simp⟩
        · exact ⟨["keep", "keep", "open", "drop"], rfl, by decide +kernel, by simp, by simp⟩
        · exact ⟨["keep"], rfl, by decide +kernel, by simp, by simp⟩
      exact ⟨a, ls, ws, rfl, rfl, rfl, dr1, hls, hone, hln, hw, wne, wl, fun ms ok hl => qR _ ⟨ms, rfl, ok, hl⟩⟩
    simp at hvl
    obtain ⟨v1, v2, v3, rfl⟩ : ∃ v1 v2 v3, vs = [v1, v2, v3] := by
      match vs, hvl with
      | [v1, v2, v3], _ => exact ⟨v1, v2, v3, rfl⟩
    obtain ⟨m1, rfl, ok1, hl1⟩ := hvs v1 (by simp)
    obtain ⟨m2, rfl, ok2, hl2⟩ := hvs v2 (by simp)
    obtain ⟨m3, rfl, ok3, hl3⟩ := hvs v3 (by simp)
    refine nx5 _ _ ?_
    refine seq_gen fun D6 nx6 rt6 _ _ => ?_
    simp only [wFor_, wIt_, wVar_s, wVar_0]
    refine ⟨_, rfl, ?_⟩
    show loopU Any (wName 5) _ [migU m1, migU m2, migU m3] D6 _ M1
    refine loop_K (fun rest s m => ∃ x5 x6 x9 x10 x11 x12 x13 x14 x15 x16 x17 : Option U, (∀ v ∈ rest, GM v) ∧ s = [some (.lst (ns.map .int)), some (.ref a), some t, some (.lst (ts.map .str)), some (.lst [migU m1, migU m2, migU m3]), x5, x6, some p, some (.lst (ls.map .str)), x9, x10, x11, x12, x13, x14, x15, x16, x17] ∧ M1 = m) _ _ _ ⟨_, _, _, _, _, _, _, _, _, _, _, hvs, rfl, rfl⟩ ?_ ?_
    · rintro s m ⟨x5, x6, x9, x10, x11, x12, x13, x14, x15, x16, x17, _, rfl, rfl⟩
      refine nx6 _ _ ?_
      refine seq_gen fun D7 nx7 rt7 _ _ => ?_
      simp
      refine nx7 _ _ ?_
      refine seq_gen fun D8 nx8 rt8 _ _ => ?_
      simp
      refine two_go ok1 hl1 ok2 hl2 dd ?_
      simp
      refine two_go ok2 hl2 ok3 hl3 dd ?_
      simp
      have e0 : MigOk [] := ⟨by simp, by simp, by simp [StrictS]⟩
      refine two_go (ns := []) ok1 hl1 e0 (by simp) dd ?_
      simp
      refine nx8 _ _ ?_
      have b12 := bothS_ok ok1 ok2
      have b23 := bothS_ok ok2 ok3
      have l12 := both_len m1 m2
      have l23 := both_len m2 m3
      have b := bothS_ok b12 ok3
      have lb := both_len (bothS m1 m2) m3
      have gb := mig_dt (good_of b)
      refine seq_gen fun D9 nx9 rt9 _ _ => ?_
      simp
      refine both_go ok1 (by omega) ok2 (by omega) (both_go b12 (by omega) ok3 (by omega) ?_)
      refine both_go ok2 (by omega) ok3 (by omega) (both_go ok1 (by omega) b23 (by omega) ?_)
      rw [← bothS_assoc]
      refine ⟨_, _, ⟨rfl, rfl⟩, nx9 _ _ ?_⟩
      refine seq_gen fun D10 nx10 rt10 _ _ => ?_
      simp
      refine same_go gb (by omega) (by omega) ?_
      simp
      refine told2 b (by omega) ?_
      rw [plain_both]
      refine ⟨z1, same_go gb.one (by omega) (by omega) ?_⟩
      simp
      refine nx10 _ _ ?_
      refine seq_gen fun D11 nx11 rt11 _ _ => ?_
      simp
      refine pick_l dr (by simp) (by simp) fun od hod => ?_
      obtain ⟨o1, o2, o3, o4, o5, o6⟩ := odd_bad od hod
      have os : Sm od := ⟨o4, by omega⟩
      refine nx11 _ _ ?_
      simp
      refine told0_bad ok1 (by omega) os (by omega) o1 ?_
      refine told1_bad ok1 (by omega) os (by omega) o2 ?_
      refine ⟨z2, ?_⟩
      obtain ⟨p1, p2, p3, p4⟩ : isDoc (.tup [.str "$int", .str "0"]) = false ∧ pvU (.tup [.str "$int", .str "0"]) = true ∧ nd (.tup [.str "$int", .str "0"]) ≤ 20 ∧ depU (.tup [.str "$int", .str "0"]) ≤ 5 := by decide +kernel
      refine told1_bad ok1 (by omega) ⟨p2, by omega⟩ (by omega) p1 ?_
      refine told3_bad ok1 (by omega) os o3 ?_
      refine ⟨z4, uNe_self rfl (by decide +kernel) (by decide +kernel) ?_⟩
      simp
      exact ih _ _ trivial ⟨_, _, _, _, _, _, _, _, _, _, _, _, _, _, _, _, rfl, rfl⟩
    · rintro v rest' s m K' ⟨x5, x6, x9, x10, x11, x12, x13, x14, x15, x16, x17, hrest, rfl, rfl⟩ ih'
      obtain ⟨ms, rfl, ok, hl⟩ := hrest v (by simp)
      have hrest := fun v hv => hrest v (List.mem_cons_of_mem _ hv)
      have gm := mig_dt (good_of ok)
      simp only [wName_]
      refine seq_gen fun D7 nx7 rt7 _ _ => ?_
      simp
      refine ⟨ms, rfl, ok, hl, dd, ?_⟩
      simp
      refine nx7 _ _ ?_
      refine seq_gen fun D8 nx8 rt8 _ _ => ?_
      simp only [wFor_, wIt_, wLst_, wCons_, wNil_, wC_, wCall_, wBin_, wVar_s, wVar_0]
      refine ⟨_, rfl, _, rfl, _, rfl, ?_⟩
      refine ⟨a, rfl, dr, gm.pv, (by have := gm.sz; omega), (by have := gm.dep; omega), by omega, fun bv hb => ?_⟩
      refine ⟨_, rfl, _, rfl, uAdd_mig (by omega) ?_⟩
      refine ⟨by simp; omega, ?_⟩
      have sms : ∀ v ∈ ([migU ms, bv, migU (ms ++ ms)] ++ migLs), Sm v := fun v hv => by
        rcases List.mem_append.mp hv with hv | hv
        · simp only [List.mem_cons, List.not_mem_nil, or_false] at hv
          rcases hv with e | e | e
          · subst e; exact gm.sm (by omega)
          · subst e; exact ⟨hb.pv, by have := hb.sz; have := gm.sz; omega⟩
          · subst e
            refine (mig_dt (fun p hp => ?_)).sm (by simp; omega)
            rcases List.mem_append.mp hp with hp | hp <;> exact good_of ok p hp
        · exact ⟨(migLs_sm v hv).1, by have := (migLs_sm v hv).2; omega⟩
      show loopU Any (wName 9) _ ([migU ms, bv, migU (ms ++ ms)] ++ migLs) D8 _ M1
      refine loop_K (fun rest s m => ∃ x6 x9 x10 x11 x12 x13 x14 x15 x16 x17 : Option U, (∀ v ∈ rest, Sm v) ∧ s = [some (.lst (ns.map .int)), some (.ref a), some t, some (.lst (ts.map .str)), some (.lst [migU m1, migU m2, migU m3]), some (migU ms), x6, some p, some (.lst (ls.map .str)), x9, x10, x11, x12, x13, x14, x15, x16, x17] ∧ M1 = m) _ _ _ ⟨_, _, _, _, _, _, _, _, _, _, sms, rfl, rfl⟩ ?_ ?_
      · rintro s m ⟨x6, x9, x10, x11, x12, x13, x14, x15, x16, x17, _, rfl, rfl⟩
        refine nx8 _ _ ?_
        exact ih' _ _ trivial ⟨_, _, _, _, _, _, _, _, _, _, _, hrest, rfl, rfl⟩
      · rintro v rest' s m K2 ⟨x6, x9, x10, x11, x12, x13, x14, x15, x16, x17, hv, rfl, rfl⟩ ih2
        have sv := hv v (by simp)
        have hv := fun v' h => hv v' (List.mem_cons_of_mem _ h)
        simp only [wName_]
        refine seq_gen fun D9 nx9 rt9 _ _ => ?_
        simp
        refine ⟨sv, nx9 _ _ ?_⟩
        refine seq_gen fun D10 nx10 rt10 _ _ => ?_
        simp
        refine ⟨sv, bool_same ?_⟩
        simp
        refine nx10 _ _ ?_
        cases em : migB v with
        | true =>
          simp
          exact ih2 _ _ trivial ⟨_, _, _, _, _, _, _, _, _, _, hv, rfl, rfl⟩
        | false =>
          simp
          refine comp_map (fun _ => .str "migration") any_keep (by simp; omega) (fun x hx M' R' q' => ?_) ?_
          · obtain ⟨j, _, rfl⟩ := List.mem_map.mp hx
            simp
            exact told_bad sv em q'
          · have e4 : (List.map (fun (i : Nat) => U.int (i : Int)) (List.range 4)).map (fun _ => U.str (Str.ofString "migration")) = [.str "migration", .str "migration", .str "migration", .str "migration"] := by rfl
            rw [e4]
            refine ⟨z1, z4, ?_⟩
            refine uNe_self rfl (by decide +kernel) (by decide +kernel) ?_
            simp
            exact ih2 _ _ trivial ⟨_, _, _, _, _, _, _, _, _, _, hv, rfl, rfl⟩
end Law

namespace Law
open PySem PySem.Spec PyProof.Rows L2 Pu Sem
theorem sp1_us {f} {us : List U} {M : Mp} {R : UK} {E : UXK} (h : sp1 f us M R E) : ∃ a, us = [a] := match us, h with
  | [a], _ => ⟨a, rfl⟩
theorem sp2_us {f} {us : List U} {M : Mp} {R : UK} {E : UXK} (h : sp2 f us M R E) : ∃ a b, us = [a, b] := match us, h with
  | [a, b], _ => ⟨a, b, rfl⟩
theorem sp3_us {f} {us : List U} {M : Mp} {R : UK} {E : UXK} (h : sp3 f us M R E) : ∃ a b c, us = [a, b, c] := match us, h with
  | [a, b, c], _ => ⟨a, b, c, rfl⟩
theorem sp4_us {f} {us : List U} {M : Mp} {R : UK} {E : UXK} (h : sp4 f us M R E) : ∃ a b c d, us = [a, b, c, d] := match us, h with
  | [a, b, c, d], _ => ⟨a, b, c, d, rfl⟩
section
variable {P : Program} {w : World} {K : PySem.W.Frag} {mg : Str → Option Value} {base : Heap}
theorem ok_is_row (t : Txt tx w K mg) : FnV P w K mg base 1 "is_row" st_is_row ps_is_row sp_is_row :=
  fn_okV (k := 0) (t.def_ _ mem_is_row) sc_is_row (fun us M R E h => by obtain ⟨a, b, rfl⟩ := sp2_us h; rfl) bd_is_row (w_is_row ) (fun X g E D tk => jj_is_row t  X g E D tk) (fun us M R E h => by obtain ⟨a, b, rfl⟩ := sp2_us h; exact pure_is_row a b M R E h)
theorem ok_bare (t : Txt tx w K mg) : FnV P w K mg base 1 "bare" st_bare ps_bare sp_bare :=
  fn_okV (k := 0) (t.def_ _ mem_bare) sc_bare (fun us M R E h => by obtain ⟨a, rfl⟩ := sp1_us h; rfl) bd_bare (w_bare ) (fun X g E D tk => jj_bare t  X g E D tk) (fun us M R E h => by obtain ⟨a, rfl⟩ := sp1_us h; exact pure_bare a M R E h)
theorem ok_is_tag (t : Txt tx w K mg) : FnV P w K mg base 2 "is_tag" st_is_tag ps_is_tag sp_is_tag :=
  fn_okV (k := 1) (t.def_ _ mem_is_tag) sc_is_tag (fun us M R E h => by obtain ⟨a, rfl⟩ := sp1_us h; rfl) bd_is_tag (w_is_tag sp_bare) (fun X g E D tk => jj_is_tag t (ok_bare t) (by omega) X g E D tk) (fun us M R E h => by obtain ⟨a, rfl⟩ := sp1_us h; exact pure_is_tag a M R E h)
theorem ok_is_kind (t : Txt tx w K mg) : FnV P w K mg base 2 "is_kind" st_is_kind ps_is_kind sp_is_kind :=
  fn_okV (k := 1) (t.def_ _ mem_is_kind) sc_is_kind (fun us M R E h => by obtain ⟨a, rfl⟩ := sp1_us h; rfl) bd_is_kind (w_is_kind sp_bare) (fun X g E D tk => jj_is_kind t (ok_bare t) (by omega) X g E D tk) (fun us M R E h => by obtain ⟨a, rfl⟩ := sp1_us h; exact pure_is_kind a M R E h)
theorem ok_is_label (t : Txt tx w K mg) : FnV P w K mg base 3 "is_label" st_is_label ps_is_label sp_is_label :=
  fn_okV (k := 2) (t.def_ _ mem_is_label) sc_is_label (fun us M R E h => by obtain ⟨a, rfl⟩ := sp1_us h; rfl) bd_is_label (w_is_label sp_is_tag sp_is_kind) (fun X g E D tk => jj_is_label t (ok_is_tag t) (by omega) (ok_is_kind t) (by omega) X g E D tk) (fun us M R E h => by obtain ⟨a, rfl⟩ := sp1_us h; exact pure_is_label a M R E h)
theorem ok_is_integer_text (t : Txt tx w K mg) : FnV P w K mg base 1 "is_integer_text" st_is_integer_text ps_is_integer_text sp_is_integer_text :=
  fn_okV (k := 0) (t.def_ _ mem_is_integer_text) sc_is_integer_text (fun us M R E h => by obtain ⟨a, rfl⟩ := sp1_us h; rfl) bd_is_integer_text (w_is_integer_text ) (fun X g E D tk => jj_is_integer_text t  X g E D tk) (fun us M R E h => by obtain ⟨a, rfl⟩ := sp1_us h; exact pure_is_integer_text a M R E h)
theorem ok_is_text_of (t : Txt tx w K mg) : FnV P w K mg base 2 "is_text_of" st_is_text_of ps_is_text_of sp_is_text_of :=
  fn_okV (k := 1) (t.def_ _ mem_is_text_of) sc_is_text_of (fun us M R E h => by obtain ⟨a, b, rfl⟩ := sp2_us h; rfl) bd_is_text_of (w_is_text_of sp_bare sp_is_integer_text) (fun X g E D tk => jj_is_text_of t (ok_bare t) (by omega) (ok_is_integer_text t) (by omega) X g E D tk) (fun us M R E h => by obtain ⟨a, b, rfl⟩ := sp2_us h; exact pure_is_text_of a b M R E h)
theorem ok_is_part (t : Txt tx w K mg) : ∀ n : Nat, FnV P w K mg base (2 + n) "is_part" st_is_part ps_is_part (sp_is_part n)
  | 0 => fn_none (t.def_ _ mem_is_part) bd_is_part (fun us M R E h => by obtain ⟨a, rfl⟩ := sp1_us h; simp [sp_is_part] at h)
  | n + 1 => fn_okV (k := 2 + n) (t.def_ _ mem_is_part) sc_is_part (fun us M R E h => by obtain ⟨a, rfl⟩ := sp1_us h; rfl) bd_is_part (w_is_part sp_is_row sp_is_kind sp_is_text_of sp_is_tag (sp_is_part n)) (fun X g E D tk => jj_is_part t (ok_is_row t) (by omega) (ok_is_kind t) (by omega) (ok_is_text_of t) (by omega) (ok_is_tag t) (by omega) (ok_is_part t n) (by omega) X g E D tk) (fun us M R E h => by obtain ⟨a, rfl⟩ := sp1_us h; exact pure_is_part n a M R E h)
theorem ok_is_document (t : Txt tx w K mg) : FnV P w K mg base 43 "is_document" st_is_document ps_is_document sp_is_document :=
  fn_okV (k := 42) (t.def_ _ mem_is_document) sc_is_document (fun us M R E h => by obtain ⟨a, rfl⟩ := sp1_us h; rfl) bd_is_document (w_is_document (sp_is_part 40) sp_is_tag) (fun X g E D tk => jj_is_document t (ok_is_part t 40) (by omega) (ok_is_tag t) (by omega) X g E D tk) (fun us M R E h => by obtain ⟨a, rfl⟩ := sp1_us h; exact pure_is_document a M R E h)
theorem ok_check_document (t : Txt tx w K mg) : FnV P w K mg base 44 "check_document" st_check_document ps_check_document sp_check_document :=
  fn_okV (k := 43) (t.def_ _ mem_check_document) sc_check_document (fun us M R E h => by obtain ⟨a, rfl⟩ := sp1_us h; rfl) bd_check_document (w_check_document sp_is_document) (fun X g E D tk => jj_check_document t (ok_is_document t) (by omega) X g E D tk) (fun us M R E h => by obtain ⟨a, rfl⟩ := sp1_us h; exact pure_check_document a M R E h)
theorem ok_check_part (t : Txt tx w K mg) : FnV P w K mg base 43 "check_part" st_check_part ps_check_part sp_check_part :=
  fn_okV (k := 42) (t.def_ _ mem_check_part) sc_check_part (fun us M R E h => by obtain ⟨a, rfl⟩ := sp1_us h; rfl) bd_check_part (w_check_part (sp_is_part 40)) (fun X g E D tk => jj_check_part t (ok_is_part t 40) (by omega) X g E D tk) (fun us M R E h => by obtain ⟨a, rfl⟩ := sp1_us h; exact pure_check_part a M R E h)
theorem ok_are_alike (t : Txt tx w K mg) : FnV P w K mg base 3 "are_alike" st_are_alike ps_are_alike sp_are_alike :=
  fn_okV (k := 2) (t.def_ _ mem_are_alike) sc_are_alike (fun us M R E h => by obtain ⟨a, b, rfl⟩ := sp2_us h; rfl) bd_are_alike (w_are_alike sp_is_tag sp_is_kind) (fun X g E D tk => jj_are_alike t (ok_is_tag t) (by omega) (ok_is_kind t) (by omega) X g E D tk) (fun us M R E h => by obtain ⟨a, b, rfl⟩ := sp2_us h; exact pure_are_alike a b M R E h)
theorem ok_fits_deed (t : Txt tx w K mg) : FnV P w K mg base 4 "fits_deed" st_fits_deed ps_fits_deed sp_fits_deed :=
  fn_okV (k := 3) (t.def_ _ mem_fits_deed) sc_fits_deed (fun us M R E h => by obtain ⟨a, b, rfl⟩ := sp2_us h; rfl) bd_fits_deed (w_fits_deed sp_is_row sp_are_alike sp_bare sp_is_tag) (fun X g E D tk => jj_fits_deed t (ok_is_row t) (by omega) (ok_are_alike t) (by omega) (ok_bare t) (by omega) (ok_is_tag t) (by omega) X g E D tk) (fun us M R E h => by obtain ⟨a, b, rfl⟩ := sp2_us h; exact pure_fits_deed a b M R E h)
theorem ok_fits_migration (t : Txt tx w K mg) : FnV P w K mg base 5 "fits_migration" st_fits_migration ps_fits_migration sp_fits_migration :=
  fn_okV (k := 4) (t.def_ _ mem_fits_migration) sc_fits_migration (fun us M R E h => by obtain ⟨a, rfl⟩ := sp1_us h; rfl) bd_fits_migration (w_fits_migration sp_is_row sp_is_label sp_fits_deed) (fun X g E D tk => jj_fits_migration t (ok_is_row t) (by omega) (ok_is_label t) (by omega) (ok_fits_deed t) (by omega) X g E D tk) (fun us M R E h => by obtain ⟨a, rfl⟩ := sp1_us h; exact pure_fits_migration a M R E h)
theorem ok_deed_of (t : Txt tx w K mg) : FnV P w K mg base 1 "deed_of" st_deed_of ps_deed_of sp_deed_of :=
  fn_okV (k := 0) (t.def_ _ mem_deed_of) sc_deed_of (fun us M R E h => by obtain ⟨a, b, rfl⟩ := sp2_us h; rfl) bd_deed_of (w_deed_of ) (fun X g E D tk => jj_deed_of t  X g E D tk) (fun us M R E h => by obtain ⟨a, b, rfl⟩ := sp2_us h; exact pure_deed_of a b M R E h)
theorem ok_forest_for (t : Txt tx w K mg) : ∀ n : Nat, FnV P w K mg base (2 + n) "forest_for" st_forest_for ps_forest_for (sp_forest_for n)
  | 0 => fn_none (t.def_ _ mem_forest_for) bd_forest_for (fun us M R E h => by obtain ⟨a, b, rfl⟩ := sp2_us h; simp [sp_forest_for] at h)
  | n + 1 => fn_okV (k := 2 + n) (t.def_ _ mem_forest_for) sc_forest_for (fun us M R E h => by obtain ⟨a, b, rfl⟩ := sp2_us h; rfl) bd_forest_for (w_forest_for sp_deed_of sp_is_kind (sp_forest_for n)) (fun X g E D tk => jj_forest_for t (ok_deed_of t) (by omega) (ok_is_kind t) (by omega) (ok_forest_for t n) (by omega) X g E D tk) (fun us M R E h => by obtain ⟨a, b, rfl⟩ := sp2_us h; exact pure_forest_for n a b M R E h)
theorem ok_migrated_of (t : Txt tx w K mg) : FnV P w K mg base 63 "migrated_of" st_migrated_of ps_migrated_of sp_migrated_of :=
  fn_okV (k := 62) (t.def_ _ mem_migrated_of) sc_migrated_of (fun us M R E h => by obtain ⟨a, b, rfl⟩ := sp2_us h; rfl) bd_migrated_of (w_migrated_of sp_deed_of (sp_forest_for 60)) (fun X g E D tk => jj_migrated_of t (ok_deed_of t) (by omega) (ok_forest_for t 60) (by omega) X g E D tk) (fun us M R E h => by obtain ⟨a, b, rfl⟩ := sp2_us h; exact pure_migrated_of a b M R E h)
theorem ok_plain_of (t : Txt tx w K mg) : FnV P w K mg base 1 "plain_of" st_plain_of ps_plain_of sp_plain_of :=
  fn_okV (k := 0) (t.def_ _ mem_plain_of) sc_plain_of (fun us M R E h => by obtain ⟨a, rfl⟩ := sp1_us h; rfl) bd_plain_of (w_plain_of ) (fun X g E D tk => jj_plain_of t  X g E D tk) (fun us M R E h => by obtain ⟨a, rfl⟩ := sp1_us h; exact pure_plain_of a M R E h)
theorem ok_both_of (t : Txt tx w K mg) : FnV P w K mg base 2 "both_of" st_both_of ps_both_of sp_both_of :=
  fn_okV (k := 1) (t.def_ _ mem_both_of) sc_both_of (fun us M R E h => by obtain ⟨a, b, rfl⟩ := sp2_us h; rfl) bd_both_of (w_both_of sp_deed_of sp_plain_of) (fun X g E D tk => jj_both_of t (ok_deed_of t) (by omega) (ok_plain_of t) (by omega) X g E D tk) (fun us M R E h => by obtain ⟨a, b, rfl⟩ := sp2_us h; exact pure_both_of a b M R E h)
theorem ok_is_migration (t : Txt tx w K mg) : FnV P w K mg base 6 "is_migration" st_is_migration ps_is_migration sp_is_migration :=
  fn_okV (k := 5) (t.def_ _ mem_is_migration) sc_is_migration (fun us M R E h => by obtain ⟨a, rfl⟩ := sp1_us h; rfl) bd_is_migration (w_is_migration sp_fits_migration) (fun X g E D tk => jj_is_migration t (ok_fits_migration t) (by omega) X g E D tk) (fun us M R E h => by obtain ⟨a, rfl⟩ := sp1_us h; exact pure_is_migration a M R E h)
theorem ok_check_migration (t : Txt tx w K mg) : FnV P w K mg base 6 "check_migration" st_check_migration ps_check_migration sp_check_migration :=
  fn_okV (k := 5) (t.def_ _ mem_check_migration) sc_check_migration (fun us M R E h => by obtain ⟨a, rfl⟩ := sp1_us h; rfl) bd_check_migration (w_check_migration sp_fits_migration) (fun X g E D tk => jj_check_migration t (ok_fits_migration t) (by omega) X g E D tk) (fun us M R E h => by obtain ⟨a, rfl⟩ := sp1_us h; exact pure_check_migration a M R E h)
theorem ok_forest_of (t : Txt tx w K mg) : FnV P w K mg base 63 "forest_of" st_forest_of ps_forest_of sp_forest_of :=
  fn_okV (k := 62) (t.def_ _ mem_forest_of) sc_forest_of (fun us M R E h => by obtain ⟨a, b, rfl⟩ := sp2_us h; rfl) bd_forest_of (w_forest_of sp_check_migration sp_check_part (sp_forest_for 60)) (fun X g E D tk => jj_forest_of t (ok_check_migration t) (by omega) (ok_check_part t) (by omega) (ok_forest_for t 60) (by omega) X g E D tk) (fun us M R E h => by obtain ⟨a, b, rfl⟩ := sp2_us h; exact pure_forest_of a b M R E h)
theorem ok_migrated (t : Txt tx w K mg) : FnV P w K mg base 64 "migrated" st_migrated ps_migrated sp_migrated :=
  fn_okV (k := 63) (t.def_ _ mem_migrated) sc_migrated (fun us M R E h => by obtain ⟨a, b, rfl⟩ := sp2_us h; rfl) bd_migrated (w_migrated sp_check_migration sp_check_document sp_migrated_of) (fun X g E D tk => jj_migrated t (ok_check_migration t) (by omega) (ok_check_document t) (by omega) (ok_migrated_of t) (by omega) X g E D tk) (fun us M R E h => by obtain ⟨a, b, rfl⟩ := sp2_us h; exact pure_migrated a b M R E h)
theorem ok_plain_migration (t : Txt tx w K mg) : FnV P w K mg base 7 "plain_migration" st_plain_migration ps_plain_migration sp_plain_migration :=
  fn_okV (k := 6) (t.def_ _ mem_plain_migration) sc_plain_migration (fun us M R E h => by obtain ⟨a, rfl⟩ := sp1_us h; rfl) bd_plain_migration (w_plain_migration sp_check_migration sp_plain_of) (fun X g E D tk => jj_plain_migration t (ok_check_migration t) (by omega) (ok_plain_of t) (by omega) X g E D tk) (fun us M R E h => by obtain ⟨a, rfl⟩ := sp1_us h; exact pure_plain_migration a M R E h)
theorem ok_both_migrations (t : Txt tx w K mg) : FnV P w K mg base 7 "both_migrations" st_both_migrations ps_both_migrations sp_both_migrations :=
  fn_okV (k := 6) (t.def_ _ mem_both_migrations) sc_both_migrations (fun us M R E h => by obtain ⟨a, b, rfl⟩ := sp2_us h; rfl) bd_both_migrations (w_both_migrations sp_check_migration sp_both_of) (fun X g E D tk => jj_both_migrations t (ok_check_migration t) (by omega) (ok_both_of t) (by omega) X g E D tk) (fun us M R E h => by obtain ⟨a, b, rfl⟩ := sp2_us h; exact pure_both_migrations a b M R E h)
theorem ok__law_stir (t : Txt tx w K mg) : FnV P w K mg base 1 "_law_stir" st__law_stir ps__law_stir sp__law_stir :=
  fn_okV (k := 0) (t.def_ _ mem__law_stir) sc__law_stir (fun us M R E h => by obtain ⟨a, b, rfl⟩ := sp2_us h; rfl) bd__law_stir (w__law_stir ) (fun X g E D tk => jj__law_stir t  X g E D tk) (fun us M R E h => by obtain ⟨a, b, rfl⟩ := sp2_us h; exact pure__law_stir a b M R E h)
theorem ok__law_draws0 (t : Txt tx w K mg) : FnV P w K mg base 2 "_law_draws" st__law_draws ps__law_draws sp__law_draws0 :=
  fn_okV (k := 1) (t.def_ _ mem__law_draws) sc__law_draws (fun us M R E h => by obtain ⟨a, b, rfl⟩ := sp2_us h; rfl) bd__law_draws (w__law_draws sp__law_stir) (fun X g E D tk => jj__law_draws t (ok__law_stir t) (by omega) X g E D tk) (fun us M R E h => by obtain ⟨a, b, rfl⟩ := sp2_us h; exact pure__law_draws0 a b M R E h)
theorem ok__law_draws (t : Txt tx w K mg) : FnV P w K mg base 2 "_law_draws" st__law_draws ps__law_draws sp__law_draws := (ok__law_draws0 t).abs abs__law_draws
theorem ok__law_take0 (t : Txt tx w K mg) : FnV P w K mg base 1 "_law_take" st__law_take ps__law_take sp__law_take0 :=
  fn_okV (k := 0) (t.def_ _ mem__law_take) sc__law_take (fun us M R E h => by obtain ⟨a, b, rfl⟩ := sp2_us h; rfl) bd__law_take (w__law_take ) (fun X g E D tk => jj__law_take t  X g E D tk) (fun us M R E h => by obtain ⟨a, b, rfl⟩ := sp2_us h; exact pure__law_take0 a b M R E h)
theorem ok__law_take (t : Txt tx w K mg) : FnV P w K mg base 1 "_law_take" st__law_take ps__law_take sp__law_take := (ok__law_take0 t).abs abs__law_take
theorem ok__law_pick (t : Txt tx w K mg) : FnV P w K mg base 2 "_law_pick" st__law_pick ps__law_pick sp__law_pick :=
  fn_okV (k := 1) (t.def_ _ mem__law_pick) sc__law_pick (fun us M R E h => by obtain ⟨a, b, rfl⟩ := sp2_us h; rfl) bd__law_pick (w__law_pick sp__law_take) (fun X g E D tk => jj__law_pick t (ok__law_take t) (by omega) X g E D tk) (fun us M R E h => by obtain ⟨a, b, rfl⟩ := sp2_us h; exact pure__law_pick a b M R E h)
theorem ok__law_is_whole (t : Txt tx w K mg) : FnV P w K mg base 1 "_law_is_whole" st__law_is_whole ps__law_is_whole sp__law_is_whole :=
  fn_okV (k := 0) (t.def_ _ mem__law_is_whole) sc__law_is_whole (fun us M R E h => by obtain ⟨a, rfl⟩ := sp1_us h; rfl) bd__law_is_whole (w__law_is_whole ) (fun X g E D tk => jj__law_is_whole t  X g E D tk) (fun us M R E h => by obtain ⟨a, rfl⟩ := sp1_us h; exact pure__law_is_whole a M R E h)
theorem ok__law_same (t : Txt tx w K mg) : ∀ n : Nat, FnV P w K mg base (0 + n) "_law_same" st__law_same ps__law_same (sp__law_same n)
  | 0 => fn_none (t.def_ _ mem__law_same) bd__law_same (fun us M R E h => by obtain ⟨a, b, rfl⟩ := sp2_us h; simp [sp__law_same] at h)
  | n + 1 => fn_okV (k := 0 + n) (t.def_ _ mem__law_same) sc__law_same (fun us M R E h => by obtain ⟨a, b, rfl⟩ := sp2_us h; rfl) bd__law_same (w__law_same (sp__law_same n)) (fun X g E D tk => jj__law_same t (ok__law_same t n) (by omega) X g E D tk) (fun us M R E h => by obtain ⟨a, b, rfl⟩ := sp2_us h; exact pure__law_same n a b M R E h)
theorem ok__law_tags (t : Txt tx w K mg) : FnV P w K mg base 3 "_law_tags" st__law_tags ps__law_tags sp__law_tags :=
  fn_okV (k := 2) (t.def_ _ mem__law_tags) sc__law_tags (fun us M R E h => by obtain ⟨a, b, rfl⟩ := sp2_us h; rfl) bd__law_tags (w__law_tags sp__law_pick sp__law_take) (fun X g E D tk => jj__law_tags t (ok__law_pick t) (by omega) (ok__law_take t) (by omega) X g E D tk) (fun us M R E h => by obtain ⟨a, b, rfl⟩ := sp2_us h; exact pure__law_tags a b M R E h)
theorem ok__law_is_tag (t : Txt tx w K mg) : FnV P w K mg base 1 "_law_is_tag" st__law_is_tag ps__law_is_tag sp__law_is_tag :=
  fn_okV (k := 0) (t.def_ _ mem__law_is_tag) sc__law_is_tag (fun us M R E h => by obtain ⟨a, rfl⟩ := sp1_us h; rfl) bd__law_is_tag (w__law_is_tag ) (fun X g E D tk => jj__law_is_tag t  X g E D tk) (fun us M R E h => by obtain ⟨a, rfl⟩ := sp1_us h; exact pure__law_is_tag a M R E h)
theorem ok__law_is_kind (t : Txt tx w K mg) : FnV P w K mg base 1 "_law_is_kind" st__law_is_kind ps__law_is_kind sp__law_is_kind :=
  fn_okV (k := 0) (t.def_ _ mem__law_is_kind) sc__law_is_kind (fun us M R E h => by obtain ⟨a, rfl⟩ := sp1_us h; rfl) bd__law_is_kind (w__law_is_kind ) (fun X g E D tk => jj__law_is_kind t  X g E D tk) (fun us M R E h => by obtain ⟨a, rfl⟩ := sp1_us h; exact pure__law_is_kind a M R E h)
theorem ok__law_parts (t : Txt tx w K mg) : FnV P w K mg base 1 "_law_parts" st__law_parts ps__law_parts sp__law_parts :=
  fn_okV (k := 0) (t.def_ _ mem__law_parts) sc__law_parts (fun us M R E h => by obtain ⟨a, rfl⟩ := sp1_us h; rfl) bd__law_parts (w__law_parts ) (fun X g E D tk => jj__law_parts t  X g E D tk) (fun us M R E h => by obtain ⟨a, rfl⟩ := sp1_us h; exact pure__law_parts a M R E h)
theorem ok__law_places (t : Txt tx w K mg) : ∀ n : Nat, FnV P w K mg base (1 + n) "_law_places" st__law_places ps__law_places (sp__law_places n)
  | 0 => fn_none (t.def_ _ mem__law_places) bd__law_places (fun us M R E h => by obtain ⟨a, rfl⟩ := sp1_us h; simp [sp__law_places] at h)
  | n + 1 => fn_okV (k := 1 + n) (t.def_ _ mem__law_places) sc__law_places (fun us M R E h => by obtain ⟨a, rfl⟩ := sp1_us h; rfl) bd__law_places (w__law_places sp__law_parts (sp__law_places n)) (fun X g E D tk => jj__law_places t (ok__law_parts t) (by omega) (ok__law_places t n) (by omega) X g E D tk) (fun us M R E h => by obtain ⟨a, rfl⟩ := sp1_us h; exact pure__law_places n a M R E h)
theorem ok__law_at (t : Txt tx w K mg) : FnV P w K mg base 1 "_law_at" st__law_at ps__law_at sp__law_at :=
  fn_okV (k := 0) (t.def_ _ mem__law_at) sc__law_at (fun us M R E h => by obtain ⟨a, b, rfl⟩ := sp2_us h; rfl) bd__law_at (w__law_at ) (fun X g E D tk => jj__law_at t  X g E D tk) (fun us M R E h => by obtain ⟨a, b, rfl⟩ := sp2_us h; exact pure__law_at a b M R E h)
theorem ok__law_put_in (t : Txt tx w K mg) : ∀ n : Nat, FnV P w K mg base (0 + n) "_law_put_in" st__law_put_in ps__law_put_in (sp__law_put_in n)
  | 0 => fn_none (t.def_ _ mem__law_put_in) bd__law_put_in (fun us M R E h => by obtain ⟨a, b, c, rfl⟩ := sp3_us h; simp [sp__law_put_in] at h)
  | n + 1 => fn_okV (k := 0 + n) (t.def_ _ mem__law_put_in) sc__law_put_in (fun us M R E h => by obtain ⟨a, b, c, rfl⟩ := sp3_us h; rfl) bd__law_put_in (w__law_put_in (sp__law_put_in n)) (fun X g E D tk => jj__law_put_in t (ok__law_put_in t n) (by omega) X g E D tk) (fun us M R E h => by obtain ⟨a, b, c, rfl⟩ := sp3_us h; exact pure__law_put_in n a b c M R E h)
theorem ok__law_nodes (t : Txt tx w K mg) : FnV P w K mg base 62 "_law_nodes" st__law_nodes ps__law_nodes sp__law_nodes :=
  fn_okV (k := 61) (t.def_ _ mem__law_nodes) sc__law_nodes (fun us M R E h => by obtain ⟨a, rfl⟩ := sp1_us h; rfl) bd__law_nodes (w__law_nodes (sp__law_places 60) sp__law_at) (fun X g E D tk => jj__law_nodes t (ok__law_places t 60) (by omega) (ok__law_at t) (by omega) X g E D tk) (fun us M R E h => by obtain ⟨a, rfl⟩ := sp1_us h; exact pure__law_nodes a M R E h)
theorem ok__law_leaf (t : Txt tx w K mg) : FnV P w K mg base 3 "_law_leaf" st__law_leaf ps__law_leaf sp__law_leaf :=
  fn_okV (k := 2) (t.def_ _ mem__law_leaf) sc__law_leaf (fun us M R E h => by obtain ⟨a, rfl⟩ := sp1_us h; rfl) bd__law_leaf (w__law_leaf sp__law_take sp__law_pick) (fun X g E D tk => jj__law_leaf t (ok__law_take t) (by omega) (ok__law_pick t) (by omega) X g E D tk) (fun us M R E h => by obtain ⟨a, rfl⟩ := sp1_us h; exact pure__law_leaf a M R E h)
theorem ok__law_document (t : Txt tx w K mg) : FnV P w K mg base 63 "_law_document" st__law_document ps__law_document sp__law_document :=
  fn_okV (k := 62) (t.def_ _ mem__law_document) sc__law_document (fun us M R E h => by obtain ⟨a, b, c, rfl⟩ := sp3_us h; rfl) bd__law_document (w__law_document sp__law_pick sp__law_nodes sp__law_take sp__law_leaf (sp__law_put_in 60) sp__law_at) (fun X g E D tk => jj__law_document t (ok__law_pick t) (by omega) (ok__law_nodes t) (by omega) (ok__law_take t) (by omega) (ok__law_leaf t) (by omega) (ok__law_put_in t 60) (by omega) (ok__law_at t) (by omega) X g E D tk) (fun us M R E h => by obtain ⟨a, b, c, rfl⟩ := sp3_us h; exact pure__law_document a b c M R E h)
theorem ok__law_bent (t : Txt tx w K mg) : ∀ n : Nat, FnV P w K mg base (2 + n) "_law_bent" st__law_bent ps__law_bent (sp__law_bent n)
  | 0 => fn_none (t.def_ _ mem__law_bent) bd__law_bent (fun us M R E h => by obtain ⟨a, b, rfl⟩ := sp2_us h; simp [sp__law_bent] at h)
  | n + 1 => fn_okV (k := 2 + n) (t.def_ _ mem__law_bent) sc__law_bent (fun us M R E h => by obtain ⟨a, b, rfl⟩ := sp2_us h; rfl) bd__law_bent (w__law_bent sp__law_take (sp__law_bent n) sp__law_is_whole sp__law_pick) (fun X g E D tk => jj__law_bent t (ok__law_take t) (by omega) (ok__law_bent t n) (by omega) (ok__law_is_whole t) (by omega) (ok__law_pick t) (by omega) X g E D tk) (fun us M R E h => by obtain ⟨a, b, rfl⟩ := sp2_us h; exact pure__law_bent n a b M R E h)
theorem ok__law_is_deed (t : Txt tx w K mg) : FnV P w K mg base 2 "_law_is_deed" st__law_is_deed ps__law_is_deed sp__law_is_deed :=
  fn_okV (k := 1) (t.def_ _ mem__law_is_deed) sc__law_is_deed (fun us M R E h => by obtain ⟨a, b, rfl⟩ := sp2_us h; rfl) bd__law_is_deed (w__law_is_deed sp__law_is_tag sp__law_is_kind) (fun X g E D tk => jj__law_is_deed t (ok__law_is_tag t) (by omega) (ok__law_is_kind t) (by omega) X g E D tk) (fun us M R E h => by obtain ⟨a, b, rfl⟩ := sp2_us h; exact pure__law_is_deed a b M R E h)
theorem ok__law_is_migration (t : Txt tx w K mg) : FnV P w K mg base 3 "_law_is_migration" st__law_is_migration ps__law_is_migration sp__law_is_migration :=
  fn_okV (k := 2) (t.def_ _ mem__law_is_migration) sc__law_is_migration (fun us M R E h => by obtain ⟨a, rfl⟩ := sp1_us h; rfl) bd__law_is_migration (w__law_is_migration sp__law_is_tag sp__law_is_kind sp__law_is_deed) (fun X g E D tk => jj__law_is_migration t (ok__law_is_tag t) (by omega) (ok__law_is_kind t) (by omega) (ok__law_is_deed t) (by omega) X g E D tk) (fun us M R E h => by obtain ⟨a, rfl⟩ := sp1_us h; exact pure__law_is_migration a M R E h)
theorem ok__law_deed (t : Txt tx w K mg) : FnV P w K mg base 1 "_law_deed" st__law_deed ps__law_deed sp__law_deed :=
  fn_okV (k := 0) (t.def_ _ mem__law_deed) sc__law_deed (fun us M R E h => by obtain ⟨a, b, rfl⟩ := sp2_us h; rfl) bd__law_deed (w__law_deed ) (fun X g E D tk => jj__law_deed t  X g E D tk) (fun us M R E h => by obtain ⟨a, b, rfl⟩ := sp2_us h; exact pure__law_deed a b M R E h)
theorem ok__law_forest (t : Txt tx w K mg) : ∀ n : Nat, FnV P w K mg base (1 + n) "_law_forest" st__law_forest ps__law_forest (sp__law_forest n)
  | 0 => fn_none (t.def_ _ mem__law_forest) bd__law_forest (fun us M R E h => by obtain ⟨a, b, rfl⟩ := sp2_us h; simp [sp__law_forest] at h)
  | n + 1 => fn_okV (k := 1 + n) (t.def_ _ mem__law_forest) sc__law_forest (fun us M R E h => by obtain ⟨a, b, rfl⟩ := sp2_us h; rfl) bd__law_forest (w__law_forest sp__law_deed (sp__law_forest n)) (fun X g E D tk => jj__law_forest t (ok__law_deed t) (by omega) (ok__law_forest t n) (by omega) X g E D tk) (fun us M R E h => by obtain ⟨a, b, rfl⟩ := sp2_us h; exact pure__law_forest n a b M R E h)
theorem ok__law_migrated (t : Txt tx w K mg) : FnV P w K mg base 62 "_law_migrated" st__law_migrated ps__law_migrated sp__law_migrated :=
  fn_okV (k := 61) (t.def_ _ mem__law_migrated) sc__law_migrated (fun us M R E h => by obtain ⟨a, b, rfl⟩ := sp2_us h; rfl) bd__law_migrated (w__law_migrated sp__law_deed (sp__law_forest 60)) (fun X g E D tk => jj__law_migrated t (ok__law_deed t) (by omega) (ok__law_forest t 60) (by omega) X g E D tk) (fun us M R E h => by obtain ⟨a, b, rfl⟩ := sp2_us h; exact pure__law_migrated a b M R E h)
theorem ok__law_migration (t : Txt tx w K mg) : FnV P w K mg base 3 "_law_migration" st__law_migration ps__law_migration sp__law_migration :=
  fn_okV (k := 2) (t.def_ _ mem__law_migration) sc__law_migration (fun us M R E h => by obtain ⟨a, b, c, rfl⟩ := sp3_us h; rfl) bd__law_migration (w__law_migration sp__law_pick sp__law_take) (fun X g E D tk => jj__law_migration t (ok__law_pick t) (by omega) (ok__law_take t) (by omega) X g E D tk) (fun us M R E h => by obtain ⟨a, b, c, rfl⟩ := sp3_us h; exact pure__law_migration a b c M R E h)
theorem ok__law_both_of (t : Txt tx w K mg) : FnV P w K mg base 2 "_law_both_of" st__law_both_of ps__law_both_of sp__law_both_of :=
  fn_okV (k := 1) (t.def_ _ mem__law_both_of) sc__law_both_of (fun us M R E h => by obtain ⟨a, b, rfl⟩ := sp2_us h; rfl) bd__law_both_of (w__law_both_of sp__law_deed) (fun X g E D tk => jj__law_both_of t (ok__law_deed t) (by omega) X g E D tk) (fun us M R E h => by obtain ⟨a, b, rfl⟩ := sp2_us h; exact pure__law_both_of a b M R E h)
theorem ok__law_told (t : Txt tx w K mg) : FnV P w K mg base 65 "_law_told" st__law_told ps__law_told sp__law_told :=
  fn_okV (k := 64) (t.def_ _ mem__law_told) sc__law_told (fun us M R E h => by obtain ⟨a, b, c, rfl⟩ := sp3_us h; rfl) bd__law_told (w__law_told sp_forest_of sp_migrated sp_plain_migration sp_both_migrations) (fun X g E D tk => jj__law_told t (ok_forest_of t) (by omega) (ok_migrated t) (by omega) (ok_plain_migration t) (by omega) (ok_both_migrations t) (by omega) X g E D tk) (fun us M R E h => by obtain ⟨a, b, c, rfl⟩ := sp3_us h; exact pure__law_told a b c M R E h)
theorem ok__law_one_right (t : Txt tx w K mg) : FnV P w K mg base 66 "_law_one_right" st__law_one_right ps__law_one_right sp__law_one_right :=
  fn_okV (k := 65) (t.def_ _ mem__law_one_right) sc__law_one_right (fun us M R E h => by obtain ⟨a, b, rfl⟩ := sp2_us h; rfl) bd__law_one_right (w__law_one_right (sp__law_places 60) sp__law_migrated (sp__law_forest 60) sp__law_at sp__law_told (sp__law_same 50)) (fun X g E D tk => jj__law_one_right t (ok__law_places t 60) (by omega) (ok__law_migrated t) (by omega) (ok__law_forest t 60) (by omega) (ok__law_at t) (by omega) (ok__law_told t) (by omega) (ok__law_same t 50) (by omega) X g E D tk) (fun us M R E h => by obtain ⟨a, b, rfl⟩ := sp2_us h; exact pure__law_one_right a b M R E h)
theorem ok__law_two_right (t : Txt tx w K mg) : FnV P w K mg base 66 "_law_two_right" st__law_two_right ps__law_two_right sp__law_two_right :=
  fn_okV (k := 65) (t.def_ _ mem__law_two_right) sc__law_two_right (fun us M R E h => by obtain ⟨a, b, c, rfl⟩ := sp3_us h; rfl) bd__law_two_right (w__law_two_right sp__law_told (sp__law_same 50) sp__law_both_of (sp__law_forest 60)) (fun X g E D tk => jj__law_two_right t (ok__law_told t) (by omega) (ok__law_same t 50) (by omega) (ok__law_both_of t) (by omega) (ok__law_forest t 60) (by omega) X g E D tk) (fun us M R E h => by obtain ⟨a, b, c, rfl⟩ := sp3_us h; exact pure__law_two_right a b c M R E h)
theorem spL_us {us : List U} {M : Mp} {R : UK} {E : UXK} (h : spLaw us M R E) : ∃ a, us = [a] := by
  obtain ⟨ns, e, _⟩ := h
  exact ⟨_, e⟩
theorem ok_law (t : Txt tx w K mg) : FnV P w K mg base 67 "law" st_law ps_law spLaw :=
  fn_okV (k := 66) (t.def_ _ mem_law) sc_law (fun us M R E h => by obtain ⟨a, rfl⟩ := spL_us h; rfl) bd_law (w_law sp__law_draws sp__law_tags sp__law_pick sp__law_document sp__law_take sp__law_migration sp__law_one_right (sp__law_bent 50) sp__law_is_migration (sp__law_same 50) sp_is_migration sp__law_told sp__law_two_right sp_both_migrations) (fun X g E D tk => jj_law t (ok__law_draws t) (by omega) (ok__law_tags t) (by omega) (ok__law_pick t) (by omega) (ok__law_document t) (by omega) (ok__law_take t) (by omega) (ok__law_migration t) (by omega) (ok__law_one_right t) (by omega) (ok__law_bent t 50) (by omega) (ok__law_is_migration t) (by omega) (ok__law_same t 50) (by omega) (ok_is_migration t) (by omega) (ok__law_told t) (by omega) (ok__law_two_right t) (by omega) (ok_both_migrations t) (by omega) X g E D tk) (fun us M R E h => by obtain ⟨a, rfl⟩ := spL_us h; exact pure_law a M R E h)
end
end Law

namespace Law
open PySem PySem.Spec PyProof.Rows L2 Pu PySem.W PySem.Calls HandSHeadRun
end Law
open PySem PySem.Spec PyProof.Rows L2 Pu PySem.W PySem.Calls HandSHeadRun Law in
theorem PySem.Challenge.cw_shapeskept_k40_migrations_holds : PySem.Challenge.rw_shapeskept_k40_migrations.Holds := by
  w_on
  o_law
  refine HandSHeadRun.head_any (r := Rw) (q := PySem.W.view Rw.prog [68]) (H := tx.hk) (ob := tx.ob) (M := 20000) (loose := names0 ++ names1) (d := HandSHeadRun.topDef Rw.prog 68) (kwd := []) tx.ob_eq (by kernel_rfl) (fun s => by kernel_rfl) Law.run (by kernel_rfl) (by kernel_rfl) (by kernel_rfl) (by rfl) (by first | assumption | decide +kernel) (by decide +kernel) ⟨rfl, rfl, rfl, rfl, rfl, by decide +kernel⟩ ?hw ?hc
  case hw => w_witness2
  case hc => exact walk_T (k := 67) (st := st_law) rfl rfl ⟨rfl, by decide, by decide⟩ (by kernel_rfl) (by decide +kernel) mem_law bd_law (fun w K mg base t => ok_law t)
