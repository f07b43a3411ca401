import PyProof.Rows.All
import Wide.All
import OpenK.AllK
import Wide.FinOn
import HandS.ForMost
import HandS.ForExc
import HandS.CallSlots
import HandS.TupAny
import HandS.Flow
import HandS.IsInst
import HandS.Codes
import KE.LtSeq
import HandS.Deep
import HandS.Style
import HandS.Steps
import HandS.More
import HandS.Small
import HandS.Text
import HandS.List
import HandS.AnyAll
import HandS.Iter
import HandS.Zip
import KE.GoesMore
import KE.GoesEnum
import HandS.Defaults
import HandS.HeadHook4
import HandS.HeadEnd
import HandS.Head2
import PyProof.ExcBaseAll.ValueError
import HandS.Set
import HandS.SetTxt0
import HandS.Strs
import HandS.SetFor
import PyProof.Rows.SortShellAny
import PyProof.Rows.SetFrom
import KE.KSortTup
import KE.KSortKey
import HandS.SortOrd
import HandS.SortKw
import HandS.FromBytesMap
import HandS.ExcValue
import HandS.TryMany
import HandS.Conv
import HandS.SortInts
import PySem.Challenge.RW_shapeskept_k16_guards
set_option Elab.async false
set_option linter.all false
set_option maxRecDepth 100000
set_option maxHeartbeats 0
/-! Pu: pure values over the hand layer. U: values without addresses, but for handles (ref) of what is changed; M: what the handles hold. -/
namespace Pu
open PySem PySem.Spec PyProof.Rows L2

inductive U where
  | non | bl (b : Bool) | int (i : Int) | str (x : Str) | ty (n : String) | ref (a : Addr)
  | tup (us : List U) | lst (us : List U) | dct (ks : List Key) (us : List U)
  | pr (us : List U)
  deriving Inhabited

/-- what a handle holds -/
inductive MO where
  | lst (us : List U) | dct (ks : List Key) (us : List U)
  /-- a list whose items are told by a property alone -/
  | hid (P : List V → Prop)
abbrev Mp := Addr → Option MO
def put (M : Mp) (a : Addr) (o : MO) : Mp := fun b => if b = a then some o else M b
def del (M : Mp) (a : Addr) : Mp := fun b => if b = a then none else M b
theorem put_same {M : Mp} {a : Addr} {o : MO} : put M a o a = some o := by unfold put; rw [if_pos rfl]
theorem put_ne {M : Mp} {a b : Addr} {o : MO} (h : b ≠ a) : put M a o b = M b := by unfold put; rw [if_neg h]
theorem del_same {M : Mp} {a : Addr} : del M a a = none := by unfold del; rw [if_pos rfl]
theorem del_ne {M : Mp} {a b : Addr} (h : b ≠ a) : del M a b = M b := by unfold del; rw [if_neg h]
theorem put_put {M : Mp} {a : Addr} {o u : MO} : put (put M a o) a u = put M a u := by
  funext b; unfold put; split <;> rfl
theorem put_eq {M : Mp} {a : Addr} {o : MO} (h : M a = some o) : put M a o = M := by
  funext b; unfold put; split
  · rename_i e; rw [e, h]
  · rfl
theorem del_put {M : Mp} {a : Addr} {o : MO} (h : M a = none) : del (put M a o) a = M := by
  funext b; unfold del put; split
  · rename_i e; rw [e, h]
  · rfl

/-- a frozen list or tuple: tracked and no handle, or written; pr: what zip and enumerate hand out -/
def FzL (K : PySem.W.Frag) (M : Mp) (H : Hp) (a : Addr) (xs : List V) : Prop :=
  (Rd H a (.lst xs) ∧ M a = none) ∨
    ∃ (o : Obj) (its : Array Value) (n : Nat), K.lookup a = some o ∧ o.cls = .type "list" ∧ o.dict = none ∧ o.data = .seq its n ∧ its.size ≤ sizeLine ∧ Vals xs its.toList
def FzT (K : PySem.W.Frag) (M : Mp) (H : Hp) (a : Addr) (xs : List V) : Prop :=
  ((∃ o : Obj, H a = some (.frz o (.tup xs)) ∧ o.dict = none) ∧ M a = none) ∨
    ∃ (o : Obj) (its : Array Value) (n : Nat), K.lookup a = some o ∧ o.cls = .type "tuple" ∧ o.dict = none ∧ o.data = .seq its n ∧ its.size ≤ sizeLine ∧ Vals xs its.toList
def FzP (M : Mp) (H : Hp) (a : Addr) (xs : List V) : Prop := Rd H a (.tup xs) ∧ M a = none
theorem FzL.sq {K : PySem.W.Frag} {M : Mp} {H : Hp} {a : Addr} {xs : List V} (h : FzL K M H a xs) : SqL K H a xs := by
  rcases h with ⟨h, _⟩ | h
  · exact .inl h
  · exact .inr h
theorem FzT.sq {K : PySem.W.Frag} {M : Mp} {H : Hp} {a : Addr} {xs : List V} (h : FzT K M H a xs) : SqT K H a xs := by
  rcases h with ⟨⟨o, h, _⟩, _⟩ | ⟨o, its, n, h1, h2, _, h3, h4, h5⟩
  · exact .inl (.inr ⟨o, h⟩)
  · exact .inr ⟨o, its, n, h1, h2, h3, h4, h5⟩

mutual
/-- the value v stands for u -/
def RepV (K : PySem.W.Frag) (M : Mp) (H : Hp) : U → V → Prop
  | .non, v => v = .non
  | .bl b, v => v = .bl b
  | .int i, v => v = .int i
  | .str x, v => v = .str x
  | .ty n, v => v = .ty n
  | .ref a, v => v = .ref a
  | .tup us, v => ∃ a vs, v = .ref a ∧ FzT K M H a vs ∧ RepVs K M H us vs
  | .lst us, v => ∃ a vs, v = .ref a ∧ FzL K M H a vs ∧ RepVs K M H us vs
  | .pr us, v => ∃ a vs, v = .ref a ∧ FzP M H a vs ∧ RepVs K M H us vs
  | .dct ks us, v => ∃ a vs, v = .ref a ∧ H a = some (.dK (ks.zip vs)) ∧ M a = none ∧ ks.length = vs.length ∧ RepVs K M H us vs
def RepVs (K : PySem.W.Frag) (M : Mp) (H : Hp) : List U → List V → Prop
  | [], vs => vs = []
  | u :: us, vs => ∃ v r, vs = v :: r ∧ RepV K M H u v ∧ RepVs K M H us r
end

/-- from one moment to a later one: what is tracked and no handle stays -/
def Stp (M : Mp) (H : Hp) (M' : Mp) (H' : Hp) : Prop := ∀ a o, H a = some o → M a = none → H' a = some o ∧ M' a = none
theorem Stp.refl (M : Mp) (H : Hp) : Stp M H M H := fun _ _ h1 h2 => ⟨h1, h2⟩
theorem Stp.trans {M M1 M2 : Mp} {H H1 H2 : Hp} (a : Stp M H M1 H1) (b : Stp M1 H1 M2 H2) : Stp M H M2 H2 := fun c o h1 h2 =>
  let ⟨q1, q2⟩ := a c o h1 h2
  b c o q1 q2
theorem Stp.rd {M M' : Mp} {H H' : Hp} (st : Stp M H M' H') {a : Addr} {u : HO} (r : Rd H a u) (m : M a = none) : Rd H' a u ∧ M' a = none := by
  rcases r with r | ⟨o, r⟩
  · exact ⟨.inl (st _ _ r m).1, (st _ _ r m).2⟩
  · exact ⟨.inr ⟨o, (st _ _ r m).1⟩, (st _ _ r m).2⟩
section
variable {K : PySem.W.Frag} {M M' M1 M2 : Mp} {H H' H1 H2 : Hp}
theorem FzL.step (st : Stp M H M' H') {a : Addr} {xs : List V} (h : FzL K M H a xs) : FzL K M' H' a xs := by
  rcases h with ⟨h, m⟩ | h
  · exact .inl (st.rd h m)
  · exact .inr h
theorem FzT.step (st : Stp M H M' H') {a : Addr} {xs : List V} (h : FzT K M H a xs) : FzT K M' H' a xs := by
  rcases h with ⟨⟨o, h, hd⟩, m⟩ | h
  · exact .inl ⟨⟨o, (st _ _ h m).1, hd⟩, (st _ _ h m).2⟩
  · exact .inr h
theorem FzP.step (st : Stp M H M' H') {a : Addr} {xs : List V} (h : FzP M H a xs) : FzP M' H' a xs := st.rd h.1 h.2
mutual
theorem RepV.step (st : Stp M H M' H') : ∀ (u : U) (v : V), RepV K M H u v → RepV K M' H' u v
  | .non, _, h => by unfold RepV at h ⊢; exact h
  | .bl b, _, h => by unfold RepV at h ⊢; exact h
  | .int i, _, h => by unfold RepV at h ⊢; exact h
  | .str x, _, h => by unfold RepV at h ⊢; exact h
  | .ty n, _, h => by unfold RepV at h ⊢; exact h
  | .ref a, _, h => by unfold RepV at h ⊢; exact h
  | .tup us, _, h => by
    unfold RepV at h ⊢
    obtain ⟨a, vs, e, f, r⟩ := h
    exact ⟨a, vs, e, f.step st, RepVs.step st us vs r⟩
  | .lst us, _, h => by
    unfold RepV at h ⊢
    obtain ⟨a, vs, e, f, r⟩ := h
    exact ⟨a, vs, e, f.step st, RepVs.step st us vs r⟩
  | .pr us, _, h => by
    unfold RepV at h ⊢
    obtain ⟨a, vs, e, f, r⟩ := h
    exact ⟨a, vs, e, f.step st, RepVs.step st us vs r⟩
  | .dct ks us, _, h => by
    unfold RepV at h ⊢
    obtain ⟨a, vs, e, f, m, l, r⟩ := h
    exact ⟨a, vs, e, (st _ _ f m).1, (st _ _ f m).2, l, RepVs.step st us vs r⟩
theorem RepVs.step (st : Stp M H M' H') : ∀ (us : List U) (vs : List V), RepVs K M H us vs → RepVs K M' H' us vs
  | [], _, h => by unfold RepVs at h ⊢; exact h
  | u :: us, _, h => by
    unfold RepVs at h ⊢
    obtain ⟨v, r, e, h1, h2⟩ := h
    exact ⟨v, r, e, RepV.step st u v h1, RepVs.step st us r h2⟩
end
theorem RepVs.length : ∀ {us : List U} {vs : List V}, RepVs K M H us vs → us.length = vs.length
  | [], _, h => by unfold RepVs at h; rw [h]; rfl
  | u :: us, _, h => by
    unfold RepVs at h
    obtain ⟨v, r, e, h1, h2⟩ := h
    rw [e, List.length_cons, List.length_cons, RepVs.length h2]
theorem RepVs.nil : RepVs K M H [] [] := by unfold RepVs; rfl
theorem RepVs.cons {u : U} {us : List U} {v : V} {vs : List V} (h : RepV K M H u v) (r : RepVs K M H us vs) : RepVs K M H (u :: us) (v :: vs) := by
  unfold RepVs; exact ⟨v, vs, rfl, h, r⟩
theorem RepVs.uncons {u : U} {us : List U} {vs : List V} (h : RepVs K M H (u :: us) vs) : ∃ v r, vs = v :: r ∧ RepV K M H u v ∧ RepVs K M H us r := by
  unfold RepVs at h; exact h
theorem RepVs.nil_inv {vs : List V} (h : RepVs K M H [] vs) : vs = [] := by unfold RepVs at h; exact h
theorem RepVs.app : ∀ {us ws : List U} {vs xs : List V}, RepVs K M H us vs → RepVs K M H ws xs → RepVs K M H (us ++ ws) (vs ++ xs)
  | [], _, _, _, h, r => by rw [h.nil_inv]; exact r
  | u :: us, _, _, _, h, r => by
    obtain ⟨v, q, e, h1, h2⟩ := h.uncons
    rw [e]
    exact .cons h1 (RepVs.app h2 r)
theorem RepVs.get : ∀ {us : List U} {vs : List V} {i : Nat} {u : U}, RepVs K M H us vs → us[i]? = some u → ∃ v, vs[i]? = some v ∧ RepV K M H u v
  | [], _, _, _, _, e => by simp at e
  | u :: us, _, 0, x, h, e => by
    obtain ⟨v, q, ev, h1, h2⟩ := h.uncons
    simp at e
    subst e ev
    exact ⟨v, rfl, h1⟩
  | u :: us, _, i + 1, x, h, e => by
    obtain ⟨v, q, ev, h1, h2⟩ := h.uncons
    subst ev
    obtain ⟨w, h3, h4⟩ := RepVs.get (i := i) h2 (by simpa using e)
    exact ⟨w, by simpa using h3, h4⟩
theorem RepVs.take : ∀ {us : List U} {vs : List V} (n : Nat), RepVs K M H us vs → RepVs K M H (us.take n) (vs.take n)
  | _, _, 0, _ => by simp only [List.take_zero]; exact .nil
  | [], _, n + 1, h => by rw [h.nil_inv]; simp only [List.take_nil]; exact .nil
  | u :: us, _, n + 1, h => by
    obtain ⟨v, q, ev, h1, h2⟩ := h.uncons
    subst ev
    simp only [List.take_succ_cons]
    exact .cons h1 (RepVs.take n h2)
theorem RepVs.drop : ∀ {us : List U} {vs : List V} (n : Nat), RepVs K M H us vs → RepVs K M H (us.drop n) (vs.drop n)
  | _, _, 0, h => h
  | [], _, n + 1, h => by rw [h.nil_inv]; simp only [List.drop_nil]; exact .nil
  | u :: us, _, n + 1, h => by
    obtain ⟨v, q, ev, h1, h2⟩ := h.uncons
    subst ev
    simp only [List.drop_succ_cons]
    exact RepVs.drop n h2
theorem RepVs.rev : ∀ {us : List U} {vs : List V}, RepVs K M H us vs → RepVs K M H us.reverse vs.reverse
  | [], _, h => by rw [h.nil_inv]; exact .nil
  | u :: us, _, h => by
    obtain ⟨v, q, ev, h1, h2⟩ := h.uncons
    subst ev
    rw [List.reverse_cons, List.reverse_cons]
    exact (RepVs.rev h2).app (.cons h1 .nil)
theorem RepVs.set : ∀ {us : List U} {vs : List V} (i : Nat) {u : U} {v : V}, RepVs K M H us vs → RepV K M H u v → RepVs K M H (us.set i u) (vs.set i v)
  | [], _, _, _, _, h, _ => by rw [h.nil_inv]; exact .nil
  | u :: us, _, 0, x, w, h, r => by
    obtain ⟨v, q, ev, h1, h2⟩ := h.uncons
    subst ev
    exact .cons r h2
  | u :: us, _, i + 1, x, w, h, r => by
    obtain ⟨v, q, ev, h1, h2⟩ := h.uncons
    subst ev
    exact .cons h1 (RepVs.set i h2 r)
/-- values of a written kind -/
theorem RepVs.vmap {f : U → V} : ∀ {us : List U} {vs : List V}, RepVs K M H us vs → (∀ u ∈ us, ∀ v, RepV K M H u v → v = f u) → vs = us.map f
  | [], _, h, _ => by rw [h.nil_inv]; rfl
  | u :: us, _, h, g => by
    obtain ⟨v, q, ev, h1, h2⟩ := h.uncons
    rw [ev, List.map_cons, g u List.mem_cons_self v h1, RepVs.vmap h2 fun x m => g x (List.mem_cons_of_mem _ m)]

/-- what the handles hold, in the heap -/
def RepO (K : PySem.W.Frag) (M : Mp) (H : Hp) (a : Addr) : MO → Prop
  | .lst us => ∃ vs, H a = some (.lst vs) ∧ RepVs K M H us vs
  | .dct ks us => ∃ vs, H a = some (.dK (ks.zip vs)) ∧ ks.length = vs.length ∧ RepVs K M H us vs
  | .hid P => ∃ vs, H a = some (.lst vs) ∧ P vs
def RepM (K : PySem.W.Frag) (M : Mp) (H : Hp) : Prop := ∀ a o, M a = some o → RepO K M H a o
theorem RepM.free (r : RepM K M H) {a : Addr} (h : H a = none) : M a = none := by
  cases e : M a with
  | none => rfl
  | some o =>
    have q := r a o e
    cases o with
    | lst us => obtain ⟨vs, q, _⟩ := q; rw [h] at q; cases q
    | dct ks us => obtain ⟨vs, q, _⟩ := q; rw [h] at q; cases q
    | hid P => obtain ⟨vs, q, _⟩ := q; rw [h] at q; cases q
/-- a new object that is no handle -/
theorem Stp.new (r : RepM K M H) {p : Addr} {o : HO} (h : H p = none) : Stp M H M (upd H p o) := fun a u h1 h2 => by
  have : a ≠ p := fun e => by rw [e, h] at h1; cases h1
  exact ⟨by rw [upd_ne this]; exact h1, h2⟩
/-- a new handle -/
theorem Stp.newH {p : Addr} {o : HO} {m : MO} (h : H p = none) : Stp M H (put M p m) (upd H p o) := fun a u h1 h2 => by
  have : a ≠ p := fun e => by rw [e, h] at h1; cases h1
  exact ⟨by rw [upd_ne this]; exact h1, by rw [put_ne this]; exact h2⟩
/-- a handle's object is changed -/
theorem Stp.chg {p : Addr} {o : HO} {m m' : MO} (h : M p = some m) : Stp M H (put M p m') (upd H p o) := fun a u h1 h2 => by
  have : a ≠ p := fun e => by rw [e, h] at h2; cases h2
  exact ⟨by rw [upd_ne this]; exact h1, by rw [put_ne this]; exact h2⟩
theorem RepM.new (r : RepM K M H) {p : Addr} {o : HO} (h : H p = none) : RepM K M (upd H p o) := fun a m e => by
  have st := Stp.new (o := o) r h
  have q := r a m e
  have : a ≠ p := fun z => by rw [z, r.free h] at e; cases e
  cases m with
  | lst us => obtain ⟨vs, q, t⟩ := q; exact ⟨vs, by rw [upd_ne this]; exact q, RepVs.step st _ _ t⟩
  | dct ks us => obtain ⟨vs, q, l, t⟩ := q; exact ⟨vs, by rw [upd_ne this]; exact q, l, RepVs.step st _ _ t⟩
  | hid P => obtain ⟨vs, q, t⟩ := q; exact ⟨vs, by rw [upd_ne this]; exact q, t⟩
theorem RepM.putL (r : RepM K M H) {p : Addr} {us : List U} {vs : List V} (st : Stp M H (put M p (.lst us)) (upd H p (.lst vs))) (t : RepVs K M H us vs) : RepM K (put M p (.lst us)) (upd H p (.lst vs)) := fun a m e => by
  by_cases h : a = p
  · subst h
    rw [put_same] at e; cases e
    exact ⟨vs, upd_same, RepVs.step st _ _ t⟩
  · rw [put_ne h] at e
    have q := r a m e
    cases m with
    | lst us => obtain ⟨ws, q, t⟩ := q; exact ⟨ws, by rw [upd_ne h]; exact q, RepVs.step st _ _ t⟩
    | dct ks us => obtain ⟨ws, q, l, t⟩ := q; exact ⟨ws, by rw [upd_ne h]; exact q, l, RepVs.step st _ _ t⟩
    | hid P => obtain ⟨ws, q, t⟩ := q; exact ⟨ws, by rw [upd_ne h]; exact q, t⟩
theorem RepM.putD (r : RepM K M H) {p : Addr} {ks : List Key} {us : List U} {vs : List V} (st : Stp M H (put M p (.dct ks us)) (upd H p (.dK (ks.zip vs)))) (l : ks.length = vs.length) (t : RepVs K M H us vs) :
    RepM K (put M p (.dct ks us)) (upd H p (.dK (ks.zip vs))) := fun a m e => by
  by_cases h : a = p
  · subst h
    rw [put_same] at e; cases e
    exact ⟨vs, upd_same, l, RepVs.step st _ _ t⟩
  · rw [put_ne h] at e
    have q := r a m e
    cases m with
    | lst us => obtain ⟨ws, q, t⟩ := q; exact ⟨ws, by rw [upd_ne h]; exact q, RepVs.step st _ _ t⟩
    | dct ks us => obtain ⟨ws, q, l, t⟩ := q; exact ⟨ws, by rw [upd_ne h]; exact q, l, RepVs.step st _ _ t⟩
    | hid P => obtain ⟨ws, q, t⟩ := q; exact ⟨ws, by rw [upd_ne h]; exact q, t⟩

/-- fewer handles -/
def Fewer (M1 M2 : Mp) : Prop := ∀ a o, M1 a = some o → M2 a = some o
theorem Fewer.refl (M : Mp) : Fewer M M := fun _ _ h => h
theorem Fewer.trans {M1 M2 M3 : Mp} (h : Fewer M1 M2) (k : Fewer M2 M3) : Fewer M1 M3 := fun a o e => k a o (h a o e)
theorem Fewer.non {M1 M2 : Mp} (s : Fewer M1 M2) {a : Addr} (h : M2 a = none) : M1 a = none := by
  cases e : M1 a with
  | none => rfl
  | some o => rw [s a o e] at h; cases h
theorem Fewer.ofPut {M : Mp} {p : Addr} {o : MO} (h : M p = none) : Fewer M (put M p o) := fun a u e => by
  have : a ≠ p := fun z => by rw [z, h] at e; cases e
  rw [put_ne this]; exact e
theorem Fewer.ofDel {M : Mp} {p : Addr} : Fewer (del M p) M := fun a u e => by
  by_cases h : a = p
  · rw [h, del_same] at e; cases e
  · rw [del_ne h] at e; exact e
theorem Fewer.stp {M1 M2 : Mp} (s : Fewer M1 M2) (H : Hp) : Stp M2 H M1 H := fun a o h1 h2 => ⟨h1, s.non h2⟩
theorem Fewer.repM {M1 M2 : Mp} (s : Fewer M1 M2) (r : RepM K M2 H) : RepM K M1 H := fun a m e => by
  have q := r a m (s a m e)
  cases m with
  | lst us => obtain ⟨ws, q, t⟩ := q; exact ⟨ws, q, RepVs.step (s.stp H) _ _ t⟩
  | dct ks us => obtain ⟨ws, q, l, t⟩ := q; exact ⟨ws, q, l, RepVs.step (s.stp H) _ _ t⟩
  | hid P => obtain ⟨ws, q, t⟩ := q; exact ⟨ws, q, t⟩
end

/-! ### slots -/
abbrev Sg := List (Option U)
def RepS (K : PySem.W.Frag) (M : Mp) (H : Hp) (su : Sg) (σ : L2.St) : Prop :=
  su.length = σ.length ∧ ∀ (i : Nat) (u : U), su[i]? = some (some u) → ∃ v, σ[i]? = some (some v) ∧ RepV K M H u v
section
variable {K : PySem.W.Frag} {M M' : Mp} {H H' : Hp} {su : Sg} {σ : L2.St}
theorem RepS.step (st : Stp M H M' H') (r : RepS K M H su σ) : RepS K M' H' su σ := ⟨r.1, fun i u e => by
  obtain ⟨v, h1, h2⟩ := r.2 i u e
  exact ⟨v, h1, h2.step st⟩⟩
theorem RepS.set (r : RepS K M H su σ) {i : Nat} {u : U} {v : V} (h : RepV K M H u v) : RepS K M H (su.set i (some u)) (σ.set i (some v)) := by
  refine ⟨by rw [List.length_set, List.length_set]; exact r.1, fun j w e => ?_⟩
  by_cases hj : i = j
  · subst hj
    by_cases hl : i < su.length
    · rw [List.getElem?_set_self hl] at e
      cases e
      exact ⟨v, by rw [List.getElem?_set_self (by rw [← r.1]; exact hl)], h⟩
    · rw [List.getElem?_eq_none (by rw [List.length_set]; omega)] at e; cases e
  · rw [List.getElem?_set_ne hj] at e ⊢
    exact r.2 j w e
theorem RepS.start {us : List U} {vs : List V} (h : RepVs K M H us vs) (n : Nat) : RepS K M H (us.map some ++ List.replicate (n - us.length) none) (vs.map some ++ List.replicate (n - vs.length) none) := by
  refine ⟨by simp [h.length], fun i u e => ?_⟩
  by_cases hi : i < us.length
  · rw [List.getElem?_append_left (by simpa using hi), List.getElem?_map] at e
    have hi' : i < vs.length := by rw [← h.length]; exact hi
    cases q : us[i]? with
    | none => rw [q] at e; cases e
    | some w =>
      rw [q] at e
      cases e
      obtain ⟨v, h1, h2⟩ := h.get q
      exact ⟨v, by rw [List.getElem?_append_left (by simpa using hi'), List.getElem?_map, h1]; rfl, h2⟩
  · rw [List.getElem?_append_right (by simpa using hi), List.getElem?_replicate] at e
    split at e <;> cases e
end
end Pu

/-! Pu, part 2: wishes over pure values, lifted to the layer's readings. -/
namespace Pu
open PySem PySem.Spec PyProof.Rows L2
abbrev Stt := L2.St

abbrev UK := U → Mp → Prop
abbrev WE := Sg → Mp → UK → Prop
abbrev WA := Sg → Mp → (List U → Mp → Prop) → Prop
abbrev WT := Sg → Mp → (Bool → Mp → Prop) → Prop
structure UEnds where
  nx : Sg → Mp → Prop
  rt : UK
  bk : Sg → Mp → Prop := fun _ _ => False
  ct : Sg → Mp → Prop := fun _ _ => False
abbrev WS := UEnds → Sg → Mp → Prop
/-- an exception: its class's name, the fields that it keeps -/
structure UX where
  cls : Str
  fs : List (Str × U) := []
abbrev UXK := UX → Mp → Prop
/-- a promise over pure values -/
abbrev USp := List U → Mp → UK → UXK → Prop

section
variable (K : PySem.W.Frag)
def Cl (M : Mp) (H : Hp) (R : UK) (Q : VK) : Prop := ∀ u M' v H', R u M' → Stp M H M' H' → RepM K M' H' → RepV K M' H' u v → Q v H'
def ClA (M : Mp) (H : Hp) (R : List U → Mp → Prop) (Q : List V → Hp → Prop) : Prop := ∀ us M' vs H', R us M' → Stp M H M' H' → RepM K M' H' → RepVs K M' H' us vs → Q vs H'
def ClT (M : Mp) (H : Hp) (R : Bool → Mp → Prop) (Q : Bool → Hp → Prop) : Prop := ∀ b M' H', R b M' → Stp M H M' H' → RepM K M' H' → Q b H'
def ClS (M : Mp) (H : Hp) (R : Sg → Mp → Prop) (Q : Stt → Hp → Prop) : Prop := ∀ su M' σ H', R su M' → Stp M H M' H' → RepM K M' H' → RepS K M' H' su σ → Q σ H'
structure ClD (M : Mp) (H : Hp) (R : UEnds) (D : Ends) : Prop where
  nx : ClS K M H R.nx D.nx
  rt : Cl K M H R.rt D.rt
  bk : ClS K M H R.bk D.bk
  ct : ClS K M H R.ct D.ct

/-- the ground: the moment of the entry -/
structure Gd where
  M : Mp
  H : Hp
/-- the state: behind the ground, held -/
structure At (g : Gd) (su : Sg) (M : Mp) (σ : Stt) (H : Hp) : Prop where
  st : Stp g.M g.H M H
  sl : RepS K M H su σ
  hd : RepM K M H

def liftE (g : Gd) (t : WE) : TE := fun σ H Q => ∃ su M R, At K g su M σ H ∧ t su M R ∧ Cl K M H R Q
def liftA (g : Gd) (t : WA) : TA := fun σ H Q => ∃ su M R, At K g su M σ H ∧ t su M R ∧ ClA K M H R Q
def liftT (g : Gd) (t : WT) : TT := fun σ H Q => ∃ su M R, At K g su M σ H ∧ t su M R ∧ ClT K M H R Q
def liftS (g : Gd) (t : WS) : TS := fun D σ H => ∃ su M R, At K g su M σ H ∧ t R su M ∧ ClD K M H R D
end

section
variable {K : PySem.W.Frag} {g : Gd} {su : Sg} {M M' : Mp} {σ : Stt} {H H' : Hp} {R : UK} {Q : VK}
theorem At.go (a : At K g su M σ H) (st : Stp M H M' H') (r : RepM K M' H') : At K g su M' σ H' := ⟨a.st.trans st, a.sl.step st, r⟩
theorem At.set (a : At K g su M σ H) {i : Nat} {u : U} {v : V} (h : RepV K M H u v) : At K g (su.set i (some u)) M (σ.set i (some v)) H := ⟨a.st, a.sl.set h, a.hd⟩
theorem Cl.go (c : Cl K M H R Q) (st : Stp M H M' H') : Cl K M' H' R Q := fun u M2 v H2 h s r e => c u M2 v H2 h (st.trans s) r e
theorem ClA.go {R : List U → Mp → Prop} {Q : List V → Hp → Prop} (c : ClA K M H R Q) (st : Stp M H M' H') : ClA K M' H' R Q := fun u M2 v H2 h s r e => c u M2 v H2 h (st.trans s) r e
theorem ClT.go {R : Bool → Mp → Prop} {Q : Bool → Hp → Prop} (c : ClT K M H R Q) (st : Stp M H M' H') : ClT K M' H' R Q := fun u M2 H2 h s r => c u M2 H2 h (st.trans s) r
theorem ClS.go {R : Sg → Mp → Prop} {Q : Stt → Hp → Prop} (c : ClS K M H R Q) (st : Stp M H M' H') : ClS K M' H' R Q := fun u M2 v H2 h s r e => c u M2 v H2 h (st.trans s) r e
theorem ClD.go {R : UEnds} {D : Ends} (c : ClD K M H R D) (st : Stp M H M' H') : ClD K M' H' R D := ⟨c.nx.go st, c.rt.go st, c.bk.go st, c.ct.go st⟩
theorem Cl.here (c : Cl K M H R Q) {u : U} {v : V} (h : R u M) (hd : RepM K M H) (r : RepV K M H u v) : Q v H := c u M v H h (Stp.refl _ _) hd r
theorem Cl.at_ (c : Cl K M H R Q) {u : U} {v : V} (h : R u M') (st : Stp M H M' H') (hd : RepM K M' H') (r : RepV K M' H' u v) : Q v H' := c u M' v H' h st hd r
theorem ClT.here {R : Bool → Mp → Prop} {Q : Bool → Hp → Prop} (c : ClT K M H R Q) {b : Bool} (h : R b M) (hd : RepM K M H) : Q b H := c b M H h (Stp.refl _ _) hd
theorem ClS.here {R : Sg → Mp → Prop} {Q : Stt → Hp → Prop} (c : ClS K M H R Q) (h : R su M) (a : At K g su M σ H) : Q σ H := c su M σ H h (Stp.refl _ _) a.hd a.sl
/-- a value without parts is what it stands for -/
theorem rep_int {i : Int} {v : V} (h : RepV K M H (.int i) v) : v = .int i := by unfold RepV at h; exact h
theorem rep_str {x : Str} {v : V} (h : RepV K M H (.str x) v) : v = .str x := by unfold RepV at h; exact h
theorem rep_bl {b : Bool} {v : V} (h : RepV K M H (.bl b) v) : v = .bl b := by unfold RepV at h; exact h
theorem rep_non {v : V} (h : RepV K M H .non v) : v = .non := by unfold RepV at h; exact h
theorem rep_ref {a : Addr} {v : V} (h : RepV K M H (.ref a) v) : v = .ref a := by unfold RepV at h; exact h
theorem rep_tup {us : List U} {v : V} (h : RepV K M H (.tup us) v) : ∃ a vs, v = .ref a ∧ FzT K M H a vs ∧ RepVs K M H us vs := by unfold RepV at h; exact h
theorem rep_pr {us : List U} {v : V} (h : RepV K M H (.pr us) v) : ∃ a vs, v = .ref a ∧ FzP M H a vs ∧ RepVs K M H us vs := by unfold RepV at h; exact h
theorem rep_lst {us : List U} {v : V} (h : RepV K M H (.lst us) v) : ∃ a vs, v = .ref a ∧ FzL K M H a vs ∧ RepVs K M H us vs := by unfold RepV at h; exact h
theorem mk_int {i : Int} : RepV K M H (.int i) (.int i) := by unfold RepV; rfl
theorem mk_str {x : Str} : RepV K M H (.str x) (.str x) := by unfold RepV; rfl
theorem mk_bl {b : Bool} : RepV K M H (.bl b) (.bl b) := by unfold RepV; rfl
theorem mk_non : RepV K M H .non .non := by unfold RepV; rfl
theorem mk_ty {n : String} : RepV K M H (.ty n) (.ty n) := by unfold RepV; rfl
theorem mk_ref {a : Addr} : RepV K M H (.ref a) (.ref a) := by unfold RepV; rfl
theorem mk_tup {a : Addr} {us : List U} {vs : List V} (f : FzT K M H a vs) (r : RepVs K M H us vs) : RepV K M H (.tup us) (.ref a) := by unfold RepV; exact ⟨a, vs, rfl, f, r⟩
theorem mk_lst {a : Addr} {us : List U} {vs : List V} (f : FzL K M H a vs) (r : RepVs K M H us vs) : RepV K M H (.lst us) (.ref a) := by unfold RepV; exact ⟨a, vs, rfl, f, r⟩
/-- a new tuple, a new frozen list -/
theorem new_tup (hd : RepM K M H) {p : Addr} {o : Obj} {us : List U} {vs : List V} (h : H p = none) (ho : o.dict = none) (r : RepVs K M H us vs) : RepV K M (upd H p (.frz o (.tup vs))) (.tup us) (.ref p) :=
  mk_tup (.inl ⟨⟨o, upd_same, ho⟩, hd.free h⟩) (RepVs.step (Stp.new hd h) _ _ r)
theorem new_pr (hd : RepM K M H) {p : Addr} {us : List U} {vs : List V} (h : H p = none) (r : RepVs K M H us vs) : RepV K M (upd H p (.tup vs)) (.pr us) (.ref p) := by
  unfold RepV
  exact ⟨p, vs, rfl, ⟨.inl upd_same, hd.free h⟩, RepVs.step (Stp.new hd h) _ _ r⟩
theorem new_lst (hd : RepM K M H) {p : Addr} {us : List U} {vs : List V} (h : H p = none) (r : RepVs K M H us vs) : RepV K M (upd H p (.lst vs)) (.lst us) (.ref p) :=
  mk_lst (.inl ⟨.inl upd_same, hd.free h⟩) (RepVs.step (Stp.new hd h) _ _ r)
end

/-! ### the judgements -/
def JE (X : Cx) (g : Gd) (e : Expr) (t : WE) : Prop := PE X e (liftE X.K g t)
def JA (X : Cx) (g : Gd) (es : List Expr) (t : WA) : Prop := PA X es (liftA X.K g t)
def JT (X : Cx) (g : Gd) (e : Expr) (t : WT) : Prop := PT X e (liftT X.K g t)
def JW (X : Cx) (g : Gd) (e : Expr) (t : WT) : Prop := PW X e (liftT X.K g t)
def JS (X : Cx) (g : Gd) (s : Stmt) (t : WS) : Prop := PS X s (liftS X.K g t)
def JSs (X : Cx) (g : Gd) (ss : List Stmt) (t : WS) : Prop := PSs X ss (liftS X.K g t)
theorem pe_imp {X : Cx} {e : Expr} {t t' : TE} (h : PE X e t) (i : ∀ σ H Q, t' σ H Q → t σ H Q) : PE X e t' := ⟨fun pins s σ H Q I q => h.run pins s σ H Q I (i σ H Q q)⟩
theorem pa_imp {X : Cx} {e : List Expr} {t t' : TA} (h : PA X e t) (i : ∀ σ H Q, t' σ H Q → t σ H Q) : PA X e t' := ⟨fun pos pins s σ H Q I q => h.run pos pins s σ H Q I (i σ H Q q)⟩
theorem pt_imp {X : Cx} {e : Expr} {t t' : TT} (h : PT X e t) (i : ∀ σ H Q, t' σ H Q → t σ H Q) : PT X e t' := ⟨fun pins s σ H Q I q => h.run pins s σ H Q I (i σ H Q q)⟩
theorem pw_imp {X : Cx} {e : Expr} {t t' : TT} (h : PW X e t) (i : ∀ σ H Q, t' σ H Q → t σ H Q) : PW X e t' := ⟨fun wh pins s σ H Q I q => h.run wh pins s σ H Q I (i σ H Q q)⟩
theorem ps_imp {X : Cx} {e : Stmt} {t t' : TS} (h : PS X e t) (i : ∀ D σ H, t' D σ H → t D σ H) : PS X e t' := ⟨fun pins s σ H D I q => h.run pins s σ H D I (i D σ H q)⟩
theorem pss_imp {X : Cx} {e : List Stmt} {t t' : TS} (h : PSs X e t) (i : ∀ D σ H, t' D σ H → t D σ H) : PSs X e t' := ⟨fun pins s σ H D I q => h.run pins s σ H D I (i D σ H q)⟩
theorem op_imp {X : Cx} {f : Value → Value → Sem Value} {r r' : R2} (h : OpR X f r) (i : ∀ x y H Q, r' x y H Q → r x y H Q) : OpR X f r' := fun pins s σ H x y v u Q I rx ry q => h pins s σ H x y v u Q I rx ry (i _ _ _ _ q)

/-- operators by values, lifted -/
abbrev O1 := U → Mp → UK → Prop
abbrev O2 := U → U → Mp → UK → Prop
def liftO (K : PySem.W.Frag) (o : O2) : R2 := fun x y H Q => ∃ ux uy M R, RepV K M H ux x ∧ RepV K M H uy y ∧ RepM K M H ∧ o ux uy M R ∧ Cl K M H R Q
def liftO1 (K : PySem.W.Frag) (o : O1) : V → Hp → VK → Prop := fun x H Q => ∃ ux M R, RepV K M H ux x ∧ RepM K M H ∧ o ux M R ∧ Cl K M H R Q
def UOp (X : Cx) (f : Value → Value → Sem Value) (o : O2) : Prop := OpR X f (liftO X.K o)
def UUn (X : Cx) (f : Value → Sem Value) (o : O1) : Prop := UnR X f (liftO1 X.K o)

section
variable {X : Cx} {g : Gd} {a b c e : Expr} {es : List Expr} {ta tb tc te : WE} {pos : Pos}
/-! ### names, constants -/
def wVar (i : Nat) : WE := fun su M R => ∃ u, su[i]? = some (some u) ∧ R u M
def wC (u : U) : WE := fun _ M R => R u M
theorem j_var {i : Nat} {x : Str} {pos : Pos} (hN : X.N[i]? = some x) (hv : Vis X.env.scope x) (hd : (x == ("__debug__" : Str)) = false) (hcd : (x == ("__classdict__" : Str)) = false) : JE X g (.Name x pos) (wVar i) :=
  pe_imp (pe_var hN hv hd hcd) fun σ H Q ⟨su, M, R, a, ⟨u, e, h⟩, c⟩ => by
    obtain ⟨v, h1, h2⟩ := a.sl.2 i u e
    exact ⟨v, h1, c.here h a.hd h2⟩
theorem j_int {i j} : JE X g (.Constant (.int i) j pos) (wC (.int i)) := pe_imp pe_int fun σ H Q ⟨su, M, R, a, h, c⟩ => c.here h a.hd mk_int
theorem j_bl {i j} : JE X g (.Constant (.bool i) j pos) (wC (.bl i)) := pe_imp pe_bl fun σ H Q ⟨su, M, R, a, h, c⟩ => c.here h a.hd mk_bl
theorem j_non {j} : JE X g (.Constant .none j pos) (wC .non) := pe_imp pe_non fun σ H Q ⟨su, M, R, a, h, c⟩ => c.here h a.hd mk_non
theorem j_str {i j} : JE X g (.Constant (.str i) j pos) (wC (.str i)) := pe_imp pe_str fun σ H Q ⟨su, M, R, a, h, c⟩ => c.here h a.hd mk_str
/-- a constant of the module -/
theorem j_glob {x : Str} {u : U} {v : V} {w : Value} (hg : Gl X x) (hm : X.mg x = some w) (r : RelV v w) (hr : ∀ M H, RepV X.K M H u v) (hd : (x == ("__debug__" : Str)) = false) : JE X g (.Name x pos) (wC u) :=
  pe_imp (pe_glob hg hm r hd) fun σ H Q ⟨su, M, R, a, h, c⟩ => c.here h a.hd (hr _ _)

/-! ### operators -/
def wBin (o : O2) (ta tb : WE) : WE := fun su M R => ta su M fun x M1 => tb su M1 fun y M2 => o x y M2 R
def wUn (o : O1) (ta : WE) : WE := fun su M R => ta su M fun x M1 => o x M1 R
/-- two in a row -/
theorem two {σ : Stt} {H : Hp} {Q : VK} {o : O2} (h : liftE X.K g (wBin o ta tb) σ H Q) : tOp (liftO X.K o) (liftE X.K g ta) (liftE X.K g tb) σ H Q := by
  obtain ⟨su, M, R, a, h, c⟩ := h
  refine ⟨su, M, _, a, h, fun x M1 v H1 h1 s1 d1 r1 => ⟨su, M1, _, a.go s1 d1, h1, fun y M2 v2 H2 h2 s2 d2 r2 => ⟨x, y, M2, R, r1.step s2, r2, d2, h2, (c.go s1).go s2⟩⟩⟩
theorem j_bin {op : Operator} {o : O2} (ho : UOp X (binaryOp op) o) (ha : JE X g a ta) (hb : JE X g b tb) : JE X g (.BinOp a op b pos) (wBin o ta tb) :=
  pe_imp (pe_op ho ha hb) fun σ H Q h => two h
theorem j_un {op : UnaryOp} {o : O1} (ho : UUn X (unaryOp op) o) (ha : JE X g a ta) : JE X g (.UnaryOp op a pos) (wUn o ta) :=
  pe_imp (pe_un ho ha) fun σ H Q ⟨su, M, R, a, h, c⟩ => ⟨su, M, _, a, h, fun x M1 v H1 h1 s1 d1 r1 => ⟨x, M1, R, r1, d1, h1, c.go s1⟩⟩
theorem j_cmp {op : CmpOp} {o : O2} (ho : UOp X (compareOp op) o) (ha : JE X g a ta) (hb : JE X g b tb) (hm : behindInMarks op b = false) : JE X g (.Compare a [op] [b] pos) (wBin o ta tb) :=
  pe_imp (pe_cmpR ho ha hb hm) fun σ H Q h => two h
/-- a value that is a bool -/
def wB (t : WE) : WT := fun su M R => t su M fun u M1 => ∃ b, u = .bl b ∧ R b M1
theorem bT {σ : Stt} {H : Hp} {Q : Bool → Hp → Prop} {t : TE} {w : WE} (i : ∀ σ H Q, liftE X.K g w σ H Q → t σ H Q) (h : liftT X.K g (wB w) σ H Q) : t σ H fun x H' => ∃ k, x = .bl k ∧ Q k H' := by
  obtain ⟨su, M, R, a, h, c⟩ := h
  refine i _ _ _ ⟨su, M, _, a, h, fun u M1 v H1 ⟨b, e, q⟩ s1 d1 r1 => ?_⟩
  subst e
  exact ⟨b, rep_bl r1, c _ _ _ q s1 d1⟩
theorem jt_cmp {op : CmpOp} {o : O2} (ho : UOp X (compareOp op) o) (ha : JE X g a ta) (hb : JE X g b tb) (hm : behindInMarks op b = false) : JT X g (.Compare a [op] [b] pos) (wB (wBin o ta tb)) :=
  pt_imp (pt_cmpR ho ha hb hm) fun σ H Q h => bT (fun _ _ _ => two) h
def wChain (o o' : O2) (ta tb tc : WE) : WE := fun su M R => ta su M fun x M1 => tb su M1 fun y M2 => o x y M2 fun z M3 => ∃ k, z = .bl k ∧
  (if k = true then tc su M3 fun w M4 => o' y w M4 R else R (.bl false) M3)
theorem chainI {o o' : O2} {σ : Stt} {H : Hp} {Q : VK} (h : liftE X.K g (wChain o o' ta tb tc) σ H Q) : tChain (liftO X.K o) (liftO X.K o') (liftE X.K g ta) (liftE X.K g tb) (liftE X.K g tc) σ H Q := by
  obtain ⟨su, M, R, a, h, c⟩ := h
  refine ⟨su, M, _, a, h, fun x M1 v H1 h1 s1 d1 r1 => ⟨su, M1, _, a.go s1 d1, h1, fun y M2 v2 H2 h2 s2 d2 r2 => ⟨x, y, M2, _, r1.step s2, r2, d2, h2, fun z M3 v3 H3 ⟨k, e, h3⟩ s3 d3 r3 => ?_⟩⟩⟩
  subst e
  refine ⟨k, rep_bl r3, ?_⟩
  have a3 := ((a.go s1 d1).go s2 d2).go s3 d3
  have c3 := ((c.go s1).go s2).go s3
  cases k with
  | true =>
    rw [if_pos rfl] at h3 ⊢
    exact ⟨su, M3, _, a3, h3, fun w M4 v4 H4 h4 s4 d4 r4 => ⟨y, w, M4, R, (r2.step s3).step s4, r4, d4, h4, c3.go s4⟩⟩
  | false =>
    rw [if_neg Bool.false_ne_true] at h3 ⊢
    exact c3.here h3 d3 mk_bl
theorem j_chain {op op' : CmpOp} {o o' : O2} (ho : UOp X (compareOp op) o) (ho' : UOp X (compareOp op') o') (ha : JE X g a ta) (hb : JE X g b tb) (hc : JE X g c tc) (hm : lastMarks [op, op'] [b, c] = false) :
    JE X g (.Compare a [op, op'] [b, c] pos) (wChain o o' ta tb tc) := pe_imp (pe_chain ho ho' ha hb hc hm) fun σ H Q h => chainI h
theorem jt_chain {op op' : CmpOp} {o o' : O2} (ho : UOp X (compareOp op) o) (ho' : UOp X (compareOp op') o') (ha : JE X g a ta) (hb : JE X g b tb) (hc : JE X g c tc) (hm : lastMarks [op, op'] [b, c] = false) :
    JT X g (.Compare a [op, op'] [b, c] pos) (wB (wChain o o' ta tb tc)) := pt_imp (pt_chain ho ho' ha hb hc hm) fun σ H Q h => bT (fun _ _ _ => chainI) h

/-! ### truth -/
/-- the truth of a value -/
def Tru (M : Mp) : U → Bool → Prop
  | .non, k => k = false
  | .bl b, k => k = b
  | .int i, k => k = (i != 0)
  | .str y, k => y.length ≤ sizeLine ∧ k = ((y.length : Int) != 0)
  | .tup us, k => k = !us.isEmpty
  | .lst us, k => k = !us.isEmpty
  | .dct ks _, k => k = !ks.isEmpty
  | .ref a, k => (∃ us, M a = some (.lst us) ∧ k = !us.isEmpty) ∨ ∃ ks us, M a = some (.dct ks us) ∧ k = !ks.isEmpty
  | .ty _, _ => False
  | .pr _, _ => False
theorem isEmpty_rep {K : PySem.W.Frag} {M : Mp} {H : Hp} {us : List U} {vs : List V} (r : RepVs K M H us vs) : (!vs.isEmpty) = !us.isEmpty := by
  cases us with
  | nil => rw [r.nil_inv]; rfl
  | cons u us => obtain ⟨v, q, e, _, _⟩ := r.uncons; rw [e]; rfl
theorem isEmpty_zip {ks : List Key} {vs : List V} (l : ks.length = vs.length) : (!(ks.zip vs).isEmpty) = !ks.isEmpty := by
  cases ks <;> cases vs <;> simp at l ⊢
theorem tru_of {K : PySem.W.Frag} {M : Mp} {H : Hp} (hd : RepM K M H) {u : U} {v : V} (r : RepV K M H u v) {k : Bool} (t : Tru M u k) : TruV K v H k := by
  cases u with
  | non => rw [rep_non r]; exact t
  | bl b => rw [rep_bl r]; exact t
  | int i => rw [rep_int r]; exact t
  | str x => rw [rep_str r]; exact t
  | ty n => exact t.elim
  | pr n => exact t.elim
  | tup us =>
    obtain ⟨a, vs, e, f, q⟩ := rep_tup r
    rw [e]
    exact .inr (.inl ⟨vs, f.sq, by rw [isEmpty_rep q]; exact t⟩)
  | lst us =>
    obtain ⟨a, vs, e, f, q⟩ := rep_lst r
    rw [e]
    exact .inl ⟨vs, f.sq, by rw [isEmpty_rep q]; exact t⟩
  | dct ks us =>
    unfold RepV at r
    obtain ⟨a, vs, e, f, m, l, q⟩ := r
    rw [e]
    exact .inr (.inr ⟨_, f, by rw [isEmpty_zip l]; exact t⟩)
  | ref a =>
    rw [rep_ref r]
    rcases t with ⟨us, m, t⟩ | ⟨ks, us, m, t⟩
    · obtain ⟨vs, h, q⟩ := hd a _ m
      exact .inl ⟨vs, .inl (.inl h), by rw [isEmpty_rep q]; exact t⟩
    · obtain ⟨vs, h, l, q⟩ := hd a _ m
      exact .inr (.inr ⟨_, h, by rw [isEmpty_zip l]; exact t⟩)
def wTr (t : WE) : WT := fun su M R => t su M fun u M1 => ∃ k, Tru M1 u k ∧ R k M1
theorem jt_truth (ha : JE X g a ta) (he : ∀ whole, isTrue a X.env whole = (do let v ← whole; standAt a.pos; holding [v] (truthy v))) : JT X g a (wTr ta) :=
  pt_imp (pt_truth ha he) fun σ H Q ⟨su, M, R, a, h, c⟩ => ⟨su, M, _, a, h, fun u M1 v H1 ⟨k, t, q⟩ s1 d1 r1 => ⟨k, tru_of d1 r1 t, c _ _ _ q s1 d1⟩⟩

/-! ### and, or, not, if -/
variable {tA tB : WT} {rest : List Expr}
def wAndT (t u : WT) : WT := fun su M R => t su M fun k M1 => if k = true then u su M1 R else R false M1
def wOrT (t u : WT) : WT := fun su M R => t su M fun k M1 => if k = true then R true M1 else u su M1 R
def wNotT (t : WT) : WT := fun su M R => t su M fun k M1 => R (!k) M1
theorem jw_and1 (ha : JT X g a tA) : JW X g (.BoolOp .And [a] pos) tA := pw_and1 ha
theorem jw_or1 (ha : JT X g a tA) : JW X g (.BoolOp .Or [a] pos) tA := pw_or1 ha
theorem jw_and (ha : JT X g a tA) (hb : JW X g (.BoolOp .And (b :: rest) pos) tB) : JW X g (.BoolOp .And (a :: b :: rest) pos) (wAndT tA tB) :=
  pw_imp (pw_and ha hb) fun σ H Q ⟨su, M, R, a, h, c⟩ => ⟨su, M, _, a, h, fun k M1 H1 q s1 d1 => by
    cases k with
    | true => rw [if_pos rfl] at q ⊢; exact ⟨su, M1, R, a.go s1 d1, q, c.go s1⟩
    | false => rw [if_neg Bool.false_ne_true] at q ⊢; exact c _ _ _ q s1 d1⟩
theorem jw_or (ha : JT X g a tA) (hb : JW X g (.BoolOp .Or (b :: rest) pos) tB) : JW X g (.BoolOp .Or (a :: b :: rest) pos) (wOrT tA tB) :=
  pw_imp (pw_or ha hb) fun σ H Q ⟨su, M, R, a, h, c⟩ => ⟨su, M, _, a, h, fun k M1 H1 q s1 d1 => by
    cases k with
    | false => rw [if_neg Bool.false_ne_true] at q ⊢; exact ⟨su, M1, R, a.go s1 d1, q, c.go s1⟩
    | true => rw [if_pos rfl] at q ⊢; exact c _ _ _ q s1 d1⟩
theorem jt_of (h : JW X g e tA) : JT X g e tA := PW.pt h
theorem jt_not (ha : JT X g a tA) : JT X g (.UnaryOp .Not a pos) (wNotT tA) :=
  pt_imp (pt_not ha) fun σ H Q ⟨su, M, R, a, h, c⟩ => ⟨su, M, _, a, h, fun k M1 H1 q s1 d1 => c _ _ _ q s1 d1⟩
def wAnd (ta tb : WE) : WE := fun su M R => ta su M fun x M1 => ∃ k, Tru M1 x k ∧ if k = true then tb su M1 R else R x M1
def wOr (ta tb : WE) : WE := fun su M R => ta su M fun x M1 => ∃ k, Tru M1 x k ∧ if k = true then R x M1 else tb su M1 R
def wNot (ta : WE) : WE := fun su M R => ta su M fun x M1 => ∃ k, Tru M1 x k ∧ R (.bl (!k)) M1
theorem j_one {op} (h : JE X g a ta) : JE X g (.BoolOp op [a] pos) ta := pe_one h
theorem j_and (ha : JE X g a ta) (hb : JE X g (.BoolOp .And (b :: rest) pos) tb) : JE X g (.BoolOp .And (a :: b :: rest) pos) (wAnd ta tb) :=
  pe_imp (pe_andT ha hb) fun σ H Q ⟨su, M, R, a, h, c⟩ => ⟨su, M, _, a, h, fun x M1 v H1 ⟨k, t, q⟩ s1 d1 r1 => ⟨k, tru_of d1 r1 t, by
    cases k with
    | true => rw [if_pos rfl] at q ⊢; exact ⟨su, M1, R, a.go s1 d1, q, c.go s1⟩
    | false => rw [if_neg Bool.false_ne_true] at q ⊢; exact c.at_ q s1 d1 r1⟩⟩
theorem j_or (ha : JE X g a ta) (hb : JE X g (.BoolOp .Or (b :: rest) pos) tb) : JE X g (.BoolOp .Or (a :: b :: rest) pos) (wOr ta tb) :=
  pe_imp (pe_orT ha hb) fun σ H Q ⟨su, M, R, a, h, c⟩ => ⟨su, M, _, a, h, fun x M1 v H1 ⟨k, t, q⟩ s1 d1 r1 => ⟨k, tru_of d1 r1 t, by
    cases k with
    | false => rw [if_neg Bool.false_ne_true] at q ⊢; exact ⟨su, M1, R, a.go s1 d1, q, c.go s1⟩
    | true => rw [if_pos rfl] at q ⊢; exact c.at_ q s1 d1 r1⟩⟩
theorem j_not (ha : JE X g a ta) : JE X g (.UnaryOp .Not a pos) (wNot ta) :=
  pe_imp (pe_notT ha) fun σ H Q ⟨su, M, R, a, h, c⟩ => ⟨su, M, _, a, h, fun x M1 v H1 ⟨k, t, q⟩ s1 d1 r1 => ⟨k, tru_of d1 r1 t, c.at_ q s1 d1 mk_bl⟩⟩
def wIf (t : WT) (ta tb : WE) : WE := fun su M R => t su M fun k M1 => if k = true then ta su M1 R else tb su M1 R
theorem j_if (hc : JT X g c tA) (ha : JE X g a ta) (hb : JE X g b tb) : JE X g (.IfExp c a b pos) (wIf tA ta tb) :=
  pe_imp (pe_ifExp hc ha hb) fun σ H Q ⟨su, M, R, a, h, c⟩ => ⟨su, M, _, a, h, fun k M1 H1 q s1 d1 => by
    cases k with
    | true => rw [if_pos rfl] at q ⊢; exact ⟨su, M1, R, a.go s1 d1, q, c.go s1⟩
    | false => rw [if_neg Bool.false_ne_true] at q ⊢; exact ⟨su, M1, R, a.go s1 d1, q, c.go s1⟩⟩

/-! ### argument lists, displays -/
variable {tr : WA}
def wNil : WA := fun _ M R => R [] M
def wCons (ta : WE) (tr : WA) : WA := fun su M R => ta su M fun x M1 => tr su M1 fun xs M2 => R (x :: xs) M2
theorem ja_nil : JA X g [] wNil := pa_imp pa_nil fun σ H Q ⟨su, M, R, a, h, c⟩ => c _ _ _ _ h (Stp.refl _ _) a.hd .nil
theorem ja_cons (ha : JE X g e te) (hr : JA X g es tr) (hs : starEach (e :: es) X.env = (false, eval e X.env) :: starEach es X.env) : JA X g (e :: es) (wCons te tr) :=
  pa_imp (pa_cons ha hr hs) fun σ H Q ⟨su, M, R, a, h, c⟩ => ⟨su, M, _, a, h, fun x M1 v H1 q s1 d1 r1 => ⟨su, M1, _, a.go s1 d1, q, fun xs M2 vs H2 q2 s2 d2 r2 =>
    c _ _ _ _ q2 (s1.trans s2) d2 (.cons (r1.step s2) r2)⟩⟩
def wTup (t : WA) : WE := fun su M R => t su M fun xs M1 => xs.length ≤ sizeLine ∧ R (.tup xs) M1
def wLst (t : WA) : WE := fun su M R => t su M fun xs M1 => xs.length ≤ sizeLine ∧ R (.lst xs) M1
/-- a new tuple, its object known -/
theorem laidF {pins : List (Addr × Obj)} {σ : Stt} {H : Hp} {s : Shared} (I : Inv X pins σ H s) {its : List Value} {xs : List V} (r : Vals xs its) (hz : xs.length ≤ sizeLine) {Q : VK} (q : ∀ p o, o.dict = none → H p = none → Q (.ref p) (upd H p (.frz o (.tup xs)))) :
    EP X pins σ Q (.ref s.heap.objs.size) { s with heap := s.heap.push { cls := .type "tuple", data := .seq its.toArray } } :=
  ⟨.ref s.heap.objs.size, _, I.laid (t' := s.toks) (o := .frz { cls := .type "tuple", data := .seq its.toArray } (.tup xs)) (fun b u e => Heap.get?_push_of_some _ e) (Nat.le_refl _) ⟨Heap.get?_push_size _ rfl, hz, its, r, IsTup.new _ _⟩, rfl, q _ _ rfl (I.hok.fresh (Nat.le_refl _))⟩
theorem pe_tupF {x1} {t : TA} (h : PA X es t) : PE X (.Tuple es x1 pos) (fun σ H Q => t σ H fun xs H1 => xs.length ≤ sizeLine ∧ ∀ p o, o.dict = none → H1 p = none → Q (.ref p) (upd H1 p (.frz o (.tup xs)))) := by
  refine ⟨fun pins s σ H Q I hq => ?_⟩
  refine wpAny_Tuple_spliced (thn (h.run pos pins s σ H _ I hq) fun us s1 ⟨xs, H1, I1, r, z, q⟩ => ⟨by rw [← r.length]; exact z, ?_⟩)
  have hf : H1 s1.heap.objs.size = none := I1.hok.fresh (Nat.le_refl _)
  refine ⟨.ref s1.heap.objs.size, upd H1 s1.heap.objs.size (.frz { cls := .type "tuple", data := .seq us.toArray } (.tup xs)), I1.laid (t' := s1.toks) (fun b u e => Heap.get?_push_of_some _ e) (Nat.le_refl _) ?_, rfl, q _ { cls := .type "tuple", data := .seq us.toArray } rfl hf⟩
  exact ⟨Heap.get?_push_size _ rfl, z, us, r, ⟨_, Heap.get?_push_size _ rfl, rfl, _, rfl⟩⟩
theorem j_tup {x1} (h : JA X g es tr) : JE X g (.Tuple es x1 pos) (wTup tr) :=
  pe_imp (pe_tupF h) fun σ H Q ⟨su, M, R, a, h, c⟩ => ⟨su, M, _, a, h, fun xs M1 vs H1 ⟨z, q⟩ s1 d1 r1 => ⟨by rw [← r1.length]; exact z, fun p o ho hp =>
    c.at_ q (s1.trans (Stp.new d1 hp)) (d1.new hp) (new_tup d1 hp ho r1)⟩⟩
theorem j_lst (h : JA X g es tr) : JE X g (.List es pos) (wLst tr) :=
  pe_imp (pe_lst h) fun σ H Q ⟨su, M, R, a, h, c⟩ => ⟨su, M, _, a, h, fun xs M1 vs H1 ⟨z, q⟩ s1 d1 r1 => ⟨by rw [← r1.length]; exact z, fun p hp =>
    c.at_ q (s1.trans (Stp.new d1 hp)) (d1.new hp) (new_lst d1 hp r1)⟩⟩
/-- a list that is to be changed: a new handle -/
def wLstH (t : WA) : WE := fun su M R => t su M fun xs M1 => xs.length ≤ sizeLine ∧ ∀ p, M1 p = none → R (.ref p) (put M1 p (.lst xs))
theorem j_lstH (h : JA X g es tr) : JE X g (.List es pos) (wLstH tr) :=
  pe_imp (pe_lst h) fun σ H Q ⟨su, M, R, a, h, c⟩ => ⟨su, M, _, a, h, fun xs M1 vs H1 ⟨z, q⟩ s1 d1 r1 => ⟨by rw [← r1.length]; exact z, fun p hp =>
    c.at_ (q p (d1.free hp)) (s1.trans (Stp.newH hp)) (d1.putL (Stp.newH hp) r1) mk_ref⟩⟩
end
end Pu

/-! Pu, part 3: statements, loops, comprehensions. -/
namespace Pu
open PySem PySem.Spec PyProof.Rows L2

section
variable {X : Cx} {g : Gd} {st : Stmt} {rest : List Stmt} {t u : WS} {e : Expr} {te : WE} {pos : Pos} {tc : WT}
/-! ### small statements -/
def wNext : WS := fun D su M => D.nx su M
def wSeq (t u : WS) : WS := fun D su M => t { D with nx := u D } su M
theorem jss_nil : JSs X g [] wNext := pss_imp pss_nil fun D σ H ⟨su, M, R, a, h, c⟩ => c.nx.here h a
theorem jss_cons (h1 : JS X g st t) (h2 : JSs X g rest u) : JSs X g (st :: rest) (wSeq t u) :=
  pss_imp (pss_cons h1 h2) fun D σ H ⟨su, M, R, a, h, c⟩ => ⟨su, M, { R with nx := u R }, a, h, ⟨fun su1 M1 σ1 H1 q s1 d1 r1 => ⟨su1, M1, R, ⟨a.st.trans s1, r1, d1⟩, q, c.go s1⟩, c.rt, c.bk, c.ct⟩⟩
def wBreak : WS := fun D su M => D.bk su M
def wCont : WS := fun D su M => D.ct su M
theorem js_pass : JS X g (.Pass pos) wNext := ps_imp ps_pass fun D σ H ⟨su, M, R, a, h, c⟩ => c.nx.here h a
theorem js_break : JS X g (.Break pos) wBreak := ps_imp ps_break fun D σ H ⟨su, M, R, a, h, c⟩ => c.bk.here h a
theorem js_continue : JS X g (.Continue pos) wCont := ps_imp ps_continue fun D σ H ⟨su, M, R, a, h, c⟩ => c.ct.here h a
def wDrop (te : WE) : WS := fun D su M => te su M fun _ M1 => D.nx su M1
theorem js_expr (he : JE X g e te) (hs : swapsWith e none pos.line X.env = pure false) : JS X g (.Expr e pos) (wDrop te) :=
  ps_imp (ps_expr he hs) fun D σ H ⟨su, M, R, a, h, c⟩ => ⟨su, M, _, a, h, fun _ M1 v H1 q s1 d1 _ => (c.nx.go s1).here q (a.go s1 d1)⟩
def wRet (te : WE) : WS := fun D su M => te su M D.rt
theorem js_ret (he : JE X g e te) : JS X g (.Return (some e) pos) (wRet te) :=
  ps_imp (ps_ret he) fun D σ H ⟨su, M, R, a, h, c⟩ => ⟨su, M, _, a, h, c.rt⟩
def wRetN : WS := fun D _ M => D.rt .non M
theorem js_retN : JS X g (.Return none pos) wRetN := ps_imp ps_retN fun D σ H ⟨su, M, R, a, h, c⟩ => c.rt.here h a.hd mk_non
def wIfS (c : WT) (t u : WS) : WS := fun D su M => c su M fun k M1 => if k = true then t D su M1 else u D su M1
theorem js_if {c : Expr} {a b : List Stmt} (hc : JT X g c tc) (ha : JSs X g a t) (hb : JSs X g b u) : JS X g (.If c a b pos) (wIfS tc t u) :=
  ps_imp (ps_if hc ha hb) fun D σ H ⟨su, M, R, a, h, c⟩ => ⟨su, M, _, a, h, fun k M1 H1 q s1 d1 => by
    cases k with
    | true => rw [if_pos rfl] at q ⊢; exact ⟨su, M1, R, a.go s1 d1, q, c.go s1⟩
    | false => rw [if_neg Bool.false_ne_true] at q ⊢; exact ⟨su, M1, R, a.go s1 d1, q, c.go s1⟩⟩

/-! ### targets -/
abbrev WG := U → Sg → Mp → (Sg → Mp → Prop) → Prop
abbrev WGs := List U → Sg → Mp → (Sg → Mp → Prop) → Prop
def liftG (K : PySem.W.Frag) (g : Gd) (t : WG) : TG := fun v σ H Q => ∃ u su M R, At K g su M σ H ∧ RepV K M H u v ∧ t u su M R ∧ ClS K M H R Q
def liftGs (K : PySem.W.Frag) (g : Gd) (t : WGs) : TGs := fun vs σ H Q => ∃ us su M R, At K g su M σ H ∧ RepVs K M H us vs ∧ t us su M R ∧ ClS K M H R Q
def JG (X : Cx) (g : Gd) (e : Expr) (t : WG) : Prop := PG X e (liftG X.K g t)
def JGs (X : Cx) (g : Gd) (es : List Expr) (t : WGs) : Prop := PGs X es (liftGs X.K g t)
theorem pg_imp {X : Cx} {e : Expr} {t t' : TG} (h : PG X e t) (i : ∀ v σ H Q, t' v σ H Q → t v σ H Q) : PG X e t' := ⟨fun pins s σ H v u Q I r q => h.run pins s σ H v u Q I r (i v σ H Q q)⟩
theorem pgs_imp {X : Cx} {e : List Expr} {t t' : TGs} (h : PGs X e t) (i : ∀ v σ H Q, t' v σ H Q → t v σ H Q) : PGs X e t' := ⟨fun pins s σ H v u Q I r q => h.run pins s σ H v u Q I r (i v σ H Q q)⟩
def wName (i : Nat) : WG := fun u su M R => R (su.set i (some u)) M
theorem jg_name {i : Nat} {x : Str} (hN : X.N.Nodup) (hi : X.N[i]? = some x) (hx : Loc X.env.scope x) (hf : X.fn x = true ∨ X.env.scope.names.lookup x = some .local) : JG X g (.Name x pos) (wName i) :=
  pg_imp (pg_name hN hi hx hf) fun v σ H Q ⟨u, su, M, R, a, r, h, c⟩ => c.here h (a.set r)
def wGnil : WGs := fun us su M R => us = [] ∧ R su M
def wGcons (t : WG) (r : WGs) : WGs := fun us su M R => ∃ u us', us = u :: us' ∧ t u su M fun su1 M1 => r us' su1 M1 R
theorem jgs_nil : JGs X g [] wGnil := pgs_imp pgs_nil fun vs σ H Q ⟨us, su, M, R, a, r, ⟨e, h⟩, c⟩ => by
  subst e
  exact ⟨r.nil_inv, c.here h a⟩
theorem jgs_cons {es : List Expr} {t : WG} {r : WGs} (h1 : JG X g e t) (h2 : JGs X g es r) (hs : (assignEach (e :: es) X.env).map (·.2) = assign e X.env :: (assignEach es X.env).map (·.2)) : JGs X g (e :: es) (wGcons t r) :=
  pgs_imp (pgs_cons h1 h2 hs) fun vs σ H Q ⟨us, su, M, R, a, r, ⟨u, us', e, h⟩, c⟩ => by
    subst e
    obtain ⟨v, vs', e, r1, r2⟩ := r.uncons
    exact ⟨v, vs', e, u, su, M, _, a, r1, h, fun su1 M1 σ1 H1 q s1 d1 r3 => ⟨us', su1, M1, R, ⟨a.st.trans s1, r3, d1⟩, RepVs.step s1 _ _ r2, q, c.go s1⟩⟩
/-- unpacking a tuple -/
def wGtup (n : Nat) (t : WGs) : WG := fun u su M R => ∃ us, (u = .tup us ∨ u = .pr us) ∧ us.length = n ∧ t us su M R
theorem jg_tup {es : List Expr} {k n : Nat} {t : WGs} (hc : X.calm = true) (h : JGs X g es t) (hn : (assignEach es X.env).length = n) (hst : (assignEach es X.env).findIdx? (·.1) = none) : JG X g (.Tuple es k pos) (wGtup n t) :=
  pg_imp (pg_tup hc h hn hst) fun v σ H Q ⟨u, su, M, R, a, r, ⟨us, e, l, h⟩, c⟩ => by
    rcases e with e | e <;> subst e
    · obtain ⟨p, vs, e, f, r⟩ := rep_tup r
      exact ⟨p, vs, e, f.sq, by rw [← r.length]; exact l, us, su, M, R, a, r, h, c⟩
    · obtain ⟨p, vs, e, f, r⟩ := rep_pr r
      exact ⟨p, vs, e, .inl f.1, by rw [← r.length]; exact l, us, su, M, R, a, r, h, c⟩

/-! ### stores -/
def wAsg (te : WE) (gt : WG) : WS := fun D su M => te su M fun x M1 => gt x su M1 D.nx
theorem js_asg {tg : Expr} {gt : WG} (he : JE X g e te) (hg : JG X g tg gt) (hs : swapsWithSole [tg] e pos.line X.env = pure false) (hw : swappedStores [tg] e X.env = pure none)
    (h1 : (assignEach [tg] X.env).map (·.2) = [assign tg X.env]) : JS X g (.Assign [tg] e pos) (wAsg te gt) :=
  ps_imp (ps_asg he hg hs hw h1) fun D σ H ⟨su, M, R, a, h, c⟩ => ⟨su, M, _, a, h, fun x M1 v H1 q s1 d1 r1 => ⟨x, su, M1, R.nx, a.go s1 d1, r1, q, c.nx.go s1⟩⟩
def wSet (i : Nat) (te : WE) : WS := fun D su M => te su M fun x M1 => D.nx (su.set i (some x)) M1
theorem js_set {i : Nat} {x : Str} {pos' : Pos} (hN : X.N.Nodup) (hi : X.N[i]? = some x) (hx : Loc X.env.scope x) (he : JE X g e te) (hs : swapsWith e (some (.Name x pos')) pos.line X.env = pure false) (hf : X.fn x = true ∨ X.env.scope.names.lookup x = some .local) :
    JS X g (.Assign [.Name x pos'] e pos) (wSet i te) :=
  ps_imp (ps_set hN hi hx he hs hf) fun D σ H ⟨su, M, R, a, h, c⟩ => ⟨su, M, _, a, h, fun x M1 v H1 q s1 d1 r1 => (c.nx.go s1).here q ((a.go s1 d1).set r1)⟩
/-- a, b = x, y: stored from the right, nothing is packed -/
def wPar (i j : Nat) (ta : WA) : WS := fun D su M => ta su M fun us M1 => ∃ x y, us = [x, y] ∧ D.nx ((su.set i (some x)).set j (some y)) M1
theorem js_par {i j : Nat} {x y : Str} {a b : Expr} {ta : WA} {px py pt : Pos} {kt k2 pt2} (hc : X.calm = true) (hN : X.N.Nodup) (hi : X.N[i]? = some x) (hj : X.N[j]? = some y) (hij : i ≠ j)
    (hx : X.env.scope.names.lookup x = some .local) (hy : X.env.scope.names.lookup y = some .local) (ha : JA X g [a, b] ta)
    (hw : swappedStores [.Tuple [.Name x px, .Name y py] kt pt] (.Tuple [a, b] k2 pt2) X.env = pure (some [x, y])) (hs : swapsWithSole [.Tuple [.Name x px, .Name y py] kt pt] (.Tuple [a, b] k2 pt2) pos.line X.env = pure false) :
    JS X g (.Assign [.Tuple [.Name x px, .Name y py] kt pt] (.Tuple [a, b] k2 pt2) pos) (wPar i j ta) :=
  ps_imp (ps_par hc hN hi hj hij hx hy ha hw hs) fun D σ H ⟨su, M, R, a, h, c⟩ => ⟨su, M, _, a, h, fun us M1 vs H1 ⟨x, y, e, q⟩ s1 d1 r1 => by
    subst e
    obtain ⟨v, r, e, k1, k2⟩ := r1.uncons
    obtain ⟨v2, r2, e2, k3, k4⟩ := k2.uncons
    have e3 := k4.nil_inv
    subst e e2 e3
    exact ⟨v, v2, rfl, (c.nx.go s1).here q (((a.go s1 d1).set k1).set k3)⟩⟩
/-- o[i] = v by values -/
abbrev WSet := U → U → U → Mp → (Mp → Prop) → Prop
def liftSet (K : PySem.W.Frag) (t : WSet) : TSet := fun o i v H Q => ∃ uo ui uv M R, RepV K M H uo o ∧ RepV K M H ui i ∧ RepV K M H uv v ∧ RepM K M H ∧ t uo ui uv M R ∧ ∀ M' H', R M' → Stp M H M' H' → RepM K M' H' → Q H'
def USet (X : Cx) (t : WSet) : Prop := PSet X (liftSet X.K t)
def wGsub (to ti : WE) (t : WSet) : WG := fun v su M R => to su M fun o M1 => ti su M1 fun i M2 => t o i v M2 fun M3 => R su M3
theorem jg_sub {o i : Expr} {to ti : WE} {t : WSet} (ho : JE X g o to) (hi : JE X g i ti) (hs : USet X t)
    (ha : ∀ v, assign (.Subscript o i pos) X.env v = (do
      let ov ← holding [v] (eval o X.env)
      let iv ← holding [v, ov] (eval i X.env)
      standAt pos
      holding [v, ov, iv] (setItem ov iv v)
      release [v, ov, iv] [])) : JG X g (.Subscript o i pos) (wGsub to ti t) :=
  pg_imp (pg_sub ho hi hs ha) fun v σ H Q ⟨u, su, M, R, a, r, h, c⟩ => ⟨su, M, _, a, h, fun o M1 vo H1 q1 s1 d1 r1 => ⟨su, M1, _, a.go s1 d1, q1, fun i M2 vi H2 q2 s2 d2 r2 =>
    ⟨o, i, u, M2, _, r1.step s2, r2, (r.step s1).step s2, d2, q2, fun M3 H3 q3 s3 d3 => (((c.go s1).go s2).go s3).here q3 (((a.go s1 d1).go s2 d2).go s3 d3)⟩⟩⟩

/-! ### what a for walks -/
/-- the items, what keeps them, the moment -/
abbrev WI := Sg → Mp → (List U → (Mp → Prop) → Mp → Prop) → Prop
def ItOk (K : PySem.W.Frag) (J : It) (us : List U) (keep : Mp → Prop) (M : Mp) (H : Hp) : Prop :=
  keep M ∧ ∀ i M' H', Stp M H M' H' → RepM K M' H' → keep M' →
    (∀ u, us[i]? = some u → J.go i H' ∧ ∀ x H'', J.yld i H' x H'' → Stp M' H' M' H'' ∧ RepM K M' H'' ∧ RepV K M' H'' u x) ∧ (us.length ≤ i → J.stop i H')
def liftI (K : PySem.W.Frag) (g : Gd) (w : WI) : TI := fun σ H R => ∃ su M Ru, At K g su M σ H ∧ w su M Ru ∧ ∀ us keep M1 H1 J, Ru us keep M1 → Stp M H M1 H1 → RepM K M1 H1 → ItOk K J us keep M1 H1 → R J H1
def JI (X : Cx) (g : Gd) (tg e : Expr) (w : WI) : Prop := PI X tg e (liftI X.K g w)
theorem pi_imp {X : Cx} {tg e : Expr} {t t' : TI} (h : PI X tg e t) (i : ∀ σ H R, t' σ H R → t σ H R) : PI X tg e t' := ⟨fun pins s σ H R I q => h.run pins s σ H R I (i σ H R q)⟩
/-- the body for each item in turn -/
def loopU (keep : Mp → Prop) (gt : WG) (tb : WS) : List U → WS
  | [], D, su, M => D.nx su M
  | u :: r, D, su, M => gt u su M fun su1 M1 => tb { D with nx := fun s m => keep m ∧ loopU keep gt tb r D s m, ct := fun s m => keep m ∧ loopU keep gt tb r D s m, bk := D.nx } su1 M1
def wFor (w : WI) (gt : WG) (tb : WS) : WS := fun D su M => w su M fun us keep M1 => loopU keep gt tb us D su M1
theorem drop_at {α : Type} {l : List α} {i : Nat} {u : α} (h : l[i]? = some u) : l.drop i = u :: l.drop (i + 1) := by
  obtain ⟨h1, h2⟩ := List.getElem?_eq_some_iff.mp h
  rw [List.drop_eq_getElem_cons h1, h2]
theorem js_for {tg iter : Expr} {body : List Stmt} {w : WI} {gt : WG} {tb : WS} (hp : PassesOwn (model X.prog X.w) X.A X.env X.xe) (hc : X.calm = true) (hi : JI X g tg iter w) (hg : JG X g tg gt) (hb : JSs X g body tb)
    (hs : ∀ x, foldedSetIterable iter X.env x = pure x) : JS X g (.For tg iter body [] pos) (wFor w gt tb) :=
  ps_imp (ps_for hp hc hi hg hb hs) fun D σ H ⟨su, M, R, a, h, c⟩ => ⟨su, M, _, a, h, fun us keep M1 H1 J q s1 d1 ok => by
    refine ⟨fun i m σ' H' => m = us.length - i ∧ i ≤ us.length ∧ ∃ su' M', At X.K g su' M' σ' H' ∧ Stp M1 H1 M' H' ∧ keep M' ∧ loopU keep gt tb (us.drop i) R su' M',
      ⟨us.length, by simp, Nat.zero_le _, su, M1, a.go s1 d1, Stp.refl _ _, ok.1, q⟩, ?_⟩
    rintro i m σ2 H2 ⟨rfl, hi, su2, M2, a2, s2, k2, q2⟩
    have o2 := ok.2 i M2 H2 s2 a2.hd k2
    have c2 : ClD X.K M2 H2 R D := (c.go s1).go s2
    cases e : us[i]? with
    | none =>
      have hl : us.length ≤ i := List.getElem?_eq_none_iff.mp e
      rw [List.drop_eq_nil_of_le hl] at q2
      exact .inl ⟨o2.2 hl, c2.nx.here q2 a2⟩
    | some u =>
      have hlt : i < us.length := (List.getElem?_eq_some_iff.mp e).1
      rw [drop_at e] at q2
      obtain ⟨go, yl⟩ := o2.1 u e
      refine .inr ⟨go, fun σ' H' => ∃ su' M', At X.K g su' M' σ' H' ∧ Stp M1 H1 M' H' ∧ keep M' ∧ loopU keep gt tb (us.drop (i + 1)) R su' M', fun σ' H' h' => ⟨us.length - (i + 1), by omega, rfl, hlt, h'⟩, fun x H3 y => ?_⟩
      obtain ⟨s3, d3, r3⟩ := yl x H3 y
      refine ⟨u, su2, M2, _, a2.go s3 d3, r3, q2, fun su4 M4 σ4 H4 q4 s4 d4 r4 => ⟨su4, M4, _, ⟨(a2.st.trans s3).trans s4, r4, d4⟩, q4, ?_⟩⟩
      have s24 := s3.trans s4
      have c4 : ClD X.K M4 H4 R D := c2.go s24
      have nxt : ClS X.K M4 H4 (fun s m => keep m ∧ loopU keep gt tb (us.drop (i + 1)) R s m) (fun σ' H' => ∃ su' M', At X.K g su' M' σ' H' ∧ Stp M1 H1 M' H' ∧ keep M' ∧ loopU keep gt tb (us.drop (i + 1)) R su' M') :=
        fun su5 M5 σ5 H5 ⟨k5, q5⟩ s5 d5 r5 => ⟨su5, M5, ⟨(a2.st.trans s24).trans s5, r5, d5⟩, (s2.trans s24).trans s5, k5, q5⟩
      exact ⟨nxt, c4.rt, c4.nx, nxt⟩⟩

/-! ### while -/
def wWhile (c : WT) (tb : WS) : WS := fun D su M => ∃ W : Nat → Sg → Mp → Prop, (∃ m, W m su M) ∧ ∀ m su M, W m su M → c su M fun b M1 => if b = true then
  tb { D with nx := fun s m' => ∃ n, n < m ∧ W n s m', ct := fun s m' => ∃ n, n < m ∧ W n s m', bk := D.nx } su M1 else D.nx su M1
theorem js_while {c : Expr} {body : List Stmt} {tb : WS} (hp : PassesOwn (model X.prog X.w) X.A X.env X.xe) (hc : JT X g c tc) (hb : JSs X g body tb) : JS X g (.While c body [] pos) (wWhile tc tb) :=
  ps_imp (ps_while hp hc hb) fun D σ H ⟨su, M, R, a, ⟨W, ⟨m0, w0⟩, h⟩, c⟩ => by
    refine ⟨fun m σ' H' => ∃ su' M', At X.K g su' M' σ' H' ∧ Stp M H M' H' ∧ W m su' M', ⟨m0, su, M, a, Stp.refl _ _, w0⟩, ?_⟩
    rintro m σ1 H1 ⟨su1, M1, a1, s1, w1⟩
    refine ⟨su1, M1, _, a1, h m su1 M1 w1, fun b M2 H2 q s2 d2 => ?_⟩
    have c2 : ClD X.K M2 H2 R D := (c.go s1).go s2
    have a2 := a1.go s2 d2
    cases b with
    | true =>
      rw [if_pos rfl] at q
      show if true = true then _ else _
      rw [if_pos rfl]
      have nxt : ClS X.K M2 H2 (fun s m' => ∃ n, n < m ∧ W n s m') (fun σ' H' => ∃ n, n < m ∧ ∃ su' M', At X.K g su' M' σ' H' ∧ Stp M H M' H' ∧ W n su' M') :=
        fun su5 M5 σ5 H5 ⟨n, hn, w5⟩ s5 d5 r5 => ⟨n, hn, su5, M5, ⟨a2.st.trans s5, r5, d5⟩, (s1.trans s2).trans s5, w5⟩
      exact ⟨_, fun σ' H' h' => h', su1, M2, _, a2, q, ⟨nxt, c2.rt, c2.nx, nxt⟩⟩
    | false =>
      rw [if_neg Bool.false_ne_true] at q
      show if false = true then _ else _
      rw [if_neg Bool.false_ne_true]
      exact c2.nx.here q a2

/-! ### list comprehensions -/
def wipeU (su : Sg) : List Nat → Sg
  | [] => su
  | v :: vs => (wipeU su vs).set v none
theorem RepS.wipe {K : PySem.W.Frag} {M : Mp} {H : Hp} {su : Sg} {σ : Stt} (r : RepS K M H su σ) : ∀ vs, RepS K M H (wipeU su vs) (wipe σ vs)
  | [] => r
  | v :: vs => by
    have q := RepS.wipe r vs
    unfold wipeU L2.wipe
    refine ⟨by rw [List.length_set, List.length_set]; exact q.1, fun i u e => ?_⟩
    by_cases hi : v = i
    · subst hi
      by_cases hl : v < (wipeU su vs).length
      · rw [List.getElem?_set_self hl] at e; cases e
      · rw [List.getElem?_eq_none (by rw [List.length_set]; omega)] at e; cases e
    · rw [List.getElem?_set_ne hi] at e ⊢
      exact q.2 i u e
def liftTs (K : PySem.W.Frag) (g : Gd) (t : WT) : TT := liftT K g t
def JTs (X : Cx) (g : Gd) (es : List Expr) (t : WT) : Prop := PTs X es (liftT X.K g t)
def wYes : WT := fun _ M R => R true M
theorem jts_nil : JTs X g [] wYes := ⟨fun pins s σ H Q I ⟨su, M, R, a, h, c⟩ => pts_nil.run pins s σ H Q I (c.here h a.hd)⟩
theorem jts_one {c : Expr} (h : JT X g c tc) : JTs X g [c] tc := pts_one h
/-- the list at D so far, item by item; su1: the slots with the block's names wiped -/
def compU (D : Addr) (keep : Mp → Prop) (gt : WG) (tc : WT) (te : WE) (su1 : Sg) : List U → Mp → (List U → Mp → Prop) → Prop
  | [], M, R => ∃ acc, M D = some (.lst acc) ∧ R acc M
  | u :: r, M, R => gt u su1 M fun su2 M1 => tc su2 M1 fun k M2 => if k = true then te su2 M2 fun y M3 => ∃ acc, M3 D = some (.lst acc) ∧ acc.length < sizeLine ∧ keep (put M3 D (.lst (acc ++ [y]))) ∧
      compU D keep gt tc te su1 r (put M3 D (.lst (acc ++ [y]))) R
    else keep M2 ∧ compU D keep gt tc te su1 r M2 R
/-- the end: a frozen list, or (h) a handle -/
def compEnd (h : Bool) (R : UK) (D : Addr) (ys : List U) (M : Mp) : Prop := if h = true then R (.ref D) M else R (.lst ys) (del M D)
def wComp (hd : Bool) (w : WI) (gt : WG) (tc : WT) (te : WE) (vs : List Nat) : WE := fun su M R => w su M fun us keep M1 => ∀ D, M1 D = none → keep (put M1 D (.lst [])) ∧
  compU D keep gt tc te (wipeU su vs) us (put M1 D (.lst [])) (compEnd hd R D)
/-- targets that touch the block's own names alone -/
def liftGo (K : PySem.W.Frag) (g : Gd) (vs : List Nat) (t : WG) : TG := fun v σ H Q => ∃ u su M R, At K g su M σ H ∧ RepV K M H u v ∧ t u su M R ∧
  ∀ su' M' σ' H', R su' M' → Stp M H M' H' → RepM K M' H' → RepS K M' H' su' σ' → wipe σ' vs = wipe σ vs → Q σ' H'
def liftGso (K : PySem.W.Frag) (g : Gd) (vs : List Nat) (t : WGs) : TGs := fun ws σ H Q => ∃ us su M R, At K g su M σ H ∧ RepVs K M H us ws ∧ t us su M R ∧
  ∀ su' M' σ' H', R su' M' → Stp M H M' H' → RepM K M' H' → RepS K M' H' su' σ' → wipe σ' vs = wipe σ vs → Q σ' H'
def JGo (X : Cx) (g : Gd) (vs : List Nat) (e : Expr) (t : WG) : Prop := PG X e (liftGo X.K g vs t)
def JGso (X : Cx) (g : Gd) (vs : List Nat) (es : List Expr) (t : WGs) : Prop := PGs X es (liftGso X.K g vs t)
theorem wipe_set {σ : Stt} {i : Nat} {x : Option V} : ∀ {vs : List Nat}, i ∈ vs → wipe (σ.set i x) vs = wipe σ vs
  | v :: vs, h => by
    unfold L2.wipe
    by_cases hv : i ∈ vs
    · rw [wipe_set hv]
    · have e : i = v := by
        rcases List.mem_cons.mp h with e | e
        · exact e
        · exact absurd e hv
      subst e
      have key : ∀ (ws : List Nat), i ∉ ws → wipe (σ.set i x) ws = (wipe σ ws).set i x := by
        intro ws
        induction ws with
        | nil => intro _; rfl
        | cons b ws ih =>
          intro hn
          unfold L2.wipe
          rw [ih (fun z => hn (List.mem_cons_of_mem _ z)), List.set_comm _ _ (fun z => hn (by rw [z]; exact List.mem_cons_self))]
      rw [key vs hv, List.set_set]
theorem wipe_idem {σ : Stt} {vs : List Nat} : wipe (wipe σ vs) vs = wipe σ vs := by
  have key : ∀ (ws us : List Nat) (σ : Stt), (∀ i ∈ ws, i ∈ us) → wipe (wipe σ ws) us = wipe σ us := by
    intro ws
    induction ws with
    | nil => intro us σ _; rfl
    | cons b ws ih =>
      intro us σ h
      show wipe ((wipe σ ws).set b none) us = _
      rw [wipe_set (h b List.mem_cons_self), ih us σ fun i hi => h i (List.mem_cons_of_mem _ hi)]
  exact key vs vs σ fun _ h => h
theorem jgo_name {i : Nat} {x : Str} {vs : List Nat} (hN : X.N.Nodup) (hi : X.N[i]? = some x) (hx : Loc X.env.scope x) (hf : X.fn x = true ∨ X.env.scope.names.lookup x = some .local) (hv : i ∈ vs) : JGo X g vs (.Name x pos) (wName i) :=
  pg_imp (pg_name hN hi hx hf) fun v σ H Q ⟨u, su, M, R, a, r, h, c⟩ => c _ _ _ _ h (Stp.refl _ _) a.hd (a.set r).sl (wipe_set hv)
theorem jgso_nil {vs : List Nat} : JGso X g vs [] wGnil := pgs_imp pgs_nil fun ws σ H Q ⟨us, su, M, R, a, r, ⟨e, h⟩, c⟩ => by
  subst e
  exact ⟨r.nil_inv, c _ _ _ _ h (Stp.refl _ _) a.hd a.sl rfl⟩
theorem jgso_cons {vs : List Nat} {es : List Expr} {t : WG} {r : WGs} (h1 : JGo X g vs e t) (h2 : JGso X g vs es r) (hs : (assignEach (e :: es) X.env).map (·.2) = assign e X.env :: (assignEach es X.env).map (·.2)) : JGso X g vs (e :: es) (wGcons t r) :=
  pgs_imp (pgs_cons h1 h2 hs) fun ws σ H Q ⟨us, su, M, R, a, r, ⟨u, us', e, h⟩, c⟩ => by
    subst e
    obtain ⟨v, vs', e, r1, r2⟩ := r.uncons
    exact ⟨v, vs', e, u, su, M, _, a, r1, h, fun su1 M1 σ1 H1 q s1 d1 r3 w1 => ⟨us', su1, M1, R, ⟨a.st.trans s1, r3, d1⟩, RepVs.step s1 _ _ r2, q, fun su2 M2 σ2 H2 q2 s2 d2 r4 w2 => c _ _ _ _ q2 (s1.trans s2) d2 r4 (w2.trans w1)⟩⟩
theorem jgo_tup {vs : List Nat} {es : List Expr} {k n : Nat} {t : WGs} (hc : X.calm = true) (h : JGso X g vs es t) (hn : (assignEach es X.env).length = n) (hst : (assignEach es X.env).findIdx? (·.1) = none) : JGo X g vs (.Tuple es k pos) (wGtup n t) :=
  pg_imp (pg_tup hc h hn hst) fun v σ H Q ⟨u, su, M, R, a, r, ⟨us, e, l, h⟩, c⟩ => by
    rcases e with e | e <;> subst e
    · obtain ⟨p, vs, e, f, r⟩ := rep_tup r
      exact ⟨p, vs, e, f.sq, by rw [← r.length]; exact l, us, su, M, R, a, r, h, c⟩
    · obtain ⟨p, vs, e, f, r⟩ := rep_pr r
      exact ⟨p, vs, e, .inl f.1, by rw [← r.length]; exact l, us, su, M, R, a, r, h, c⟩

theorem Stp.chgD {M M' : Mp} {H H' : Hp} {D : Addr} {o : HO} {m : MO} (st : Stp M H M' H') (h : H D = none) : Stp M H (put M' D m) (upd H' D o) := fun a u h1 h2 => by
  have : a ≠ D := fun e => by rw [e, h] at h1; cases h1
  exact ⟨by rw [upd_ne this]; exact (st a u h1 h2).1, by rw [put_ne this]; exact (st a u h1 h2).2⟩
theorem compI {hh : Bool} {σ : Stt} {H : Hp} {Q : VK} {w : WI} {gt : WG} {vs : List Nat} (h : liftE X.K g (wComp hh w gt tc te vs) σ H Q) : tLc (liftI X.K g w) (liftGo X.K g vs gt) (liftT X.K g tc) (liftE X.K g te) vs σ H Q := by
  obtain ⟨su, M, R, a, h, c⟩ := h
  refine ⟨su, M, _, a, h, fun us keep M1 H1 J q s1 d1 ok D hD => ?_⟩
  have a1 := a.go s1 d1
  obtain ⟨kp, q⟩ := q D (d1.free hD)
  have sD : Stp M1 H1 (put M1 D (.lst [])) (upd H1 D (.lst [])) := Stp.newH hD
  have dD : RepM X.K (put M1 D (.lst [])) (upd H1 D (.lst [])) := d1.putL sD .nil
  refine ⟨fun i m H' => m = us.length - i ∧ i ≤ us.length ∧ ∃ M', Stp M1 H1 M' H' ∧ RepM X.K M' H' ∧ keep M' ∧ compU D keep gt tc te (wipeU su vs) (us.drop i) M' (compEnd hh R D),
    ⟨us.length, by simp, Nat.zero_le _, _, sD, dD, kp, q⟩, ?_⟩
  rintro i m H2 ⟨rfl, hi, M2, s2, d2, k2, q2⟩
  have o2 := ok.2 i M2 H2 s2 d2 k2
  cases e : us[i]? with
  | none =>
    have hl : us.length ≤ i := List.getElem?_eq_none_iff.mp e
    rw [List.drop_eq_nil_of_le hl] at q2
    obtain ⟨acc, hm, q2⟩ := q2
    refine .inl ⟨o2.2 hl, ?_⟩
    obtain ⟨ws, hH, rw⟩ := d2 D _ hm
    have s3 : Stp M2 H2 (del M2 D) H2 := Fewer.ofDel.stp H2
    unfold compEnd at q2
    cases hh with
    | true =>
      rw [if_pos rfl] at q2
      exact c _ _ _ _ q2 (s1.trans s2) d2 mk_ref
    | false =>
    rw [if_neg Bool.false_ne_true] at q2
    exact c _ _ _ _ q2 ((s1.trans s2).trans s3) (Fewer.ofDel.repM d2) (mk_lst (.inl ⟨.inl hH, del_same⟩) (RepVs.step s3 _ _ rw))
  | some u =>
    have hlt : i < us.length := (List.getElem?_eq_some_iff.mp e).1
    rw [drop_at e] at q2
    obtain ⟨go, yl⟩ := o2.1 u e
    refine .inr ⟨go, fun H' => ∃ M', Stp M1 H1 M' H' ∧ RepM X.K M' H' ∧ keep M' ∧ compU D keep gt tc te (wipeU su vs) (us.drop (i + 1)) M' (compEnd hh R D),
      fun H' h' => ⟨us.length - (i + 1), by omega, rfl, hlt, h'⟩, fun x H3 y => ?_⟩
    obtain ⟨s3, d3, r3⟩ := yl x H3 y
    have a3 : At X.K g (wipeU su vs) M2 (wipe σ vs) H3 := ⟨a1.st.trans (s2.trans s3), (a1.sl.step (s2.trans s3)).wipe vs, d3⟩
    refine ⟨u, _, M2, _, a3, r3, q2, fun su4 M4 σ4 H4 q4 s4 d4 r4 w4 => ⟨by rw [w4]; exact wipe_idem, su4, M4, _, ⟨a3.st.trans s4, r4, d4⟩, q4, fun k M5 H5 q5 s5 d5 => ?_⟩⟩
    have a4 : At X.K g su4 M5 σ4 H5 := ⟨(a3.st.trans s4).trans s5, r4.step s5, d5⟩
    have s15 : Stp M1 H1 M5 H5 := (((s2.trans s3)).trans s4).trans s5
    cases k with
    | true =>
      rw [if_pos rfl] at q5
      show if true = true then _ else _
      rw [if_pos rfl]
      refine ⟨su4, M5, _, a4, q5, fun y M6 v6 H6 ⟨acc, hm, hz, k6, q6⟩ s6 d6 r6 => ?_⟩
      obtain ⟨ws, hH, rw⟩ := d6 D _ hm
      have s7 : Stp M6 H6 (put M6 D (.lst (acc ++ [y]))) (upd H6 D (.lst (ws ++ [v6]))) := Stp.chg hm
      exact ⟨ws, hH, by rw [← rw.length]; exact hz, _, (s15.trans s6).chgD hD, d6.putL s7 (rw.app (.cons r6 .nil)), k6, q6⟩
    | false =>
      rw [if_neg Bool.false_ne_true] at q5
      show if false = true then _ else _
      rw [if_neg Bool.false_ne_true]
      exact ⟨M5, s15, d5, q5.1, q5.2⟩
end
end Pu

/-! Pu, part 4: promises, calls, exceptions. -/
namespace Pu
open PySem PySem.Spec PyProof.Rows L2

/-! ### the end of a def: handles may be forgotten, a list that is handed out frozen -/
inductive Frz (M : Mp) : U → Mp → U → Prop where
  | same {u : U} {M' : Mp} : Fewer M' M → Frz M u M' u
  | lst {a : Addr} {us : List U} {M' : Mp} : Fewer M' M → M a = some (.lst us) → M' a = none → Frz M (.ref a) M' (.lst us)
  | dct {a : Addr} {ks : List Key} {us : List U} {M' : Mp} : Fewer M' M → M a = some (.dct ks us) → M' a = none → Frz M (.ref a) M' (.dct ks us)
def Fin (R : UK) (u : U) (M : Mp) : Prop := ∃ u' M', Frz M u M' u' ∧ R u' M'
theorem Fin.same {R : UK} {u : U} {M : Mp} (h : R u M) : Fin R u M := ⟨u, M, .same (.refl M), h⟩
theorem Fin.less {R : UK} {u : U} {M M' : Mp} (s : Fewer M' M) (h : R u M') : Fin R u M := ⟨u, M', .same s, h⟩
theorem Fin.lst {R : UK} {a : Addr} {us : List U} {M M' : Mp} (s : Fewer M' M) (h1 : M a = some (.lst us)) (h2 : M' a = none) (h : R (.lst us) M') : Fin R (.ref a) M := ⟨_, M', .lst s h1 h2, h⟩
theorem Fin.dct {R : UK} {a : Addr} {ks : List Key} {us : List U} {M M' : Mp} (s : Fewer M' M) (h1 : M a = some (.dct ks us)) (h2 : M' a = none) (h : R (.dct ks us) M') : Fin R (.ref a) M := ⟨_, M', .dct s h1 h2, h⟩
section
variable {K : PySem.W.Frag} {M M' : Mp} {H H' : Hp} {R : UK} {Q : VK}
theorem Frz.rep {u u' : U} (f : Frz M u M' u') (hd : RepM K M H) {v : V} (r : RepV K M H u v) : Stp M H M' H ∧ RepM K M' H ∧ RepV K M' H u' v := by
  cases f with
  | same s => exact ⟨s.stp H, s.repM hd, r.step (s.stp H)⟩
  | lst s h1 h2 =>
    obtain ⟨vs, hH, q⟩ := hd _ _ h1
    rw [rep_ref r]
    exact ⟨s.stp H, s.repM hd, mk_lst (.inl ⟨.inl hH, h2⟩) (RepVs.step (s.stp H) _ _ q)⟩
  | dct s h1 h2 =>
    obtain ⟨vs, hH, l, q⟩ := hd _ _ h1
    rw [rep_ref r]
    refine ⟨s.stp H, s.repM hd, ?_⟩
    unfold RepV
    exact ⟨_, vs, rfl, hH, h2, l, RepVs.step (s.stp H) _ _ q⟩
theorem Cl.fin (c : Cl K M H R Q) : Cl K M H (Fin R) Q := fun u M1 v H1 ⟨u', M', f, h⟩ s1 d1 r1 => by
  obtain ⟨s2, d2, r2⟩ := f.rep d1 r1
  exact c _ _ _ _ h (s1.trans s2) d2 r2
end

/-! ### exceptions -/
def RepX (K : PySem.W.Frag) (mg : Str → Option Value) (M : Mp) (H : Hp) (ux : UX) (cls : Value) (d : Option Addr) : Prop :=
  mg ux.cls = some cls ∧ (ux.fs = [] ∨ ∃ dd fs, d = some dd ∧ H dd = some (.xd fs) ∧ M dd = none ∧ ∀ f u, ux.fs.lookup f = some u → ∃ v, fs.lookup f = some v ∧ RepV K M H u v)
theorem RepX.step {K : PySem.W.Frag} {mg : Str → Option Value} {M M' : Mp} {H H' : Hp} {ux : UX} {cls : Value} {d : Option Addr} (st : Stp M H M' H') (r : RepX K mg M H ux cls d) : RepX K mg M' H' ux cls d := by
  refine ⟨r.1, ?_⟩
  rcases r.2 with h | ⟨dd, fs, e, h, m, q⟩
  · exact .inl h
  · exact .inr ⟨dd, fs, e, (st _ _ h m).1, (st _ _ h m).2, fun f u z => by
      obtain ⟨v, h1, h2⟩ := q f u z
      exact ⟨v, h1, h2.step st⟩⟩
def ClX (K : PySem.W.Frag) (mg : Str → Option Value) (M : Mp) (H : Hp) (Ru : UXK) (E : XK) : Prop := ∀ ux M' cls d H', Ru ux M' → Stp M H M' H' → RepM K M' H' → RepX K mg M' H' ux cls d → E cls d H'
/-- what is wanted of an exception, with the slots -/
abbrev UWX := UX → Sg → Mp → Prop
def Wof (X : Cx) (g : Gd) (ex : UWX) : WX := fun cls d σ H => ∃ ux su M, At X.K g su M σ H ∧ RepX X.K X.mg M H ux cls d ∧ ex ux su M
theorem takes_no {X : Cx} {g : Gd} : Takes X (Wof X g fun _ _ _ => False) := fun _ _ x => by
  obtain ⟨_, _, _, _, _, _, _, _, _, _, _, _, _, _, _, _, _, _, _, _, _, z⟩ := x
  exact z.elim

/-! ### promises, calls -/
def liftSp (K : PySem.W.Frag) (mg : Str → Option Value) (sp : USp) : Sp := fun vs H Q E => ∃ us M R Ru, RepVs K M H us vs ∧ RepM K M H ∧ sp us M R Ru ∧ Cl K M H R Q ∧ ClX K mg M H Ru E
/-- a def of the text that keeps a promise -/
structure FnU (X : Cx) (k : Nat) (x : Str) (sp : USp) : Prop where
  ex : ∃ (f : Addr) (fd : FuncData) (ps : List Str), FnOk X.prog X.w X.K X.mg X.base (L2.CX X.prog X.w) k f fd ps (liftSp X.K X.mg sp) ∧ X.mg x = some (.ref f) ∧ PySem.W.keepIn X.K (.ref f) = true ∧ Binds X.K fd ps []
section
variable {X : Cx} {g : Gd} {ex : UWX} {e : Expr} {es : List Expr} {pos p : Pos} {tr : WA} {sp : USp} {k : Nat} {x : Str}
def wCall (sp : USp) (ex : UWX) (tr : WA) : WE := fun su M R => tr su M fun us M1 => sp us M1 R fun ux M2 => ex ux su M2
theorem j_call (F : FnU X k x sp) (hr : Room k X.A) (hg : Gl X x) (tk : Takes X (Wof X g ex)) (ha : JA X g (e :: es) tr) (hdb : (x == ("__debug__" : Str)) = false)
    (he : starEach (e :: es) X.env = (false, eval e X.env) :: starEach es X.env) (hpl : (backTo pos (starEach es X.env)).any (·.1) = false) : JE X g (.Call (.Name x p) (e :: es) [] pos) (wCall sp ex tr) := by
  obtain ⟨f, fd, ps, F, hm, hk, hb⟩ := F.ex
  refine pe_imp (pe_callS F hr hg hm hk hb (fun σ => passAt tk σ) ha hdb he hpl) fun σ H Q ⟨su, M, R, a, h, c⟩ => ?_
  refine ⟨su, M, _, a, h, fun us M1 vs H1 q s1 d1 r1 => ⟨us, M1, R, _, r1, d1, q, c.go s1, fun ux M2 cls d H2 q2 s2 d2 r2 => ⟨ux, su, M2, (a.go s1 d1).go s2 d2, r2, q2⟩⟩⟩
end

/-! ### a def, by its body -/
section
variable {P : Program} {w : World} {K : PySem.W.Frag} {mg : Str → Option Value} {base : Heap}
/-- the context of a def's body, as the walk sees it -/
structure DefX (P : Program) (w : World) (K : PySem.W.Frag) (mg : Str → Option Value) (base : Heap) (k : Nat) (N : List Str) (sc : Scope) (X : Cx) : Prop where
  prog : X.prog = P
  wd : X.w = w
  K : X.K = K
  mg : X.mg = mg
  base : X.base = base
  N : X.N = N
  sc : X.env.scope = sc
  calm : X.calm = true
  fn : ∀ x, X.fn x = true
  room : Room k X.A
  stk : X.stack = X.env :: X.outer
  fr : X.env.frame = some X.env.locals
  pass : PassesOwn (model X.prog X.w) X.A X.env X.xe
theorem fn_okU {x qual : Str} {st : Stmt} {f : Addr} {fd : FuncData} {N ps : List Str} {k : Nat} {sp : USp} (F : Fun K x qual st f fd) (S : FnScope N ps (defScope st)) (len : ∀ us M R E, sp us M R E → us.length = ps.length) (t : UXK → WS)
    (hb : ∀ X g E, DefX P w K mg base k N (defScope st) X → Takes X (Wof X g fun ux _ M => E ux M) → JSs X g (defBody st) (t E))
    (h : ∀ us M R E, sp us M R E → t E { nx := fun _ M' => Fin R .non M', rt := Fin R } (us.map some ++ List.replicate (N.length - us.length) none) M) : FnOk P w K mg base (L2.CX P w) (k + 1) f fd ps (liftSp K mg sp) := by
  refine F.okX S (fun vs H Q E ⟨us, M, R, Ru, r, _, q, _, _⟩ => by rw [← r.length]; exact len _ _ _ _ q) fun cdv A outer s H vs Q E hr ⟨us, M, R, Ru, r, d, q, c, cx⟩ => ?_
  have hs : (cxOf (L2.CX P w) P w K mg base N qual (defScope st) f cdv A outer s H E).stack = (cxOf (L2.CX P w) P w K mg base N qual (defScope st) f cdv A outer s H E).env :: (cxOf (L2.CX P w) P w K mg base N qual (defScope st) f cdv A outer s H E).outer := rfl
  refine ⟨liftS K ⟨M, H⟩ (t Ru), hb (cxOf (L2.CX P w) P w K mg base N qual (defScope st) f cdv A outer s H E) ⟨M, H⟩ Ru ⟨rfl, rfl, rfl, rfl, rfl, rfl, rfl, rfl, fun _ => rfl, hr, rfl, rfl, passes_of (X := cxOf (L2.CX P w) P w K mg base N qual (defScope st) f cdv A outer s H E) rfl⟩ ?_, ?_⟩
  · have tk : Takes (cxOf (L2.CX P w) P w K mg base N qual (defScope st) f cdv A outer s H E) (fun cls d _ H => E cls d H) := takes_of rfl rfl rfl rfl
    exact tk.imp fun cls d' σ H' ⟨ux, su, M', a, rx, e⟩ => cx ux M' cls d' H' e a.st a.hd rx
  · refine ⟨_, M, _, ⟨Stp.refl _ _, RepS.start r N.length, d⟩, h us M R Ru q, ⟨fun su M' σ H' q s1 d1 _ => ?_, c.fin, fun _ _ _ _ z => z.elim, fun _ _ _ _ z => z.elim⟩⟩
    exact c.fin _ _ _ _ q s1 d1 mk_non
end

/-! ### raise, try -/
section
variable {X : Cx} {g : Gd} {ex : UWX} {pos : Pos}
/-- an own exception class without own __init__ -/
structure ExC (X : Cx) (x : Str) : Prop where
  ex : ∃ (C : Addr) (bmB : List Value) (B newId initId : String), ExcBaseFacts B newId initId bmB ∧ PySem.W.excIn X.K C bmB newId = true ∧ X.mg x = some (.ref C) ∧ PySem.W.keepIn X.K (.ref C) = true ∧ Raises X (.ref C)
def wRaise (x : Str) (ex : UWX) : WS := fun _ su M => ex ⟨x, []⟩ su M
theorem js_raise {x m : Str} {j : Nat} {p p2 pos' : Pos} (F : ExC X x) (hc : X.calm = true) (hg : Gl X x) (tk : Takes X (Wof X g ex)) (hdb : (x == ("__debug__" : Str)) = false) :
    JS X g (.Raise (some (.Call (.Name x p) [.Constant (.str m) j p2] [] pos)) none pos') (wRaise x ex) := by
  obtain ⟨C, bmB, B, nI, iI, F, q, gC, kC, r⟩ := F.ex
  exact ps_imp (ps_raise hc tk (pmk_own F q gC kC r hg hdb)) fun D σ H ⟨su, M, R, a, h, c⟩ => ⟨⟨x, []⟩, su, M, a, ⟨gC, .inl rfl⟩, h⟩
/-- try: body, except c: suite; sub: which classes c catches -/
def wTry (sub : Str → Option Bool) (tb : UWX → WS) (ts : WS) (ex : UWX) : WS := fun D su M => tb (fun ux su1 M1 => match sub ux.cls with
  | some true => ts D su1 M1
  | some false => ex ux su1 M1
  | none => False) D su M
theorem js_try {x : Str} {c : Value} {body suite : List Stmt} {b₀ : Stmt} {np pos' : Pos} {sub : Str → Option Bool} {tb : UWX → WS} {ts : WS} (hs : X.stack = X.env :: X.outer) (hf : X.env.frame = some X.env.locals) (hc : Names X x c) (tk : Takes X (Wof X g ex))
    (hsub : ∀ n b C, sub n = some b → X.mg n = some C → PySem.W.exmOne X.K C c = some b)
    (hb : ∀ (g' : Gd) (ex' : UWX) (pn : List (Addr × Obj)) (xe : Value → Shared → Prop), Takes (X.tr pn xe) (Wof (X.tr pn xe) g' ex') → PassesOwn (model X.prog X.w) X.A X.env xe → JSs (X.tr pn xe) g' body (tb ex'))
    (hsu : ∀ (a : Addr) (oe : Obj) (pn : List (Addr × Obj)), JSs (X.suite a ((a, oe) :: pn)) g (b₀ :: suite) ts) :
    JS X g (.Try body [.ExceptHandler (some (.Name x np)) none (b₀ :: suite) pos'] [] [] pos) (wTry sub tb ts ex) := by
  refine ps_imp (ps_try_only (ts := fun _ _ _ => liftS X.K g ts) (Wout := Wof X g ex) (tb := fun W D σ H => ∃ (g' : Gd) (ex' : UWX), (∀ ux su M cls d σ H, At X.K g' su M σ H → RepX X.K X.mg M H ux cls d → ex' ux su M → W cls d σ H) ∧ liftS X.K g' (tb ex') D σ H) hs hf hc tk ?_ ?_) fun D σ H ⟨su, M, R, a, h, c⟩ => ?_
  · intro W pn xe tk' hp
    refine ⟨fun pins s σ H D I ⟨g', ex', hW, h⟩ => ?_⟩
    exact (hb g' ex' pn xe (tk'.imp fun cls d σ H ⟨ux, su, M, a, r, e⟩ => hW ux su M cls d σ H a r e) hp).run pins s σ H D I h
  · exact fun a oe cls d pn _ _ => hsu a oe pn
  · refine ⟨⟨M, H⟩, _, fun ux su1 M1 cls d σ1 H1 a1 r1 e1 => ?_, su, M, R, ⟨Stp.refl _ _, a.sl, a.hd⟩, h, c⟩
    have a2 : At X.K g su1 M1 σ1 H1 := ⟨a.st.trans a1.st, a1.sl, a1.hd⟩
    cases q : sub ux.cls with
    | none => simp only [q] at e1
    | some b =>
      refine ⟨b, hsub _ _ _ q r1.1, fun hb1 => ?_, fun hb1 => ?_⟩
      · subst hb1
        simp only [q] at e1
        exact fun _ _ => ⟨su1, M1, R, a2, e1, c.go a1.st⟩
      · subst hb1
        simp only [q] at e1
        exact ⟨ux, su1, M1, a2, r1, e1⟩
end
end Pu

/-! Pu, part 5: order of data. -/
namespace Pu
open PySem PySem.Spec PyProof.Rows L2 PySem.SeqAt

mutual
/-- x < y of data, as Python answers; none where it raises -/
def ltD : PyData → PyData → Option Bool
  | .int i, .int j => some (decide (i < j))
  | .str x, .str y => some (decide (x.cps.toList < y.cps.toList))
  | .tuple xs, .tuple ys => ltDs xs ys
  | _, _ => none
def ltDs : List PyData → List PyData → Option Bool
  | x :: xs, y :: ys => if PyData.eqv x y = true then ltDs xs ys else ltD x y
  | [], [] => some false
  | [], _ :: _ => some true
  | _ :: _, [] => some false
end
theorem range_succ' (n : Nat) : List.range (n + 1) = 0 :: (List.range n).map (· + 1) := List.range_succ_eq_map
theorem firstLt_shift (e r : Nat → Bool) (fin : Bool) : ∀ l : List Nat, firstLt e r fin (l.map (· + 1)) = firstLt (fun j => e (j + 1)) (fun j => r (j + 1)) fin l
  | [] => rfl
  | j :: t => by
    rw [List.map_cons]
    unfold firstLt
    rw [firstLt_shift e r fin t]
theorem ltDs_first : ∀ (xs ys : List PyData) (k : Bool), ltDs xs ys = some k →
    firstLt (fun j => PyData.eqv (xs.getD j .none) (ys.getD j .none)) (fun j => (ltD (xs.getD j .none) (ys.getD j .none)).getD false) (decide (xs.length < ys.length)) (List.range (min xs.length ys.length)) = k
  | [], [], k, h => by unfold ltDs at h; cases h; rfl
  | [], y :: ys, k, h => by unfold ltDs at h; cases h; rfl
  | x :: xs, [], k, h => by unfold ltDs at h; cases h; rfl
  | x :: xs, y :: ys, k, h => by
    unfold ltDs at h
    have e1 : min (x :: xs).length (y :: ys).length = min xs.length ys.length + 1 := by simp only [List.length_cons]; omega
    rw [e1, range_succ']
    have e2 : decide ((x :: xs).length < (y :: ys).length) = decide (xs.length < ys.length) := by
      simp only [List.length_cons, Nat.add_lt_add_iff_right]
    rw [e2]
    by_cases q : PyData.eqv x y = true
    · rw [if_pos q] at h
      rw [firstLt_yes (by simpa using q), firstLt_shift]
      simpa using ltDs_first xs ys k h
    · rw [if_neg q] at h
      have q' : PyData.eqv x y = false := by simpa using q
      rw [firstLt_no (by simpa using q')]
      simp [h]
/-- at the first place that parts, the items' order is told -/
theorem ltDs_at : ∀ (xs ys : List PyData) (k : Bool), ltDs xs ys = some k → ∀ j, (∀ i, i < j → PyData.eqv (xs.getD i .none) (ys.getD i .none) = true) → j < xs.length → j < ys.length →
    PyData.eqv (xs.getD j .none) (ys.getD j .none) = false → ∃ b, ltD (xs.getD j .none) (ys.getD j .none) = some b
  | [], _, _, _, j, _, h1, _, _ => absurd h1 (by simp)
  | _ :: _, [], _, _, j, _, _, h2, _ => absurd h2 (by simp)
  | x :: xs, y :: ys, k, h, j, hb, h1, h2, hn => by
    unfold ltDs at h
    cases j with
    | zero =>
      have hn' : PyData.eqv x y = false := by simpa using hn
      rw [if_neg (by rw [hn']; exact Bool.false_ne_true)] at h
      exact ⟨k, by simpa using h⟩
    | succ j =>
      have h0 := hb 0 (Nat.succ_pos j)
      have h0' : PyData.eqv x y = true := by simpa using h0
      rw [if_pos h0'] at h
      have := ltDs_at xs ys k h j (fun i hi => by simpa using hb (i + 1) (Nat.succ_lt_succ hi)) (by simpa using h1) (by simpa using h2) (by simpa using hn)
      simpa using this

section tupleLess
open AutoSeq1 (wpAny_loadPart')
open MeetsSeq MeetsSeq2 MeetsSeq3 SeqRoads2


/-- what decides y < x of two rows: f the first place whose items part (or the lesser length), k the answer -/
structure Decides (A : Around) (s : Shared) (ys xs : Array Value) (f : Nat) (k : Bool) : Prop where
  le : f ≤ min ys.size xs.size
  before : ∀ j (h1 : j < ys.size) (h2 : j < xs.size), j < f → EqAt A.in1 s ys[j] xs[j] true
  here : ∀ (h1 : f < ys.size) (h2 : f < xs.size), EqAt A.in1 s ys[f] xs[f] false ∧ RcLt A.in1 s ys[f] xs[f] k
  over : f = min ys.size xs.size → k = decide (ys.size < xs.size)

theorem tup_less (l b : Addr) (ys xs : Array Value) (n m : Nat) (d1 d2 : Option Addr) (t1 t2 : Array (Option Value)) (f : Nat) (k : Bool) :
    Meets (Builtin.«tuple.__lt__» ⟨[.ref l, .ref b], []⟩) (fun A R s => s.heap.get? l = some ⟨.type "tuple", d1, .seq ys n, t1⟩ ∧ s.heap.get? b = some ⟨.type "tuple", d2, .seq xs m, t2⟩ ∧ Decides A s ys xs f k ∧ R (.ok (.ret (.bool k))) s) :=
  .of_wp fun prog w A R s h => by
    obtain ⟨hp, gn, dr, tk, os⟩ := s
    obtain ⟨hl, hb, D, hR⟩ := h
    have ftt := AutoSeq1.sub_tuple_tuple
    have hZ : (ys.toList.zip xs.toList).length = min ys.size xs.size := by simp
    wp_walk using wpAny_loadPart' hl, wpAny_loadPart' hb, wpAny_forIn_list _ (fun rest acc s' => acc.1 = none ∧ s' = ⟨hp, gn, dr, tk, os⟩ ∧ ∃ i, i ≤ f ∧ rest = (ys.toList.zip xs.toList).drop i) _
    case turn =>
      rintro ⟨y, x⟩ rest acc s' ⟨hacc, rfl, i, hif, hz⟩
      have hlt : i < (ys.toList.zip xs.toList).length := Nat.lt_of_not_le fun q => by
        rw [List.drop_eq_nil_of_le q] at hz
        cases hz
      have h1 : i < ys.size := by omega
      have h2 : i < xs.size := by omega
      rw [List.drop_eq_getElem_cons hlt] at hz
      injection hz with hyx hrest
      obtain rfl : y = ys[i] := by simpa using congrArg Prod.fst hyx
      obtain rfl : x = xs[i] := by simpa using congrArg Prod.snd hyx
      rcases Nat.lt_or_ge i f with hi | hi
      · refine wpAny_bind (D.before i h1 h2 hi prog w _ _ ?_)
        wp_walk
        exact ⟨rfl, rfl, i + 1, hi, hrest⟩
      · obtain rfl : i = f := Nat.le_antisymm hif hi
        obtain ⟨q1, q2⟩ := D.here h1 h2
        refine wpAny_bind (q1 prog w _ _ ?_)
        have q3 : ∀ {E : Value → Shared → Prop} {Q : Value → Shared → Prop}, Q (.bool k) ⟨hp, gn, dr, tk, os⟩ → wpAny (model prog w) A.in1 (PySem.richCompare .Lt ys[i] xs[i]) Q E ⟨hp, gn, dr, tk, os⟩ := fun q => q2 prog w _ _ q
        wp_walk using q3
        exact ⟨_, rfl, hR⟩
    case fin =>
      rintro ⟨a1, a2⟩ s' ⟨hacc, rfl, i, hif, hz⟩
      simp only at hacc
      subst hacc
      have hge : min ys.size xs.size ≤ i := Nat.le_of_not_lt fun q => by
        rw [List.drop_eq_getElem_cons (by rw [hZ]; exact q)] at hz
        cases hz
      have hf := D.le
      have hk := D.over (by omega)
      wp_walk
      exact ⟨_, rfl, by simpa [Builtin.Tuple.tupleCompareSizes, hk] using hR⟩
    case h =>
      exact ⟨rfl, rfl, 0, Nat.zero_le _, rfl⟩

theorem RcLt.byFirst {A : Around} {s : Shared} {l b : Addr} {ys xs : Array Value} {f : Nat} {k : Bool} (hl : IsTup s.heap l ys) (hb : IsTup s.heap b xs) (hu : A.units < cLine) (D : Decides A s ys xs f k) : RcLt A s (.ref l) (.ref b) k := fun prog w E Q h => by
  obtain ⟨⟨c1, d1, z1, t1⟩, ho, hc, n, hd⟩ := id hl
  obtain ⟨⟨c2, d2, z2, t2⟩, ho2, hc2, m, hd2⟩ := id hb
  simp only at hc hd hc2 hd2
  subst hc hd hc2 hd2
  refine richCompare_meets_room (op := .Lt) ⟨_, ho, rfl⟩ ⟨_, ho2, rfl⟩ F.slot_tuple_lt F.entry_tuple_lt (F.args_tuple_lt_2 _ _) (tup_less l b ys xs n m d1 d2 t1 t2 f k) ⟨ho, ho2, D, ?_⟩ hu
  exact show Value.bool k ≠ Value.notImplemented ∧ Q (.bool k) s from ⟨(fun x => nomatch x), h⟩
end tupleLess

/-! ### data among the values -/
mutual
/-- the datum (handles and types are none of these) -/
def pdT : U → PyData
  | .non => .none
  | .bl b => .bool b
  | .int i => .int i
  | .str x => .str x
  | .tup us => .tuple (pdTs us)
  | .lst us => .list (pdTs us)
  | .ty _ => .none
  | .ref _ => .none
  | .dct _ _ => .none
  | .pr _ => .none
def pdTs : List U → List PyData
  | [] => []
  | u :: us => pdT u :: pdTs us
end
def okStr (x : Str) : Bool := x.cps.all (· < 0x110000)
mutual
def okU : U → Bool
  | .non => true
  | .bl _ => true
  | .int _ => true
  | .str x => okStr x
  | .tup us => okUs us
  | .lst us => okUs us
  | .ty _ => false
  | .ref _ => false
  | .dct _ _ => false
  | .pr _ => false
def okUs : List U → Bool
  | [] => true
  | u :: us => okU u && okUs us
end
mutual
def depU : U → Nat
  | .tup us => depUs us + 1
  | .lst us => depUs us + 1
  | _ => 0
def depUs : List U → Nat
  | [] => 0
  | u :: us => max (depU u) (depUs us)
end
mutual
def eqU : U → U → Bool
  | .non, .non => true
  | .bl a, .bl b => a == b
  | .bl a, .int j => (if a then 1 else 0) == j
  | .int i, .bl b => i == (if b then 1 else 0)
  | .int i, .int j => i == j
  | .str x, .str y => x == y
  | .lst xs, .lst ys => eqUs xs ys
  | .tup xs, .tup ys => eqUs xs ys
  | _, _ => false
def eqUs : List U → List U → Bool
  | [], [] => true
  | x :: xs, y :: ys => eqU x y && eqUs xs ys
  | _, _ => false
end
mutual
def ltU : U → U → Option Bool
  | .int i, .int j => some (decide (i < j))
  | .str x, .str y => some (decide (x.cps.toList < y.cps.toList))
  | .tup xs, .tup ys => ltUs xs ys
  | _, _ => none
def ltUs : List U → List U → Option Bool
  | x :: xs, y :: ys => if eqU x y = true then ltUs xs ys else ltU x y
  | [], [] => some false
  | [], _ :: _ => some true
  | _ :: _, [] => some false
end
/-- what == and < may be asked of -/
def Fit (u : U) : Prop := okU u = true ∧ depU u ≤ 60
mutual
theorem canLay_pd : ∀ u : U, okU u = true → (pdT u).canLay0 = true
  | .non, _ => by unfold pdT PyData.canLay0; rfl
  | .bl _, _ => by unfold pdT PyData.canLay0; rfl
  | .int _, _ => by unfold pdT PyData.canLay0; rfl
  | .str x, h => by unfold okU okStr at h; unfold pdT PyData.canLay0; exact h
  | .tup us, h => by unfold okU at h; unfold pdT PyData.canLay0; exact canLays_pd us h
  | .lst us, h => by unfold okU at h; unfold pdT PyData.canLay0; exact canLays_pd us h
theorem canLays_pd : ∀ us : List U, okUs us = true → PyData.canLayAll0 (pdTs us) = true
  | [], _ => by unfold pdTs PyData.canLayAll0; rfl
  | u :: us, h => by
    unfold okUs at h
    rw [Bool.and_eq_true] at h
    unfold pdTs PyData.canLayAll0
    rw [canLay_pd u h.1, canLays_pd us h.2]
    rfl
end
mutual
theorem dep_pd : ∀ u : U, (pdT u).depth = depU u
  | .non => by simp [pdT, PyData.depth, depU]
  | .bl _ => by simp [pdT, PyData.depth, depU]
  | .int _ => by simp [pdT, PyData.depth, depU]
  | .str _ => by simp [pdT, PyData.depth, depU]
  | .tup us => by simp [pdT, PyData.depth, depU, deps_pd us]
  | .lst us => by simp [pdT, PyData.depth, depU, deps_pd us]
  | .ty _ => by simp [pdT, PyData.depth, depU]
  | .ref _ => by simp [pdT, PyData.depth, depU]
  | .dct _ _ => by simp [pdT, PyData.depth, depU]
  | .pr _ => by simp [pdT, PyData.depth, depU]
theorem deps_pd : ∀ us : List U, PyData.depthAll (pdTs us) = depUs us
  | [] => by simp [pdTs, PyData.depthAll, depUs]
  | u :: us => by simp [pdTs, PyData.depthAll, depUs, dep_pd u, deps_pd us]
end
mutual
theorem eqv_pd : ∀ u w : U, okU u = true → okU w = true → PyData.eqv (pdT u) (pdT w) = eqU u w
  | .non, w, _, h => by cases w <;> simp [okU] at h <;> simp [pdT, PyData.eqv, eqU]
  | .bl _, w, _, h => by cases w <;> simp [okU] at h <;> simp [pdT, PyData.eqv, eqU]
  | .int _, w, _, h => by cases w <;> simp [okU] at h <;> simp [pdT, PyData.eqv, eqU]
  | .str _, w, _, h => by cases w <;> simp [okU] at h <;> simp [pdT, PyData.eqv, eqU]
  | .tup us, w, h1, h => by
    cases w <;> simp [okU] at h <;> simp [pdT, PyData.eqv, eqU]
    exact eqvs_pd us _ (by simpa [okU] using h1) h
  | .lst us, w, h1, h => by
    cases w <;> simp [okU] at h <;> simp [pdT, PyData.eqv, eqU]
    exact eqvs_pd us _ (by simpa [okU] using h1) h
theorem eqvs_pd : ∀ us ws : List U, okUs us = true → okUs ws = true → PyData.eqvAll (pdTs us) (pdTs ws) = eqUs us ws
  | [], [], _, _ => by simp [pdTs, PyData.eqvAll, eqUs]
  | [], _ :: _, _, _ => by simp [pdTs, PyData.eqvAll, eqUs]
  | _ :: _, [], _, _ => by simp [pdTs, PyData.eqvAll, eqUs]
  | u :: us, w :: ws, h1, h2 => by
    unfold okUs at h1 h2
    rw [Bool.and_eq_true] at h1 h2
    simp only [pdTs, PyData.eqvAll, eqUs]
    rw [eqv_pd u w h1.1 h2.1, eqvs_pd us ws h1.2 h2.2]
end
mutual
theorem lt_pd : ∀ u w : U, okU u = true → okU w = true → ∀ k, ltU u w = some k → ltD (pdT u) (pdT w) = some k
  | .non, w, _, _, k, e => by simp [ltU] at e
  | .bl _, w, _, _, k, e => by simp [ltU] at e
  | .int _, w, _, _, k, e => by cases w <;> simp [ltU] at e <;> simp [pdT, ltD, e]
  | .str _, w, _, _, k, e => by cases w <;> simp [ltU] at e <;> simp [pdT, ltD, e]
  | .tup us, w, h1, h, k, e => by
    cases w <;> simp [ltU] at e
    simp only [pdT, ltD]
    exact lts_pd us _ (by simpa [okU] using h1) (by simpa [okU] using h) k e
  | .lst us, w, _, _, k, e => by simp [ltU] at e
theorem lts_pd : ∀ us ws : List U, okUs us = true → okUs ws = true → ∀ k, ltUs us ws = some k → ltDs (pdTs us) (pdTs ws) = some k
  | [], [], _, _, k, e => by simp [ltUs] at e; simp [pdTs, ltDs, e]
  | [], _ :: _, _, _, k, e => by simp [ltUs] at e; simp [pdTs, ltDs, e]
  | _ :: _, [], _, _, k, e => by simp [ltUs] at e; simp [pdTs, ltDs, e]
  | u :: us, w :: ws, h1, h2, k, e => by
    unfold okUs at h1 h2
    rw [Bool.and_eq_true] at h1 h2
    simp only [pdTs, ltDs]
    unfold ltUs at e
    rw [eqv_pd u w h1.1 h2.1]
    by_cases q : eqU u w = true
    · rw [if_pos q] at e ⊢
      exact lts_pd us ws h1.2 h2.2 k e
    · rw [if_neg q] at e ⊢
      exact lt_pd u w h1.1 h2.1 k e
end
section
variable {K : PySem.W.Frag} {M : Mp} {H : Hp}
mutual
theorem dp_of : ∀ (u : U) (v : V), RepV K M H u v → okU u = true → Dp K H v (pdT u)
  | .non, v, r, _ => by rw [rep_non r]; unfold pdT; exact .non
  | .bl b, v, r, _ => by rw [rep_bl r]; unfold pdT; exact .bl b
  | .int i, v, r, _ => by rw [rep_int r]; unfold pdT; exact .int i
  | .str x, v, r, _ => by rw [rep_str r]; unfold pdT; exact .str x
  | .tup us, v, r, h => by
    obtain ⟨a, vs, e, f, q⟩ := rep_tup r
    rw [e]
    unfold pdT
    unfold okU at h
    exact .tup f.sq (dps_of us vs q h)
  | .lst us, v, r, h => by
    obtain ⟨a, vs, e, f, q⟩ := rep_lst r
    rw [e]
    unfold pdT
    unfold okU at h
    exact .lst f.sq (dps_of us vs q h)
  | .ty _, v, r, h => by simp [okU] at h
  | .ref _, v, r, h => by simp [okU] at h
  | .dct _ _, v, r, h => by simp [okU] at h
  | .pr _, v, r, h => by simp [okU] at h
theorem dps_of : ∀ (us : List U) (vs : List V), RepVs K M H us vs → okUs us = true → DpAll K H vs (pdTs us)
  | [], vs, r, _ => by rw [r.nil_inv]; unfold pdTs; exact .nil
  | u :: us, vs, r, h => by
    obtain ⟨v, q, e, h1, h2⟩ := r.uncons
    rw [e]
    unfold okUs at h
    rw [Bool.and_eq_true] at h
    unfold pdTs
    exact .cons (dp_of u v h1 h.1) (dps_of us q h2 h.2)
end
/-- a handle of a list, seen as the list -/
def rs (M : Mp) : U → U
  | .ref a => match M a with
    | some (.lst us) => .lst us
    | _ => .ref a
  | u => u
theorem dp_rs (hd : RepM K M H) {u : U} {v : V} (r : RepV K M H u v) (h : okU (rs M u) = true) : Dp K H v (pdT (rs M u)) := by
  cases u with
  | ref a =>
    rw [rep_ref r]
    cases q : M a with
    | none => simp [rs, q, okU] at h
    | some o =>
      cases o with
      | lst us =>
        simp only [rs, q] at h ⊢
        obtain ⟨vs, e, t⟩ := hd a _ q
        simp only [pdT]
        exact .lst (SqL.of e) (dps_of us vs t (by simpa [okU] using h))
      | dct ks us => simp [rs, q, okU] at h
      | hid P => simp [rs, q, okU] at h
  | _ => exact dp_of _ v r h
end

/-! ### < of data, run -/
theorem getD_of {α : Type} {l : List α} {d x : α} {i : Nat} (h : l[i]? = some x) : l.getD i d = x := by
  rw [List.getD_eq_getElem?_getD, h]
  rfl
theorem reads_each {h : Heap} : ∀ {xs : List PyData} {vs : List Value} {as : List Addr}, ReadsAll h vs xs as → ∀ (j : Nat) (hj : j < vs.length), ∃ bs, Reads h vs[j] (xs.getD j .none) bs
  | _, _, _, .nil, j, hj => absurd hj (by simp)
  | _, _, _, .cons r t, 0, _ => ⟨_, by simpa using r⟩
  | _, _, _, .cons r t, j + 1, hj => by
    obtain ⟨bs, q⟩ := reads_each t j (by simpa using hj)
    exact ⟨bs, by simpa using q⟩
theorem reads_len {h : Heap} : ∀ {xs : List PyData} {vs : List Value} {as : List Addr}, ReadsAll h vs xs as → vs.length = xs.length
  | _, _, _, .nil => rfl
  | _, _, _, .cons r t => by simp [reads_len t]
theorem canLay_each : ∀ {xs : List PyData} (j : Nat), PyData.canLayAll0 xs = true → (xs.getD j .none).canLay0 = true ∧ (xs.getD j .none).depth ≤ PyData.depthAll xs
  | [], j, _ => by simp [PyData.canLay0, PyData.depth]
  | x :: xs, 0, h => by
    simp only [PyData.canLayAll0, Bool.and_eq_true] at h
    simp only [List.getD_cons_zero, PyData.depthAll]
    exact ⟨h.1, Nat.le_max_left _ _⟩
  | x :: xs, j + 1, h => by
    simp only [PyData.canLayAll0, Bool.and_eq_true] at h
    obtain ⟨h1, h2⟩ := canLay_each (xs := xs) j h.2
    simp only [List.getD_cons_succ, PyData.depthAll]
    exact ⟨h1, Nat.le_trans h2 (Nat.le_max_right _ _)⟩
/-- the first place that parts -/
def firstOff : List PyData → List PyData → Nat
  | x :: xs, y :: ys => if PyData.eqv x y = true then firstOff xs ys + 1 else 0
  | _, _ => 0
theorem firstOff_spec : ∀ (xs ys : List PyData) (k : Bool), ltDs xs ys = some k → firstOff xs ys ≤ min xs.length ys.length ∧ (∀ j, j < firstOff xs ys → PyData.eqv (xs.getD j .none) (ys.getD j .none) = true) ∧
    (firstOff xs ys < xs.length → firstOff xs ys < ys.length → PyData.eqv (xs.getD (firstOff xs ys) .none) (ys.getD (firstOff xs ys) .none) = false ∧ ltD (xs.getD (firstOff xs ys) .none) (ys.getD (firstOff xs ys) .none) = some k) ∧
    (firstOff xs ys = min xs.length ys.length → k = decide (xs.length < ys.length))
  | [], [], k, h => by simp [ltDs] at h; simp [firstOff, h]
  | [], y :: ys, k, h => by simp [ltDs] at h; simp [firstOff, h]
  | x :: xs, [], k, h => by simp [ltDs] at h; simp [firstOff, h]
  | x :: xs, y :: ys, k, h => by
    unfold ltDs at h
    by_cases q : PyData.eqv x y = true
    · rw [if_pos q] at h
      obtain ⟨h1, h2, h3, h4⟩ := firstOff_spec xs ys k h
      have e : firstOff (x :: xs) (y :: ys) = firstOff xs ys + 1 := by rw [firstOff, if_pos q]
      rw [e]
      refine ⟨by simp only [List.length_cons]; omega, fun j hj => ?_, fun a b => ?_, fun a => ?_⟩
      · cases j with
        | zero => simpa using q
        | succ j => simpa using h2 j (by omega)
      · simpa using h3 (by simpa using a) (by simpa using b)
      · simp only [List.length_cons] at a ⊢
        rw [h4 (by omega)]
        exact decide_eq_decide.mpr (by omega)
    · have e : firstOff (x :: xs) (y :: ys) = 0 := by rw [firstOff, if_neg q]
      rw [if_neg q] at h
      rw [e]
      refine ⟨Nat.zero_le _, fun j hj => absurd hj (Nat.not_lt_zero _), fun _ _ => ⟨by simpa using q, by simpa using h⟩, fun a => ?_⟩
      simp only [List.length_cons] at a
      omega
theorem rcLt_data : ∀ (n : Nat) (da db : PyData) (A : Around) (s : Shared) (a b : Value) (as bs : List Addr) (k : Bool), da.depth ≤ n → Reads s.heap a da as → Reads s.heap b db bs → da.canLay0 = true → db.canLay0 = true → ltD da db = some k → A.units + n < cLine → RcLt A s a b k := by
  intro n
  induction n with
  | zero =>
    intro da db A s a b as bs k hn ra rb ha hb e hu
    cases da with
    | int i =>
      cases db <;> simp [ltD] at e
      cases ra; cases rb
      subst e
      exact fun prog w E Q h => lt_int h
    | str x =>
      cases db <;> simp only [ltD, Option.some.injEq, reduceCtorEq] at e
      cases ra; cases rb
      subst e
      exact fun prog w E Q h => lt_str h
    | tuple xs => simp [PyData.depth] at hn
    | _ => simp [ltD] at e
  | succ n ih =>
    intro da db A s a b as bs k hn ra rb ha hb e hu
    cases da with
    | int i =>
      cases db <;> simp [ltD] at e
      cases ra; cases rb
      subst e
      exact fun prog w E Q h => lt_int h
    | str x =>
      cases db <;> simp only [ltD, Option.some.injEq, reduceCtorEq] at e
      cases ra; cases rb
      subst e
      exact fun prog w E Q h => lt_str h
    | tuple xs =>
      cases db with
      | tuple ys =>
        simp only [ltD] at e
        cases ra with
        | tuple ho hc hd hr =>
          cases rb with
          | tuple ho2 hc2 hd2 hr2 =>
            obtain ⟨f1, f2, f3, f4⟩ := firstOff_spec xs ys k e
            have l1 := reads_len hr
            have l2 := reads_len hr2
            have cx : PyData.canLayAll0 xs = true := by simpa [PyData.canLay0] using ha
            have cy : PyData.canLayAll0 ys = true := by simpa [PyData.canLay0] using hb
            have dx : PyData.depthAll xs ≤ n := by simp only [PyData.depth] at hn; omega
            have eqs : ∀ j (h1 : j < _) (h2 : j < _), EqAt A.in1 s _ _ (PyData.eqv (xs.getD j .none) (ys.getD j .none)) := fun j h1 h2 => by
              obtain ⟨c1, r1⟩ := reads_each hr j h1
              obtain ⟨c2, r2⟩ := reads_each hr2 j h2
              obtain ⟨g1, g2⟩ := canLay_each (xs := xs) j cx
              obtain ⟨g3, g4⟩ := canLay_each (xs := ys) j cy
              refine eqAt_reads _ _ A.in1 s _ _ c1 c2 r1 r2 g1 g3 ?_
              have := Nat.min_le_left (xs.getD j PyData.none).depth (ys.getD j PyData.none).depth
              show A.units + 1 + _ < cLine
              omega
            refine RcLt.byFirst ⟨_, ho, hc, _, hd⟩ ⟨_, ho2, hc2, _, hd2⟩ (by omega) (f := firstOff xs ys) ⟨?_, fun j h1 h2 hj => ?_, fun h1 h2 => ⟨?_, ?_⟩, fun q => ?_⟩
            · simp only [Array.length_toList] at l1 l2
              rw [l1, l2]; exact f1
            · have := eqs j (by simpa using h1) (by simpa using h2)
              rw [f2 j hj] at this
              simpa using this
            · simp only [Array.length_toList] at l1 l2
              have := eqs (firstOff xs ys) (by simpa using h1) (by simpa using h2)
              rw [(f3 (by omega) (by omega)).1] at this
              simpa using this
            · simp only [Array.length_toList] at l1 l2
              obtain ⟨c1, r1⟩ := reads_each hr (firstOff xs ys) (by simpa using h1)
              obtain ⟨c2, r2⟩ := reads_each hr2 (firstOff xs ys) (by simpa using h2)
              obtain ⟨g1, g2⟩ := canLay_each (xs := xs) (firstOff xs ys) cx
              obtain ⟨g3, g4⟩ := canLay_each (xs := ys) (firstOff xs ys) cy
              have := ih _ _ A.in1 s _ _ c1 c2 k (Nat.le_trans g2 dx) r1 r2 g1 g3 (f3 (by omega) (by omega)).2 (by show A.units + 1 + n < cLine; omega)
              simpa using this
            · simp only [Array.length_toList] at l1 l2
              rw [l1, l2]
              exact f4 (by omega)
      | _ => simp [ltD] at e
    | _ => simp [ltD] at e
end Pu

/-! Pu, part 6: operators. -/
namespace Pu
open PySem PySem.Spec PyProof.Rows L2 PySem.SeqAt

/-- from a rule by values -/
theorem uop_of {X : Cx} {f : Value → Value → Sem Value} {o : O2}
    (h : ∀ (pins : List (Addr × Obj)) (s : Shared) (σ : Stt) (H : Hp) (x y : V) (v u : Value) (Q : VK) (ux uy : U) (M : Mp) (R : UK), Inv X pins σ H s → RelV x v → RelV y u → RepV X.K M H ux x → RepV X.K M H uy y → RepM X.K M H → o ux uy M R → Cl X.K M H R Q →
      wpAny (model X.prog X.w) X.A (f v u) (EP X pins σ Q) X.xe s) : UOp X f o :=
  fun pins s σ H x y v u Q I rx ry ⟨ux, uy, M, R, r1, r2, hd, q, c⟩ => h pins s σ H x y v u Q ux uy M R I rx ry r1 r2 hd q c
section
variable {X : Cx}

/-! ### arithmetic -/
def uInts (C : Int → Int → Prop) (f : Int → Int → Int) : O2
  | .int i, .int j, M, R => C i j ∧ R (.int (f i j)) M
  | _, _, _, _ => False
theorem uop_ints {f : Value → Value → Sem Value} {C : Int → Int → Prop} {g : Int → Int → Int} (h : OpR X f (rI C fun i j => .int (g i j))) : UOp X f (uInts C g) :=
  op_imp h fun x y H Q ⟨ux, uy, M, R, r1, r2, hd, q, c⟩ => by
    cases ux <;> cases uy <;> first | exact q.elim | skip
    obtain ⟨q1, q2⟩ := q
    exact ⟨_, _, rep_int r1, rep_int r2, q1, c.here q2 hd mk_int⟩
theorem uop_ints0 {f : Value → Value → Sem Value} {g : Int → Int → Int} (h : OpR X f (rI0 fun i j => .int (g i j))) : UOp X f (uInts (fun _ _ => True) g) :=
  op_imp h fun x y H Q ⟨ux, uy, M, R, r1, r2, hd, q, c⟩ => by
    cases ux <;> cases uy <;> first | exact q.elim | skip
    exact ⟨_, _, rep_int r1, rep_int r2, c.here q.2 hd mk_int⟩
def uSub : O2 := uInts (fun _ _ => True) fun i j => i - j
def uMod : O2 := uInts (fun _ j => 0 < j) fun i j => i % j
def uFdiv : O2 := uInts CDiv fun i j => i / j
def uPow : O2 := uInts CPow fun i j => i ^ j.toNat
theorem uop_sub : UOp X (binaryOp .Sub) uSub := uop_ints0 op_sub
theorem uop_mod : UOp X (binaryOp .Mod) uMod := uop_ints op_mod
theorem uop_fdiv : UOp X (binaryOp .FloorDiv) uFdiv := uop_ints op_fdiv
theorem uop_pow : UOp X (binaryOp .Pow) uPow := uop_ints op_pow
def uNeg : O1
  | .int i, M, R => R (.int (-i)) M
  | _, _, _ => False
theorem uun_neg : UUn X (unaryOp .USub) uNeg := fun pins s σ H x v Q I rx ⟨ux, M, R, r1, hd, q, c⟩ => by
  cases ux <;> first | exact q.elim | skip
  exact un_neg pins s σ H x v Q I rx ⟨_, rep_int r1, c.here q hd mk_int⟩

/-! ### + -/
theorem list_plus (l b : Addr) (xs ys : Array Value) (n m : Nat) (d1 d2 : Option Addr) (t1 t2 : Array (Option Value)) (hz : xs.size + ys.size ≤ sizeLine) :
    Meets (Builtin.«list.__add__» ⟨[.ref l, .ref b], []⟩) (fun _ R s => s.heap.get? l = some ⟨.type "list", d1, .seq xs n, t1⟩ ∧ s.heap.get? b = some ⟨.type "list", d2, .seq ys m, t2⟩ ∧
      R (.ok (.ret (.ref s.heap.objs.size))) { s with heap := s.heap.push { cls := .type "list", data := .seq (xs ++ ys) } }) :=
  .of_wp fun prog w A R s h => by
    obtain ⟨hp, gn, dr, tk, os⟩ := s
    obtain ⟨hl, hb, hR⟩ := h
    have k1 := AutoSeq1.sub_list_list
    wp_walk using AutoSeq1.wpAny_loadPart' hl, AutoSeq1.wpAny_loadPart' hb
    exact ⟨_, rfl, hR⟩
theorem op_catS : OpR X (binaryOp .Add) (fun x y H Q => ∃ l b xs zs, x = .ref l ∧ y = .ref b ∧ SqL X.K H l xs ∧ SqL X.K H b zs ∧ xs.length + zs.length ≤ sizeLine ∧ ∀ p, H p = none → Q (.ref p) (upd H p (.lst (xs ++ zs)))) := by
  intro pins s σ H x y v u Q I rx ry h
  obtain ⟨l, b, xs, zs, rfl, rfl, h1, h2, hz, q⟩ := h
  cases rx
  cases ry
  obtain ⟨its, r, ⟨⟨c1, d1, z1, t1⟩, n, e, hc, _, hd⟩, _⟩ := I.list h1
  obtain ⟨its2, r2, ⟨⟨c2, d2, z2, t2⟩, m, e2, hc2, _, hd2⟩, _⟩ := I.list h2
  simp only at hc hd hc2 hd2
  subst hc hd hc2 hd2
  have hz' : its.toArray.size + its2.toArray.size ≤ sizeLine := by rw [List.size_toArray, List.size_toArray, ← r.length, ← r2.length]; exact hz
  refine concat_meets ⟨_, e, rfl⟩ ⟨_, e2, rfl⟩ noFill_list_add seq_list_add F.slot_list_add F.entry_list_add (F.args_list_add_2 _ _) (list_plus l b its.toArray its2.toArray n m d1 d2 t1 t2 hz') ⟨e, e2, ?_⟩
  have ea : its.toArray ++ its2.toArray = (its ++ its2).toArray := by simp
  rw [ea]
  exact ⟨.ref _, _, I.lnew (t' := s.toks) (r.append r2) (by rw [List.length_append]; exact hz), rfl, q _ I.fresh⟩
/-- a list's content: a frozen one, or what a handle holds -/
def lstOf (M : Mp) : U → Option (List U)
  | .lst us => some us
  | .ref a => match M a with
    | some (.lst us) => some us
    | _ => none
  | _ => none
theorem lstOf_sq {M : Mp} {H : Hp} (hd : RepM X.K M H) {u : U} {v : V} (r : RepV X.K M H u v) {us : List U} (e : lstOf M u = some us) : ∃ a vs, v = .ref a ∧ SqL X.K H a vs ∧ RepVs X.K M H us vs := by
  cases u with
  | lst ws =>
    simp only [lstOf, Option.some.injEq] at e
    subst e
    obtain ⟨a, vs, e, f, q⟩ := rep_lst r
    exact ⟨a, vs, e, f.sq, q⟩
  | ref a =>
    cases q : M a with
    | none => simp [lstOf, q] at e
    | some o =>
      cases o with
      | lst ws =>
        simp only [lstOf, q, Option.some.injEq] at e
        subst e
        obtain ⟨vs, h, t⟩ := hd a _ q
        exact ⟨a, vs, rep_ref r, .of h, t⟩
      | dct ks ws => simp [lstOf, q] at e
      | hid P => simp [lstOf, q] at e
  | _ => simp [lstOf] at e
/-- t + u, the new object known -/
theorem op_catF : OpR X (binaryOp .Add) (fun x y H Q => ∃ a b xs ys, x = .ref a ∧ y = .ref b ∧ SqT X.K H a xs ∧ SqT X.K H b ys ∧ xs.length + ys.length ≤ sizeLine ∧
    (xs = [] → Q (.ref b) H) ∧ (xs ≠ [] → ys = [] → Q (.ref a) H) ∧ (xs ≠ [] → ys ≠ [] → ∀ p o, o.dict = none → H p = none → Q (.ref p) (upd H p (.frz o (.tup (xs ++ ys)))))) := by
  intro pins s σ H x y v u Q I rx ry h
  obtain ⟨a, b, xs, ys, rfl, rfl, ha, hb, hz, q0, q1, q2⟩ := h
  cases rx
  cases ry
  obtain ⟨its, r1, p1, _⟩ := I.tuple ha
  obtain ⟨its2, r2, p2, _⟩ := I.tuple hb
  by_cases hx : xs = []
  · subst hx
    cases r1
    exact cat_tup0 p1 p2 ⟨.ref b, H, I, rfl, q0 rfl⟩
  · refine HT.cat_tup p1 p2 (fun z => hx (r1.nil_iff.mp z)) (fun z => ⟨.ref a, H, I, rfl, q1 hx (r2.nil_iff.mp z)⟩) (fun z => ?_) (by rw [← r1.length, ← r2.length]; exact hz)
    refine ⟨.ref s.heap.objs.size, _, I.laid (t' := s.toks) (o := .frz { cls := .type "tuple", data := .seq (its ++ its2).toArray } (.tup (xs ++ ys))) (fun b ob q => Heap.get?_push_of_some _ q) (Nat.le_refl _) ?_, rfl, q2 hx (fun w => z (r2.nil_iff.mpr w)) _ { cls := .type "tuple", data := .seq (its ++ its2).toArray } rfl (I.hok.fresh (Nat.le_refl _))⟩
    exact ⟨Heap.get?_push_size _ rfl, by rw [List.length_append]; exact hz, _, r1.append r2, IsTup.new _ _⟩
def uAdd : O2
  | .int i, .int j, M, R => R (.int (i + j)) M
  | .str a, .str b, M, R => a.length + b.length ≤ sizeLine ∧ R (.str (a ++ b)) M
  | .tup a, .tup b, M, R => a.length + b.length ≤ sizeLine ∧ R (.tup (a ++ b)) M
  | .lst a, .lst b, M, R => a.length + b.length ≤ sizeLine ∧ R (.lst (a ++ b)) M
  | x, y, M, R => ∃ a b, lstOf M x = some a ∧ lstOf M y = some b ∧ a.length + b.length ≤ sizeLine ∧ R (.lst (a ++ b)) M
theorem uAdd_lists {pins : List (Addr × Obj)} {s : Shared} {σ : Stt} {H : Hp} {x y : V} {v u : Value} {Q : VK} {ux uy : U} {M : Mp} {R : UK} (I : Inv X pins σ H s) (rx : RelV x v) (ry : RelV y u) (r1 : RepV X.K M H ux x) (r2 : RepV X.K M H uy y) (hd : RepM X.K M H)
    (q : ∃ a b, lstOf M ux = some a ∧ lstOf M uy = some b ∧ a.length + b.length ≤ sizeLine ∧ R (.lst (a ++ b)) M) (c : Cl X.K M H R Q) : wpAny (model X.prog X.w) X.A (binaryOp .Add v u) (EP X pins σ Q) X.xe s := by
  obtain ⟨a, b, e1, e2, z, q⟩ := q
  obtain ⟨p1, vs, rfl, h1, t1⟩ := lstOf_sq hd r1 e1
  obtain ⟨p2, ws, rfl, h2, t2⟩ := lstOf_sq hd r2 e2
  exact op_catS pins s σ H _ _ v u Q I rx ry ⟨p1, p2, vs, ws, rfl, rfl, h1, h2, by rw [← t1.length, ← t2.length]; exact z, fun p hp => c.at_ q (Stp.new hd hp) (hd.new hp) (new_lst hd hp (t1.app t2))⟩
theorem uop_add : UOp X (binaryOp .Add) uAdd := uop_of fun pins s σ H x y v u Q ux uy M R I rx ry r1 r2 hd q c => by
  have gen := fun q => uAdd_lists I rx ry r1 r2 hd q c
  cases ux <;> cases uy <;> first
    | exact gen q
    | skip
  · exact op_add pins s σ H x y v u Q I rx ry ⟨_, _, rep_int r1, rep_int r2, c.here q hd mk_int⟩
  · exact op_add_str pins s σ H x y v u Q I rx ry ⟨_, _, rep_str r1, rep_str r2, q.1, c.here q.2 hd mk_str⟩
  · obtain ⟨p1, vs, rfl, h1, t1⟩ := rep_tup r1
    obtain ⟨p2, ws, rfl, h2, t2⟩ := rep_tup r2
    obtain ⟨z, q⟩ := q
    refine op_catF pins s σ H _ _ v u Q I rx ry ⟨p1, p2, vs, ws, rfl, rfl, h1.sq, h2.sq, by rw [← t1.length, ← t2.length]; exact z, fun e => ?_, fun e1 e2 => ?_, fun e1 e2 p o ho hp => c.at_ q (Stp.new hd hp) (hd.new hp) (new_tup hd hp ho (t1.app t2))⟩
    · subst e
      refine c.here q hd (mk_tup h2 ?_)
      have := t1.app t2
      simpa using this
    · subst e2
      refine c.here q hd (mk_tup h1 ?_)
      have := t1.app t2
      simpa using this
  · obtain ⟨z, q⟩ := q
    exact gen ⟨_, _, rfl, rfl, z, q⟩

/-! ### * -/
def uMul : O2
  | .int i, .int j, M, R => CMul i j ∧ R (.int (i * j)) M
  | _, _, _, _ => False
theorem reps {K : PySem.W.Frag} {M : Mp} {H : Hp} {us : List U} {vs : List V} (h : RepVs K M H us vs) : ∀ n : Nat, RepVs K M H (List.replicate n us).flatten (List.replicate n vs).flatten
  | 0 => .nil
  | n + 1 => by
    rw [List.replicate_succ, List.replicate_succ, List.flatten_cons, List.flatten_cons]
    exact h.app (reps h n)

/-! ### order -/
def Scal : U → Bool
  | .non => true | .bl _ => true | .int _ => true | .str _ => true
  | _ => false
/-- what == may be asked of -/
def EqOk (x y : U) : Prop := (match x, y with
  | .non, .non => True | .non, .int _ => True | .int _, .non => True | .non, .bl _ => True | .bl _, .non => True | .non, .str _ => True | .str _, .non => True
  | .int _, .int _ => True | .bl _, .bl _ => True | .str _, .str _ => True
  | .int _, .str _ => True | .str _, .int _ => True | .bl _, .str _ => True | .str _, .bl _ => True
  | .tup _, .tup [] => True
  | x, y => Fit x ∧ Fit y)
def uEq : O2 := fun x y M R => EqOk (rs M x) (rs M y) ∧ R (.bl (eqU (rs M x) (rs M y))) M
def uNe : O2 := fun x y M R => EqOk (rs M x) (rs M y) ∧ R (.bl (!eqU (rs M x) (rs M y))) M

theorem eqU_scal {x y : U} {vx vy : V} {K : PySem.W.Frag} {M : Mp} {H : Hp} (r1 : RepV K M H x vx) (r2 : RepV K M H y vy) (hs : scal vx vy = true) (h1 : Scal x = true) (h2 : Scal y = true) : decide (vx = vy) = eqU x y := by
  cases x <;> simp [Scal] at h1 <;> cases y <;> simp [Scal] at h2 <;> simp only [RepV] at r1 r2 <;> subst r1 r2 <;> first
    | (simp [scal] at hs; done)
    | (simp [eqU]; done)
    | (simp only [eqU]; rw [Bool.eq_iff_iff]; simp)
theorem shaped_of {u : U} (h : Fit u) : SeqAt.shaped (pdT u) = true := by
  unfold SeqAt.shaped
  rw [canLay_pd u h.1, dep_pd]
  have := h.2
  simp only [Bool.true_and, decide_eq_true_eq]
  omega
/-- the two ways of == over what Fit says -/
theorem eq_run {pins : List (Addr × Obj)} {s : Shared} {σ : Stt} {H : Hp} {x y : V} {v u : Value} {ux uy : U} {M : Mp} (I : Inv X pins σ H s) (rx : RelV x v) (ry : RelV y u) (r1 : RepV X.K M H ux x) (r2 : RepV X.K M H uy y) (hd : RepM X.K M H)
    (h1 : Fit (rs M ux)) (h2 : Fit (rs M uy)) : ∃ as bs, Reads s.heap v (pdT (rs M ux)) as ∧ Reads s.heap u (pdT (rs M uy)) bs := by
  obtain ⟨as, q1⟩ := Dp.reads I _ x v (dp_rs hd r1 h1.1) rx
  obtain ⟨bs, q2⟩ := Dp.reads I _ y u (dp_rs hd r2 h2.1) ry
  exact ⟨as, bs, q1, q2⟩
theorem rs_scal {M : Mp} {u : U} (h : Scal (rs M u) = true) : rs M u = u := by
  cases u with
  | ref a =>
    cases q : M a with
    | none => simp [rs, q]
    | some o => cases o <;> simp [rs, q, Scal] at h ⊢
  | _ => rfl
theorem rs_tup {M : Mp} {u : U} {us : List U} (h : rs M u = .tup us) : u = .tup us := by
  cases u with
  | ref a =>
    cases q : M a with
    | none => simp [rs, q] at h
    | some o => cases o <;> simp [rs, q] at h
  | _ => exact h
inductive EqWay (x y : U) : Prop where
  | scal (a : Scal x = true) (b : Scal y = true) (c : ∀ K M H vx vy, RepV K M H x vx → RepV K M H y vy → L2.scal vx vy = true)
  | empty (us : List U) (a : x = .tup us) (b : y = .tup [])
  | fit (a : Fit x) (b : Fit y)
theorem EqOk.way {x y : U} (h : EqOk x y) : EqWay x y := by
  unfold EqOk at h
  cases x with
  | tup us =>
    cases y with
    | tup ws =>
      cases ws with
      | nil => exact .empty us rfl rfl
      | cons w ws => exact .fit h.1 h.2
    | _ => exact .fit h.1 h.2
  | non => cases y <;> first | exact .fit h.1 h.2 | exact .scal rfl rfl fun K M H vx vy q1 q2 => by { simp only [RepV] at q1 q2; subst q1 q2; rfl }
  | bl b => cases y <;> first | exact .fit h.1 h.2 | exact .scal rfl rfl fun K M H vx vy q1 q2 => by { simp only [RepV] at q1 q2; subst q1 q2; rfl }
  | int i => cases y <;> first | exact .fit h.1 h.2 | exact .scal rfl rfl fun K M H vx vy q1 q2 => by { simp only [RepV] at q1 q2; subst q1 q2; rfl }
  | str z => cases y <;> first | exact .fit h.1 h.2 | exact .scal rfl rfl fun K M H vx vy q1 q2 => by { simp only [RepV] at q1 q2; subst q1 q2; rfl }
  | _ => exact .fit h.1 h.2

theorem uop_mul : UOp X (binaryOp .Mult) uMul := op_imp op_mul fun x y H Q ⟨ux, uy, M, R, r1, r2, hd, q, c⟩ => by
  cases ux <;> cases uy <;> first | exact q.elim | skip
  exact ⟨_, _, rep_int r1, rep_int r2, q.1, c.here q.2 hd mk_int⟩
theorem eqU_empty (us : List U) : eqU (.tup us) (.tup []) = us.isEmpty := by
  cases us <;> simp [eqU, eqUs]
theorem isEmpty_eq {us : List U} {vs : List V} {its : List Value} {K : PySem.W.Frag} {M : Mp} {H : Hp} (r : RepVs K M H us vs) (q : Vals vs its) : ((List.range (min its.toArray.size (#[] : Array Value).size)).all (fun _ => true) && its.toArray.size == (#[] : Array Value).size) = us.isEmpty := by
  have e : its.length = us.length := by rw [← q.length, ← r.length]
  cases us <;> cases its <;> simp at e ⊢
theorem uop_eq (hu : X.A.units + 64 < cLine) : UOp X (compareOp .Eq) uEq := uop_of fun pins s σ H x y v u Q ux uy M R I rx ry r1 r2 hd ⟨ok, q⟩ c => by
  cases ok.way with
  | scal a b z =>
    have e1 := rs_scal a
    have e2 := rs_scal b
    rw [e1, e2] at q z
    rw [e1] at a
    rw [e2] at b
    refine op_eq pins s σ H x y v u Q I rx ry ⟨z _ _ _ _ _ r1 r2, ?_⟩
    rw [eqU_scal r1 r2 (z _ _ _ _ _ r1 r2) a b]
    exact c.here q hd mk_bl
  | empty us a b =>
    have e1 := rs_tup a
    have e2 := rs_tup b
    subst e1 e2
    obtain ⟨p1, vs, rfl, h1, t1⟩ := rep_tup r1
    obtain ⟨p2, ws, rfl, h2, t2⟩ := rep_tup r2
    rw [t2.nil_inv] at h2
    cases rx
    cases ry
    obtain ⟨its, k1, i1, _⟩ := I.tuple h1.sq
    obtain ⟨its2, k2, i2, _⟩ := I.tuple h2.sq
    cases k2
    refine SeqAt.eq_tupleAt (e := fun _ => true) i1 i2 (by omega) (fun j _ h => absurd h (by simp)) ⟨.bl _, H, I, rfl, ?_⟩
    rw [show ([] : List Value).toArray = #[] from rfl, isEmpty_eq t1 k1]
    simp only [rs, eqU_empty] at q
    exact c.here q hd mk_bl
  | fit a b =>
    obtain ⟨as, bs, q1, q2⟩ := eq_run I rx ry r1 r2 hd a b
    refine SeqAt.compareEq_shaped q1 q2 (shaped_of a) (shaped_of b) hu ⟨.bl _, H, I, rfl, ?_⟩
    rw [eqv_pd _ _ a.1 b.1]
    exact c.here q hd mk_bl
theorem uop_ne (hu : X.A.units + 64 < cLine) : UOp X (compareOp .NotEq) uNe := uop_of fun pins s σ H x y v u Q ux uy M R I rx ry r1 r2 hd ⟨ok, q⟩ c => by
  cases ok.way with
  | scal a b z =>
    have e1 := rs_scal a
    have e2 := rs_scal b
    rw [e1, e2] at q z
    rw [e1] at a
    rw [e2] at b
    refine op_ne pins s σ H x y v u Q I rx ry ⟨z _ _ _ _ _ r1 r2, ?_⟩
    rw [eqU_scal r1 r2 (z _ _ _ _ _ r1 r2) a b]
    exact c.here q hd mk_bl
  | empty us a b =>
    have e1 := rs_tup a
    have e2 := rs_tup b
    subst e1 e2
    obtain ⟨p1, vs, rfl, h1, t1⟩ := rep_tup r1
    obtain ⟨p2, ws, rfl, h2, t2⟩ := rep_tup r2
    rw [t2.nil_inv] at h2
    cases rx
    cases ry
    obtain ⟨its, k1, i1, _⟩ := I.tuple h1.sq
    obtain ⟨its2, k2, i2, _⟩ := I.tuple h2.sq
    cases k2
    refine SeqAt.RcNeAt.tuples (e := fun _ => true) i1 i2 (by omega) (fun j _ h => absurd h (by simp)) X.prog X.w _ _ ⟨.bl _, H, I, rfl, ?_⟩
    rw [show ([] : List Value).toArray = #[] from rfl, isEmpty_eq t1 k1]
    simp only [rs, eqU_empty] at q
    exact c.here q hd mk_bl
  | fit a b =>
    obtain ⟨as, bs, q1, q2⟩ := eq_run I rx ry r1 r2 hd a b
    refine SeqAt.compareNe_shaped q1 q2 (shaped_of a) (shaped_of b) hu ⟨.bl _, H, I, rfl, ?_⟩
    rw [eqv_pd _ _ a.1 b.1]
    exact c.here q hd mk_bl

/-! ### < and its kin -/
def uCmp (fi : Int → Int → Bool) (fs : Str → Str → Bool) : O2
  | .int i, .int j, M, R => R (.bl (fi i j)) M
  | .str a, .str b, M, R => R (.bl (fs a b)) M
  | _, _, _, _ => False
def strLt (a b : Str) : Bool := decide (a.cps.toList < b.cps.toList)
def uLt : O2
  | .int i, .int j, M, R => R (.bl (decide (i < j))) M
  | .str a, .str b, M, R => R (.bl (strLt a b)) M
  | .tup a, .tup b, M, R => Fit (.tup a) ∧ Fit (.tup b) ∧ ∃ k, ltUs a b = some k ∧ R (.bl k) M
  | _, _, _, _ => False
def uLe : O2 := uCmp (fun i j => decide (i ≤ j)) fun a b => !strLt b a
def uGt : O2 := uCmp (fun i j => decide (j < i)) fun a b => strLt b a
def uGe : O2 := uCmp (fun i j => decide (j ≤ i)) fun a b => !strLt a b
theorem uop_cmp {op : CmpOp} {fi : Int → Int → Bool} {fs : Str → Str → Bool} (h1 : OpR X (compareOp op) (rI0 fun i j => .bl (fi i j)))
    (h2 : OpR X (compareOp op) (fun x y H Q => ∃ i j, x = .str i ∧ y = .str j ∧ Q (.bl (fs i j)) H)) : UOp X (compareOp op) (uCmp fi fs) := uop_of fun pins s σ H x y v u Q ux uy M R I rx ry r1 r2 hd q c => by
  cases ux <;> cases uy <;> first | exact q.elim | skip
  · exact h1 pins s σ H x y v u Q I rx ry ⟨_, _, rep_int r1, rep_int r2, c.here q hd mk_bl⟩
  · exact h2 pins s σ H x y v u Q I rx ry ⟨_, _, rep_str r1, rep_str r2, c.here q hd mk_bl⟩
theorem uop_le : UOp X (compareOp .LtE) uLe := uop_cmp op_le op_le_str
theorem uop_gt : UOp X (compareOp .Gt) uGt := uop_cmp op_gt op_gt_str
theorem uop_ge : UOp X (compareOp .GtE) uGe := uop_cmp op_ge op_ge_str
theorem uop_lt (hu : X.A.units + 64 < cLine) : UOp X (compareOp .Lt) uLt := uop_of fun pins s σ H x y v u Q ux uy M R I rx ry r1 r2 hd q c => by
  cases ux <;> cases uy <;> first | exact q.elim | skip
  · exact op_lt pins s σ H x y v u Q I rx ry ⟨_, _, rep_int r1, rep_int r2, c.here q hd mk_bl⟩
  · exact op_lt_str pins s σ H x y v u Q I rx ry ⟨_, _, rep_str r1, rep_str r2, c.here q hd mk_bl⟩
  · obtain ⟨a, b, k, e, q⟩ := q
    obtain ⟨as, bs, q1, q2⟩ := eq_run (ux := .tup _) (uy := .tup _) I rx ry r1 r2 hd a b
    have := rcLt_data 60 _ _ X.A s v u as bs k (by rw [dep_pd]; exact a.2) q1 q2 (canLay_pd _ a.1) (canLay_pd _ b.1) (lt_pd _ _ a.1 b.1 k (by simp only [rs, ltU]; exact e)) (by omega)
    exact this X.prog X.w _ _ ⟨.bl k, H, I, rfl, c.here q hd mk_bl⟩

/-! ### is -/
def isNonU : U → Bool
  | .non => true
  | _ => false
def uIs : O2
  | .bl a, .bl b, M, R => R (.bl (a == b)) M
  | x, .non, M, R => R (.bl (isNonU x)) M
  | _, _, _, _ => False
def uIsNot : O2
  | .bl a, .bl b, M, R => R (.bl (!(a == b))) M
  | x, .non, M, R => R (.bl (!isNonU x)) M
  | _, _, _, _ => False
theorem isNon_rep {K : PySem.W.Frag} {M : Mp} {H : Hp} {u : U} {v : V} (r : RepV K M H u v) : decide (v = .non) = isNonU u := by
  cases u <;> unfold RepV at r <;> first
    | (subst r; simp [isNonU]; done)
    | (obtain ⟨a, vs, e, _⟩ := r; subst e; simp [isNonU]; done)
theorem uop_is : UOp X (compareOp .Is) uIs := uop_of fun pins s σ H x y v u Q ux uy M R I rx ry r1 r2 hd q c => by
  cases uy with
  | non =>
    have q' : R (.bl (isNonU ux)) M := by cases ux <;> exact q
    exact op_isN1 pins s σ H x y v u Q I rx ry ⟨rep_non r2, by rw [isNon_rep r1]; exact c.here q' hd mk_bl⟩
  | bl b =>
    cases ux <;> first | exact q.elim | skip
    exact op_isBl pins s σ H x y v u Q I rx ry ⟨_, _, rep_bl r1, rep_bl r2, by rw [← Bool.beq_eq_decide_eq]; exact c.here q hd mk_bl⟩
  | _ => cases ux <;> exact q.elim
theorem uop_isNot : UOp X (compareOp .IsNot) uIsNot := uop_of fun pins s σ H x y v u Q ux uy M R I rx ry r1 r2 hd q c => by
  cases uy with
  | non =>
    have q' : R (.bl (!isNonU ux)) M := by cases ux <;> exact q
    exact op_notN1 pins s σ H x y v u Q I rx ry ⟨rep_non r2, by rw [isNon_rep r1]; exact c.here q' hd mk_bl⟩
  | bl b =>
    cases ux <;> first | exact q.elim | skip
    exact op_notBl pins s σ H x y v u Q I rx ry ⟨_, _, rep_bl r1, rep_bl r2, by rw [← Bool.beq_eq_decide_eq]; exact c.here q hd mk_bl⟩
  | _ => cases ux <;> exact q.elim
end
end Pu

/-! Pu, part 7: membership, subscripts, slices. -/
namespace Pu
open PySem PySem.Spec PyProof.Rows L2 PySem.SeqAt

/-- a key of a dict -/
def keyOf : U → Option Key
  | .int i => some (.inl i)
  | .str x => some (.inr x)
  | _ => none
theorem keyOf_rep {K : PySem.W.Frag} {M : Mp} {H : Hp} {u : U} {v : V} {k : Key} (r : RepV K M H u v) (e : keyOf u = some k) : v = kV k := by
  cases u <;> simp only [keyOf, Option.some.injEq, reduceCtorEq] at e
  · subst e; rw [rep_int r]; rfl
  · subst e; rw [rep_str r]; rfl
def lookU : List Key → List U → Key → Option U
  | k :: ks, u :: us, q => if k = q then some u else lookU ks us q
  | _, _, _ => none
theorem look_rep {K : PySem.W.Frag} {M : Mp} {H : Hp} : ∀ {ks : List Key} {us : List U} {vs : List V} (q : Key), ks.length = vs.length → RepVs K M H us vs →
    (∀ u, lookU ks us q = some u → ∃ v, valV (ks.zip vs) q = some v ∧ RepV K M H u v) ∧ (valV (ks.zip vs) q).isSome = (lookU ks us q).isSome
  | [], us, [], q, _, r => by simp [lookU, valV_nil]
  | k :: ks, [], v :: vs, q, l, r => by have := r.length; simp at this
  | k :: ks, u :: us, v :: vs, q, l, r => by
    obtain ⟨v', vs', e, h1, h2⟩ := r.uncons
    cases e
    by_cases h : k = q
    · rw [List.zip_cons_cons, valV_pos (p := (k, v)) h]
      simp only [lookU, h, if_true]
      exact ⟨fun w hw => ⟨v, rfl, by cases hw; exact h1⟩, rfl⟩
    · rw [List.zip_cons_cons, valV_neg (p := (k, v)) h]
      simp only [lookU, h, if_false]
      exact look_rep q (by simpa using l) h2
/-- a dict's content: keys, values -/
def dctOf (M : Mp) : U → Option (List Key × List U)
  | .dct ks us => some (ks, us)
  | .ref a => match M a with
    | some (.dct ks us) => some (ks, us)
    | _ => none
  | _ => none
theorem dctOf_rep {K : PySem.W.Frag} {M : Mp} {H : Hp} (hd : RepM K M H) {u : U} {v : V} {ks : List Key} {us : List U} (r : RepV K M H u v) (e : dctOf M u = some (ks, us)) : ∃ a vs, v = .ref a ∧ H a = some (.dK (ks.zip vs)) ∧ ks.length = vs.length ∧ RepVs K M H us vs := by
  cases u with
  | dct k2 u2 =>
    simp only [dctOf, Option.some.injEq, Prod.mk.injEq] at e
    obtain ⟨rfl, rfl⟩ := e
    unfold RepV at r
    obtain ⟨a, vs, e, f, _, l, q⟩ := r
    exact ⟨a, vs, e, f, l, q⟩
  | ref a =>
    cases q : M a with
    | none => simp [dctOf, q] at e
    | some o =>
      cases o with
      | lst ws => simp [dctOf, q] at e
      | hid P => simp [dctOf, q] at e
      | dct k2 u2 =>
        simp only [dctOf, q, Option.some.injEq, Prod.mk.injEq] at e
        obtain ⟨rfl, rfl⟩ := e
        obtain ⟨vs, h, l, t⟩ := hd a _ q
        exact ⟨a, vs, rep_ref r, h, l, t⟩
  | _ => simp [dctOf] at e
/-- a list's or a tuple's content -/
def seqOf (M : Mp) : U → Option (List U)
  | .tup us => some us
  | u => lstOf M u
theorem seqOf_rep {X : Cx} {M : Mp} {H : Hp} (hd : RepM X.K M H) {u : U} {v : V} (r : RepV X.K M H u v) {us : List U} (e : seqOf M u = some us) : ∃ a vs, v = .ref a ∧ (SqL X.K H a vs ∨ SqT X.K H a vs) ∧ RepVs X.K M H us vs := by
  cases u with
  | tup ws =>
    simp only [seqOf, Option.some.injEq] at e
    subst e
    obtain ⟨a, vs, e, f, q⟩ := rep_tup r
    exact ⟨a, vs, e, .inr f.sq, q⟩
  | _ =>
    obtain ⟨a, vs, e, f, q⟩ := lstOf_sq hd r (show lstOf M _ = some us from e)
    exact ⟨a, vs, e, .inl f, q⟩
/-- written dicts with text keys: what stands at a key -/
abbrev WD := Addr → Option (List (Str × U))
/-- a written dict, as it stands -/
structure WdOk (X : Cx) (d : Addr) (kvs : List (Str × U)) : Prop where
  at_ : ∃ es n, KDict X.K X.w d es n
  look : ∀ z, ∃ o, PySem.W.nsIn X.K d z = some o ∧ match kvs.lookup z with
    | some u => ∃ u0 v, o = some u0 ∧ RelV v u0 ∧ ∀ M H, RepV X.K M H u v
    | none => o = none
def WdsOk (X : Cx) (W : WD) : Prop := ∀ d kvs, W d = some kvs → WdOk X d kvs

section
variable {X : Cx} {W : WD}
/-! ### in -/
def InOk (x : U) (us : List U) : Prop := (Scal x = true ∧ us.all Scal = true) ∨ (Fit x ∧ Fit (.tup us))
def uIn (W : WD) (neg : Bool) : O2
  | .str x, .str z, M, R => ∃ c, x = ⟨#[c]⟩ ∧ R (.bl (if neg then !decide (c ∈ z.cps.toList) else decide (c ∈ z.cps.toList))) M
  | x, y, M, R => (∃ us, seqOf M y = some us ∧ InOk x us ∧ R (.bl (if neg then !us.any fun z => eqU z x else us.any fun z => eqU z x)) M) ∨
    (∃ ks us k, dctOf M y = some (ks, us) ∧ keyOf x = some k ∧ R (.bl (if neg then !(lookU ks us k).isSome else (lookU ks us k).isSome)) M) ∨
    (∃ d kvs z, y = .ref d ∧ W d = some kvs ∧ x = .str z ∧ R (.bl (if neg then !(kvs.lookup z).isSome else (kvs.lookup z).isSome)) M)
theorem eqV_rep {K : PySem.W.Frag} {M : Mp} {H : Hp} {u w : U} {v x : V} (r1 : RepV K M H u v) (r2 : RepV K M H w x) (h1 : Scal u = true) (h2 : Scal w = true) : eqV v x = eqU u w := by
  cases u <;> simp [Scal] at h1 <;> cases w <;> simp [Scal] at h2 <;> simp only [RepV] at r1 r2 <;> subst r1 r2 <;> simp [eqV, eqU]
theorem flat_rep {K : PySem.W.Frag} {M : Mp} {H : Hp} {u : U} {v : V} (r : RepV K M H u v) (h : Scal u = true) : flatV v = true := by
  cases u <;> simp [Scal] at h <;> simp only [RepV] at r <;> subst r <;> rfl
theorem flats_rep {K : PySem.W.Frag} {M : Mp} {H : Hp} : ∀ {us : List U} {vs : List V}, RepVs K M H us vs → us.all Scal = true → vs.all flatV = true
  | [], _, r, _ => by rw [r.nil_inv]; rfl
  | u :: us, _, r, h => by
    obtain ⟨v, q, e, h1, h2⟩ := r.uncons
    subst e
    simp only [List.all_cons, Bool.and_eq_true] at h ⊢
    exact ⟨flat_rep h1 h.1, flats_rep h2 h.2⟩
theorem inV_rep {K : PySem.W.Frag} {M : Mp} {H : Hp} {w : U} {x : V} (rw' : RepV K M H w x) (hw : Scal w = true) : ∀ {us : List U} {vs : List V}, RepVs K M H us vs → us.all Scal = true → inV x vs = us.any fun z => eqU z w
  | [], _, r, _ => by rw [r.nil_inv]; rfl
  | u :: us, _, r, h => by
    obtain ⟨v, q, e, h1, h2⟩ := r.uncons
    subst e
    simp only [List.all_cons, Bool.and_eq_true] at h
    have ih := inV_rep rw' hw h2 h.2
    unfold inV at ih ⊢
    simp only [List.any_cons, ih, eqV_rep h1 rw' h.1 hw]
theorem any_pd (x : U) (hx : okU x = true) : ∀ us : List U, okUs us = true → ((pdTs us).any fun z => PyData.eqv z (pdT x)) = us.any fun z => eqU z x
  | [], _ => by simp [pdTs]
  | u :: us, h => by
    unfold okUs at h
    rw [Bool.and_eq_true] at h
    simp only [pdTs, List.any_cons, any_pd x hx us h.2, eqv_pd u x h.1 hx]
theorem in_seq {neg : Bool} {pins : List (Addr × Obj)} {s : Shared} {σ : Stt} {H : Hp} {x y : V} {v u : Value} {Q : VK} {ux uy : U} {M : Mp} {R : UK} (hu : X.A.units + 65 < cLine) (I : Inv X pins σ H s) (rx : RelV x v) (ry : RelV y u) (r1 : RepV X.K M H ux x) (r2 : RepV X.K M H uy y) (hd : RepM X.K M H)
    {us : List U} (e : seqOf M uy = some us) (ok : InOk ux us) (q : R (.bl (if neg then !us.any fun z => eqU z ux else us.any fun z => eqU z ux)) M) (c : Cl X.K M H R Q) : wpAny (model X.prog X.w) X.A (compareOp (if neg then .NotIn else .In) v u) (EP X pins σ Q) X.xe s := by
  obtain ⟨a, vs, rfl, hs, t⟩ := seqOf_rep hd r2 e
  rcases ok with ⟨k1, k2⟩ | ⟨k1, k2⟩
  · cases neg with
    | true => exact op_notIn_seq pins s σ H x _ v u Q I rx ry ⟨a, vs, rfl, hs, flat_rep r1 k1, flats_rep t k2, by rw [inV_rep r1 k1 t k2]; exact c.here q hd mk_bl⟩
    | false => exact op_in_seq pins s σ H x _ v u Q I rx ry ⟨a, vs, rfl, hs, flat_rep r1 k1, flats_rep t k2, by rw [inV_rep r1 k1 t k2]; exact c.here q hd mk_bl⟩
  · obtain ⟨as, q1⟩ := Dp.reads I _ x v (dp_of _ _ r1 k1.1) rx
    have k3 : okUs us = true := by simpa [okU] using k2.1
    have k4 : PyData.canLayAll0 (pdTs us) = true := canLays_pd us k3
    have room : X.A.units + 1 + min (PyData.depthAll (pdTs us)) (pdT ux).depth < cLine := by
      have := Nat.min_le_right (PyData.depthAll (pdTs us)) (pdT ux).depth
      rw [dep_pd] at this
      have := k1.2
      rw [dep_pd]
      omega
    cases ry
    rcases hs with hs | hs
    · obtain ⟨bs, q2⟩ := Dp.reads I (.list (pdTs us)) _ _ (.lst hs (dps_of us vs t k3)) rfl
      cases neg with
      | true => exact SeqAt.notIn_list_reads q2 q1 k4 (canLay_pd _ k1.1) room ⟨.bl _, H, I, rfl, by rw [any_pd _ k1.1 us k3]; exact c.here q hd mk_bl⟩
      | false => exact SeqAt.in_list_reads q2 q1 k4 (canLay_pd _ k1.1) room ⟨.bl _, H, I, rfl, by rw [any_pd _ k1.1 us k3]; exact c.here q hd mk_bl⟩
    · obtain ⟨bs, q2⟩ := Dp.reads I (.tuple (pdTs us)) _ _ (.tup hs (dps_of us vs t k3)) rfl
      cases neg with
      | true => exact SeqAt.notIn_tuple_reads q2 q1 k4 (canLay_pd _ k1.1) room ⟨.bl _, H, I, rfl, by rw [any_pd _ k1.1 us k3]; exact c.here q hd mk_bl⟩
      | false => exact SeqAt.in_tuple_reads q2 q1 k4 (canLay_pd _ k1.1) room ⟨.bl _, H, I, rfl, by rw [any_pd _ k1.1 us k3]; exact c.here q hd mk_bl⟩
theorem uop_in (neg : Bool) (hW : WdsOk X W) (hu : X.A.units + 65 < cLine) : UOp X (compareOp (if neg then .NotIn else .In)) (uIn W neg) := uop_of fun pins s σ H x y v u Q ux uy M R I rx ry r1 r2 hd q c => by
  have gen : ((∃ us, seqOf M uy = some us ∧ InOk ux us ∧ R (.bl (if neg then !us.any fun z => eqU z ux else us.any fun z => eqU z ux)) M) ∨
    (∃ ks us k, dctOf M uy = some (ks, us) ∧ keyOf ux = some k ∧ R (.bl (if neg then !(lookU ks us k).isSome else (lookU ks us k).isSome)) M) ∨
    (∃ d kvs z, uy = .ref d ∧ W d = some kvs ∧ ux = .str z ∧ R (.bl (if neg then !(kvs.lookup z).isSome else (kvs.lookup z).isSome)) M)) → wpAny (model X.prog X.w) X.A (compareOp (if neg then .NotIn else .In) v u) (EP X pins σ Q) X.xe s := by
    rintro (⟨us, e, ok, q⟩ | ⟨ks, us, k, e, ek, q⟩ | ⟨d, kvs, z, rfl, e, rfl, qq⟩)
    · exact in_seq hu I rx ry r1 r2 hd e ok q c
    · obtain ⟨a, vs, rfl, hh, l, t⟩ := dctOf_rep hd r2 e
      have g : DGet H a x (valV (ks.zip vs) k) := by rw [keyOf_rep r1 ek]; exact DGet.k hh
      have e2 := (look_rep k l t).2
      cases ry
      cases neg with
      | true => exact d_notIn (by omega) I g rx fun s3 I3 => ⟨.bl _, H, I3, rfl, by rw [e2]; exact c.here q hd mk_bl⟩
      | false => exact d_in (by omega) I g rx fun s3 I3 => ⟨.bl _, H, I3, rfl, by rw [e2]; exact c.here q hd mk_bl⟩
    · obtain ⟨⟨es, n, D⟩, lk⟩ := hW _ _ e
      obtain ⟨o, e1, e2⟩ := lk z
      have e3 : o.isSome = (kvs.lookup z).isSome := by
        cases h : kvs.lookup z with
        | none => rw [h] at e2; rw [e2]; rfl
        | some w => rw [h] at e2; obtain ⟨u0, v0, e2, _⟩ := e2; rw [e2]; rfl
      cases neg with
      | true => exact op_notIn_kd D pins s σ H x y v u Q I rx ry ⟨z, o, rep_str r1, rep_ref r2, e1, by rw [e3]; exact c.here qq hd mk_bl⟩
      | false => exact op_in_kd D pins s σ H x y v u Q I rx ry ⟨z, o, rep_str r1, rep_ref r2, e1, by rw [e3]; exact c.here qq hd mk_bl⟩
  cases ux <;> cases uy <;> first
    | exact gen q
    | skip
  obtain ⟨cc, rfl, q⟩ := q
  cases neg with
  | true => exact op_notInS pins s σ H x y v u Q I rx ry ⟨cc, _, rep_str r1, rep_str r2, c.here q hd mk_bl⟩
  | false => exact op_inS pins s σ H x y v u Q I rx ry ⟨cc, _, rep_str r1, rep_str r2, c.here q hd mk_bl⟩
end
end Pu

/-! Pu, part 8: subscripts, slices. -/
namespace Pu
open PySem PySem.Spec PyProof.Rows L2 PySem.SeqAt

section rev
variable {prog : Program} {w : World} {A : Around} {E : Value → Shared → Prop} {s : Shared}
theorem adjust_back (n : Nat) : Builtin.Slice.sliceAdjust none none (-1) (n : Int) = ((n : Int) - 1, -1) := rfl
theorem places_back (n : Nat) : Builtin.Slice.slicePlaces ((n : Int) - 1) (-1) (-1) = n := by
  unfold Builtin.Slice.slicePlaces
  rw [if_neg (by decide)]
  by_cases h : (n : Int) - 1 > -1
  · rw [if_pos h, show -(-1 : Int) = 1 from rfl, Int.ediv_one]
    omega
  · rw [if_neg h]
    omega
theorem applied_back {sl : Addr} {t : Tok} {n : Nat} {Q : Int × Int × Nat → Shared → Prop} (hs : s.heap.IsSliceOf sl .none .none (.int (-1) t)) (h : Q ((n : Int) - 1, -1, n) s) :
    wpAny (model prog w) A (Builtin.Slice.sliceApplied (.ref sl) (pure (n : Int))) Q E s := by
  obtain ⟨ob, h1, _, h3⟩ := hs
  unfold Builtin.Slice.sliceApplied Builtin.Slice.sliceFields
  refine wpAny_bind (wpAny_bind (wpAny_field h1 h3 (x := .none) rfl (wpAny_bind (wpAny_field h1 h3 (x := .none) rfl (wpAny_bind (wpAny_field h1 h3 (x := .int (-1) t) rfl (wpAny_pure ?_)))))))
  refine wpAny_bind (slicePart_int ?_)
  show wpAny _ _ (if ((-1 : Int) == 0) = true then _ else _) _ _ s
  rw [if_neg (by decide)]
  refine wpAny_bind (slicePart_none (wpAny_bind (slicePart_none (wpAny_bind (wpAny_pure ?_)))))
  show wpAny _ _ (match Builtin.Slice.sliceAdjust none none (-1) (n : Int) with | (a, b) => pure (a, (-1 : Int), Builtin.Slice.slicePlaces a b (-1))) _ _ s
  rw [adjust_back]
  show wpAny _ _ (pure ((n : Int) - 1, (-1 : Int), Builtin.Slice.slicePlaces ((n : Int) - 1) (-1) (-1))) _ _ s
  rw [places_back]
  exact wpAny_pure h
theorem filterMap_some {α β : Type} {f : α → Option β} {k : α → β} : ∀ {l : List α}, (∀ x ∈ l, f x = some (k x)) → l.filterMap f = l.map k
  | [], _ => rfl
  | x :: l, h => by
    rw [List.filterMap_cons, h x List.mem_cons_self, List.map_cons, filterMap_some fun y hy => h y (List.mem_cons_of_mem _ hy)]
theorem map_getD {α : Type} (d : α) (l : List α) : (List.range l.length).map (fun k => l.getD k d) = l := by
  apply List.ext_getElem
  · simp
  · intro i h1 h2
    simp [List.getD_eq_getElem?_getD, List.getElem?_eq_getElem h2]
theorem pick_back (xs : Array Value) : ((List.range xs.size).filterMap fun (k : Nat) => xs[(((xs.size : Nat) : Int) - 1 + (k : Int) * -1).toNat]?).toArray = xs.toList.reverse.toArray := by
  congr 1
  have e : (List.range xs.size).filterMap (fun (k : Nat) => xs[(((xs.size : Nat) : Int) - 1 + (k : Int) * -1).toNat]?) = (List.range xs.size).map fun k => xs.toList.reverse.getD k .none := by
    apply filterMap_some
    intro k hk
    have hk' : k < xs.size := List.mem_range.mp hk
    have e1 : (((xs.size : Nat) : Int) - 1 + (k : Int) * -1).toNat = xs.size - 1 - k := by omega
    rw [e1, Array.getElem?_eq_getElem (by omega), List.getD_eq_getElem?_getD, List.getElem?_reverse (by simpa using hk')]
    simp [Array.getElem?_eq_getElem (show xs.size - 1 - k < xs.size by omega)]
  have e2 := map_getD Value.none xs.toList.reverse
  rw [List.length_reverse, Array.length_toList] at e2
  rw [e, e2]
theorem tup_back {t sl : Addr} {xs : Array Value} {tk : Tok} {Q : Value → Shared → Prop} (ht : IsTup s.heap t xs) (hs : s.heap.IsSliceOf sl .none .none (.int (-1) tk))
    (h : Q (.ref s.heap.objs.size) { s with heap := s.heap.push { cls := .type "tuple", data := .seq xs.toList.reverse.toArray } }) (hz : xs.size ≤ sizeLine) : wpAny (model prog w) A (getItem (.ref t) (.ref sl)) Q E s := by
  have hz2 : sizeOk (.seq xs.toList.reverse.toArray) := by
    show xs.toList.reverse.toArray.size ≤ sizeLine
    simpa using hz
  obtain ⟨ob, h1, h2, h3⟩ := id hs
  have hT : s.TypeIs (.ref sl) "slice" := ⟨ob, h1, h2⟩
  unfold getItem
  try with_reducible refine wpAny_holding ?_
  first | refine wpAny_bind (wpAny_pure ?_) | skip
  refine wpAny_bind (wpAny_sequenceKey ht.typeIs (by decide) ?_)
  refine wpAny_bind (wpAny_callSpecial?_slot (name := Str.ofString "__getitem__") ht.typeIs PyProof.Rows.slot_tuple_getitem
    (wpAny_call_entry PyProof.Rows.slot_tuple_getitem ht.typeIs PyProof.Rows.entry_tuple_getitem ?_ (PyProof.Rows.args_tuple_getitem _ _)))
  show wpAny _ _ (Builtin.Tuple.tupleItemsOf (.ref t) >>= _) _ _ s
  refine wpAny_bind (tupleItemsOf_ ht ?_)
  refine wpAny_bind (wpAny_typeOf hT ?_)
  rw [if_pos (by decide)]
  refine wpAny_bind (applied_back (n := xs.size) hs ?_)
  show wpAny _ _ (if (((xs.size : Nat) : Int) - 1 == 0 && (-1 : Int) == 1 && xs.size == xs.size) = true then _ else _) _ _ s
  rw [if_neg (by simp), pick_back]
  first
    | exact wpAny_bind (m := Builtin.Tuple.tupleExact _) (wpAny_newObj_type (wpAny_pure ⟨_, rfl, wpAny_pure h⟩) hz2)
    | exact wpAny_bind (m := Builtin.Tuple.tupleExact _) (wpAny_newObj_type (wpAny_bind (wpAny_pure (wpAny_pure ⟨_, rfl, wpAny_pure h⟩))) hz2)
    | exact wpAny_bind (wpAny_bind (m := Builtin.Tuple.tupleExact _) (wpAny_newObj_type (wpAny_pure (wpAny_pure ⟨_, rfl, wpAny_pure h⟩)) hz2))
    | exact wpAny_bind (wpAny_bind (m := Builtin.Tuple.tupleExact _) (wpAny_newObj_type (wpAny_pure ⟨_, rfl, wpAny_pure h⟩) hz2))
end rev

/-! ### x[i] -/
section
variable {X : Cx} {W : WD} {g : Gd} {a b e : Expr} {ta tb te : WE} {pos p2 : Pos}
def UIx (X : Cx) (o : O2) : Prop := IxR X (liftO X.K o)
def dItem (ks : List Key) (us : List U) (y : U) (M : Mp) (R : UK) : Prop := ∃ k u, keyOf y = some k ∧ lookU ks us k = some u ∧ R u M
def lItem (us : List U) (y : U) (M : Mp) (R : UK) : Prop := ∃ i u, y = .int i ∧ atI us i = some u ∧ R u M
def uIdx (W : WD) : O2
  | .tup us, y, M, R => lItem us y M R
  | .lst us, y, M, R => lItem us y M R
  | .dct ks us, y, M, R => dItem ks us y M R
  | .str z, y, M, R => z.length ≤ sizeLine ∧ ∃ i c, y = .int i ∧ atI z.cps.toList i = some c ∧ R (.str ⟨#[c]⟩) M
  | .ref d, y, M, R => match M d with
    | some (.lst us) => lItem us y M R
    | some (.dct ks us) => dItem ks us y M R
    | some (.hid _) => False
    | none => ∃ kvs z u, W d = some kvs ∧ y = .str z ∧ kvs.lookup z = some u ∧ R u M
  | _, _, _, _ => False
theorem at_rep {K : PySem.W.Frag} {M : Mp} {H : Hp} {us : List U} {vs : List V} {i : Int} {u : U} (r : RepVs K M H us vs) (e : atI us i = some u) : ∃ v, atI vs i = some v ∧ RepV K M H u v := by
  unfold atI at e ⊢
  rw [← r.length]
  cases q : ixN us.length i with
  | none => rw [q] at e; cases e
  | some j =>
    rw [q] at e
    exact r.get e
theorem uix (hW : WdsOk X W) (hu : X.A.units + 65 < cLine) : UIx X (uIdx W) := by
  intro value slice pins s σ H x y v u Q I rx ry ⟨ux, uy, M, R, r1, r2, hd, q, c⟩ hs
  have seq : ∀ us, seqOf M ux = some us → lItem us uy M R → wpAny (model X.prog X.w) X.A (subscriptTail value slice v u) (EP X pins σ Q) X.xe s := fun us e ⟨i, w, e1, e2, qq⟩ => by
    obtain ⟨p, vs, rfl, h, t⟩ := seqOf_rep hd r1 e
    subst e1
    obtain ⟨vv, e3, r3⟩ := at_rep t e2
    rcases h with h | h
    · exact ix_list value slice pins s σ H _ _ v u Q I rx ry ⟨p, vs, i, vv, rfl, rep_int r2, h, e3, c.here qq hd r3⟩ hs
    · exact ix_tup value slice pins s σ H _ _ v u Q I rx ry ⟨p, vs, i, vv, rfl, rep_int r2, h, e3, c.here qq hd r3⟩ hs
  have dct : ∀ ks us, dctOf M ux = some (ks, us) → dItem ks us uy M R → wpAny (model X.prog X.w) X.A (subscriptTail value slice v u) (EP X pins σ Q) X.xe s := fun ks us e ⟨k, w, e1, e2, q⟩ => by
    obtain ⟨p, vs, rfl, hh, l, t⟩ := dctOf_rep hd r1 e
    obtain ⟨vv, e3, r3⟩ := (look_rep k l t).1 w e2
    have gg : DGet H p y (some vv) := by rw [keyOf_rep r2 e1, ← e3]; exact DGet.k hh
    cases rx
    exact tail_any (dict_typeIs I gg) PySem.F.slot_dict_getitem.lookup (d_getItem (by omega) I gg ry fun w' s3 I3 rw' => ⟨vv, H, I3, rw', c.here q hd r3⟩) hs
  cases ux with
  | tup us => exact seq us rfl q
  | lst us => exact seq us rfl q
  | dct ks us => exact dct ks us rfl q
  | str z =>
    obtain ⟨hz, i, cc, rfl, e, q⟩ := q
    exact ix_str value slice pins s σ H x y v u Q I rx ry ⟨z, i, cc, rep_str r1, rep_int r2, hz, e, c.here q hd mk_str⟩ hs
  | ref d =>
    cases m : M d with
    | some o =>
      cases o with
      | lst us => simp only [uIdx, m] at q; exact seq us (by simp [seqOf, lstOf, m]) q
      | dct ks us => simp only [uIdx, m] at q; exact dct ks us (by simp [dctOf, m]) q
      | hid P => simp [uIdx, m] at q
    | none =>
      simp only [uIdx, m] at q
      obtain ⟨kvs, z, w, e1, rfl, e2, q⟩ := q
      obtain ⟨⟨es, n, D⟩, lk⟩ := hW _ _ e1
      obtain ⟨o, e3, e4⟩ := lk z
      rw [e2] at e4
      obtain ⟨u0, v0, rfl, rv, rr⟩ := e4
      exact ix_kdict value slice pins s σ H x y v u Q I rx ry ⟨d, z, v0, rep_ref r1, rep_str r2, ⟨es, n, u0, D.at_, D.lit, e3, rv⟩, c.here q hd (rr _ _)⟩ hs
  | _ => exact q.elim
theorem j_idx {o : O2} (hr : UIx X o) (ha : JE X g a ta) (hb : JE X g b tb) (hs : PlainIx b) : JE X g (.Subscript a b pos) (wBin o ta tb) := pe_imp (pe_ix hr ha hb hs) fun σ H Q h => two h

/-! ### x[lo:hi] -/
def cutU {α : Type} (xs : List α) (lo hi : Option Int) : List α := (xs.drop (HT.sIx xs.length 0 lo)).take (HT.sIx xs.length xs.length hi - HT.sIx xs.length 0 lo)
def cutStr (z : Str) (lo hi : Option Int) : Str := ⟨(cutU z.cps.toList lo hi).toArray⟩
theorem cutStr_eq (z : Str) (lo hi : Option Int) : cutStr z lo hi = cutS z lo hi := by
  unfold cutStr cutS cutU Str.length
  simp
theorem cut_rep {K : PySem.W.Frag} {M : Mp} {H : Hp} {us : List U} {vs : List V} (r : RepVs K M H us vs) (lo hi : Option Int) : RepVs K M H (cutU us lo hi) (cutV vs lo hi) := by
  unfold cutU cutV
  rw [r.length]
  exact (r.drop _).take _
theorem cutV_whole {vs : List V} {lo hi : Option Int} (h : HT.sIx vs.length 0 lo = 0 ∧ HT.sIx vs.length vs.length hi = vs.length) : cutV vs lo hi = vs := by
  unfold cutV
  rw [h.1, h.2]
  simp
def uSl : U → Option Int → Option Int → Mp → UK → Prop
  | .tup us, lo, hi, M, R => R (.tup (cutU us lo hi)) M
  | .str z, lo, hi, M, R => z.length ≤ sizeLine ∧ R (.str (cutStr z lo hi)) M
  | u, lo, hi, M, R => ∃ us, lstOf M u = some us ∧ R (.lst (cutU us lo hi)) M
def liftSl (K : PySem.W.Frag) (o : U → Option Int → Option Int → Mp → UK → Prop) : V → Option Int → Option Int → Hp → VK → Prop := fun x lo hi H Q => ∃ ux M R, RepV K M H ux x ∧ RepM K M H ∧ o ux lo hi M R ∧ Cl K M H R Q
theorem sl_tupF : SlR X (fun x lo hi H Q => ∃ a xs, x = .ref a ∧ SqT X.K H a xs ∧
    (HT.sIx xs.length 0 lo = 0 ∧ HT.sIx xs.length xs.length hi = xs.length → Q (.ref a) H) ∧ (¬ (HT.sIx xs.length 0 lo = 0 ∧ HT.sIx xs.length xs.length hi = xs.length) → ∀ p o, o.dict = none → H p = none → Q (.ref p) (upd H p (.frz o (.tup (cutV xs lo hi)))))) := by
  intro pins s σ H x v vl vu lo hi sl Q I rx hs pl pu h
  obtain ⟨a, xs, rfl, hx, q1, q2⟩ := h
  cases rx
  obtain ⟨its, r, ht, hz⟩ := I.tuple hx
  have hlen : its.toArray.size = xs.length := by rw [List.size_toArray]; exact r.length.symm
  refine ⟨"tuple", _, PyProof.Rows.slot_tuple_getitem.lookup, ht.typeIs, ?_⟩
  by_cases hw : HT.sIx xs.length 0 lo = 0 ∧ HT.sIx xs.length xs.length hi = xs.length
  · exact getItem_tuple_whole ht hs pl pu (by rw [hlen]; exact hw) ⟨.ref a, H, I, rfl, q1 hw⟩
  · have q2' := q2 hw
    refine HT.getItem_tuple_cut ht hs pl pu (by rw [hlen]; exact hw) ?_ (by rw [hlen]; exact hz)
    rw [hlen]
    exact laidF I ((r.drop (HT.sIx xs.length 0 lo)).take (HT.sIx xs.length xs.length hi - HT.sIx xs.length 0 lo)) (Nat.le_trans (cutV_length xs lo hi) hz) q2'
theorem usl : SlR X (liftSl X.K uSl) := by
  intro pins s σ H x v vl vu lo hi sl Q I rx hs pl pu ⟨ux, M, R, r1, hd, q, c⟩
  have lst : (∃ us, lstOf M ux = some us ∧ R (.lst (cutU us lo hi)) M) → ∃ T id, typeLookup (.type T) "__getitem__" = pure (some (.builtin id)) ∧ s.TypeIs v T ∧ wpAny (model X.prog X.w) X.A (getItem v (.ref sl)) (EP X pins σ Q) X.xe s := fun ⟨us, e, q⟩ => by
    obtain ⟨p, vs, rfl, h, t⟩ := lstOf_sq hd r1 e
    exact sl_list pins s σ H _ v vl vu lo hi sl Q I rx hs pl pu ⟨p, vs, rfl, h, fun p hp => c.at_ q (Stp.new hd hp) (hd.new hp) (new_lst hd hp (cut_rep t lo hi))⟩
  cases ux with
  | tup us =>
    obtain ⟨p, vs, rfl, h, t⟩ := rep_tup r1
    refine sl_tupF pins s σ H _ v vl vu lo hi sl Q I rx hs pl pu ⟨p, vs, rfl, h.sq, fun hw => ?_, fun _ p o ho hp => c.at_ q (Stp.new hd hp) (hd.new hp) (new_tup hd hp ho (cut_rep t lo hi))⟩
    refine c.here q hd (mk_tup h ?_)
    have := cut_rep t lo hi
    rw [cutV_whole hw] at this
    exact this
  | str z =>
    obtain ⟨hz, q⟩ := q
    exact sl_str pins s σ H x v vl vu lo hi sl Q I rx hs pl pu ⟨z, rep_str r1, hz, by rw [← cutStr_eq]; exact c.here q hd mk_str⟩
  | _ => exact lst q
/-- a bound that is told, or none -/
def wOpt (t : Option WE) : Sg → Mp → (Option Int → Mp → Prop) → Prop := fun su M R => match t with
  | none => R none M
  | some t => t su M fun u M1 => ∃ i, u = .int i ∧ R (some i) M1
def wSl (te : WE) (tl th : Option WE) : WE := fun su M R => te su M fun x M1 => wOpt tl su M1 fun lo M2 => wOpt th su M2 fun hi M3 => uSl x lo hi M3 R
def JO (X : Cx) (g : Gd) : Option Expr → Option WE → Prop
  | none, none => True
  | some e, some t => JE X g e t
  | _, _ => False
theorem po_of {lo : Option Expr} {tl : Option WE} (h : JO X g lo tl) : PO X lo (fun σ H Q => ∃ su M R, At X.K g su M σ H ∧ wOpt tl su M R ∧ ∀ o M' H', R o M' → Stp M H M' H' → RepM X.K M' H' → Q o H') := by
  cases lo with
  | none =>
    cases tl with
    | none => exact ⟨fun pins s σ H Q I ⟨su, M, R, a, q, c⟩ => po_none.run pins s σ H Q I (c none M H q (Stp.refl _ _) a.hd)⟩
    | some t => exact h.elim
  | some e =>
    cases tl with
    | none => exact h.elim
    | some t =>
      refine ⟨fun pins s σ H Q I ⟨su, M, R, a, q, c⟩ => (po_some (te := liftE X.K g t) h).run pins s σ H Q I ⟨su, M, _, a, q, fun u M1 v H1 ⟨i, e, q1⟩ s1 d1 r1 => ?_⟩⟩
      subst e
      exact ⟨i, rep_int r1, c _ _ _ q1 s1 d1⟩
theorem j_slice {lo hi : Option Expr} {tl th : Option WE} (he : JE X g e te) (hl : JO X g lo tl) (hu : JO X g hi th) : JE X g (.Subscript e (.Slice lo hi none p2) pos) (wSl te tl th) :=
  pe_imp (pe_slice usl he (po_of hl) (po_of hu)) fun σ H Q ⟨su, M, R, a, h, c⟩ => ⟨su, M, _, a, h, fun x M1 v H1 q1 s1 d1 r1 => ⟨su, M1, _, a.go s1 d1, q1, fun l M2 H2 q2 s2 d2 => ⟨su, M2, _, (a.go s1 d1).go s2 d2, q2, fun o M3 H3 q3 s3 d3 =>
    ⟨x, M3, R, (r1.step s2).step s3, d3, q3, ((c.go s1).go s2).go s3⟩⟩⟩⟩

/-! ### x[::-1] -/
def uBack : O1
  | .tup us, M, R => R (.tup us.reverse) M
  | u, M, R => ∃ us, lstOf M u = some us ∧ R (.lst us.reverse) M
theorem pe_back {k : Nat} {p1 p3 p4 : Pos} {t : TE} (he : PE X e t) : PE X (.Subscript e (.Slice none none (some (.UnaryOp .USub (.Constant (.int 1) k p1) p3)) p4) pos) (fun σ H Q => t σ H fun x H1 =>
    (∃ a xs, x = .ref a ∧ SqL X.K H1 a xs ∧ ∀ p, H1 p = none → Q (.ref p) (upd H1 p (.lst xs.reverse))) ∨ (∃ a xs, x = .ref a ∧ SqT X.K H1 a xs ∧ ∀ p o, o.dict = none → H1 p = none → Q (.ref p) (upd H1 p (.frz o (.tup xs.reverse))))) := by
  refine ⟨fun pins s σ H Q I h => ?_⟩
  refine Subscript_ (thn (he.run pins s σ H _ I h) fun v s1 ⟨x, H1, I1, r1, q1⟩ => ?_)
  have hst : PO X (some (.UnaryOp .USub (.Constant (.int 1) k p1) p3)) (tPart (tUn (rU fun i => .int (-i)) (tC (.int 1)))) := po_some (pe_un un_neg pe_int)
  refine wpAny_Slice (thn (po_none.run pins s1 σ H1 (fun o H2 => o = none ∧ H2 = H1) I1 ⟨rfl, rfl⟩) fun vl s2 ⟨l, H2, I2, pl, el, e2⟩ => ?_)
  subst el e2
  refine thn (po_none.run pins s2 σ H2 (fun o H3 => o = none ∧ H3 = H2) I2 ⟨rfl, rfl⟩) fun vu s3 ⟨u, H3, I3, pu, eu, e3⟩ => ?_
  subst eu e3
  refine thn (hst.run pins s3 σ H3 (fun o H4 => o = some (-1) ∧ H4 = H3) I3 ⟨1, rfl, -1, rfl, rfl, rfl⟩) fun vs s4 ⟨o, H4, I4, ps, eo, e4⟩ => ?_
  subst eo e4
  have I5 : Inv X pins σ H4 { s4 with heap := s4.heap.push { cls := .type "slice", data := .fields #[vl, vu, vs] } } := I4.kept (t' := s4.toks) fun b ob q => Heap.get?_push_of_some _ q
  rcases q1 with ⟨a, xs, rfl, hx, q⟩ | ⟨a, xs, rfl, hx, q⟩
  · obtain rfl : v = Value.ref a := r1
    obtain ⟨its, r, ht, hz⟩ := I5.list hx
    have hlen := r.length
    refine tail_any (ops := [.ref a, .ref s4.heap.objs.size]) ht.isList.typeIs (PySem.slot_list_getitem.lookup) ?_ (by with_unfolding_all rfl)
    refine wpAny_getItem_list_slice ht.isList (Heap.IsSliceOf.new _ vl vu vs) pl pu ps (by decide) ?_ (by rw [List.size_toArray]; omega)
    rw [PySem.W.krv_pick]
    refine ⟨.ref _, _, I5.laid (t' := s4.toks) (o := .lst xs.reverse) (fun b ob q => Heap.get?_push_of_some _ q) (Nat.le_refl _) ?_, rfl, q _ I5.fresh⟩
    exact ⟨by simpa using hz, _, 0, r.reverse, Heap.get?_push_size _ rfl⟩
  · obtain rfl : v = Value.ref a := r1
    obtain ⟨its, r, ht, hz⟩ := I5.tuple hx
    have hlen := r.length
    refine tail_any (ops := [.ref a, .ref s4.heap.objs.size]) ht.typeIs (PyProof.Rows.slot_tuple_getitem.lookup) ?_ (by with_unfolding_all rfl)
    cases pl
    cases pu
    cases ps
    refine tup_back ht (Heap.IsSliceOf.new _ _ _ _) ?_ (by rw [List.size_toArray]; omega)
    exact laidF I5 r.reverse (by simpa using hz) q
theorem j_back {k : Nat} {p1 p3 p4 : Pos} (he : JE X g e te) : JE X g (.Subscript e (.Slice none none (some (.UnaryOp .USub (.Constant (.int 1) k p1) p3)) p4) pos) (wUn uBack te) :=
  pe_imp (pe_back he) fun σ H Q ⟨su, M, R, a, h, c⟩ => ⟨su, M, _, a, h, fun x M1 v H1 q s1 d1 r1 => by
    have lst : (∃ us, lstOf M1 x = some us ∧ R (.lst us.reverse) M1) → (∃ a xs, v = .ref a ∧ SqL X.K H1 a xs ∧ ∀ p, H1 p = none → Q (.ref p) (upd H1 p (.lst xs.reverse))) := fun ⟨us, e, q⟩ => by
      obtain ⟨p, vs, rfl, h, t⟩ := lstOf_sq d1 r1 e
      exact ⟨p, vs, rfl, h, fun p hp => c.at_ q (s1.trans (Stp.new d1 hp)) (d1.new hp) (new_lst d1 hp t.rev)⟩
    cases x with
    | tup us =>
      obtain ⟨p, vs, rfl, h, t⟩ := rep_tup r1
      exact .inr ⟨p, vs, rfl, h.sq, fun p o ho hp => c.at_ q (s1.trans (Stp.new d1 hp)) (d1.new hp) (new_tup d1 hp ho t.rev)⟩
    | _ => exact .inl (lst q)⟩
end
end Pu

/-! Pu, part 9: built-ins by values. -/
namespace Pu
open PySem PySem.Spec PyProof.Rows L2 PySem.SeqAt

/-- a built-in's answer, by values -/
abbrev OC := List U → Mp → UK → Prop
def liftC (K : PySem.W.Frag) (o : OC) : List V → Hp → VK → Prop := fun xs H Q => ∃ us M R, RepVs K M H us xs ∧ RepM K M H ∧ o us M R ∧ Cl K M H R Q
def UCal (X : Cx) (f : Value) (o : OC) : Prop := CallR X f (liftC X.K o)
def wCB (o : OC) (t : WA) : WE := fun su M R => t su M fun us M1 => o us M1 R
theorem call_imp {X : Cx} {f : Value} {r r' : List V → Hp → VK → Prop} (h : CallR X f r) (i : ∀ xs H Q, r' xs H Q → r xs H Q) : CallR X f r' := fun pins s σ H xs us Q I rx q => h pins s σ H xs us Q I rx (i _ _ _ q)
theorem RepVs.one {K : PySem.W.Frag} {M : Mp} {H : Hp} {u : U} {xs : List V} (h : RepVs K M H [u] xs) : ∃ v, xs = [v] ∧ RepV K M H u v := by
  obtain ⟨v, r, e, h1, h2⟩ := h.uncons
  rw [h2.nil_inv] at e
  exact ⟨v, e, h1⟩
theorem RepVs.two {K : PySem.W.Frag} {M : Mp} {H : Hp} {u w : U} {xs : List V} (h : RepVs K M H [u, w] xs) : ∃ v y, xs = [v, y] ∧ RepV K M H u v ∧ RepV K M H w y := by
  obtain ⟨v, r, e, h1, h2⟩ := h.uncons
  obtain ⟨y, e2, h3⟩ := h2.one
  exact ⟨v, y, by rw [e, e2], h1, h3⟩
section
variable {X : Cx} {g : Gd} {e : Expr} {es : List Expr} {tr : WA} {o : OC} {x : Str} {p pos : Pos} {id : String}
theorem j_callB (hc : UCal X (.builtin id) o) (hg : Gl X x) (hm : X.mg x = none) (hv : bootBuiltins x = some (.builtin id)) (ha : JA X g (e :: es) tr) (hn : x ≠ "__name__") (hdb : (x == ("__debug__" : Str)) = false)
    (he : starEach (e :: es) X.env = (false, eval e X.env) :: starEach es X.env) (hpl : (backTo pos (starEach es X.env)).any (·.1) = false) : JE X g (.Call (.Name x p) (e :: es) [] pos) (wCB o tr) :=
  pe_imp (pe_callB hc hg hm hv ha hn hdb he hpl) fun σ H Q ⟨su, M, R, a, h, c⟩ => ⟨su, M, _, a, h, fun us M1 vs H1 q s1 d1 r1 => ⟨us, M1, R, r1, d1, q, c.go s1⟩⟩
theorem j_callTy (hc : UCal X (.type id) o) (hg : Gl X x) (hm : X.mg x = none) (hv : bootBuiltins x = some (.type id)) (ha : JA X g (e :: es) tr) (hn : x ≠ "__name__") (hdb : (x == ("__debug__" : Str)) = false)
    (he : starEach (e :: es) X.env = (false, eval e X.env) :: starEach es X.env) (hpl : (backTo pos (starEach es X.env)).any (·.1) = false) : JE X g (.Call (.Name x p) (e :: es) [] pos) (wCB o tr) :=
  pe_imp (pe_callTy hc hg hm hv ha hn hdb he hpl) fun σ H Q ⟨su, M, R, a, h, c⟩ => ⟨su, M, _, a, h, fun us M1 vs H1 q s1 d1 r1 => ⟨us, M1, R, r1, d1, q, c.go s1⟩⟩
/-- a type's name as a value -/
theorem j_ty {n : String} (hg : Gl X x) (hm : X.mg x = none) (hv : bootBuiltins x = some (.type n)) (hn : x ≠ "__name__") (hdb : (x == ("__debug__" : Str)) = false) : JE X g (.Name x pos) (wC (.ty n)) :=
  pe_imp (pe_bltn (v := .ty n) hg hm hv rfl hn hdb) fun σ H Q ⟨su, M, R, a, h, c⟩ => c.here h a.hd mk_ty

/-! ### len -/
def lenU (M : Mp) : U → Option Nat
  | .str z => if z.length ≤ sizeLine then some z.length else none
  | .dct ks _ => some ks.length
  | .tup us => some us.length
  | .lst us => some us.length
  | .ref a => match M a with
    | some (.lst us) => some us.length
    | some (.dct ks _) => some ks.length
    | some (.hid _) => none
    | none => none
  | _ => none
def uLen : OC := fun us M R => ∃ u n, us = [u] ∧ lenU M u = some n ∧ R (.int (n : Int)) M
theorem call_or {f : Value} {r r' : List V → Hp → VK → Prop} (h : CallR X f r) (h' : CallR X f r') : CallR X f (fun xs H Q => r xs H Q ∨ r' xs H Q) := fun pins s σ H xs us Q I rx q => q.elim (h pins s σ H xs us Q I rx) (h' pins s σ H xs us Q I rx)
theorem ucal_len : UCal X (.builtin "len") uLen := call_imp (call_or call_len call_lenD) fun xs H Q ⟨us, M, R, r, hd, ⟨u, n, eu, en, q⟩, c⟩ => by
  subst eu
  obtain ⟨v, rfl, r1⟩ := r.one; replace r := r1
  have seq : ∀ ws, seqOf M u = some ws → n = ws.length → (∃ x n, [v] = [x] ∧ LenV X.K x H n ∧ Q (.int n) H) := fun ws e en => by
    obtain ⟨a, vs, rfl, h, t⟩ := seqOf_rep hd r e
    refine ⟨_, vs.length, rfl, ?_, ?_⟩
    · rcases h with h | h
      · exact .inl ⟨vs, h, rfl⟩
      · exact .inr ⟨vs, h, rfl⟩
    · rw [← t.length, ← en]
      exact c.here q hd mk_int
  have dct : ∀ ks ws, dctOf M u = some (ks, ws) → n = ks.length → (∃ a kvs, [v] = [V.ref a] ∧ H a = some (.dK kvs) ∧ Q (.int kvs.length) H) := fun ks ws e en => by
    obtain ⟨a, vs, rfl, h, l, t⟩ := dctOf_rep hd r e
    refine ⟨a, _, rfl, h, ?_⟩
    rw [List.length_zip, ← l, Nat.min_self, ← en]
    exact c.here q hd mk_int
  cases u with
  | str z =>
    simp only [lenU] at en
    split at en
    · rename_i hz
      cases en
      rw [rep_str r]
      exact .inl ⟨_, _, rfl, ⟨hz, rfl⟩, c.here q hd mk_int⟩
    · cases en
  | tup ws => exact .inl (seq ws rfl (by simpa [lenU] using en.symm))
  | lst ws => exact .inl (seq ws rfl (by simpa [lenU] using en.symm))
  | dct ks ws => exact .inr (dct ks ws rfl (by simpa [lenU] using en.symm))
  | ref a =>
    cases m : M a with
    | none => simp [lenU, m] at en
    | some oo =>
      cases oo with
      | lst ws => exact .inl (seq ws (by simp [seqOf, lstOf, m]) (by simpa [lenU, m] using en.symm))
      | dct ks ws => exact .inr (dct ks ws (by simp [dctOf, m]) (by simpa [lenU, m] using en.symm))
      | hid P => simp [lenU, m] at en
  | _ => simp [lenU] at en

/-! ### int, max, min, sum, any, all -/
def uInt1 : OC := fun us M R => (∃ i, us = [.int i] ∧ R (.int i) M) ∨ ∃ k, us = [.bl k] ∧ R (.int (if k then 1 else 0)) M
theorem ucal_int : UCal X (.type "int") uInt1 := call_imp call_int1 fun xs H Q ⟨us, M, R, r, hd, q, c⟩ => by
  rcases q with ⟨i, rfl, q⟩ | ⟨k, rfl, q⟩
  · obtain ⟨v, rfl, r1⟩ := r.one; replace r := r1
    rw [rep_int r]
    exact .inl ⟨i, rfl, c.here q hd mk_int⟩
  · obtain ⟨v, rfl, r1⟩ := r.one; replace r := r1
    rw [rep_bl r]
    exact .inr ⟨k, rfl, c.here q hd mk_int⟩
def intsU (M : Mp) (u : U) (ns : List Int) : Prop := lstOf M u = some (ns.map .int)
def blsU (M : Mp) (u : U) (bs : List Bool) : Prop := lstOf M u = some (bs.map .bl)
theorem ints_rep {M : Mp} {H : Hp} (hd : RepM X.K M H) {u : U} {v : V} (r : RepV X.K M H u v) {ns : List Int} (e : intsU M u ns) : ∃ a, v = .ref a ∧ SqL X.K H a (ns.map V.int) := by
  obtain ⟨a, vs, e1, h, t⟩ := lstOf_sq hd r e
  refine ⟨a, e1, ?_⟩
  have : vs = ns.map V.int := by
    have q := t.vmap (f := fun u => match u with | .int i => V.int i | _ => V.non) fun w hw v hv => by
      obtain ⟨i, _, rfl⟩ := List.mem_map.mp hw
      exact rep_int hv
    rw [q, List.map_map]
    rfl
  rwa [this] at h
theorem bls_rep {M : Mp} {H : Hp} (hd : RepM X.K M H) {u : U} {v : V} (r : RepV X.K M H u v) {ns : List Bool} (e : blsU M u ns) : ∃ a, v = .ref a ∧ SqL X.K H a (ns.map V.bl) := by
  obtain ⟨a, vs, e1, h, t⟩ := lstOf_sq hd r e
  refine ⟨a, e1, ?_⟩
  have : vs = ns.map V.bl := by
    have q := t.vmap (f := fun u => match u with | .bl i => V.bl i | _ => V.non) fun w hw v hv => by
      obtain ⟨i, _, rfl⟩ := List.mem_map.mp hw
      exact rep_bl hv
    rw [q, List.map_map]
    rfl
  rwa [this] at h
theorem strs_rep {M : Mp} {H : Hp} {us : List Str} {vs : List V} (t : RepVs X.K M H (us.map .str) vs) : vs = us.map V.str := by
  have q := t.vmap (f := fun u => match u with | .str i => V.str i | _ => V.non) fun w hw v hv => by
    obtain ⟨i, _, rfl⟩ := List.mem_map.mp hw
    exact rep_str hv
  rw [q, List.map_map]
  rfl
theorem reps_of_strs {M : Mp} {H : Hp} : ∀ us : List Str, RepVs X.K M H (us.map .str) (us.map V.str)
  | [] => .nil
  | u :: us => .cons mk_str (reps_of_strs us)
theorem reps_of_ints {M : Mp} {H : Hp} : ∀ us : List Int, RepVs X.K M H (us.map .int) (us.map V.int)
  | [] => .nil
  | u :: us => .cons mk_int (reps_of_ints us)
def uSum : OC := fun us M R => ∃ u ns, us = [u] ∧ intsU M u ns ∧ R (.int ns.sum) M
theorem ucal_sum (hc : X.calm = true) : UCal X (.builtin "sum") uSum := call_imp (cr_sum hc) fun xs H Q ⟨us, M, R, r, hd, ⟨u, ns, eu, en, q⟩, c⟩ => by
  subst eu
  obtain ⟨v, rfl, r1⟩ := r.one; replace r := r1
  obtain ⟨a, rfl, h⟩ := ints_rep hd r en
  exact ⟨a, ns, rfl, h, c.here q hd mk_int⟩
def uMax : OC := fun us M R => (∃ u ns, us = [u] ∧ intsU M u ns ∧ ns ≠ [] ∧ ∀ m, m ∈ ns → (∀ y, y ∈ ns → y ≤ m) → R (.int m) M) ∨ ∃ i j : Int, us = [.int i, .int j] ∧ R (.int (max i j)) M
def uMin : OC := fun us M R => (∃ u ns, us = [u] ∧ intsU M u ns ∧ ns ≠ [] ∧ ∀ m, m ∈ ns → (∀ y, y ∈ ns → m ≤ y) → R (.int m) M) ∨ ∃ i j : Int, us = [.int i, .int j] ∧ R (.int (min i j)) M
theorem ucal_max (hc : X.calm = true) : UCal X (.builtin "max") uMax := call_imp (call_or (cr_max hc) (call_max2 hc)) fun xs H Q ⟨us, M, R, r, hd, q, c⟩ => by
  rcases q with ⟨u, ns, rfl, en, hn, q⟩ | ⟨i, j, rfl, q⟩
  · obtain ⟨v, rfl, r1⟩ := r.one; replace r := r1
    obtain ⟨a, rfl, h⟩ := ints_rep hd r en
    exact .inl ⟨a, ns, rfl, h, List.length_pos_iff.mpr hn, fun m h1 h2 => c.here (q m h1 h2) hd mk_int⟩
  · obtain ⟨v, w, rfl, r1, r2⟩ := r.two
    rw [rep_int r1, rep_int r2]
    refine .inr ⟨i, j, rfl, ?_⟩
    rw [show (if j > i then j else i) = max i j by split <;> omega]
    exact c.here q hd mk_int
theorem ucal_min (hc : X.calm = true) : UCal X (.builtin "min") uMin := call_imp (call_or (cr_min hc) (call_min2 hc)) fun xs H Q ⟨us, M, R, r, hd, q, c⟩ => by
  rcases q with ⟨u, ns, rfl, en, hn, q⟩ | ⟨i, j, rfl, q⟩
  · obtain ⟨v, rfl, r1⟩ := r.one; replace r := r1
    obtain ⟨a, rfl, h⟩ := ints_rep hd r en
    exact .inl ⟨a, ns, rfl, h, List.length_pos_iff.mpr hn, fun m h1 h2 => c.here (q m h1 h2) hd mk_int⟩
  · obtain ⟨v, w, rfl, r1, r2⟩ := r.two
    rw [rep_int r1, rep_int r2]
    refine .inr ⟨i, j, rfl, ?_⟩
    rw [show (if j < i then j else i) = min i j by split <;> omega]
    exact c.here q hd mk_int
def uAll : OC := fun us M R => ∃ u bs, us = [u] ∧ blsU M u bs ∧ R (.bl (bs.all fun b => b)) M
def uAny : OC := fun us M R => ∃ u bs, us = [u] ∧ blsU M u bs ∧ R (.bl (bs.any fun b => b)) M
theorem ucal_all (hc : X.calm = true) : UCal X (.builtin "all") uAll := call_imp (cr_all hc) fun xs H Q ⟨us, M, R, r, hd, ⟨u, bs, eu, en, q⟩, c⟩ => by
  subst eu
  obtain ⟨v, rfl, r1⟩ := r.one; replace r := r1
  obtain ⟨a, rfl, h⟩ := bls_rep hd r en
  exact ⟨a, bs, rfl, h, c.here q hd mk_bl⟩
theorem ucal_any (hc : X.calm = true) : UCal X (.builtin "any") uAny := call_imp (cr_any hc) fun xs H Q ⟨us, M, R, r, hd, ⟨u, bs, eu, en, q⟩, c⟩ => by
  subst eu
  obtain ⟨v, rfl, r1⟩ := r.one; replace r := r1
  obtain ⟨a, rfl, h⟩ := bls_rep hd r en
  exact ⟨a, bs, rfl, h, c.here q hd mk_bl⟩

/-! ### tuple, list -/
theorem call_tupleF : CallR X (.type "tuple") (fun xs H Q => ∃ p ys, xs = [.ref p] ∧ ((SqL X.K H p ys ∧ ∀ l o, o.dict = none → H l = none → Q (.ref l) (upd H l (.frz o (.tup ys)))) ∨ (SqT X.K H p ys ∧ Q (.ref p) H))) := by
  intro pins s σ H xs us Q I r h
  obtain ⟨p, ys, rfl, h⟩ := h
  obtain ⟨u, rfl, rx⟩ := vals1 r
  rcases h with ⟨hq, q⟩ | ⟨hq, q⟩
  · cases rx
    obtain ⟨its, r', pl, hz⟩ := I.list hq
    have hlen := r'.length
    refine call_tuple_list pl.isList (fun h' kp => ?_) (by simp only [List.size_toArray] <;> omega)
    have I1 : Inv X pins σ H { s with heap := h' } := I.kept (t' := s.toks) kp
    have I2 : Inv X pins σ (upd H h'.objs.size (.frz { cls := .type "tuple", data := .seq its.toArray } (.tup ys))) { s with heap := h'.push { cls := .type "tuple", data := .seq its.toArray } } :=
      I1.laid (t' := s.toks) (fun b o e => Heap.get?_push_of_some _ e) (Nat.le_refl _) (show ObjOk X.prog X.w _ _ _ (.frz _ (.tup ys)) from ⟨Heap.get?_push_size _ rfl, hz, its, r', IsTup.new _ _⟩)
    exact ⟨.ref h'.objs.size, _, I2, rfl, q _ _ rfl (I1.hok.fresh (Nat.le_refl _))⟩
  · exact call_tupleT pins s σ H _ _ Q I (.cons rx .nil) ⟨p, ys, rfl, hq, q⟩
def uTuple : OC := fun us M R => ∃ u ws, us = [u] ∧ seqOf M u = some ws ∧ R (.tup ws) M
theorem ucal_tuple : UCal X (.type "tuple") uTuple := call_imp call_tupleF fun xs H Q ⟨us, M, R, r, hd, ⟨u, ws, eu, en, q⟩, c⟩ => by
  subst eu
  obtain ⟨v, rfl, r1⟩ := r.one; replace r := r1
  have lst : lstOf M u = some ws → ∃ p ys, [v] = [V.ref p] ∧ ((SqL X.K H p ys ∧ ∀ l o, o.dict = none → H l = none → Q (.ref l) (upd H l (.frz o (.tup ys)))) ∨ (SqT X.K H p ys ∧ Q (.ref p) H)) := fun e => by
    obtain ⟨a, vs, rfl, h, t⟩ := lstOf_sq hd r e
    exact ⟨a, vs, rfl, .inl ⟨h, fun l o ho hl => c.at_ q (Stp.new hd hl) (hd.new hl) (new_tup hd hl ho t)⟩⟩
  cases u with
  | tup zs =>
    simp only [seqOf, Option.some.injEq] at en
    subst en
    obtain ⟨a, vs, rfl, f, t⟩ := rep_tup r
    exact ⟨a, vs, rfl, .inr ⟨f.sq, c.here q hd (mk_tup f t)⟩⟩
  | _ => exact lst (by simpa [seqOf] using en)
/-- list(..): a frozen one; a handle -/
def uList : OC := fun us M R => ∃ u ws, us = [u] ∧ seqOf M u = some ws ∧ R (.lst ws) M
def uListH : OC := fun us M R => ∃ u ws, us = [u] ∧ seqOf M u = some ws ∧ ∀ p, M p = none → R (.ref p) (put M p (.lst ws))
theorem ucal_list : UCal X (.type "list") uList := call_imp call_list_of fun xs H Q ⟨us, M, R, r, hd, ⟨u, ws, eu, en, q⟩, c⟩ => by
  subst eu
  obtain ⟨v, rfl, r1⟩ := r.one; replace r := r1
  obtain ⟨a, vs, rfl, h, t⟩ := seqOf_rep hd r en
  exact ⟨a, vs, rfl, h, fun l hl => c.at_ q (Stp.new hd hl) (hd.new hl) (new_lst hd hl t)⟩
theorem ucal_listH : UCal X (.type "list") uListH := call_imp call_list_of fun xs H Q ⟨us, M, R, r, hd, ⟨u, ws, eu, en, q⟩, c⟩ => by
  subst eu
  obtain ⟨v, rfl, r1⟩ := r.one; replace r := r1
  obtain ⟨a, vs, rfl, h, t⟩ := seqOf_rep hd r en
  exact ⟨a, vs, rfl, h, fun l hl => c.at_ (q l (hd.free hl)) (Stp.newH hl) (hd.putL (Stp.newH hl) t) mk_ref⟩

/-! ### isinstance -/
def tyN (M : Mp) : U → String
  | .non => "NoneType" | .bl _ => "bool" | .int _ => "int" | .str _ => "str" | .ty _ => "type"
  | .tup _ => "tuple" | .lst _ => "list" | .dct _ _ => "dict" | .pr _ => "pair"
  | .ref a => match M a with
    | some (.lst _) => "list" | some (.dct _ _) => "dict" | some (.hid _) => "list" | none => "object"
def isA (t n : String) : Bool := t == n || (t == "bool" && n == "int")
def tyOk (M : Mp) (u : U) (n : String) : Prop := (n = "int" ∨ n = "bool" ∨ n = "str" ∨ n = "list" ∨ n = "tuple" ∨ n = "dict") ∧ match u with
  | .ty _ => False
  | .pr _ => False
  | .ref a => (M a).isSome = true
  | _ => True
theorem tyx_of {M : Mp} {H : Hp} (hd : RepM X.K M H) {u : U} {v : V} (r : RepV X.K M H u v) {n : String} (k : tyOk M u n) : TyX X.K H v (.type (tyN M u)) := by
  cases u with
  | non => rw [rep_non r]; exact .base .non
  | bl b => rw [rep_bl r]; exact .base (.bl b)
  | int b => rw [rep_int r]; exact .base (.int b)
  | str b => rw [rep_str r]; exact .base (.str b)
  | ty n => exact k.2.elim
  | pr n => exact k.2.elim
  | tup us =>
    obtain ⟨a, vs, rfl, f, t⟩ := rep_tup r
    rcases f with ⟨⟨o, f, _⟩, _⟩ | ⟨o, its, m, e, h, _⟩
    · exact .fTuple f
    · exact .kTuple e h
  | lst us =>
    obtain ⟨a, vs, rfl, f, t⟩ := rep_lst r
    rcases f with ⟨f | ⟨o, f⟩, _⟩ | ⟨o, its, m, e, h, _⟩
    · exact .base (.lst f)
    · exact .base (.frz f)
    · exact .kList e h
  | dct ks us =>
    unfold RepV at r
    obtain ⟨a, vs, rfl, f, _⟩ := r
    exact .base (.dK f)
  | ref a =>
    rw [rep_ref r]
    cases m : M a with
    | none => have := k.2; simp [m] at this
    | some o =>
      cases o with
      | lst us =>
        obtain ⟨vs, h, _⟩ := hd a _ m
        simp only [tyN, m]
        exact .base (.lst h)
      | dct ks us =>
        obtain ⟨vs, h, _⟩ := hd a _ m
        simp only [tyN, m]
        exact .base (.dK h)
      | hid P =>
        obtain ⟨vs, h, _⟩ := hd a _ m
        simp only [tyN, m]
        exact .base (.lst h)
theorem kit_isA {M : Mp} {u : U} {n : String} (k : tyOk M u n) : PySem.W.kitOne X.K (.type (tyN M u)) (.type n) = some (isA (tyN M u) n) := by
  apply kit_ty
  have hn := k.1
  have t : tyN M u = "NoneType" ∨ tyN M u = "bool" ∨ tyN M u = "int" ∨ tyN M u = "str" ∨ tyN M u = "tuple" ∨ tyN M u = "list" ∨ tyN M u = "dict" := by
    cases u with
    | ref a =>
      cases m : M a with
      | none => have := k.2; simp [m] at this
      | some o => cases o <;> simp [tyN, m]
    | ty n => exact k.2.elim
    | pr n => exact k.2.elim
    | _ => simp [tyN]
  rcases t with e | e | e | e | e | e | e <;> rw [e] <;> rcases hn with h | h | h | h | h | h <;> subst h <;> decide +kernel
/-- isinstance(x, (T, ..)), the tuple a frozen value -/
def tysOf : List U → Option (List String)
  | [] => some []
  | .ty n :: r => (tysOf r).map (n :: ·)
  | _ => none
theorem tys_rep {M : Mp} {H : Hp} : ∀ {us : List U} {ns : List String} {vs : List V}, tysOf us = some ns → RepVs X.K M H us vs → Paired ClsV vs (ns.map Value.type)
  | [], ns, vs, e, r => by
    simp only [tysOf, Option.some.injEq] at e
    subst e
    rw [r.nil_inv]
    exact .nil
  | u :: us, ns, vs, e, r => by
    cases u <;> simp only [tysOf, Option.map_eq_some_iff, reduceCtorEq] at e
    obtain ⟨ns', e, rfl⟩ := e
    obtain ⟨v, vs', rfl, r1, r2⟩ := r.uncons
    unfold RepV at r1
    subst r1
    exact .cons (.ty _) (tys_rep e r2)
theorem kit_isAs {M : Mp} {u : U} : ∀ {ns : List String}, (∀ n ∈ ns, tyOk M u n) → PySem.W.kitAny X.K (.type (tyN M u)) (ns.map Value.type) = some (ns.any fun n => isA (tyN M u) n)
  | [], _ => kitAny_nil
  | n :: ns, h => by
    have ih := kit_isAs (u := u) (M := M) fun m hm => h m (List.mem_cons_of_mem _ hm)
    refine kitAny_cons (kit_isA (h n List.mem_cons_self)) (fun e => ?_) fun e => ?_
    · rw [List.any_cons, e, Bool.false_or]
      exact ih
    · rw [List.any_cons, e, Bool.true_or]
theorem call_isiS : CallR X (.builtin "isinstance") (fun xs H Q => ∃ (x : V) (tp : Addr) (cs : List V) (t : Value) (us : List Value) (b : Bool), xs = [x, .ref tp] ∧ SqT X.K H tp cs ∧ Paired ClsV cs us ∧ TyX X.K H x t ∧ PySem.W.kitAny X.K t us = some b ∧ Q (.bl b) H) := by
  intro pins s σ H xs us Q I r h
  obtain ⟨x, tp, cs, t, ws, b, rfl, hT, k, ty, e, q⟩ := h
  obtain ⟨u1, u2, rfl, r1, r2⟩ := vals2 r
  cases (show u2 = Value.ref tp from r2)
  obtain ⟨P, Z, p, hx⟩ := kit_of I r1 ty
  obtain ⟨its, rv, ⟨o, h1, h2, n, h3⟩, _⟩ := I.tuple hT
  have e3 := ClsV.all k rv
  subst e3
  obtain ⟨oc, od, dt, sl⟩ := o
  simp only at h2 h3
  subst h2 h3
  exact PySem.W.kia_tup Z I.kIn p h1 e hx fun tk => ⟨.bl b, H, I.tok tk, rfl, q⟩
def uIsi : OC := fun us M R => (∃ u n, us = [u, .ty n] ∧ tyOk M u n ∧ R (.bl (isA (tyN M u) n)) M) ∨ ∃ u ws ns, us = [u, .tup ws] ∧ tysOf ws = some ns ∧ ns ≠ [] ∧ (∀ n ∈ ns, tyOk M u n) ∧ R (.bl (ns.any fun n => isA (tyN M u) n)) M
theorem ucal_isi : UCal X (.builtin "isinstance") uIsi := call_imp (call_or call_isi call_isiS) fun xs H Q ⟨us, M, R, r, hd, q, c⟩ => by
  rcases q with ⟨u, n, rfl, k, q⟩ | ⟨u, ws, ns, rfl, e, hne, k, q⟩
  · obtain ⟨v, w, rfl, r1, r2⟩ := r.two
    obtain rfl : w = .ty n := by unfold RepV at r2; exact r2
    exact .inl ⟨v, .ty n, _, _, _, rfl, .ty n, tyx_of hd r1 k, kit_isA k, c.here q hd mk_bl⟩
  · obtain ⟨v, w, rfl, r1, r2⟩ := r.two
    obtain ⟨a, vs, rfl, f, t⟩ := rep_tup r2
    cases ns with
    | nil => exact absurd rfl hne
    | cons n ns => exact .inr ⟨v, a, vs, _, _, _, rfl, f.sq, tys_rep e t, tyx_of hd r1 (k n List.mem_cons_self), kit_isAs k, c.here q hd mk_bl⟩
end
end Pu

/-! Pu, part 10: what a for walks; comprehensions as expressions. -/
namespace Pu
open PySem PySem.Spec PyProof.Rows L2 PySem.SeqAt

/-! ### enumerate(tuple) -/
def IteT (K : PySem.W.Frag) (a : Addr) : It :=
  ⟨fun i H => ∃ (xs : List V) (x : V), SqT K H a xs ∧ xs[i]? = some x, fun i H v H' => ∃ T x, v = .ref T ∧ H T = none ∧ H' = upd H T (.tup [.int (i : Nat), x]) ∧ ∀ xs, SqT K H a xs → xs[i]? = some x, fun i H => ∃ xs : List V, SqT K H a xs ∧ xs.length ≤ i⟩
theorem iter_apart {h : Heap} {it a : Addr} {i : Nat} {its : Array Value} (hi : h.IsTupleIter it a i) (ht : h.IsTuple a its) : a ≠ it := fun e => by
  subst e
  obtain ⟨o, h1, h2, _⟩ := hi
  obtain ⟨o', h1', h2', _⟩ := ht
  rw [h1] at h1'
  cases h1'
  rw [h2] at h2'
  exact absurd h2' (by decide)
theorem turn_enumT {P : Program} {w : World} {K : PySem.W.Frag} {elts : List Expr} {kk : Nat} {tpos : Pos} (a e it : Addr) :
    Turn P w K (.Tuple elts kk tpos) (IteT K a) [e, it] e (fun i h => (∃ old, IsEnum h e it ((i : Nat) : Int) old) ∧ h.IsTupleIter it a i ∧ e ≠ it) where
  mem := by simp
  obj := fun i h st b hb => by
    obtain ⟨⟨old, he⟩, ⟨o, ho, hc, hd⟩, _⟩ := st
    have e' : b = e ∨ b = it := by simpa using hb
    rcases e' with z | z
    · rw [z]; exact ⟨_, he, fun v q => nomatch q⟩
    · rw [z]; exact ⟨o, ho, fun v q => by rw [hd] at q; cases q⟩
  keep := fun i h h' st k => let ⟨⟨old, he⟩, hi, hne⟩ := st; ⟨⟨old, k e (by simp) _ he⟩, hi.at fun o q => k it (by simp) o q, hne⟩
  item := by
    intro X hP hw hK hc i pins s σ H E I hf st hg
    subst hP hw hK
    obtain ⟨⟨old, he⟩, hit, hne⟩ := st
    obtain ⟨xs, x, hq, hx⟩ := hg
    obtain ⟨its, rv, p, hz⟩ := I.tuple hq
    obtain ⟨u, hu, ru⟩ := rv.get hx
    have hel : e < s.heap.objs.size := Heap.lt_size he
    have hil : it < s.heap.objs.size := by obtain ⟨_, q, _⟩ := hit; exact Heap.lt_size q
    have pt : s.heap.IsTuple a its.toArray := p
    have hai := iter_apart hit pt
    have hlt : i < its.toArray.size := by
      have := (List.getElem?_eq_some_iff.mp hu).1
      simpa using this
    have hea : e ≠ a := fun z => by
      subst z
      obtain ⟨o', h1', h2', _⟩ := pt
      rw [he] at h1'
      cases h1'
      exact absurd (show Value.type "enumerate" = Value.type "tuple" from h2') (by decide)
    have D := Draws.tuple (prog := X.prog) (w := X.w) (A := X.A.in1) (I.ok.hd hc) it a hai its.toArray
    refine wpAny_pyNext_enum_itemD D he ⟨hit, pt⟩ hlt hne (by simp [hne, hea]) fun x2 h' tk hP ho hst' hT hsz hk => ?_
    obtain rfl : x2 = u := by
      have : its.toArray[i]? = some u := by simpa using hu
      rw [this] at hP
      exact (Option.some.inj hP).symm
    have hit' := hst'.1
    refine ⟨_, rfl, wpAny_letOwnedTupleGo_enum (s := { s with heap := h', toks := tk + 1 }) ho fun h'' he' sb => ?_⟩
    have hT2 : h''.get? s.heap.objs.size = some { cls := .type "tuple", data := .seq #[.int i tk, x2] } := (sb.2 _ (Nat.ne_of_gt hel)).trans hT
    have new : ObjOk X.prog X.w (upd H s.heap.objs.size (.tup [.int (i : Nat), x])) h'' s.heap.objs.size (.tup [.int (i : Nat), x]) :=
      ⟨by show 2 ≤ sizeLine; decide, [.int i tk, x2], .cons ⟨_, rfl⟩ (.cons ru .nil), ⟨_, hT2, rfl, _, rfl⟩⟩
    have I1 : Inv X pins σ (upd H s.heap.objs.size (.tup [.int (i : Nat), x])) { s with heap := h'', toks := tk + 1 } :=
      I.turnedNew (ch := [e, it]) (fun b ob hb q => (sb.2 b (fun z => hb (by simp [z]))).trans (hk b ob (fun z => hb (by simp [z])) (fun z => hb (by simp [z])) q)) hf (Nat.le_refl _) new
    refine ⟨.ref s.heap.objs.size, _, I1, rfl, ⟨_, x, rfl, I.hok.fresh (Nat.le_refl _), rfl, fun ys hy => by rw [I.tuple_inj hy hq]; exact hx⟩, ⟨⟨x2, ?_⟩, hit'.at fun o q => (sb.2 it (Ne.symm hne)).trans q, hne⟩, fun b hb => ?_⟩
    · have e1 : ((i + 1 : Nat) : Int) = (i : Int) + 1 := by omega
      rw [e1]; exact he'
    · have hb' : b < s.heap.objs.size := by
        have e' : b = e ∨ b = it := by simpa using hb
        rcases e' with z | z
        · rw [z]; exact hel
        · rw [z]; exact hil
      rw [upd_ne (Nat.ne_of_lt hb')]
      exact (hf b hb).1
  done := by
    intro X hP hw hK hc i pins s σ H E I hf st hg
    subst hP hw hK
    obtain ⟨⟨old, he⟩, hit, hne⟩ := st
    obtain ⟨xs, hq, hx⟩ := hg
    obtain ⟨its, rv, p, hz⟩ := I.tuple hq
    obtain ⟨f0, f1, f2, f3, f4, f5⟩ := hf it (by simp)
    have hl := rv.length
    have pt : s.heap.IsTuple a its.toArray := p
    have D := Draws.tuple (prog := X.prog) (w := X.w) (A := X.A.in1) (I.ok.hd hc) it a (iter_apart hit pt) its.toArray
    have hT : s.TypeIs (.ref e) "enumerate" := ⟨_, he, rfl⟩
    unfold pyNext
    refine wpAny_bind (wpAny_attempt (wpAny_callSpecial?_slot (name := Str.ofString "__next__") hT F.slot_enumerate_next
      (wpAny_call_entry F.slot_enumerate_next hT F.entry_enumerate_next ?_ (F.args_enumerate_next_1 _))))
    show wpAny _ _ (field (.ref e) 2 >>= _) _ _ _
    refine wpAny_bind (wpAny_field he rfl (x := .ref it) rfl ?_)
    refine wpAny_bind (wpAny_nextOf_tuple_end (I.ok.hd hc) hit pt (by simp; omega) fun h' x he' hx' => ?_)
    obtain ⟨o, ho, hc2⟩ := hx'
    refine wpAny_bind (wpAny_isInstance (T := "StopIteration") (b := true) ⟨o, ho, hc2⟩ isSubtype_stop ?_)
    exact wpAny_pure ⟨rfl, I.turned (t' := s.toks) (fun b o hb q => he' b o hb q) f0 f1 f3 f4 f5⟩
  self := fun A i s Q E st h => let ⟨⟨_, he⟩, _⟩ := st; wpAny_pyIter_enum he h
set_option maxHeartbeats 1000000 in
theorem meets_enumerate_newT (l : Addr) (items : Array Value) :
    Meets (Builtin.«enumerate.__new__» ⟨[.type "enumerate", .ref l], []⟩) (fun _ R s => s.heap.IsTuple l items ∧
      R (.ok (.ret (.ref (s.heap.push { cls := .type "tuple_iterator", data := .fields #[.ref l, .int 0 0] }).objs.size)))
        { s with heap := (s.heap.push { cls := .type "tuple_iterator", data := .fields #[.ref l, .int 0 0] }).push { cls := .type "enumerate", data := .fields #[.none, .bool false, .ref s.heap.objs.size, rawInt 0, .none, .none] } }) :=
  .of_wp fun prog w A R s h => by
    obtain ⟨hp, g, d, tk, os⟩ := s; obtain ⟨hl, h⟩ := h
    have hsub := sub_enumerate
    have hL : Heap.IsTuple (Shared.heap ⟨hp, g, d, tk, os⟩) l items := hl
    wp_walk
    refine wpAny_stack_any fun st => wpAny_pure ?_
    split
    · rename_i c _ _ _ _ _
      cases (c == Value.type "enumerate")
      · wp_walk using wpAny_pyIter_tuple hL
        exact ⟨_, rfl, h⟩
      · wp_walk using wpAny_pyIter_tuple hL
        exact ⟨_, rfl, h⟩
    · wp_walk using wpAny_pyIter_tuple hL
      exact ⟨_, rfl, h⟩
section
variable {prog : Program} {w : World} {A : Around} {E : Value → Shared → Prop} {s : Shared}
theorem call_enumT {l : Addr} {items : Array Value} {Q : Value → Shared → Prop} (hL : s.heap.IsTuple l items)
    (h : ∀ h', IsEnum h' (s.heap.objs.size + 1) s.heap.objs.size 0 .none → h'.IsTupleIter s.heap.objs.size l 0 → h'.objs.size = s.heap.objs.size + 2 →
      (∀ b o, s.heap.get? b = some o → h'.get? b = some o) → Q (.ref (s.heap.objs.size + 1)) { s with heap := h' }) :
    wpAny (model prog w) A (call (.type "enumerate") [.ref l]) Q E s := by
  refine callType_new F.called_enumerate (by decide) (F.typeCall_enumerate_1 _) (F.newCall_enumerate_1 _) (fun obj => F.args_object_init_2 obj _) F.entry_enumerate_new
    (meets_enumerate_newT l items) ⟨hL, ?_⟩
  have hz : (s.heap.push { cls := .type "tuple_iterator", data := .fields #[.ref l, .int 0 0] }).objs.size = s.heap.objs.size + 1 := Heap.size_push ..
  show _ ∧ _
  rw [hz]
  have he : IsEnum ((s.heap.push { cls := .type "tuple_iterator", data := .fields #[.ref l, .int 0 0] }).push
      { cls := .type "enumerate", data := .fields #[.none, .bool false, .ref s.heap.objs.size, rawInt 0, .none, .none] }) (s.heap.objs.size + 1) s.heap.objs.size 0 .none := by
    have := Heap.get?_push_size (s.heap.push { cls := .type "tuple_iterator", data := .fields #[.ref l, .int 0 0] })
      (o := { cls := .type "enumerate", data := .fields #[.none, .bool false, .ref s.heap.objs.size, rawInt 0, .none, .none] }) rfl
    rw [hz] at this; exact this
  refine ⟨⟨_, he, rfl⟩, h _ he ⟨_, Heap.get?_push_of_some _ (Heap.get?_push_size _ rfl), rfl, rfl⟩ (by rw [Heap.size_push, hz]) fun b o x => Heap.get?_push_of_some _ (Heap.get?_push_of_some _ x)⟩
end
section
variable {X : Cx} {g : Gd}
def iEnumA (K : PySem.W.Frag) (ta : TA) : TI := fun σ H R => ta σ H fun vs H1 => ∃ a xs, vs = [.ref a] ∧ ((SqL K H1 a xs ∧ R (Ite K a) H1) ∨ (SqT K H1 a xs ∧ R (IteT K a) H1))
theorem pi_enumA {e : Expr} {ta : TA} {p pos tpos : Pos} {elts : List Expr} {kk : Nat} (hg : Gl X "enumerate") (hm : X.mg "enumerate" = none) (ha : PA X [e] ta) (hs : starEach [e] X.env = [(false, eval e X.env)]) :
    PI X (.Tuple elts kk tpos) (.Call (.Name "enumerate" p) [e] [] pos) (iEnumA X.K ta) := by
  refine ⟨fun pins s σ H R I h => ?_⟩
  refine Call_ (ld_blt I hg hm boot_enumerate (PyProof.Rows.callWith_type1 (thn (ha.run pos pins s σ H _ I h) fun us s1 ⟨vs, H1, I1, r1, q1⟩ => ?_) hs rfl))
  obtain ⟨a, xs, ex, q1⟩ := q1
  subst ex
  cases r1 with
  | cons r rr =>
    cases rr
    cases r
    have two : ∀ b, b ∈ [s1.heap.objs.size + 1, s1.heap.objs.size] → FpOk X pins H1 b := fun b hb => by
      have e' : b = s1.heap.objs.size + 1 ∨ b = s1.heap.objs.size := by simpa using hb
      have hle : s1.heap.objs.size ≤ b := by
        rcases e' with z | z
        · rw [z]; exact Nat.le_add_right _ _
        · rw [z]; exact Nat.le_refl _
      exact I1.fpOk hle (I1.hok.fresh hle)
    rcases q1 with ⟨hq, q⟩ | ⟨hq, q⟩
    · obtain ⟨its, rv, p', hz⟩ := I1.list hq
      refine call_enumerate_list p'.isList fun h' he hit hsz hk => wpAny_pyIter_enum he ?_
      have I2 : Inv X pins σ H1 { s1 with heap := h' } := I1.kept (t' := s1.toks) hk
      exact ⟨s1.heap.objs.size + 1, [s1.heap.objs.size + 1, s1.heap.objs.size], _, _, H1, rfl, I2, turn_enum a (s1.heap.objs.size + 1) s1.heap.objs.size, ⟨⟨.none, he⟩, hit, Nat.succ_ne_self _⟩, two, q⟩
    · obtain ⟨its, rv, p', hz⟩ := I1.tuple hq
      refine call_enumT (show s1.heap.IsTuple a its.toArray from p') fun h' he hit hsz hk => wpAny_pyIter_enum he ?_
      have I2 : Inv X pins σ H1 { s1 with heap := h' } := I1.kept (t' := s1.toks) hk
      exact ⟨s1.heap.objs.size + 1, [s1.heap.objs.size + 1, s1.heap.objs.size], _, _, H1, rfl, I2, turn_enumT a (s1.heap.objs.size + 1) s1.heap.objs.size, ⟨⟨.none, he⟩, hit, Nat.succ_ne_self _⟩, two, q⟩
end
end Pu

/-! Pu, part 11: iterables by values, comprehensions, range. -/
namespace Pu
open PySem PySem.Spec PyProof.Rows L2 PySem.SeqAt
section
variable {X : Cx} {g : Gd} {tg e : Expr} {te : WE} {p pos : Pos}
theorem it_list {pins : List (Addr × Obj)} {σ : Stt} {H : Hp} {s : Shared} {R : It → Hp → Prop} {a : Addr} {xs : List V} (I : Inv X pins σ H s) (hq : SqL X.K H a xs) (q : R (Itl X.K a) H) : wpAny (model X.prog X.w) X.A (pyIter (.ref a)) (PIE X pins σ tg R) X.xe s := by
  obtain ⟨its, rv, p, hz⟩ := I.list hq
  refine wpAny_pyIter_list p.isList ?_
  refine ⟨s.heap.objs.size, [s.heap.objs.size], _, _, H, rfl, I.kept (t' := s.toks) fun b o e => Heap.get?_push_of_some _ e, turn_list a _, ⟨_, Heap.get?_push_size _ rfl, rfl, rfl⟩, fun b hb => ?_, q⟩
  have e : b = s.heap.objs.size := by simpa using hb
  subst e
  exact I.fpOk (Nat.le_refl _) (I.hok.fresh (Nat.le_refl _))
theorem it_tup {pins : List (Addr × Obj)} {σ : Stt} {H : Hp} {s : Shared} {R : It → Hp → Prop} {a : Addr} {xs : List V} (I : Inv X pins σ H s) (hq : SqT X.K H a xs) (q : R (Itt X.K a) H) : wpAny (model X.prog X.w) X.A (pyIter (.ref a)) (PIE X pins σ tg R) X.xe s := by
  obtain ⟨its, rv, p, hz⟩ := I.tuple hq
  refine wpAny_pyIter_tuple (show s.heap.IsTuple a its.toArray from p) ?_
  refine ⟨s.heap.objs.size, [s.heap.objs.size], _, _, H, rfl, I.kept (t' := s.toks) fun b o e => Heap.get?_push_of_some _ e, turn_tuple a _, ⟨_, Heap.get?_push_size _ rfl, rfl, rfl⟩, fun b hb => ?_, q⟩
  have e : b = s.heap.objs.size := by simpa using hb
  subst e
  exact I.fpOk (Nat.le_refl _) (I.hok.fresh (Nat.le_refl _))
theorem it_str {pins : List (Addr × Obj)} {σ : Stt} {H : Hp} {s : Shared} {R : It → Hp → Prop} {x : Str} {t : Tok} (I : Inv X pins σ H s) (q : R (Its x) H) : wpAny (model X.prog X.w) X.A (pyIter (.str x t)) (PIE X pins σ tg R) X.xe s := by
  cases ha : x.cps.all (· < 128)
  · exact wpAny_pyIter_wide ha (pi_one (tk := s.toks) I _ (turn_str _ x t "str_iterator" (.inr rfl)) ⟨_, Heap.get?_push_size _ rfl, rfl, rfl⟩ q)
  · exact wpAny_pyIter_ascii ha (pi_one (tk := s.toks) I _ (turn_str _ x t "str_ascii_iterator" (.inl rfl)) ⟨_, Heap.get?_push_size _ rfl, rfl, rfl⟩ q)
/-- the signs of a text, each a text -/
def signsU (z : Str) : List U := z.cps.toList.map fun c => .str ⟨#[c]⟩
def Any : Mp → Prop := fun _ => True
def wItU (u : U) (M : Mp) (R : List U → (Mp → Prop) → Mp → Prop) : Prop := match u with
  | .tup us => R us Any M
  | .lst us => R us Any M
  | .str z => R (signsU z) Any M
  | .ref a => ∃ us, M a = some (.lst us) ∧ R us (fun M' => M' a = some (.lst us)) M
  | _ => False
def wIt (te : WE) : WI := fun su M R => te su M fun u M1 => wItU u M1 R
theorem itl_ok {M : Mp} {H : Hp} {a : Addr} {us : List U} {vs : List V} {K : PySem.W.Frag} {keep : Mp → Prop} (hk : keep M) (h : ∀ M' H', Stp M H M' H' → RepM K M' H' → keep M' → ∃ vs, SqL K H' a vs ∧ RepVs K M' H' us vs) : ItOk K (Itl K a) us keep M H := by
  refine ⟨hk, fun i M' H' st d k => ?_⟩
  obtain ⟨vs, hq, r⟩ := h M' H' st d k
  refine ⟨fun u e => ?_, fun hl => ⟨vs, hq, by rw [← r.length]; exact hl⟩⟩
  obtain ⟨v, e2, r2⟩ := r.get e
  refine ⟨⟨vs, v, hq, e2⟩, fun x H'' y => ?_⟩
  obtain ⟨rfl, y⟩ := y
  have := y vs hq
  rw [e2] at this
  cases this
  exact ⟨Stp.refl _ _, d, r2⟩
theorem itt_ok {M : Mp} {H : Hp} {a : Addr} {us : List U} {vs : List V} {K : PySem.W.Frag} (f : FzT K M H a vs) (r : RepVs K M H us vs) : ItOk K (Itt K a) us Any M H := by
  refine ⟨trivial, fun i M' H' st d k => ?_⟩
  have hq := (f.step st).sq
  have r' := RepVs.step st _ _ r
  refine ⟨fun u e => ?_, fun hl => ⟨vs, hq, by rw [← r.length]; exact hl⟩⟩
  obtain ⟨v, e2, r2⟩ := r'.get e
  refine ⟨⟨vs, v, hq, e2⟩, fun x H'' y => ?_⟩
  obtain ⟨rfl, y⟩ := y
  have := y vs hq
  rw [e2] at this
  cases this
  exact ⟨Stp.refl _ _, d, r2⟩
theorem its_ok {M : Mp} {H : Hp} {z : Str} {K : PySem.W.Frag} : ItOk K (Its z) (signsU z) Any M H := by
  refine ⟨trivial, fun i M' H' st d k => ⟨fun u e => ?_, fun hl => ?_⟩⟩
  · unfold signsU at e
    rw [List.getElem?_map] at e
    obtain ⟨c, e1, rfl⟩ := Option.map_eq_some_iff.mp e
    rw [Array.getElem?_toList] at e1
    have hlt := (Array.getElem?_eq_some_iff.mp e1).1
    refine ⟨hlt, fun x H'' y => ?_⟩
    obtain ⟨rfl, c', e2, rfl⟩ := y
    rw [e1] at e2
    cases e2
    exact ⟨Stp.refl _ _, d, mk_str⟩
  · unfold signsU at hl
    have : z.cps.size ≤ i := by simpa using hl
    exact this
theorem itr_ok {M : Mp} {H : Hp} {lo : Int} {n : Nat} {K : PySem.W.Frag} : ItOk K (Itr lo n) ((List.range n).map fun i => U.int (lo + (i : Nat))) Any M H := by
  refine ⟨trivial, fun i M' H' st d k => ⟨fun u e => ?_, fun hl => show n ≤ i by simpa using hl⟩⟩
  rw [List.getElem?_map] at e
  obtain ⟨c, e1, rfl⟩ := Option.map_eq_some_iff.mp e
  have hlt : i < n := by simpa using (List.getElem?_eq_some_iff.mp e1).1
  rw [List.getElem?_range hlt] at e1
  cases e1
  refine ⟨hlt, fun x H'' y => ?_⟩
  obtain ⟨rfl, rfl⟩ := y
  exact ⟨Stp.refl _ _, d, mk_int⟩
theorem ji_it (ha : JE X g e te) : JI X g tg e (wIt te) := by
  refine ⟨fun pins s σ H R I ⟨su, M, Ru, a, h, c⟩ => ?_⟩
  refine thn (ha.run pins s σ H (fun v H' => ∃ u M', wItU u M' Ru ∧ Stp M H M' H' ∧ RepM X.K M' H' ∧ RepV X.K M' H' u v) I ⟨su, M, _, a, h, fun u M1 v H1 q s1 d1 r1 => ⟨u, M1, q, s1, d1, r1⟩⟩) fun v s1 ⟨y, H1, I1, r1, u, M1, q, s, d, r⟩ => ?_
  have c2 : ∀ us keep J, Ru us keep M1 → ItOk X.K J us keep M1 H1 → R J H1 := fun us keep J q ok => c us keep M1 H1 J q s d ok
  cases u with
  | tup us =>
    obtain ⟨p, vs, rfl, f, t⟩ := rep_tup r
    cases r1
    exact it_tup I1 f.sq (c2 _ _ _ q (itt_ok f t))
  | lst us =>
    obtain ⟨p, vs, rfl, f, t⟩ := rep_lst r
    cases r1
    exact it_list I1 f.sq (c2 _ _ _ q (itl_ok (vs := vs) trivial fun M' H' st d k => ⟨vs, (f.step st).sq, RepVs.step st _ _ t⟩))
  | str z =>
    rw [rep_str r] at r1
    obtain ⟨t, rfl⟩ := r1
    exact it_str I1 (c2 _ _ _ q its_ok)
  | ref p =>
    obtain ⟨us, m, q⟩ := q
    rw [rep_ref r] at r1
    cases r1
    obtain ⟨vs, hh, t⟩ := d p _ m
    exact it_list I1 (.of hh) (c2 _ _ _ q (itl_ok (vs := vs) m fun M' H' st d k => by
      obtain ⟨vs', h', t'⟩ := d p _ k
      exact ⟨vs', .of h', t'⟩))
  | _ => exact q.elim
/-- range(n), range(i, j) -/
def wRng1 (t : WA) : WI := fun su M R => t su M fun us M1 => ∃ j : Int, us = [.int j] ∧ -(2 ^ 62) ≤ j ∧ j < 2 ^ 62 ∧ R ((List.range j.toNat).map fun i => U.int ((i : Nat) : Int)) Any M1
def wRng2 (t : WA) : WI := fun su M R => t su M fun us M1 => ∃ i j : Int, us = [.int i, .int j] ∧ (-(2 ^ 62) ≤ i ∧ i < 2 ^ 62 ∧ -(2 ^ 62) ≤ j ∧ j < 2 ^ 62) ∧ R ((List.range (j - i).toNat).map fun k => U.int (i + (k : Nat))) Any M1
theorem ji_range1 {a : Expr} {t : WA} (hg : Gl X "range") (hm : X.mg "range" = none) (ha : JA X g [a] t) (hs : starEach [a] X.env = [(false, eval a X.env)]) : JI X g tg (.Call (.Name "range" p) [a] [] pos) (wRng1 t) :=
  pi_imp (pi_range1 hg hm ha hs) fun σ H R ⟨su, M, Ru, a, h, c⟩ => ⟨su, M, _, a, h, fun us M1 vs H1 ⟨j, e, q1, q2, q⟩ s1 d1 r1 => by
    subst e
    obtain ⟨v, rfl, r⟩ := r1.one
    refine ⟨j, by rw [rep_int r], q1, q2, c _ _ M1 H1 _ q s1 d1 ?_⟩
    have := itr_ok (K := X.K) (M := M1) (H := H1) (lo := 0) (n := j.toNat)
    simpa using this⟩
theorem ji_range2 {a b : Expr} {t : WA} (hg : Gl X "range") (hm : X.mg "range" = none) (ha : JA X g [a, b] t) (hs : starEach [a, b] X.env = [(false, eval a X.env), (false, eval b X.env)]) (hs2 : starEach [b] X.env = [(false, eval b X.env)]) :
    JI X g tg (.Call (.Name "range" p) [a, b] [] pos) (wRng2 t) :=
  pi_imp (pi_range2 hg hm ha hs hs2) fun σ H R ⟨su, M, Ru, a, h, c⟩ => ⟨su, M, _, a, h, fun us M1 vs H1 ⟨i, j, e, q1, q⟩ s1 d1 r1 => by
    subst e
    obtain ⟨v, w, rfl, r, r'⟩ := r1.two
    exact ⟨i, j, by rw [rep_int r, rep_int r'], q1, c _ _ M1 H1 _ q s1 d1 itr_ok⟩⟩
/-- enumerate(..) -/
def numbered (us : List U) : List U := us.zipIdx.map fun p => .pr [.int (p.2 : Nat), p.1]
theorem numbered_get {us : List U} {i : Nat} {u : U} (e : (numbered us)[i]? = some u) : ∃ x, us[i]? = some x ∧ u = .pr [.int (i : Nat), x] := by
  unfold numbered at e
  rw [List.getElem?_map, List.getElem?_zipIdx] at e
  cases h : us[i]? with
  | none => simp [h] at e
  | some x => simp [h] at e; exact ⟨x, rfl, e.symm⟩
def wEnum (t : WA) : WI := fun su M R => t su M fun us M1 => match us with
  | [.ref a] => ∃ ws, M1 a = some (.lst ws) ∧ R (numbered ws) (fun M' => M' a = some (.lst ws)) M1
  | [.tup ws] => R (numbered ws) Any M1
  | [.lst ws] => R (numbered ws) Any M1
  | _ => False
theorem pair_ok {K : PySem.W.Frag} {M : Mp} {H : Hp} {T : Addr} {x y : V} {ux uy : U} (d : RepM K M H) (hT : H T = none) (r1 : RepV K M H ux x) (r2 : RepV K M H uy y) : Stp M H M (upd H T (.tup [x, y])) ∧ RepM K M (upd H T (.tup [x, y])) ∧ RepV K M (upd H T (.tup [x, y])) (.pr [ux, uy]) (.ref T) :=
  ⟨Stp.new d hT, d.new hT, new_pr d hT (.cons r1 (.cons r2 .nil))⟩
theorem ite_ok {M : Mp} {H : Hp} {a : Addr} {us : List U} {K : PySem.W.Frag} {keep : Mp → Prop} (hk : keep M) (h : ∀ M' H', Stp M H M' H' → RepM K M' H' → keep M' → ∃ vs, SqL K H' a vs ∧ RepVs K M' H' us vs) : ItOk K (Ite K a) (numbered us) keep M H := by
  refine ⟨hk, fun i M' H' st d k => ?_⟩
  obtain ⟨vs, hq, r⟩ := h M' H' st d k
  refine ⟨fun u e => ?_, fun hl => ⟨vs, hq, by rw [← r.length]; simpa [numbered] using hl⟩⟩
  obtain ⟨x, e1, rfl⟩ := numbered_get e
  obtain ⟨v, e2, r2⟩ := r.get e1
  refine ⟨⟨vs, v, hq, e2⟩, fun y H'' yl => ?_⟩
  obtain ⟨T, z, rfl, hT, rfl, yl⟩ := yl
  have := yl vs hq
  rw [e2] at this
  cases this
  exact pair_ok d hT mk_int r2
theorem iteT_ok {M : Mp} {H : Hp} {a : Addr} {us : List U} {vs : List V} {K : PySem.W.Frag} (f : FzT K M H a vs) (t : RepVs K M H us vs) : ItOk K (IteT K a) (numbered us) Any M H := by
  refine ⟨trivial, fun i M' H' st d k => ?_⟩
  have hq := (f.step st).sq
  have r := RepVs.step st _ _ t
  refine ⟨fun u e => ?_, fun hl => ⟨vs, hq, by rw [← r.length]; simpa [numbered] using hl⟩⟩
  obtain ⟨x, e1, rfl⟩ := numbered_get e
  obtain ⟨v, e2, r2⟩ := r.get e1
  refine ⟨⟨vs, v, hq, e2⟩, fun y H'' yl => ?_⟩
  obtain ⟨T, z, rfl, hT, rfl, yl⟩ := yl
  have := yl vs hq
  rw [e2] at this
  cases this
  exact pair_ok d hT mk_int r2
theorem ji_enum {a : Expr} {t : WA} {elts : List Expr} {kk : Nat} {tpos : Pos} (hg : Gl X "enumerate") (hm : X.mg "enumerate" = none) (ha : JA X g [a] t) (hs : starEach [a] X.env = [(false, eval a X.env)]) : JI X g (.Tuple elts kk tpos) (.Call (.Name "enumerate" p) [a] [] pos) (wEnum t) :=
  pi_imp (pi_enumA hg hm ha hs) fun σ H R ⟨su, M, Ru, a, h, c⟩ => ⟨su, M, _, a, h, fun us M1 vs H1 q s1 d1 r1 => by
    match us, q, r1 with
    | [.ref p], ⟨ws, m, q⟩, r1 =>
      obtain ⟨v, rfl, r⟩ := r1.one
      obtain ⟨vs, hh, t⟩ := d1 p _ m
      exact ⟨p, vs, by rw [rep_ref r], .inl ⟨.of hh, c _ _ M1 H1 _ q s1 d1 (ite_ok m fun M' H' st d k => by
        obtain ⟨vs', h', t'⟩ := d p _ k
        exact ⟨vs', .of h', t'⟩)⟩⟩
    | [.tup ws], q, r1 =>
      obtain ⟨v, rfl, r⟩ := r1.one
      obtain ⟨p, vs, rfl, f, t⟩ := rep_tup r
      exact ⟨p, vs, rfl, .inr ⟨f.sq, c _ _ M1 H1 _ q s1 d1 (iteT_ok f t)⟩⟩
    | [.lst ws], q, r1 =>
      obtain ⟨v, rfl, r⟩ := r1.one
      obtain ⟨p, vs, rfl, f, t⟩ := rep_lst r
      exact ⟨p, vs, rfl, .inl ⟨f.sq, c _ _ M1 H1 _ q s1 d1 (ite_ok trivial fun M' H' st d k => ⟨vs, (f.step st).sq, RepVs.step st _ _ t⟩)⟩⟩⟩

/-! ### a comprehension as a value -/
theorem j_comp {elt iter : Expr} {ifs : List Expr} {scope : Scope} {own : List (Str × Nat)} {w : WI} {gt : WG} {tc : WT} (hh : Bool) (hc : X.calm = true) (hN : X.N.Nodup) (hi : JI X g tg iter w) (ok : BlkOk X.N X.env.scope scope own)
    (hg : ∀ (s : Shared) (H : Hp) (C : Addr) (cl : List (Str × Addr)) (fp : List Addr), JGo (X.blk s H scope (compEnvC scope cl C X.env) fp) g (own.map (·.2)) tg gt)
    (ht : ∀ (s : Shared) (H : Hp) (C : Addr) (cl : List (Str × Addr)) (fp : List Addr), JTs (X.blk s H scope (compEnvC scope cl C X.env) fp) g ifs tc)
    (he : ∀ (s : Shared) (H : Hp) (C : Addr) (cl : List (Str × Addr)) (fp : List Addr), JE (X.blk s H scope (compEnvC scope cl C X.env) fp) g elt te) (hs : ∀ x, foldedSetIterable iter X.env x = pure x) :
    JE X g (.ListComp elt [⟨tg, iter, ifs, 0⟩] scope pos) (wComp hh w gt tc te (own.map (·.2))) :=
  pe_imp (pe_lc (g := liftGo X.K g (own.map fun p : Str × Nat => p.2) gt) (tt := liftT X.K g tc) (te := liftE X.K g te) hc hN hi ok hg ht he hs) fun σ H Q h => compI h
/-- name = [..] -/
theorem js_setComp {i : Nat} {y : Str} {py spos : Pos} {elt iter : Expr} {ifs : List Expr} {scope : Scope} {own : List (Str × Nat)} {w : WI} {gt : WG} {tc : WT} (hh : Bool) (hc : X.calm = true) (hN : X.N.Nodup) (hy : X.N[i]? = some y) (hyl : X.env.scope.names.lookup y = some .local)
    (hsw : swapsWith (.ListComp elt [⟨tg, iter, ifs, 0⟩] scope pos) (some (.Name y py)) spos.line X.env = pure true) (hi : JI X g tg iter w) (ok : BlkOk X.N X.env.scope scope own)
    (hg : ∀ (s : Shared) (H : Hp) (C : Addr) (cl : List (Str × Addr)) (fp : List Addr), JGo (X.blk s H scope (compEnvC scope cl C X.env) fp) g (own.map (·.2)) tg gt)
    (ht : ∀ (s : Shared) (H : Hp) (C : Addr) (cl : List (Str × Addr)) (fp : List Addr), JTs (X.blk s H scope (compEnvC scope cl C X.env) fp) g ifs tc)
    (he : ∀ (s : Shared) (H : Hp) (C : Addr) (cl : List (Str × Addr)) (fp : List Addr), JE (X.blk s H scope (compEnvC scope cl C X.env) fp) g elt te) (hs : ∀ x, foldedSetIterable iter X.env x = pure x) :
    JS X g (.Assign [.Name y py] (.ListComp elt [⟨tg, iter, ifs, 0⟩] scope pos) spos) (wSet i (wComp hh w gt tc te (own.map (·.2)))) :=
  ps_imp (ps_setLc (g := liftGo X.K g (own.map fun p : Str × Nat => p.2) gt) (tt := liftT X.K g tc) (te := liftE X.K g te) hc hN hy hyl hsw hi ok hg ht he hs) fun D σ H ⟨su, M, R, a, h, c⟩ => compI ⟨su, M, _, a, h, fun u M1 v H1 q s1 d1 r1 => (c.go s1).nx.here q ((a.go s1 d1).set r1)⟩
end
end Pu

/-! Pu, part 12: methods, stores, new dicts, lists times a number, zip. -/
namespace Pu
open PySem PySem.Spec PyProof.Rows L2 PySem.SeqAt

/-! ### methods of built-ins by values -/
abbrev OM := U → List U → Mp → UK → Prop
def liftM (K : PySem.W.Frag) (o : OM) : V → List V → Hp → VK → Prop := fun x xs H Q => ∃ ux us M R, RepV K M H ux x ∧ RepVs K M H us xs ∧ RepM K M H ∧ o ux us M R ∧ Cl K M H R Q
def UMt (X : Cx) (id : String) (o : OM) : Prop := MtR X id (liftM X.K o)
theorem mt_imp {X : Cx} {id : String} {r r' : V → List V → Hp → VK → Prop} (h : MtR X id r) (i : ∀ x xs H Q, r' x xs H Q → r x xs H Q) : MtR X id r' := fun pins s σ H x xs v us Q I rx rs q => h pins s σ H x xs v us Q I rx rs (i _ _ _ _ q)
def tyU (T : String) (M : Mp) : U → Prop
  | .str _ => T = "str"
  | .int _ => T = "int"
  | .lst _ => T = "list"
  | .dct _ _ => T = "dict"
  | .ref a => (T = "list" ∧ ∃ us, M a = some (.lst us)) ∨ (T = "dict" ∧ ∃ ks us, M a = some (.dct ks us))
  | _ => False
theorem tyU_rep {K : PySem.W.Frag} {M : Mp} {H : Hp} (hd : RepM K M H) {u : U} {v : V} (r : RepV K M H u v) {T : String} (t : tyU T M u) : tyV K T v H := by
  cases u with
  | str z => rw [rep_str r]; exact t
  | int z => rw [rep_int r]; exact t
  | lst us =>
    obtain ⟨a, vs, rfl, f, q⟩ := rep_lst r
    exact .inl ⟨t, vs, f.sq⟩
  | dct ks us =>
    unfold RepV at r
    obtain ⟨a, vs, rfl, f, _⟩ := r
    exact .inr (.inr (.inl ⟨t, .inl ⟨_, f⟩⟩))
  | ref a =>
    rw [rep_ref r]
    rcases t with ⟨t, us, m⟩ | ⟨t, ks, us, m⟩
    · obtain ⟨vs, h, _⟩ := hd a _ m
      exact .inl ⟨t, vs, .of h⟩
    · obtain ⟨vs, h, _⟩ := hd a _ m
      exact .inr (.inr (.inl ⟨t, .inl ⟨_, h⟩⟩))
  | _ => exact t.elim
section
variable {X : Cx} {g : Gd} {o e : Expr} {es : List Expr} {to te : WE} {tr : WA} {om : OM} {x name : Str} {p pos apos cpos : Pos} {id T : String}
def wBM (T : String) (om : OM) (to : WE) (tr : WA) : WE := fun su M R => to su M fun x M1 => tyU T M1 x ∧ tr su M1 fun xs M2 => om x xs M2 R
theorem j_bm0 (pa : PlainAttrs T) (slot : Slot T name id) (hty : typeOf (.builtin id) = pure (.type "method_descriptor")) (hm : UMt X id om) (ho : JE X g o to)
    (hbase : attributeBase o name X.env (eval o X.env) = eval o X.env) (hline : (apos.endLine == cpos.line) = true) : JE X g (.Call (.Attribute o name apos) [] [] cpos) (wBM T om to wNil) :=
  pe_imp (pe_bm0 pa slot hty hm ho hbase hline) fun σ H Q ⟨su, M, R, a, h, c⟩ => ⟨su, M, _, a, h, fun x M1 v H1 ⟨t, q⟩ s1 d1 r1 => ⟨tyU_rep d1 r1 t, x, [], M1, R, r1, .nil, d1, q, c.go s1⟩⟩
theorem j_bm (pa : PlainAttrs T) (slot : Slot T name id) (hty : typeOf (.builtin id) = pure (.type "method_descriptor")) (hm : UMt X id om) (ho : JE X g o to) (ha : JA X g (e :: es) tr)
    (hbase : attributeBase o name X.env (eval o X.env) = eval o X.env)
    (hfew : ((backTo cpos (starEach (e :: es) X.env)).all (fun x => !x.1) && (backToKw cpos (keywordEach [] X.env)).all (fun x => x.1.isSome)
      && decide ((e :: es).length + ([] : List Keyword).length + (if ([] : List Keyword).isEmpty then 0 else 1) < 30)) = true)
    (hline : (apos.endLine == cpos.line) = true) (hs : starEach (e :: es) X.env = (false, eval e X.env) :: starEach es X.env) (hplain : (backTo cpos (starEach es X.env)).any (·.1) = false) :
    JE X g (.Call (.Attribute o name apos) (e :: es) [] cpos) (wBM T om to tr) :=
  pe_imp (pe_bm pa slot hty hm ho ha hbase hfew hline hs hplain) fun σ H Q ⟨su, M, R, a, h, c⟩ => ⟨su, M, _, a, h, fun x M1 v H1 ⟨t, q⟩ s1 d1 r1 => ⟨tyU_rep d1 r1 t, su, M1, _, a.go s1 d1, q, fun xs M2 vs H2 q2 s2 d2 r2 =>
    ⟨x, xs, M2, R, r1.step s2, r2, d2, q2, (c.go s1).go s2⟩⟩⟩
def uAppend : OM := fun x xs M R => ∃ a us y, x = .ref a ∧ xs = [y] ∧ M a = some (.lst us) ∧ us.length < sizeLine ∧ R .non (put M a (.lst (us ++ [y])))
theorem umt_append : UMt X "list.append" uAppend := mt_imp mt_append fun x xs H Q ⟨ux, us, M, R, r1, r2, hd, ⟨a, zs, y, e1, e2, m, hz, q⟩, c⟩ => by
  subst e1 e2
  obtain ⟨v, rfl, r2'⟩ := r2.one; replace r2 := r2'
  obtain ⟨vs, h, t⟩ := hd a _ m
  rw [rep_ref r1]
  exact ⟨a, vs, v, rfl, rfl, h, by rw [← t.length]; exact hz, c.at_ q (Stp.chg m) (hd.putL (Stp.chg m) (t.app (.cons r2 .nil))) mk_non⟩
theorem list_ext (l : Addr) (items : Array Value) (n : Nat) (b : Addr) (items2 : Array Value) (n2 : Nat) (d2 : Option Addr) (t2 : Array (Option Value)) (hs0 : ¬(!items.isEmpty && Builtin.List.listTooLong (items.size + items2.size)) = true) (hs1 : items.size ≤ sizeLine) (hs2 : items.size + items2.size ≤ sizeLine + 1) :
    Meets (Builtin.«list.extend» ⟨[.ref l, .ref b], []⟩) (fun _ R s => s.heap.get? l = some { cls := .type "list", dict := none, data := .seq items n, slots := #[] } ∧ s.heap.get? b = some { cls := .type "list", dict := d2, data := .seq items2 n2, slots := t2 } ∧ R (.ok (.ret Value.none)) { s with heap := s.heap.update l (Obj.mapSeq fun x => x ++ items2), toks := s.toks }) :=
  .of_wp fun prog w A R s h => by
    obtain ⟨hp, g, d, tk, os⟩ := s; obtain ⟨hl, hb, h⟩ := h; have f1 := AutoSeq1.idx_int; have f2 := AutoSeq1.sub_tuple_tuple; have f3 := AutoSeq1.sub_list_list; have f4 := AutoSeq1.sub_tuple_list; have f5 := AutoSeq1.sub_list_tuple;
    have hz' : (items ++ items2).size ≤ sizeLine + 1 := by rw [Array.size_append]; exact hs2
    wp_walk using (wpAny_updateSeq hl rfl (hz := hs1) (_hz' := hz')), AutoSeq1.wpAny_loadPart' hl, AutoSeq1.wpAny_loadPart' hb; exact ⟨_, rfl, h⟩
theorem list_extT (l : Addr) (items : Array Value) (n : Nat) (b : Addr) (items2 : Array Value) (n2 : Nat) (d2 : Option Addr) (t2 : Array (Option Value)) (hs0 : ¬(!items.isEmpty && Builtin.List.listTooLong (items.size + items2.size)) = true) (hs1 : items.size ≤ sizeLine) (hs2 : items.size + items2.size ≤ sizeLine + 1) :
    Meets (Builtin.«list.extend» ⟨[.ref l, .ref b], []⟩) (fun _ R s => s.heap.get? l = some { cls := .type "list", dict := none, data := .seq items n, slots := #[] } ∧ s.heap.get? b = some { cls := .type "tuple", dict := d2, data := .seq items2 n2, slots := t2 } ∧ R (.ok (.ret Value.none)) { s with heap := s.heap.update l (Obj.mapSeq fun x => x ++ items2), toks := s.toks }) :=
  .of_wp fun prog w A R s h => by
    obtain ⟨hp, g, d, tk, os⟩ := s; obtain ⟨hl, hb, h⟩ := h; have f1 := AutoSeq1.idx_int; have f2 := AutoSeq1.sub_tuple_tuple; have f3 := AutoSeq1.sub_list_list; have f4 := AutoSeq1.sub_tuple_list; have f5 := AutoSeq1.sub_list_tuple;
    have hz' : (items ++ items2).size ≤ sizeLine + 1 := by rw [Array.size_append]; exact hs2
    wp_walk using (wpAny_updateSeq hl rfl (hz := hs1) (_hz' := hz')), AutoSeq1.wpAny_loadPart' hl, AutoSeq1.wpAny_loadPart' hb; exact ⟨_, rfl, h⟩
theorem mt_ext : MtR X "list.extend" (fun x vs H Q => ∃ l b xs zs, x = .ref l ∧ vs = [.ref b] ∧ H l = some (.lst xs) ∧ (SqL X.K H b zs ∨ SqT X.K H b zs) ∧ xs.length + zs.length ≤ sizeLine ∧ Q .non (upd H l (.lst (xs ++ zs)))) := by
  intro pins s σ H x vs v us Q I rx rv h
  obtain ⟨l, b, xs, zs, rfl, rfl, hH, hB, hz, q⟩ := h
  cases rx
  obtain ⟨u, rfl, ru⟩ := rv.one
  cases ru
  obtain ⟨z, its, n, r, hl, e⟩ := I.lstM hH
  have fin : ∀ its2 : List Value, Vals zs its2 → EP X pins σ Q .none { s with heap := s.heap.update l (Obj.mapSeq fun x => x ++ its2.toArray), toks := s.toks } := fun its2 r2 =>
    ⟨.non, _, I.lset (its' := its ++ its2) hH e (by simp) (r.append r2) (by rw [List.length_append]; exact hz), rfl, q⟩
  rcases hB with hB | hB
  · obtain ⟨its2, r2, ⟨⟨c2, d2, z2, t2⟩, m, e2, hc2, _, hd2⟩, _⟩ := I.list hB
    simp only at hc2 hd2
    subst hc2 hd2
    have l2 := r2.length
    have hsz : its.toArray.size + its2.toArray.size ≤ sizeLine := by rw [List.size_toArray, List.size_toArray]; omega
    have hlong : ¬ (!its.toArray.isEmpty && Builtin.List.listTooLong (its.toArray.size + its2.toArray.size)) = true := by
      rw [notLongL hsz, Bool.and_false]
      exact Bool.false_ne_true
    exact call_meets F.slot_list_extend ⟨_, e, rfl⟩ F.entry_list_extend (F.args_list_extend_2 _ _) (list_ext l its.toArray n b its2.toArray m d2 t2 hlong (by rw [List.size_toArray]; omega) (by omega)) ⟨e, e2, fin its2 r2⟩
  · obtain ⟨its2, r2, ⟨⟨c2, d2, z2, t2⟩, e2, hc2, m, hd2⟩, _⟩ := I.tuple hB
    simp only at hc2 hd2
    subst hc2 hd2
    have l2 := r2.length
    have hsz : its.toArray.size + its2.toArray.size ≤ sizeLine := by rw [List.size_toArray, List.size_toArray]; omega
    have hlong : ¬ (!its.toArray.isEmpty && Builtin.List.listTooLong (its.toArray.size + its2.toArray.size)) = true := by
      rw [notLongL hsz, Bool.and_false]
      exact Bool.false_ne_true
    exact call_meets F.slot_list_extend ⟨_, e, rfl⟩ F.entry_list_extend (F.args_list_extend_2 _ _) (list_extT l its.toArray n b its2.toArray m d2 t2 hlong (by rw [List.size_toArray]; omega) (by omega)) ⟨e, e2, fin its2 r2⟩
def uExtend : OM := fun x xs M R => ∃ a us y zs, x = .ref a ∧ xs = [y] ∧ M a = some (.lst us) ∧ seqOf M y = some zs ∧ us.length + zs.length ≤ sizeLine ∧ R .non (put M a (.lst (us ++ zs)))
theorem umt_extend : UMt X "list.extend" uExtend := mt_imp mt_ext fun x xs H Q ⟨ux, us, M, R, r1, r2, hd, ⟨a, ws, y, zs, e1, e2, m, e3, hz, q⟩, c⟩ => by
  subst e1 e2
  obtain ⟨v, rfl, r2'⟩ := r2.one; replace r2 := r2'
  obtain ⟨vs, h, t⟩ := hd a _ m
  obtain ⟨b, vs2, rfl, h2, t2⟩ := seqOf_rep hd r2 e3
  rw [rep_ref r1]
  exact ⟨a, b, vs, vs2, rfl, rfl, h, h2, by rw [← t.length, ← t2.length]; exact hz, c.at_ q (Stp.chg m) (hd.putL (Stp.chg m) (t.app t2)) mk_non⟩
theorem reps_erase {K : PySem.W.Frag} {M : Mp} {H : Hp} : ∀ {us : List U} {vs : List V} (i : Nat), RepVs K M H us vs → RepVs K M H (us.eraseIdx i) (vs.eraseIdx i)
  | [], _, _, h => by rw [h.nil_inv]; exact .nil
  | u :: us, _, 0, h => by
    obtain ⟨v, q, e, h1, h2⟩ := h.uncons
    subst e
    exact h2
  | u :: us, _, i + 1, h => by
    obtain ⟨v, q, e, h1, h2⟩ := h.uncons
    subst e
    exact .cons h1 (reps_erase i h2)
/-- xs.pop(), xs.pop(i) -/
def uPop : OM := fun x xs M R => ∃ a us y, x = .ref a ∧ xs = [] ∧ M a = some (.lst us) ∧ us.getLast? = some y ∧ R y (put M a (.lst us.dropLast))
theorem reps_dropLast {K : PySem.W.Frag} {M : Mp} {H : Hp} {us : List U} {vs : List V} (h : RepVs K M H us vs) : RepVs K M H us.dropLast vs.dropLast := by
  rw [List.dropLast_eq_take, List.dropLast_eq_take, h.length]
  exact h.take _
theorem umt_pop : UMt X "list.pop" uPop := mt_imp mt_pop fun x xs H Q ⟨ux, us, M, R, r1, r2, hd, ⟨a, ws, y, e1, e2, m, e3, q⟩, c⟩ => by
  subst e1 e2
  rw [r2.nil_inv]
  obtain ⟨vs, h, t⟩ := hd a _ m
  rw [List.getLast?_eq_getElem?] at e3
  obtain ⟨v, e4, r4⟩ := t.get e3
  rw [rep_ref r1]
  exact ⟨a, vs, v, rfl, rfl, h, by rw [← t.length]; exact e4, c.at_ q (Stp.chg m) (hd.putL (Stp.chg m) (reps_dropLast t)) (r4.step (Stp.chg m))⟩
def uPopAt : OM := fun x xs M R => ∃ a us i k y, x = .ref a ∧ xs = [.int i] ∧ M a = some (.lst us) ∧ -(2 ^ 63) ≤ i ∧ i < 2 ^ 63 ∧ seqIndex? i us.length = some k ∧ us[k]? = some y ∧ R y (put M a (.lst (us.eraseIdx k)))
theorem umt_popAt : UMt X "list.pop" uPopAt := mt_imp mt_popAt fun x xs H Q ⟨ux, us, M, R, r1, r2, hd, ⟨a, ws, i, k, y, e1, e2, m, h1, h2, hk, e3, q⟩, c⟩ => by
  subst e1 e2
  obtain ⟨v, rfl, r2'⟩ := r2.one; replace r2 := r2'
  obtain ⟨vs, h, t⟩ := hd a _ m
  obtain ⟨w, e4, r4⟩ := t.get e3
  rw [rep_ref r1, rep_int r2]
  exact ⟨a, vs, i, k, w, rfl, rfl, h, h1, h2, by rw [← t.length]; exact hk, e4, c.at_ q (Stp.chg m) (hd.putL (Stp.chg m) (reps_erase k t)) (r4.step (Stp.chg m))⟩
def uReverse : OM := fun x xs M R => ∃ a us, x = .ref a ∧ xs = [] ∧ M a = some (.lst us) ∧ R .non (put M a (.lst us.reverse))
theorem umt_reverse : UMt X "list.reverse" uReverse := mt_imp mt_reverse fun x xs H Q ⟨ux, us, M, R, r1, r2, hd, ⟨a, ws, e1, e2, m, q⟩, c⟩ => by
  subst e1 e2
  rw [r2.nil_inv]
  obtain ⟨vs, h, t⟩ := hd a _ m
  rw [rep_ref r1]
  exact ⟨a, vs, rfl, rfl, h, c.at_ q (Stp.chg m) (hd.putL (Stp.chg m) t.rev) mk_non⟩
/-- sep.join(..) -/
def uJoin : OM := fun x xs M R => ∃ a u ys, x = .str a ∧ xs = [u] ∧ seqOf M u = some (ys.map .str) ∧ (ys.map (·.length)).sum + ys.length * a.length ≤ 16777216 ∧ R (.str (Txt.join a ys)) M
theorem umt_join : UMt X "str.join" uJoin := mt_imp mt_join fun x xs H Q ⟨ux, us, M, R, r1, r2, hd, ⟨a, u, ys, e1, e2, m, hz, q⟩, c⟩ => by
  subst e1 e2
  obtain ⟨v, rfl, r2'⟩ := r2.one; replace r2 := r2'
  obtain ⟨b, vs, rfl, h, t⟩ := seqOf_rep hd r2 m
  rw [strs_rep t] at h
  rw [rep_str r1]
  exact ⟨a, b, ys, rfl, rfl, h, hz, c.here q hd mk_str⟩

/-! ### stores -/
def uSetL : WSet := fun o i v M R => ∃ a us k j, o = .ref a ∧ i = .int k ∧ M a = some (.lst us) ∧ ixN us.length k = some j ∧ R (put M a (.lst (us.set j v)))
theorem set_imp {t t' : TSet} (h : PSet X t) (im : ∀ o i v H Q, t' o i v H Q → t o i v H Q) : PSet X t' := fun pins s σ H o i v ov iv u Q I ro ri rv q => h pins s σ H o i v ov iv u Q I ro ri rv (im _ _ _ _ _ q)
theorem uset_list : USet X uSetL := set_imp set_list fun o i v H Q ⟨uo, ui, uv, M, R, r1, r2, r3, hd, ⟨a, us, k, j, e1, e2, m, hj, q⟩, c⟩ => by
  subst e1 e2
  obtain ⟨vs, h, t⟩ := hd a _ m
  rw [rep_ref r1, rep_int r2]
  exact ⟨a, vs, k, j, rfl, rfl, h, by rw [← t.length]; exact hj, c _ _ q (Stp.chg m) (hd.putL (Stp.chg m) (t.set j r3))⟩

/-! ### [..] * n -/
def wRepL (tr : WA) (tb : WE) : WE := fun su M R => tr su M fun xs M1 => xs.length ≤ sizeLine ∧ tb su M1 fun y M2 => ∃ k : Int, y = .int k ∧ -(2 ^ 63) ≤ k ∧ k < 2 ^ 63 ∧ xs.length * k.toNat ≤ sizeLine ∧ R (.lst (List.replicate k.toNat xs).flatten) M2
theorem j_repL {b : Expr} {tb : WE} {p1 : Pos} (ha : JA X g es tr) (hb : JE X g b tb) : JE X g (.BinOp (.List es p1) .Mult b pos) (wRepL tr tb) :=
  pe_imp (pe_op op_rep (pe_lst ha) hb) fun σ H Q ⟨su, M, R, a, h, c⟩ => ⟨su, M, _, a, h, fun xs M1 vs H1 ⟨hz, q⟩ s1 d1 r1 => ⟨by rw [← r1.length]; exact hz, fun p hp => by
    have s2 := Stp.new (o := .lst vs) d1 hp
    refine ⟨su, M1, _, (a.go s1 d1).go s2 (d1.new hp), q, fun y M2 v H2 ⟨k, e, k1, k2, kz, q2⟩ s3 d3 r3 => ?_⟩
    subst e
    have hh := (s3 p _ upd_same (d1.free hp)).1
    have r4 := RepVs.step (s2.trans s3) _ _ r1
    exact ⟨p, k, vs, rfl, rep_int r3, hh, k1, k2, by rw [← r1.length]; exact kz, fun p2 hp2 => c.at_ q2 (((s1.trans s2).trans s3).trans (Stp.new d3 hp2)) (d3.new hp2) (new_lst d3 hp2 (reps r4 k.toNat))⟩⟩⟩

/-! ### {} -/
def wDict0 : WE := fun _ M R => R (.dct [] []) M
def wDict0H : WE := fun _ M R => ∀ p, M p = none → R (.ref p) (put M p (.dct [] []))
theorem j_dict0 : JE X g (.Dict [] [] pos) wDict0 := pe_imp pe_dnewK fun σ H Q ⟨su, M, R, a, h, c⟩ p hp =>
  c.at_ h (Stp.new a.hd hp) (a.hd.new hp) (by unfold RepV; exact ⟨p, [], rfl, upd_same, a.hd.free hp, rfl, .nil⟩)
theorem j_dict0H : JE X g (.Dict [] [] pos) wDict0H := pe_imp pe_dnewK fun σ H Q ⟨su, M, R, a, h, c⟩ p hp =>
  c.at_ (h p (a.hd.free hp)) (Stp.newH hp) (a.hd.putD (vs := []) (us := []) (ks := []) (Stp.newH hp) rfl .nil) mk_ref
end
end Pu

/-! Pu, part 13: the context of a text: names checked by one Bool; defs by their promises. -/
namespace Pu
open PySem PySem.Spec PyProof.Rows L2 PySem.SeqAt

/-- a def of the text that keeps a promise -/
structure FnV (P : Program) (w : World) (K : PySem.W.Frag) (mg : Str → Option Value) (base : Heap) (k : Nat) (x : Str) (st : Stmt) (ps : List Str) (sp : USp) : Prop where
  ex : ∃ (f : Addr) (fd : FuncData), FnOk P w K mg base (L2.CX P w) k f fd ps (liftSp K mg sp) ∧ mg x = some (.ref f) ∧ PySem.W.keepIn K (.ref f) = true ∧ (∃ nm : Str, FunD K nm nm (defArgs st) (defBody st) (defScope st) [] [] f fd) ∧ Binds K fd ps []
/-- a promise that asks more is kept too -/
theorem FnV.weak {P : Program} {w : World} {K : PySem.W.Frag} {mg : Str → Option Value} {base : Heap} {k : Nat} {x : Str} {st : Stmt} {ps : List Str} {sp sp' : USp} (F : FnV P w K mg base k x st ps sp) (h : ∀ us M R E, sp' us M R E → sp us M R E) : FnV P w K mg base k x st ps sp' := by
  obtain ⟨f, fd, F, r⟩ := F.ex
  refine ⟨f, fd, ⟨?_, ?_⟩, r⟩
  · exact fun vs H Q E ⟨us, M, R, Ru, r, d, q, c⟩ => F.len vs H Q E ⟨us, M, R, Ru, r, d, h _ _ _ _ q, c⟩
  · exact fun A outer s H args us vs Q E a b c d ⟨zs, M, R, Ru, r, dd, q, cc⟩ => F.run A outer s H args us vs Q E a b c d ⟨zs, M, R, Ru, r, dd, h _ _ _ _ q, cc⟩

/-- the walk's context: of a def's body, of a block in it; S: the names as written -/
structure Wk (X : Cx) (P : Program) (w : World) (K : PySem.W.Frag) (mg : Str → Option Value) (base : Heap) (k : Nat) (N : List Str) (S : Scope) : Prop where
  prog : X.prog = P
  wd : X.w = w
  K : X.K = K
  mg : X.mg = mg
  base : X.base = base
  N : X.N = N
  nd : X.N.Nodup
  dp : X.A.depth + 3 * k + 5 < recursionLimit
  un : X.A.units + 16 * k + 200 < cLine
  hd : X.calm = true → X.A.handled = none
  look : ∀ x c, S.names.lookup x = some c → (c ≠ .free → X.env.scope.names.lookup x = some c) ∧ (c = .free → X.env.scope.names.lookup x = some .free ∨ X.env.scope.names.lookup x = some .cell)
  st : ∀ x, S.names.lookup x = some .local ∨ S.names.lookup x = some .cell → X.fn x = true ∨ X.env.scope.names.lookup x = some .local
def visB (S : Scope) (x : Str) : Bool := match S.names.lookup x with
  | some .local => true | some .cell => true | some .free => true
  | _ => false
def locB (S : Scope) (x : Str) : Bool := match S.names.lookup x with
  | some .local => true | some .cell => true
  | _ => false
def glB (S : Scope) (x : Str) : Bool := S.names.lookup x == some .globalImplicit && !(x == ("__debug__" : Str))
def varB (N : List Str) (S : Scope) (i : Nat) (x : Str) : Bool := N[i]? == some x && (visB S x && (!(x == ("__debug__" : Str)) && !(x == ("__classdict__" : Str))))
def stoB (N : List Str) (S : Scope) (i : Nat) (x : Str) : Bool := N[i]? == some x && locB S x
/-- a block's own names (with their slots), the rest global or captured -/
def blkB (N : List Str) (S scope : Scope) (own : List (Str × Nat)) : Bool :=
  scope.kind == .function && (scope.names.all (fun y => scope.names.lookup y.1 == some y.2) && (own.all (fun p => N[p.2]? == some p.1) &&
    (scope.names.all (fun y => !(y.2 == .free) || (S.names.lookup y.1 == some .cell || S.names.lookup y.1 == some .free)) && scope.names.all fun y => !(y.2 == .local || y.2 == .cell) || ((own.map (·.1)).contains y.1 || !N.contains y.1))))

section
variable {X : Cx} {P : Program} {w : World} {K : PySem.W.Frag} {mg : Str → Option Value} {base : Heap} {k : Nat} {N : List Str} {S : Scope} {g : Gd}
theorem and2 {a b : Bool} (h : (a && b) = true) : a = true ∧ b = true := Bool.and_eq_true_iff.mp h
theorem Wk.vis (W : Wk X P w K mg base k N S) {x : Str} (h : visB S x = true) : Vis X.env.scope x := by
  unfold visB at h
  split at h
  · rename_i e; exact .inl ((W.look x _ e).1 (by decide))
  · rename_i e; exact .inr (.inl ((W.look x _ e).1 (by decide)))
  · rename_i e
    rcases (W.look x _ e).2 rfl with q | q
    · exact .inr (.inr q)
    · exact .inr (.inl q)
  · cases h
theorem locB_of {x : Str} (h : locB S x = true) : S.names.lookup x = some .local ∨ S.names.lookup x = some .cell := by
  unfold locB at h
  split at h
  · rename_i e; exact .inl e
  · rename_i e; exact .inr e
  · cases h
theorem Wk.loc (W : Wk X P w K mg base k N S) {x : Str} (h : locB S x = true) : Loc X.env.scope x ∧ (X.fn x = true ∨ X.env.scope.names.lookup x = some .local) := by
  refine ⟨?_, W.st x (locB_of h)⟩
  rcases locB_of h with e | e
  · exact .inl ((W.look x _ e).1 (by decide))
  · exact .inr ((W.look x _ e).1 (by decide))
theorem Wk.gl (W : Wk X P w K mg base k N S) {x : Str} (h : glB S x = true) : Gl X x ∧ (x == ("__debug__" : Str)) = false := by
  obtain ⟨h1, h2⟩ := and2 h
  exact ⟨(W.look x _ (by simpa using h1)).1 (by decide), by simpa using h2⟩
theorem Wk.at_ (W : Wk X P w K mg base k N S) {i : Nat} {x : Str} (h : (N[i]? == some x) = true) : X.N[i]? = some x := by
  rw [W.N]
  simpa using h
theorem Wk.u64 (W : Wk X P w K mg base k N S) : X.A.units + 64 < cLine := by
  have := W.un
  omega
theorem Wk.room (W : Wk X P w K mg base k N S) (h : X.calm = true) : Room k X.A := ⟨W.hd h, W.dp, W.un⟩
theorem Wk.u65 (W : Wk X P w K mg base k N S) : X.A.units + 65 < cLine := by
  have := W.un
  omega
/-- a block of it -/
theorem Wk.blk (W : Wk X P w K mg base k N S) {scope : Scope} {own : List (Str × Nat)} (h : blkB N S scope own = true) (s : Shared) (H : Hp) (C : Addr) (cl : List (Str × Addr)) (fp : List Addr) : Wk (X.blk s H scope (compEnvC scope cl C X.env) fp) P w K mg base k N scope where
  prog := W.prog
  wd := W.wd
  K := W.K
  mg := W.mg
  base := W.base
  N := W.N
  nd := W.nd
  dp := W.dp
  un := W.un
  hd := W.hd
  look := fun x c e => by
    show (c ≠ .free → (relS scope X.env.scope).names.lookup x = some c) ∧ (c = .free → (relS scope X.env.scope).names.lookup x = some .free ∨ (relS scope X.env.scope).names.lookup x = some .cell)
    refine ⟨fun hc => lookup_relS_keep hc e, fun hc => ?_⟩
    subst hc
    have key : ∀ (names : List (Str × NameKind)), names.lookup x = some .free →
        (names.map fun (n, k) => if (k == NameKind.free && X.env.scope.kind == .function && X.env.scope.names.lookup n == some .cell) then (n, NameKind.cell) else (n, k)).lookup x = some .free ∨
        (names.map fun (n, k) => if (k == NameKind.free && X.env.scope.kind == .function && X.env.scope.names.lookup n == some .cell) then (n, NameKind.cell) else (n, k)).lookup x = some .cell := by
      intro names
      induction names with
      | nil => intro h; cases h
      | cons y r ih =>
        obtain ⟨n, kk⟩ := y
        intro h
        rw [List.lookup_cons] at h
        show List.lookup x ((if (kk == NameKind.free && X.env.scope.kind == .function && X.env.scope.names.lookup n == some .cell) = true then (n, NameKind.cell) else (n, kk)) :: (r.map _)) = _ ∨ List.lookup x ((if (kk == NameKind.free && X.env.scope.kind == .function && X.env.scope.names.lookup n == some .cell) = true then (n, NameKind.cell) else (n, kk)) :: (r.map _)) = _
        cases hx : x == n with
        | true =>
          rw [hx] at h
          simp only [Option.some.injEq] at h
          subst h
          split
          · right; rw [List.lookup_cons, hx]
          · left; rw [List.lookup_cons, hx]
        | false =>
          rw [hx] at h
          split <;> (rw [List.lookup_cons, hx]; exact ih h)
    exact key _ e
  st := fun x hx => by
    rcases hx with e | e
    · exact .inr (lookup_relS_keep (by decide) e)
    · exact .inl (by show (scope.names.lookup x == some NameKind.cell) = true; rw [e]; rfl)
theorem Wk.blkOk (W : Wk X P w K mg base k N S) {scope : Scope} {own : List (Str × Nat)} (h : blkB N S scope own = true) : BlkOk X.N X.env.scope scope own := by
  obtain ⟨h1, h⟩ := and2 h
  obtain ⟨h2, h⟩ := and2 h
  obtain ⟨h3, h⟩ := and2 h
  obtain ⟨h4, h5⟩ := and2 h
  refine ⟨by simpa using h1, fun y hy => by simpa using List.all_eq_true.mp h2 y hy, fun p hp => W.at_ (List.all_eq_true.mp h3 p hp), fun y hy e => ?_, fun y hy e => ?_⟩
  · have q := List.all_eq_true.mp h4 y hy
    rw [e] at q
    simp only [beq_self_eq_true, Bool.not_true, Bool.false_or, Bool.or_eq_true, beq_iff_eq] at q
    rcases q with q | q
    · exact .inl ((W.look _ _ q).1 (by decide))
    · exact ((W.look _ _ q).2 rfl).symm
  · have q := List.all_eq_true.mp h5 y hy
    have e' : (y.2 == NameKind.local || y.2 == NameKind.cell) = true := by
      rcases e with e | e <;> rw [e] <;> decide
    rw [e'] at q
    simp only [Bool.not_true, Bool.false_or, Bool.or_eq_true] at q
    rcases q with q | q
    · exact .inl (by simpa using q)
    · refine .inr ?_
      rw [W.N]
      simpa using q

/-! ### the rules, packed -/
variable {e a b : Expr} {es : List Expr} {te ta tb : WE} {tr : WA} {tc : WT} {x : Str} {p pos : Pos}
theorem k_var (W : Wk X P w K mg base k N S) (i : Nat) (h : varB N S i x = true) : JE X g (.Name x pos) (wVar i) := by
  obtain ⟨h1, h⟩ := and2 h
  obtain ⟨h2, h⟩ := and2 h
  obtain ⟨h3, h4⟩ := and2 h
  exact j_var (W.at_ h1) (W.vis h2) (by simpa using h3) (by simpa using h4)
/-- a constant of the module, the same at every moment -/
structure Cst (K : PySem.W.Frag) (mg : Str → Option Value) (x : Str) (u : U) : Prop where
  ex : ∃ (v : V) (z : Value), mg x = some z ∧ RelV v z ∧ ∀ M H, RepV K M H u v
theorem k_cst (W : Wk X P w K mg base k N S) {u : U} (C : Cst K mg x u) (h : glB S x = true) : JE X g (.Name x pos) (wC u) := by
  obtain ⟨v, z, h1, h2, h3⟩ := C.ex
  obtain ⟨q1, q2⟩ := W.gl h
  exact j_glob q1 (by rw [W.mg]; exact h1) h2 (by rw [W.K]; exact h3) q2
theorem k_ty (W : Wk X P w K mg base k N S) {n : String} (hm : mg x = none) (h : glB S x = true) (hv : bootBuiltins x = some (.type n)) (hn : x ≠ "__name__") : JE X g (.Name x pos) (wC (.ty n)) := by
  obtain ⟨q1, q2⟩ := W.gl h
  exact j_ty q1 (by rw [W.mg]; exact hm) hv hn q2
theorem Wk.fnU (W : Wk X P w K mg base k N S) {k' : Nat} {st : Stmt} {ps : List Str} {sp : USp} (F : FnV P w K mg base k' x st ps sp) : FnU X k' x sp := by
  obtain ⟨f, fd, F, hm, hk, _, hb⟩ := F.ex
  obtain ⟨rfl, rfl, rfl, rfl, rfl, _⟩ := W
  exact ⟨f, fd, ps, F, hm, hk, hb⟩
theorem k_call (W : Wk X P w K mg base k N S) (hc : X.calm = true) {k' : Nat} {st : Stmt} {ps : List Str} {sp : USp} {ex : UWX} (F : FnV P w K mg base k' x st ps sp) (hk : k' ≤ k) (tk : Takes X (Wof X g ex)) (h : glB S x = true) (ha : JA X g (e :: es) tr)
    (he : starEach (e :: es) X.env = (false, eval e X.env) :: starEach es X.env) (hpl : (backTo pos (starEach es X.env)).any (·.1) = false) : JE X g (.Call (.Name x p) (e :: es) [] pos) (wCall sp ex tr) := by
  obtain ⟨q1, q2⟩ := W.gl h
  exact j_call (W.fnU F) ((W.room hc).mono hk) q1 tk ha q2 he hpl
theorem k_callB (W : Wk X P w K mg base k N S) {id : String} {o : OC} (hc : UCal X (.builtin id) o) (hm : mg x = none) (h : glB S x = true) (hv : bootBuiltins x = some (.builtin id)) (hn : x ≠ "__name__") (ha : JA X g (e :: es) tr)
    (he : starEach (e :: es) X.env = (false, eval e X.env) :: starEach es X.env) (hpl : (backTo pos (starEach es X.env)).any (·.1) = false) : JE X g (.Call (.Name x p) (e :: es) [] pos) (wCB o tr) := by
  obtain ⟨q1, q2⟩ := W.gl h
  exact j_callB hc q1 (by rw [W.mg]; exact hm) hv ha hn q2 he hpl
theorem k_callTy (W : Wk X P w K mg base k N S) {id : String} {o : OC} (hc : UCal X (.type id) o) (hm : mg x = none) (h : glB S x = true) (hv : bootBuiltins x = some (.type id)) (hn : x ≠ "__name__") (ha : JA X g (e :: es) tr)
    (he : starEach (e :: es) X.env = (false, eval e X.env) :: starEach es X.env) (hpl : (backTo pos (starEach es X.env)).any (·.1) = false) : JE X g (.Call (.Name x p) (e :: es) [] pos) (wCB o tr) := by
  obtain ⟨q1, q2⟩ := W.gl h
  exact j_callTy hc q1 (by rw [W.mg]; exact hm) hv ha hn q2 he hpl
theorem k_range1 (W : Wk X P w K mg base k N S) {tg : Expr} (hm : mg "range" = none) (h : glB S "range" = true) (ha : JA X g [a] tr) (hs : starEach [a] X.env = [(false, eval a X.env)]) : JI X g tg (.Call (.Name "range" p) [a] [] pos) (wRng1 tr) :=
  ji_range1 (W.gl h).1 (by rw [W.mg]; exact hm) ha hs
theorem k_range2 (W : Wk X P w K mg base k N S) {tg : Expr} (hm : mg "range" = none) (h : glB S "range" = true) (ha : JA X g [a, b] tr) (hs : starEach [a, b] X.env = [(false, eval a X.env), (false, eval b X.env)]) (hs2 : starEach [b] X.env = [(false, eval b X.env)]) :
    JI X g tg (.Call (.Name "range" p) [a, b] [] pos) (wRng2 tr) :=
  ji_range2 (W.gl h).1 (by rw [W.mg]; exact hm) ha hs hs2
theorem k_enum (W : Wk X P w K mg base k N S) {elts : List Expr} {kk : Nat} {tpos : Pos} (hm : mg "enumerate" = none) (h : glB S "enumerate" = true) (ha : JA X g [a] tr) (hs : starEach [a] X.env = [(false, eval a X.env)]) : JI X g (.Tuple elts kk tpos) (.Call (.Name "enumerate" p) [a] [] pos) (wEnum tr) :=
  ji_enum (W.gl h).1 (by rw [W.mg]; exact hm) ha hs
theorem k_name (W : Wk X P w K mg base k N S) (i : Nat) (h : stoB N S i x = true) : JG X g (.Name x pos) (wName i) := by
  obtain ⟨h1, h2⟩ := and2 h
  obtain ⟨q1, q2⟩ := W.loc h2
  exact jg_name W.nd (W.at_ h1) q1 q2
theorem k_nameo (W : Wk X P w K mg base k N S) (vs : List Nat) (i : Nat) (h : stoB N S i x = true) (hv : i ∈ vs) : JGo X g vs (.Name x pos) (wName i) := by
  obtain ⟨h1, h2⟩ := and2 h
  obtain ⟨q1, q2⟩ := W.loc h2
  exact jgo_name W.nd (W.at_ h1) q1 q2 hv
theorem k_set (W : Wk X P w K mg base k N S) (i : Nat) {pos' : Pos} (h : stoB N S i x = true) (he : JE X g e te) (hs : swapsWith e (some (.Name x pos')) pos.line X.env = pure false) : JS X g (.Assign [.Name x pos'] e pos) (wSet i te) := by
  obtain ⟨h1, h2⟩ := and2 h
  obtain ⟨q1, q2⟩ := W.loc h2
  exact js_set W.nd (W.at_ h1) q1 he hs q2
theorem k_comp (W : Wk X P w K mg base k N S) (hc : X.calm = true) (hh : Bool) {tg iter elt : Expr} {ifs : List Expr} {scope : Scope} {ww : WI} {gt : WG} (own : List (Str × Nat)) (ok : blkB N S scope own = true) (hi : JI X g tg iter ww)
    (hb : ∀ Y, Wk Y P w K mg base k N scope → Y.calm = true → JGo Y g (own.map (·.2)) tg gt ∧ JTs Y g ifs tc ∧ JE Y g elt te) (hs : ∀ x, foldedSetIterable iter X.env x = pure x) :
    JE X g (.ListComp elt [⟨tg, iter, ifs, 0⟩] scope pos) (wComp hh ww gt tc te (own.map (·.2))) :=
  j_comp hh hc W.nd hi (W.blkOk ok) (fun s H C cl fp => (hb _ (W.blk ok s H C cl fp) hc).1) (fun s H C cl fp => (hb _ (W.blk ok s H C cl fp) hc).2.1) (fun s H C cl fp => (hb _ (W.blk ok s H C cl fp) hc).2.2) hs
/-- name = [..]: swS tells the line's places and that the block has no such name -/
def swB (S scope : Scope) (y : Str) (py pos : Pos) (l : Nat) : Bool := S.kind == .function && (S.names.lookup y == some .local && (py.line == pos.line && !(scope.names.any fun (n, k) => n == y && (k == .local || k == .cell))))
theorem k_setComp (W : Wk X P w K mg base k N S) (hc : X.calm = true) (hk : X.env.scope.kind = .function) (hh : Bool) (i : Nat) {y : Str} {py spos : Pos} {tg iter elt : Expr} {ifs : List Expr} {scope : Scope} {ww : WI} {gt : WG} (own : List (Str × Nat)) (hy : stoB N S i y = true) (hsw : swB S scope y py pos spos.line = true) (ok : blkB N S scope own = true) (hi : JI X g tg iter ww)
    (hb : ∀ Y, Wk Y P w K mg base k N scope → Y.calm = true → JGo Y g (own.map (·.2)) tg gt ∧ JTs Y g ifs tc ∧ JE Y g elt te) (hs : ∀ x, foldedSetIterable iter X.env x = pure x) :
    JS X g (.Assign [.Name y py] (.ListComp elt [⟨tg, iter, ifs, 0⟩] scope pos) spos) (wSet i (wComp hh ww gt tc te (own.map (·.2)))) := by
  obtain ⟨h1, h2⟩ := and2 hy
  obtain ⟨s1, s2⟩ := and2 hsw
  obtain ⟨s2, s3⟩ := and2 s2
  obtain ⟨s3, s4⟩ := and2 s3
  have hyl : X.env.scope.names.lookup y = some .local := (W.look y _ (by simpa using s2)).1 (by decide)
  exact js_setComp hh hc W.nd (W.at_ h1) hyl (sw_true hk hyl s3 (by simpa using s4)) hi (W.blkOk ok) (fun s H C cl fp => (hb _ (W.blk ok s H C cl fp) hc).1) (fun s H C cl fp => (hb _ (W.blk ok s H C cl fp) hc).2.1) (fun s H C cl fp => (hb _ (W.blk ok s H C cl fp) hc).2.2) hs
end
end Pu

/-! Pu, part 14: calls with keywords, stores of pairs, raise, try, written dicts; a def of the text. -/
namespace Pu
open PySem PySem.Spec PyProof.Rows L2 PySem.SeqAt

section
variable {X : Cx} {P : Program} {w : World} {K : PySem.W.Frag} {mg : Str → Option Value} {base : Heap} {k : Nat} {N : List Str} {S : Scope} {g : Gd} {e a b : Expr} {es : List Expr} {te ta tb : WE} {tr tk : WA} {tc : WT} {x : Str} {p pos : Pos}
/-! ### calls with keywords, in the parameters' order -/
def JK (X : Cx) (g : Gd) (kws : List Keyword) (t : WA) : Prop := PK X kws (liftA X.K g t)
theorem pk_imp {kws : List Keyword} {t t' : TA} (h : PK X kws t) (i : ∀ σ H Q, t' σ H Q → t σ H Q) : PK X kws t' := ⟨fun pos pins s σ H Q I q => h.run pos pins s σ H Q I (i σ H Q q)⟩
theorem jk_nil : JK X g [] wNil := pk_imp pk_nil fun σ H Q ⟨su, M, R, a, h, c⟩ => c _ _ _ _ h (Stp.refl _ _) a.hd .nil
theorem jk_cons {nm : Option Str} {kpos : Pos} {kws : List Keyword} (ha : JE X g e te) (hr : JK X g kws tr) : JK X g (⟨nm, e, kpos⟩ :: kws) (wCons te tr) :=
  pk_imp (pk_cons ha hr) fun σ H Q ⟨su, M, R, a, h, c⟩ => ⟨su, M, _, a, h, fun x M1 v H1 q s1 d1 r1 => ⟨su, M1, _, a.go s1 d1, q, fun xs M2 vs H2 q2 s2 d2 r2 =>
    c _ _ _ _ q2 (s1.trans s2) d2 (.cons (r1.step s2) r2)⟩⟩
theorem run_kwS {CX : CXT} {n k : Nat} {f : Addr} {fd : FuncData} {ps ks : List Str} {sp : Sp} {E : Stt → XK} {pins : List (Addr × Obj)} {σ : Stt} {H : Hp} {s : Shared} {Q : VK} {us ws : List Value} {vs zs : List V} (F : FnOk X.prog X.w X.K X.mg X.base CX k f fd ps sp) (hr : Room k X.A)
    (hb : ∀ (s : Shared) (us ws : List Value), us.length = n → ws.length = ks.length → BindsTo s fd ⟨us, ks.zip ws⟩ (ps.zip (us ++ ws))) (hx : PassesAt CX X σ (E σ))
    (I : Inv X pins σ H s) (r : Vals vs us) (rz : Vals zs ws) (l1 : vs.length = n) (l2 : zs.length = ks.length) (h : sp (vs ++ zs) H Q (E σ)) : wpAny (model X.prog X.w) X.A (call (.ref f) us (ks.zip ws)) (EP X pins σ Q) X.xe s := by
  refine wpAny_call (codeAny_mono (F.run X.A X.stack s H ⟨us, ks.zip ws⟩ (us ++ ws) (vs ++ zs) Q (E σ) hr I.env0 (hb s us ws (r.length.symm.trans l1) (rz.length.symm.trans l2)) (r.append rz) h) fun r s' hq => ?_)
  cases r with
  | error e => exact hx pins H s e s' I hq
  | ok fl =>
    cases fl with
    | ret u => exact I.after hq
    | next => exact False.elim hq
    | brk => exact False.elim hq
    | cont => exact False.elim hq
def wCallK (n m : Nat) (sp : USp) (ex : UWX) (tr tk : WA) : WE := fun su M R => tr su M fun us M1 => tk su M1 fun zs M2 => us.length = n ∧ zs.length = m ∧ sp (us ++ zs) M2 R fun ux M3 => ex ux su M3
/-- how a def without defaults is called with keywords -/
abbrev KwB (x : Str) (st : Stmt) (ps ks : List Str) (n : Nat) : Prop := ∀ (nm : Str) (kV doc pm : Value) (an : Option Addr) (cdv ct : Value) (us ws : List Value), us.length = n → ws.length = ks.length →
  bindArgs (PySem.W.fnOf nm nm (defArgs st) (defBody st) (defScope st) .none kV doc pm an cdv ct) ⟨us, ks.zip ws⟩ = pure (ps.zip (us ++ ws))
theorem KwB.to {K : PySem.W.Frag} {st : Stmt} {ps ks : List Str} {n : Nat} {f : Addr} {fd : FuncData} {nm : Str} (F : FunD K nm nm (defArgs st) (defBody st) (defScope st) [] [] f fd) (h : KwB x st ps ks n) (s : Shared) (us ws : List Value) (h1 : us.length = n) (h2 : ws.length = ks.length) : BindsTo s fd ⟨us, ks.zip ws⟩ (ps.zip (us ++ ws)) := by
  obtain ⟨oc, od, dV, kV, doc, pm, an, cdv, ct, osl, rfl, lk, hcd, hD, hK⟩ := F.ex
  rcases hD with ⟨_, rfl⟩ | ⟨e, _⟩
  · exact .of_eq (h nm kV doc pm an cdv ct us ws h1 h2)
  · exact absurd rfl e
theorem k_callK (W : Wk X P w K mg base k N S) (hc : X.calm = true) {k' n : Nat} {st : Stmt} {ps ks : List Str} {sp : USp} {ex : UWX} {kws : List Keyword} (F : FnV P w K mg base k' x st ps sp) (hk : k' ≤ k) (B : KwB x st ps ks n) (tk' : Takes X (Wof X g ex)) (h : glB S x = true) (ha : JA X g (e :: es) tr) (hkw : JK X g kws tk)
    (hall : (backToKw pos (keywordEach kws X.env)).all (·.1.isSome) = true) (hks : (backToKw pos (keywordEach kws X.env)).filterMap (·.1) = ks)
    (he : starEach (e :: es) X.env = (false, eval e X.env) :: starEach es X.env) (hpl : ((backTo pos (starEach (e :: es) X.env)).any (·.1) || (backToKw pos (keywordEach kws X.env)).any (·.1.isNone)) = false) :
    JE X g (.Call (.Name x p) (e :: es) kws pos) (wCallK n ks.length sp ex tr tk) := by
  obtain ⟨q1, q2⟩ := W.gl h
  have hr := (W.room hc).mono hk
  obtain ⟨rfl, rfl, rfl, rfl, rfl, _⟩ := W
  obtain ⟨f, fd, F, hm, hkp, ⟨nm, FD⟩, _⟩ := F.ex
  refine ⟨fun pins s σ H Q I ⟨su, M, R, a, q, c⟩ => ?_⟩
  refine wpAny_Call_Name_kw (ld_glob I q1 hm ?_ q2)
  refine PySem.W.callWith_KW (h₀ := X.base) I.ok.mod.kin hkp hall (thn (ha.run pos pins s σ H (fun vs H1 => ∃ us M1, Stp M H M1 H1 ∧ RepM X.K M1 H1 ∧ RepVs X.K M1 H1 us vs ∧ tk su M1 fun zs M2 => us.length = n ∧ zs.length = ks.length ∧ sp (us ++ zs) M2 R fun ux M3 => ex ux su M3) I
    ⟨su, M, _, a, q, fun us M1 vs H1 q s1 d1 r1 => ⟨us, M1, s1, d1, r1, q⟩⟩) fun us s1 ⟨vs, H1, I1, r, zu, M1, st1, d1, r1, q1⟩ => ?_) hpl he
  refine thn (hkw.run pos pins s1 σ H1 (fun zs H2 => ∃ wu M2, Stp M1 H1 M2 H2 ∧ RepM X.K M2 H2 ∧ RepVs X.K M2 H2 wu zs ∧ zu.length = n ∧ wu.length = ks.length ∧ sp (zu ++ wu) M2 R fun ux M3 => ex ux su M3) I1
    ⟨su, M1, _, a.go st1 d1, q1, fun wu M2 zs H2 q s2 d2 r2 => ⟨wu, M2, s2, d2, r2, q⟩⟩) fun ws s2 ⟨zs, H2, I2, rz, wu, M2, st2, d2, r2, l1, l2, q2⟩ => ⟨I2.kIn, ?_⟩
  rw [hks]
  refine run_kwS (E := L2.WE (Wof X g ex)) F hr (fun s us ws => B.to FD s us ws) (passAt tk' σ) I2 r rz (by rw [← r1.length]; exact l1) (by rw [← r2.length]; exact l2) ⟨zu ++ wu, M2, R, _, (RepVs.step st2 _ _ r1).app r2, d2, q2, (c.go st1).go st2, fun ux M3 cls d H3 q3 s3 d3 r3 => ⟨ux, su, M3, ((a.go st1 d1).go st2 d2).go s3 d3, r3, q3⟩⟩
/-- keywords alone -/
theorem k_callK0 (W : Wk X P w K mg base k N S) (hc : X.calm = true) {k' : Nat} {st : Stmt} {ps ks : List Str} {sp : USp} {ex : UWX} {kws : List Keyword} (F : FnV P w K mg base k' x st ps sp) (hk : k' ≤ k) (B : KwB x st ps ks 0) (tk' : Takes X (Wof X g ex)) (h : glB S x = true) (hkw : JK X g kws tk)
    (hall : (backToKw pos (keywordEach kws X.env)).all (·.1.isSome) = true) (hks : (backToKw pos (keywordEach kws X.env)).filterMap (·.1) = ks)
    (hpl : ((backTo pos (starEach [] X.env)).any (·.1) || (backToKw pos (keywordEach kws X.env)).any (·.1.isNone)) = false) :
    JE X g (.Call (.Name x p) [] kws pos) (wCallK 0 ks.length sp ex wNil tk) := by
  obtain ⟨q1, q2⟩ := W.gl h
  have hr := (W.room hc).mono hk
  obtain ⟨rfl, rfl, rfl, rfl, rfl, _⟩ := W
  obtain ⟨f, fd, F, hm, hkp, ⟨nm, FD⟩, _⟩ := F.ex
  refine ⟨fun pins s σ H Q I ⟨su, M, R, a, q, c⟩ => ?_⟩
  refine wpAny_Call_Name_kw (ld_glob I q1 hm ?_ q2)
  refine PySem.W.callWith_KW0 (h₀ := X.base) I.ok.mod.kin hkp hall (thn (hkw.run pos pins s σ H (fun zs H2 => ∃ wu M2, Stp M H M2 H2 ∧ RepM X.K M2 H2 ∧ RepVs X.K M2 H2 wu zs ∧ wu.length = ks.length ∧ sp wu M2 R fun ux M3 => ex ux su M3) I
    ⟨su, M, _, a, q, fun wu M2 zs H2 ⟨_, q1, q⟩ s2 d2 r2 => ⟨wu, M2, s2, d2, r2, q1, q⟩⟩) fun ws s2 ⟨zs, H2, I2, rz, wu, M2, st2, d2, r2, l2, q2⟩ => ⟨I2.kIn, ?_⟩) hpl
  rw [hks]
  exact run_kwS (E := L2.WE (Wof X g ex)) (vs := []) F hr (fun s us ws => B.to FD s us ws) (passAt tk' σ) I2 .nil rz rfl (by rw [← r2.length]; exact l2) ⟨wu, M2, R, _, r2, d2, q2, c.go st2, fun ux M3 cls d H3 q3 s3 d3 r3 => ⟨ux, su, M3, (a.go st2 d2).go s3 d3, r3, q3⟩⟩

/-! ### written dicts, by their names -/
structure CDict (K : PySem.W.Frag) (w : World) (mg : Str → Option Value) (x : Str) (kvs : List (Str × U)) : Prop where
  ex : ∃ (d : Addr), mg x = some (.ref d) ∧ (∃ es n, KDict K w d es n) ∧ ∀ z, ∃ o, PySem.W.nsIn K d z = some o ∧ match kvs.lookup z with
    | some u => ∃ u0 v, o = some u0 ∧ RelV v u0 ∧ ∀ M H, RepV K M H u v
    | none => o = none
def uInD (kvs : List (Str × U)) (neg : Bool) : O1 := fun x M R => ∃ z, x = .str z ∧ R (.bl (if neg then !(kvs.lookup z).isSome else (kvs.lookup z).isSome)) M
def uIdxD (kvs : List (Str × U)) : O1 := fun x M R => ∃ z u, x = .str z ∧ kvs.lookup z = some u ∧ R u M
theorem k_inD (W : Wk X P w K mg base k N S) {kvs : List (Str × U)} (D : CDict K w mg x kvs) (h : glB S x = true) (ha : JE X g a ta) : JE X g (.Compare a [.In] [.Name x p] pos) (wUn (uInD kvs false) ta) := by
  obtain ⟨q1, q2⟩ := W.gl h
  obtain ⟨rfl, rfl, rfl, rfl, rfl, _⟩ := W
  obtain ⟨d, m1, ⟨es, n, D⟩, lk⟩ := D.ex
  refine pe_imp (pe_cmpR (op_in_kd D) ha (pe_glob (v := .ref d) q1 m1 rfl q2) rfl) fun σ H Q ⟨su, M, R, a, h, c⟩ => ⟨su, M, _, a, h, fun y M1 v H1 ⟨z, e, q⟩ s1 d1 r1 => ?_⟩
  subst e
  obtain ⟨o, e1, e2⟩ := lk z
  refine ⟨z, o, rep_str r1, rfl, e1, ?_⟩
  have e3 : o.isSome = (kvs.lookup z).isSome := by
    cases h : kvs.lookup z with
    | none => rw [h] at e2; rw [e2]; rfl
    | some w => rw [h] at e2; obtain ⟨u0, v0, e2, _⟩ := e2; rw [e2]; rfl
  rw [e3]
  exact c.at_ q s1 d1 mk_bl
theorem k_ninD (W : Wk X P w K mg base k N S) {kvs : List (Str × U)} (D : CDict K w mg x kvs) (h : glB S x = true) (ha : JE X g a ta) : JE X g (.Compare a [.NotIn] [.Name x p] pos) (wUn (uInD kvs true) ta) := by
  obtain ⟨q1, q2⟩ := W.gl h
  obtain ⟨rfl, rfl, rfl, rfl, rfl, _⟩ := W
  obtain ⟨d, m1, ⟨es, n, D⟩, lk⟩ := D.ex
  refine pe_imp (pe_cmpR (op_notIn_kd D) ha (pe_glob (v := .ref d) q1 m1 rfl q2) rfl) fun σ H Q ⟨su, M, R, a, h, c⟩ => ⟨su, M, _, a, h, fun y M1 v H1 ⟨z, e, q⟩ s1 d1 r1 => ?_⟩
  subst e
  obtain ⟨o, e1, e2⟩ := lk z
  refine ⟨z, o, rep_str r1, rfl, e1, ?_⟩
  have e3 : o.isSome = (kvs.lookup z).isSome := by
    cases h : kvs.lookup z with
    | none => rw [h] at e2; rw [e2]; rfl
    | some w => rw [h] at e2; obtain ⟨u0, v0, e2, _⟩ := e2; rw [e2]; rfl
  rw [e3]
  exact c.at_ q s1 d1 mk_bl
theorem k_idxD (W : Wk X P w K mg base k N S) {kvs : List (Str × U)} (D : CDict K w mg x kvs) (h : glB S x = true) (ha : JE X g e te) (hs : PlainIx e) : JE X g (.Subscript (.Name x p) e pos) (wUn (uIdxD kvs) te) := by
  obtain ⟨q1, q2⟩ := W.gl h
  obtain ⟨rfl, rfl, rfl, rfl, rfl, _⟩ := W
  obtain ⟨d, m1, ⟨es, n, D⟩, lk⟩ := D.ex
  refine pe_imp (pe_ix ix_kdict (pe_glob (v := .ref d) q1 m1 rfl q2) ha hs) fun σ H Q ⟨su, M, R, a, h, c⟩ => ⟨su, M, _, a, h, fun y M1 v H1 ⟨z, u, e, l, q⟩ s1 d1 r1 => ?_⟩
  subst e
  obtain ⟨o, e1, e2⟩ := lk z
  rw [l] at e2
  obtain ⟨u0, v0, rfl, rv, rr⟩ := e2
  exact ⟨d, z, v0, rfl, rep_str r1, ⟨es, n, u0, D.at_, D.lit, e1, rv⟩, c.at_ q s1 d1 (rr _ _)⟩
end

/-! ### a def's context -/
section
variable {X : Cx} {P : Program} {w : World} {K : PySem.W.Frag} {mg : Str → Option Value} {base : Heap} {k : Nat} {N : List Str} {S : Scope} {g : Gd} {e a b c : Expr} {es : List Expr} {te ta tb : WE} {tr tk : WA} {tc : WT} {x y z : Str} {p pos : Pos}
theorem DefX.wk (D : DefX P w K mg base k N S X) (nd : N.Nodup) : Wk X P w K mg base k N S where
  prog := D.prog
  wd := D.wd
  K := D.K
  mg := D.mg
  base := D.base
  N := D.N
  nd := by rw [D.N]; exact nd
  dp := D.room.dp
  un := D.room.un
  hd := fun _ => D.room.hd
  look := fun x c e => by rw [D.sc]; exact ⟨fun _ => e, fun h => .inl (by rw [e, h])⟩
  st := fun x _ => .inl (D.fn x)
/-- the same names, nothing else -/
def dEnv (sc : Scope) : Env := { scope := sc, locals := 0, globals := 0, cells := [] }
theorem sw_dEnv (T : List Expr) (v : Expr) (env : Env) : swappedStores T v env = swappedStores T v (dEnv env.scope) := rfl
/-- targets whose values are packed -/
theorem k_asg (D : DefX P w K mg base k N S X) {tg : Expr} {gt : WG} (he : JE X g e te) (hg : JG X g tg gt) (hs : swapsWithSole [tg] e pos.line X.env = pure false) (hw : swappedStores [tg] e (dEnv S) = pure none)
    (h1 : (assignEach [tg] X.env).map (·.2) = [assign tg X.env]) : JS X g (.Assign [tg] e pos) (wAsg te gt) :=
  js_asg he hg hs (by rw [sw_dEnv, D.sc]; exact hw) h1
def locOnly (S : Scope) (x : Str) : Bool := S.names.lookup x == some .local
theorem DefX.lo (D : DefX P w K mg base k N S X) (h : locOnly S x = true) : X.env.scope.names.lookup x = some .local := by
  rw [D.sc]
  simpa [locOnly] using h
theorem k_par (D : DefX P w K mg base k N S X) (nd : N.Nodup) (i j : Nat) {px py pt : Pos} {kt k2 pt2} (h : ((N[i]? == some x && N[j]? == some y) && (!(i == j) && (locOnly S x && locOnly S y))) = true) (ha : JA X g [a, b] tr)
    (hw : swappedStores [.Tuple [.Name x px, .Name y py] kt pt] (.Tuple [a, b] k2 pt2) (dEnv S) = pure (some [x, y])) (hs : swapsWithSole [.Tuple [.Name x px, .Name y py] kt pt] (.Tuple [a, b] k2 pt2) pos.line X.env = pure false) :
    JS X g (.Assign [.Tuple [.Name x px, .Name y py] kt pt] (.Tuple [a, b] k2 pt2) pos) (wPar i j tr) := by
  obtain ⟨h1, h2⟩ := and2 h
  obtain ⟨h1, h1'⟩ := and2 h1
  obtain ⟨h2, h3⟩ := and2 h2
  obtain ⟨h3, h4⟩ := and2 h3
  have W := D.wk nd
  exact js_par D.calm W.nd (W.at_ h1) (W.at_ h1') (by simpa using h2) (D.lo h3) (D.lo h4) ha (by rw [sw_dEnv, D.sc]; exact hw) hs
def wPar3 (i j l : Nat) (ta : WA) : WS := fun D su M => ta su M fun us M1 => ∃ x y z, us = [x, y, z] ∧ D.nx (((su.set i (some x)).set j (some y)).set l (some z)) M1
theorem k_par3 (D : DefX P w K mg base k N S X) (nd : N.Nodup) (i j l : Nat) {px py pz pt : Pos} {kt k2 pt2} (h : ((N[i]? == some x && (N[j]? == some y && N[l]? == some z)) && (!(i == j) && (!(i == l) && (!(j == l) && (locOnly S x && (locOnly S y && locOnly S z)))))) = true) (ha : JA X g [a, b, c] tr)
    (hw : swappedStores [.Tuple [.Name x px, .Name y py, .Name z pz] kt pt] (.Tuple [a, b, c] k2 pt2) (dEnv S) = pure (some [x, y, z])) (hs : swapsWithSole [.Tuple [.Name x px, .Name y py, .Name z pz] kt pt] (.Tuple [a, b, c] k2 pt2) pos.line X.env = pure false) :
    JS X g (.Assign [.Tuple [.Name x px, .Name y py, .Name z pz] kt pt] (.Tuple [a, b, c] k2 pt2) pos) (wPar3 i j l tr) := by
  obtain ⟨h1, h2⟩ := and2 h
  obtain ⟨h1, h1'⟩ := and2 h1
  obtain ⟨h1', h1''⟩ := and2 h1'
  obtain ⟨h2, h3⟩ := and2 h2
  obtain ⟨h3, h4⟩ := and2 h3
  obtain ⟨h4, h5⟩ := and2 h4
  obtain ⟨h5, h6⟩ := and2 h5
  obtain ⟨h6, h7⟩ := and2 h6
  have W := D.wk nd
  exact ps_imp (ps_par3 D.calm W.nd (W.at_ h1) (W.at_ h1') (W.at_ h1'') (by simpa using h2) (by simpa using h3) (by simpa using h4) (D.lo h5) (D.lo h6) (D.lo h7) ha (by rw [sw_dEnv, D.sc]; exact hw) hs) fun D σ H ⟨su, M, R, a, h, c⟩ => ⟨su, M, _, a, h, fun us M1 vs H1 ⟨x, y, z, e, q⟩ s1 d1 r1 => by
    subst e
    obtain ⟨v, r, e, k1, k2⟩ := r1.uncons
    obtain ⟨v2, v3, e2, k3, k4⟩ := k2.two
    subst e e2
    exact ⟨v, v2, v3, rfl, (c.nx.go s1).here q ((((a.go s1 d1).set k1).set k3).set k4)⟩⟩
/-- an own exception class without own __init__ -/
structure ExV (K : PySem.W.Frag) (mg : Str → Option Value) (x : Str) : Prop where
  ex : ∃ (C : Addr) (bmB : List Value) (B newId initId : String), ExcBaseFacts B newId initId bmB ∧ PySem.W.excIn K C bmB newId = true ∧ mg x = some (.ref C) ∧ PySem.W.keepIn K (.ref C) = true ∧ PySem.W.subIn K (.ref C) (.type "BaseException") = some true ∧ PySem.W.typeIn K (.ref C) = some (.type "type")
theorem k_raise (W : Wk X P w K mg base k N S) (hc : X.calm = true) {ex : UWX} {m : Str} {j : Nat} {p2 pos' : Pos} (F : ExV K mg x) (h : glB S x = true) (tk : Takes X (Wof X g ex)) :
    JS X g (.Raise (some (.Call (.Name x p) [.Constant (.str m) j p2] [] pos)) none pos') (wRaise x ex) := by
  obtain ⟨q1, q2⟩ := W.gl h
  obtain ⟨rfl, rfl, rfl, rfl, rfl, _⟩ := W
  obtain ⟨C, bmB, B, nI, iI, F, q, gC, kC, r1, r2⟩ := F.ex
  exact js_raise ⟨C, bmB, B, nI, iI, F, q, gC, kC, raises_own r1 r2⟩ hc q1 tk q2
/-- which classes the class x catches -/
structure Catch (K : PySem.W.Frag) (mg : Str → Option Value) (x : Str) (sub : Str → Option Bool) : Prop where
  ex : ∃ C : Addr, mg x = some (.ref C) ∧ ∀ n b D, sub n = some b → mg n = some D → PySem.W.exmOne K D (.ref C) = some b
theorem k_try (D : DefX P w K mg base k N S X) (nd : N.Nodup) {body suite : List Stmt} {b₀ : Stmt} {np pos' : Pos} {sub : Str → Option Bool} {ex : UWX} {tb : UWX → WS} {ts : WS} (F : Catch K mg x sub) (h : glB S x = true) (tk : Takes X (Wof X g ex))
    (hb : ∀ (Y : Cx) (g' : Gd) (ex' : UWX), DefX P w K mg base k N S Y → Takes Y (Wof Y g' ex') → JSs Y g' body (tb ex')) (hsu : ∀ (Y : Cx), Wk Y P w K mg base k N S → Y.env.scope = S → JSs Y g (b₀ :: suite) ts) :
    JS X g (.Try body [.ExceptHandler (some (.Name x np)) none (b₀ :: suite) pos'] [] [] pos) (wTry sub tb ts ex) := by
  have W := D.wk nd
  obtain ⟨q1, q2⟩ := W.gl h
  obtain ⟨C, m, cat⟩ := F.ex
  refine js_try (c := .ref C) D.stk D.fr ⟨q1, q2, .inl (by rw [D.mg]; exact m)⟩ tk (fun n b D' h1 h2 => by rw [D.K]; exact cat n b D' h1 (by rw [← D.mg]; exact h2)) (fun g' ex' pn xe tk' hp => ?_) fun a oe pn => ?_
  · exact hb _ g' ex' ⟨D.prog, D.wd, D.K, D.mg, D.base, D.N, D.sc, D.calm, D.fn, D.room, D.stk, D.fr, hp⟩ tk'
  · refine hsu _ ⟨W.prog, W.wd, W.K, W.mg, W.base, W.N, W.nd, W.dp, W.un, (fun z => by cases z), W.look, W.st⟩ D.sc
/-- THE RULE of a def -/
theorem fn_okV {nm : Str} {st : Stmt} {ps : List Str} {sp : USp} (F : ∃ (f : Addr) (fd : FuncData), FunD K nm nm (defArgs st) (defBody st) (defScope st) [] [] f fd ∧ mg x = some (.ref f)) (S : FnScope N ps (defScope st)) (len : ∀ us M R E, sp us M R E → us.length = ps.length)
    (bind : ∀ (kV doc pm : Value) (an : Option Addr) (cdv ct : Value) (us : List Value), us.length = ps.length → bindArgs (PySem.W.fnOf nm nm (defArgs st) (defBody st) (defScope st) .none kV doc pm an cdv ct) ⟨us, []⟩ = pure (ps.zip us))
    (t : UXK → WS) (hb : ∀ X g E, DefX P w K mg base k N (defScope st) X → Takes X (Wof X g fun ux _ M => E ux M) → JSs X g (defBody st) (t E))
    (h : ∀ us M R E, sp us M R E → t E { nx := fun _ M' => Fin R .non M', rt := Fin R } (us.map some ++ List.replicate (N.length - us.length) none) M) : FnV P w K mg base (k + 1) x st ps sp := by
  obtain ⟨f, fd, F, m⟩ := F
  refine ⟨f, fd, ?_, m, F.kp, ⟨_, F⟩, F.bindsN bind⟩
  refine F.ok (CX := L2.CX P w) S (fun vs H Q E ⟨us, M, R, Ru, r, _, q, _, _⟩ => by rw [← r.length]; exact len _ _ _ _ q) fun cdv A outer s H vs Q E hr ⟨us, M, R, Ru, r, d, q, c, cx⟩ => ?_
  refine ⟨liftS K ⟨M, H⟩ (t Ru), hb (cxOf (L2.CX P w) P w K mg base N nm (defScope st) f cdv A outer s H E) ⟨M, H⟩ Ru ⟨rfl, rfl, rfl, rfl, rfl, rfl, rfl, rfl, fun _ => rfl, hr, rfl, rfl, passes_of (X := cxOf (L2.CX P w) P w K mg base N nm (defScope st) f cdv A outer s H E) rfl⟩ ?_, ?_⟩
  · have tk : Takes (cxOf (L2.CX P w) P w K mg base N nm (defScope st) f cdv A outer s H E) (fun cls d _ H => E cls d H) := takes_of rfl rfl rfl rfl
    exact tk.imp fun cls d' σ H' ⟨ux, su, M', a, rx, e⟩ => cx ux M' cls d' H' e a.st a.hd rx
  · refine ⟨_, M, _, ⟨Stp.refl _ _, RepS.start r N.length, d⟩, h us M R Ru q, ⟨fun su M' σ H' q s1 d1 _ => ?_, c.fin, fun _ _ _ _ z => z.elim, fun _ _ _ _ z => z.elim⟩⟩
    exact c.fin _ _ _ _ q s1 d1 mk_non
end
end Pu

/-! Pu, part 15: what stands behind the top; a law's end. -/
namespace Pu
open PySem PySem.Spec PyProof.Rows L2

/-! ### constants that K holds -/
mutual
def repB (K : PySem.W.Frag) : U → Value → Bool
  | .non, .none => true
  | .bl b, .bool c => b == c
  | .int i, .int j _ => decide (i = j)
  | .str x, .str y _ => decide (x = y)
  | .tup us, .ref a => (match K.lookup a with
    | some ⟨.type c, none, .seq its _, _⟩ => decide (c = "tuple") && (decide (its.size ≤ sizeLine) && repBs K us its.toList)
    | _ => false)
  | .lst us, .ref a => (match K.lookup a with
    | some ⟨.type c, none, .seq its _, _⟩ => decide (c = "list") && (decide (its.size ≤ sizeLine) && repBs K us its.toList)
    | _ => false)
  | _, _ => false
def repBs (K : PySem.W.Frag) : List U → List Value → Bool
  | [], [] => true
  | u :: us, v :: vs => repB K u v && repBs K us vs
  | _, _ => false
end
mutual
theorem repB_ok {K : PySem.W.Frag} : ∀ (u : U) (z : Value), repB K u z = true → ∃ v, RelV v z ∧ ∀ M H, RepV K M H u v
  | .non, z, h => by
    cases z <;> simp [repB] at h
    exact ⟨.non, rfl, fun _ _ => mk_non⟩
  | .bl b, z, h => by
    cases z <;> simp [repB] at h
    subst h
    exact ⟨.bl b, rfl, fun _ _ => mk_bl⟩
  | .int i, z, h => by
    cases z <;> simp [repB] at h
    subst h
    exact ⟨.int i, ⟨_, rfl⟩, fun _ _ => mk_int⟩
  | .str x, z, h => by
    cases z <;> simp [repB] at h
    subst h
    exact ⟨.str x, ⟨_, rfl⟩, fun _ _ => mk_str⟩
  | .ty n, z, h => by cases z <;> simp [repB] at h
  | .ref a, z, h => by cases z <;> simp [repB] at h
  | .dct ks us, z, h => by cases z <;> simp [repB] at h
  | .pr us, z, h => by cases z <;> simp [repB] at h
  | .tup us, z, h => by
    cases z <;> simp only [repB, Bool.false_eq_true] at h
    rename_i a
    split at h
    · rename_i c its n sl q
      obtain ⟨h1, h⟩ := Bool.and_eq_true_iff.mp h
      obtain ⟨h2, h3⟩ := Bool.and_eq_true_iff.mp h
      obtain ⟨vs, r, k⟩ := repBs_ok us its.toList h3
      exact ⟨.ref a, rfl, fun M H => mk_tup (.inr ⟨_, its, n, q, congrArg Value.type (of_decide_eq_true h1), rfl, rfl, of_decide_eq_true h2, r⟩) (k M H)⟩
    · cases h
  | .lst us, z, h => by
    cases z <;> simp only [repB, Bool.false_eq_true] at h
    rename_i a
    split at h
    · rename_i c its n sl q
      obtain ⟨h1, h⟩ := Bool.and_eq_true_iff.mp h
      obtain ⟨h2, h3⟩ := Bool.and_eq_true_iff.mp h
      obtain ⟨vs, r, k⟩ := repBs_ok us its.toList h3
      exact ⟨.ref a, rfl, fun M H => mk_lst (.inr ⟨_, its, n, q, congrArg Value.type (of_decide_eq_true h1), rfl, rfl, of_decide_eq_true h2, r⟩) (k M H)⟩
    · cases h
theorem repBs_ok {K : PySem.W.Frag} : ∀ (us : List U) (zs : List Value), repBs K us zs = true → ∃ vs, Vals vs zs ∧ ∀ M H, RepVs K M H us vs
  | [], zs, h => by
    cases zs <;> simp [repBs] at h
    exact ⟨[], .nil, fun _ _ => .nil⟩
  | u :: us, zs, h => by
    cases zs <;> simp only [repBs, Bool.false_eq_true] at h
    obtain ⟨h1, h2⟩ := Bool.and_eq_true_iff.mp h
    obtain ⟨v, r, k⟩ := repB_ok u _ h1
    obtain ⟨vs, r2, k2⟩ := repBs_ok us _ h2
    exact ⟨v :: vs, .cons r r2, fun M H => .cons (k M H) (k2 M H)⟩
end
def cstB (K : PySem.W.Frag) (q : Str × U) : Bool := match PySem.W.nsIn K mainGlobals q.1 with
  | some (some z) => repB K q.2 z
  | _ => false
theorem cst_ok {K : PySem.W.Frag} {h : Heap} {mg : Str → Option Value} (X : K.In h) (G : h.Ns mainGlobals mg) {x : Str} {u : U} (c : cstB K (x, u) = true) : Cst K mg x u := by
  unfold cstB at c
  split at c
  · rename_i z e
    obtain ⟨v, r, k⟩ := repB_ok u z c
    exact ⟨v, z, PySem.W.mg_of X G e, r, k⟩
  · cases c
/-! ### written dicts -/
def entsB (K : PySem.W.Frag) : List (Str × U) → List DictEntry → Bool
  | [], [] => true
  | (x, u) :: r, e :: es => (match e.key with
    | .str y _ => decide (y = x)
    | _ => false) && (repB K u e.val && entsB K r es)
  | _, _ => false
theorem ents_ok {K : PySem.W.Frag} (z : Str) : ∀ (kvs : List (Str × U)) (es : List DictEntry), entsB K kvs es = true →
    (match kvs.lookup z with
    | some u => ∃ e v, es.find? (·.key.isStr z) = some e ∧ RelV v e.val ∧ ∀ M H, RepV K M H u v
    | none => es.find? (·.key.isStr z) = none) ∧ es.any (·.refKey) = false
  | [], es, h => by
    cases es <;> simp [entsB] at h
    exact ⟨rfl, rfl⟩
  | (x, u) :: r, es, h => by
    cases es with
    | nil => simp [entsB] at h
    | cons e es =>
      simp only [entsB, Bool.and_eq_true] at h
      obtain ⟨h1, h2, h3⟩ := h
      obtain ⟨ih1, ih2⟩ := ents_ok z r es h3
      cases ek : e.key with
      | str y t =>
        rw [ek] at h1
        have e1 : y = x := of_decide_eq_true h1
        subst e1
        have k1 : e.key.isStr z = (y == z) := by rw [ek]; rfl
        refine ⟨?_, by rw [List.any_cons, ih2]; simp [DictEntry.refKey, ek]⟩
        rw [List.lookup_cons]
        by_cases hz : z = y
        · subst hz
          have e2 : (z == z) = true := by simp
          rw [e2]
          obtain ⟨v, rv, k⟩ := repB_ok u _ h2
          exact ⟨e, v, by rw [List.find?_cons, k1, e2], rv, k⟩
        · have e2 : (z == y) = false := by simpa using hz
          have e3 : (y == z) = false := by simpa using Ne.symm hz
          rw [e2]
          simp only [List.find?_cons, k1, e3]
          exact ih1
      | _ => rw [ek] at h1; cases h1
def dicB (K : PySem.W.Frag) (q : Str × List (Str × U)) : Bool := match K.lookup (He.ga K q.1) with
  | some ⟨_, _, .dict es _, _⟩ => entsB K q.2 es.toList
  | _ => false
theorem dic_ok {K : PySem.W.Frag} {w : World} {mg : Str → Option Value} {x : Str} {kvs : List (Str × U)} (m : mg x = some (.ref (He.ga K x))) (D : ∃ es n, KDict K w (He.ga K x) es n) (c : dicB K (x, kvs) = true) : CDict K w mg x kvs := by
  refine ⟨_, m, D, fun z => ?_⟩
  obtain ⟨es, n, D⟩ := D
  unfold dicB at c
  simp only [D.at_] at c
  obtain ⟨h1, h2⟩ := ents_ok z kvs es.toList c
  unfold PySem.W.nsIn
  rw [D.at_]
  simp only
  cases h : kvs.lookup z with
  | some u =>
    rw [h] at h1
    obtain ⟨e, v, e1, r, k⟩ := h1
    rw [e1]
    exact ⟨_, rfl, e.val, v, rfl, r, k⟩
  | none =>
    rw [h] at h1
    rw [h1, h2]
    exact ⟨none, rfl, rfl⟩
/-! ### the facts of a law's text -/
structure Tx where
  free : List Str
  csts : List (Str × U) := []
  dics : List (Str × List (Str × U)) := []
  excs : List Str := []
  exms : List (Str × Str × Bool) := []
  defs : List (Str × Str × Stmt)
  als : List (Str × Str) := []
def Tx.fa (T : Tx) : List He.Fa := T.free.map .free ++ (T.dics.map (fun d => .glo d.1) ++ (T.excs.map .glo ++ (T.excs.map .exc ++ (T.exms.map (fun e => .exm e.1 e.2.1 e.2.2) ++ (T.defs.map (fun d => .glo d.1) ++ (T.als.map (fun a => .glo a.1) ++ T.als.map fun a => .glo a.2))))))
def defD (d : Str × Str × Stmt) : He.DefD := ⟨(d.1, none), d.2.1, d.2.1, defArgs d.2.2, defBody d.2.2, defScope d.2.2, [], []⟩
def Tx.fn (T : Tx) : List He.DefD := T.defs.map defD
def Tx.ts (T : Tx) : List He.Tab := T.dics.map fun d => ((fun K => He.ga K d.1), d.2.map (·.1))
def Tx.ex (T : Tx) (K : PySem.W.Frag) : Bool := (T.csts.all (cstB K) && T.dics.all (dicB K)) && T.als.all fun a => decide (He.ga K a.1 = He.ga K a.2)
abbrev Tx.hk (T : Tx) : PySem.W.Hook := He.hookX 4 T.fa T.fn T.ts [] T.ex
def Tx.ob (T : Tx) (s : PySem.W.SharedT) : He.AlX := He.obsX 4 T.fa T.fn T.ts [] T.ex (HandSHeadRun.getT s)
theorem Tx.ob_eq (T : Tx) (s : PySem.W.SharedT) : T.ob s = T.hk.obs s.abs := He.obsX_eq (HandSHeadRun.getT_eq s)
/-- .. as the walk takes them -/
structure Txt (T : Tx) (w : World) (K : PySem.W.Frag) (mg : Str → Option Value) : Prop where
  free : ∀ x ∈ T.free, mg x = none
  cst : ∀ q ∈ T.csts, Cst K mg q.1 q.2
  dic : ∀ q ∈ T.dics, CDict K w mg q.1 q.2
  exc : ∀ x ∈ T.excs, ExV K mg x
  exm : ∀ q ∈ T.exms, ∃ C D : Addr, mg q.1 = some (.ref C) ∧ mg q.2.1 = some (.ref D) ∧ PySem.W.exmOne K (.ref C) (.ref D) = some q.2.2
  glo : ∀ x ∈ T.excs, ∃ C, mg x = some (.ref C)
  def_ : ∀ d ∈ T.defs, ∃ (f : Addr) (fd : FuncData), FunD K d.2.1 d.2.1 (defArgs d.2.2) (defBody d.2.2) (defScope d.2.2) [] [] f fd ∧ mg d.1 = some (.ref f)
  al : ∀ a ∈ T.als, ∃ f : Addr, mg a.1 = some (.ref f) ∧ mg a.2 = some (.ref f)
theorem Tx.says {T : Tx} {w : World} {K : PySem.W.Frag} {mg : Str → Option Value} {h : Heap} (X : K.In h) (G : h.Ns mainGlobals mg) (c : He.SaysX T.fa T.fn T.ts [] T.ex w h K) (hx : T.exms.all (fun e => T.excs.contains e.1 && T.excs.contains e.2.1) = true) : Txt T w K mg := by
  have fact : ∀ f ∈ T.fa, f.ok K = true := fun f hf => c.t.d.facts hf
  have me : ∀ f, f ∈ T.free.map He.Fa.free → f ∈ T.fa := fun f hf => List.mem_append_left _ hf
  have gd : ∀ d ∈ T.dics, He.Fa.glo d.1 ∈ T.fa := fun d hd => List.mem_append_right _ (List.mem_append_left _ (List.mem_map.mpr ⟨d, hd, rfl⟩))
  have ge : ∀ x ∈ T.excs, He.Fa.glo x ∈ T.fa := fun x hx => List.mem_append_right _ (List.mem_append_right _ (List.mem_append_left _ (List.mem_map.mpr ⟨x, hx, rfl⟩)))
  have xe : ∀ x ∈ T.excs, He.Fa.exc x ∈ T.fa := fun x hx => List.mem_append_right _ (List.mem_append_right _ (List.mem_append_right _ (List.mem_append_left _ (List.mem_map.mpr ⟨x, hx, rfl⟩))))
  have xm : ∀ e ∈ T.exms, He.Fa.exm e.1 e.2.1 e.2.2 ∈ T.fa := fun e he => List.mem_append_right _ (List.mem_append_right _ (List.mem_append_right _ (List.mem_append_right _ (List.mem_append_left _ (List.mem_map.mpr ⟨e, he, rfl⟩)))))
  have gf : ∀ d ∈ T.defs, He.Fa.glo d.1 ∈ T.fa := fun d hd => List.mem_append_right _ (List.mem_append_right _ (List.mem_append_right _ (List.mem_append_right _ (List.mem_append_right _ (List.mem_append_left _ (List.mem_map.mpr ⟨d, hd, rfl⟩))))))
  have ga1 : ∀ a ∈ T.als, He.Fa.glo a.1 ∈ T.fa := fun a ha => List.mem_append_right _ (List.mem_append_right _ (List.mem_append_right _ (List.mem_append_right _ (List.mem_append_right _ (List.mem_append_right _ (List.mem_append_left _ (List.mem_map.mpr ⟨a, ha, rfl⟩)))))))
  have ga2 : ∀ a ∈ T.als, He.Fa.glo a.2 ∈ T.fa := fun a ha => List.mem_append_right _ (List.mem_append_right _ (List.mem_append_right _ (List.mem_append_right _ (List.mem_append_right _ (List.mem_append_right _ (List.mem_append_right _ (List.mem_map.mpr ⟨a, ha, rfl⟩)))))))
  have gx : ∀ x ∈ T.excs, mg x = some (.ref (He.ga K x)) := fun x hx => He.glo_ok X G (fact _ (ge x hx))
  obtain ⟨m12, m3⟩ := Bool.and_eq_true_iff.mp (show ((T.csts.all (cstB K) && T.dics.all (dicB K)) && T.als.all fun a => decide (He.ga K a.1 = He.ga K a.2)) = true from c.more)
  obtain ⟨m1, m2⟩ := Bool.and_eq_true_iff.mp m12
  refine ⟨fun x hx => He.free_ok X G (fact _ (me _ (List.mem_map.mpr ⟨x, hx, rfl⟩))), fun q hq => cst_ok X G (List.all_eq_true.mp m1 q hq), fun q hq => ?_, fun x hx => ?_, fun q hq => ?_, fun x hx => ⟨_, gx x hx⟩, fun d hd => ?_, fun a ha => ⟨_, He.glo_ok X G (fact _ (ga1 a ha)), by rw [of_decide_eq_true (List.all_eq_true.mp m3 a ha)]; exact He.glo_ok X G (fact _ (ga2 a ha))⟩⟩
  · refine dic_ok (He.glo_ok X G (fact _ (gd q hq))) ?_ (List.all_eq_true.mp m2 q hq)
    obtain ⟨i, hi, e⟩ := List.mem_iff_getElem.mp hq
    refine c.t.tab i (t := ((fun K => He.ga K q.1), q.2.map (·.1))) ?_
    show (T.dics.map fun d => ((fun K => He.ga K d.1), d.2.map (·.1)))[i]? = _
    rw [List.getElem?_map, List.getElem?_eq_getElem hi, e]
    rfl
  · obtain ⟨c1, c2, c3, c4⟩ := He.exc_ok (fact _ (xe x hx))
    exact ⟨_, _, _, _, _, PySem.F.excBase_ValueError, c1, gx x hx, c2, c3, c4⟩
  · have z := List.all_eq_true.mp hx q hq
    obtain ⟨z1, z2⟩ := Bool.and_eq_true_iff.mp z
    exact ⟨_, _, gx q.1 (by simpa using z1), gx q.2.1 (by simpa using z2), He.exm_ok (fact _ (xm q hq))⟩
  · obtain ⟨fd, F⟩ := c.t.d.defs (d := defD d) (List.mem_map.mpr ⟨d, hd, rfl⟩)
    exact ⟨_, fd, F, He.glo_ok X G (fact _ (gf d hd))⟩
theorem Txt.alias {T : Tx} {P : Program} {w : World} {K : PySem.W.Frag} {mg : Str → Option Value} {base : Heap} {k : Nat} {x y : Str} {st : Stmt} {ps : List Str} {sp : USp} (t : Txt T w K mg) (h : (y, x) ∈ T.als) (F : FnV P w K mg base k x st ps sp) : FnV P w K mg base k y st ps sp := by
  obtain ⟨f, fd, F, m, r⟩ := F.ex
  obtain ⟨f', m1, m2⟩ := t.al _ h
  rw [m] at m2
  cases m2
  exact ⟨f, fd, F, m1, r⟩
theorem Txt.catch {T : Tx} {w : World} {K : PySem.W.Frag} {mg : Str → Option Value} (t : Txt T w K mg) {x : Str} (hx : x ∈ T.excs) {sub : Str → Option Bool} (h : ∀ n b, sub n = some b → (n, x, b) ∈ T.exms) : Catch K mg x sub := by
  obtain ⟨C, m⟩ := t.glo x hx
  refine ⟨C, m, fun n b D e1 e2 => ?_⟩
  obtain ⟨C', D', q1, q2, q3⟩ := t.exm _ (h n b e1)
  rw [q1] at e2
  cases e2
  rw [q2] at m
  cases m
  exact q3

/-! ### a law's end -/
theorem reps_of_intsK {K : PySem.W.Frag} {M : Mp} {H : Hp} : ∀ us : List Int, RepVs K M H (us.map .int) (us.map V.int)
  | [] => .nil
  | u :: us => .cons mk_int (reps_of_intsK us)
theorem walk_U {l : PySem.W.OpenLaw} {n k : Nat} {q : Program} {loose : List Str} {XP : (Str → Option Value) → Heap → Prop} {YP : World → Heap → Prop} {d : DefRec} {x : Str}
    (hn : l.most = some n) (hn2 : n ≤ sizeLine) (hdf : d.params.defaults = []) (hr : Room k callerA)
    (F : ∀ (w : World) (mg : Str → Option Value) (fa : Addr) (h : Heap), YP w h → h.Ns mainGlobals mg → mg d.name = some (.ref fa) →
      ∃ (K : PySem.W.Frag) (fd : FuncData) (sp : Sp), K.In h ∧ (∀ (s : Shared) (u : Value), BindsTo s fd ⟨[u], []⟩ [(x, u)]) ∧
        (∀ (H : Hp) (a : Addr) (ns : List Int), ns.length ≤ n → SqL K H a (ns.map V.int) → sp [.ref a] H (fun v _ => v = .bl true) fun _ _ _ => False) ∧
        ∀ base : Heap, K.In base → base.Ns mainGlobals mg → FnOk l.prog w K mg base (L2.CX l.prog w) k fa fd [x] sp) :
    PySem.W.WalkO q loose XP YP l.row.toRowW d [] (fun f vs => PySem.call f vs) := by
  refine Att.attach_call hn hdf fun w s₀ s₁ mg mb fa o pm cd doc a vs ns G Y ho hd hcd hmg hobj hints hlen hg => ?_
  obtain ⟨K, fd, sp, KX, hb, hsp, hF⟩ := F w mg fa _ Y G.T.g hmg
  exact law_call (CX := L2.CX l.prog w) KX G.T.g G.T.b G.T.builtins G.T.nolimit hg hobj hints (Nat.le_trans hlen hn2) hr hF hb (fun H hO hS => hsp H a ns hlen hS) fun H e s' ⟨_, _, _, _, _, _, _, _, _, _, _, _, z⟩ => z
/-- the promise of every law: True of every script -/
def spLaw : USp := fun us M R _ => ∃ ns : List Int, us = [.lst (ns.map .int)] ∧ ns.length ≤ 63 ∧ R (.bl true) M
theorem walk_T {l : PySem.W.OpenLaw} {T : Tx} {k : Nat} {q : Program} {loose : List Str} {XP : (Str → Option Value) → Heap → Prop} {d : DefRec} {st : Stmt} (hn : l.most = some 63) (hdf : d.params.defaults = []) (hr : Room k callerA) (hd : d.name = ("law" : Str))
    (hx : T.exms.all (fun e => T.excs.contains e.1 && T.excs.contains e.2.1) = true) (hm : (("law" : Str), ("law" : Str), st) ∈ T.defs)
    (bind : ∀ (kV doc pm : Value) (an : Option Addr) (cdv ct : Value) (us : List Value), us.length = 1 → bindArgs (PySem.W.fnOf "law" "law" (defArgs st) (defBody st) (defScope st) .none kV doc pm an cdv ct) ⟨us, []⟩ = pure ((["script"] : List Str).zip us))
    (F : ∀ (w : World) (K : PySem.W.Frag) (mg : Str → Option Value) (base : Heap), Txt T w K mg → FnV l.prog w K mg base k "law" st ["script"] spLaw) :
    PySem.W.WalkO q loose XP T.hk.says l.row.toRowW d [] (fun f vs => PySem.call f vs) := by
  refine walk_U (n := 63) (k := k) (x := "script") hn (by decide) hdf hr fun w mg fa h Y G hmg => ?_
  obtain ⟨K, KX, c⟩ := Y
  have t := T.says KX G c hx
  obtain ⟨f, fd, FD, m⟩ := t.def_ _ hm
  rw [hd] at hmg
  have e : f = fa := by
    have := m.symm.trans hmg
    cases this
    rfl
  subst e
  refine ⟨K, fd, liftSp K mg spLaw, KX, fun s u => FD.bindsA (ps := ["script"]) (fun kV doc pm an cdv ct us hl => bind kV doc pm an cdv ct us hl) s [u] rfl, fun H a ns hl hS => ?_, fun base _ _ => ?_⟩
  · refine ⟨[.lst (ns.map .int)], fun _ => none, fun u _ => u = .bl true, fun _ _ => False, .cons (mk_lst ?_ (reps_of_intsK ns)) .nil, (fun a o e => by cases e), ⟨ns, rfl, hl, rfl⟩, fun u M' v H' e _ _ r => ?_, fun _ _ _ _ _ z _ _ _ => z⟩
    · rcases hS with h | h
      · exact .inl ⟨h, rfl⟩
      · exact .inr h
    · subst e
      exact rep_bl r
  · obtain ⟨f', fd', F', m', _, ⟨nm', FD'⟩, _⟩ := (F w K mg base t).ex
    have e1 : f' = f := by
      have := m'.symm.trans m
      cases this
      rfl
    subst e1
    have e2 : fd' = fd := by
      obtain ⟨_, _, _, _, _, _, _, _, _, _, _, l1, _⟩ := FD'.ex
      obtain ⟨_, _, _, _, _, _, _, _, _, _, _, l2, _⟩ := FD.ex
      rw [l1] at l2
      cases l2
      rfl
    rw [← e2]
    exact F'
end Pu

/-! Sets of texts made of a list, sorted. -/
namespace Pu
open PySem PySem.Spec PyProof.Rows L2 PySem.Froz
/-- the set of the texts l at a, that can be walked -/
def TSet (P : Program) (w : World) (h : Heap) (a : Addr) (l : List Str) : Prop :=
  ∃ D : SD, h.get? a = some (sObj "set" D) ∧ TxOk P w D l ∧ l.Nodup ∧ Ris D.2.2.place.toList ∧ (w.params.followText "set-order" = true ∨ D.2.2.led = true)
section
variable {P : Program} {w : World} {h h' : Heap} {a : Addr} {l : List Str} {A : Around} {E : Value → Shared → Prop} {s : Shared}
theorem TSet.at (T : TSet P w h a l) (k : ∀ o, h.get? a = some o → h'.get? a = some o) : TSet P w h' a l := by
  obtain ⟨D, ho, r⟩ := T
  exact ⟨D, k _ ho, r⟩
theorem tail_walk {ep : Nat} {es1 : Array (Int × Value)} {t2 : SetTable} {wd : Bool} (r : Ris t2.place.toList) {p : Prop} (hl : p ∨ t2.led = true) : Ris (tailTx ep es1 t2 wd).2.2.place.toList ∧ (p ∨ (tailTx ep es1 t2 wd).2.2.led = true) := by
  unfold tailTx
  split
  · exact ⟨relayAll_ris _ _ _, hl.imp id fun z => by show (relayAll t2 es1 _).2.1.led = true; rw [relayAll_led]; exact z⟩
  · exact ⟨r, hl⟩
theorem add_walk {hs : Int} {v : Value} {D : SD} (r : Ris D.2.2.place.toList) {p : Prop} (hl : p ∨ D.2.2.led = true) : Ris (addTx hs v D).2.2.place.toList ∧ (p ∨ (addTx hs v D).2.2.led = true) := by
  obtain ⟨es, ep, t⟩ := D
  have r1 := layNew_ris t es hs v r
  have l1 := layNew_led t es hs v
  unfold addTx
  refine tail_walk ?_ ?_
  · split
    · exact r1
    · exact r1
  · refine hl.imp id fun z => ?_
    split
    · show (layNew t es hs v).2.1.led = true
      rw [l1]; exact z
    · show (layNew t es hs v).2.1.led = true
      rw [l1]; exact z
/-- a text that is in already -/
theorem add_old {D : SD} {k : Str} {u : Tok} {Q : Bool → Shared → Prop} (ho : s.heap.get? a = some (sObj "set" D)) (F : TxOk P w D l) (hk : k ∈ l) (hb : l.length < scanBound) (q : Q false s) : wpAny (model P w) A (setAddHashed a (.str k u) (hashStr w k)) Q E s := by
  obtain ⟨es, ep, t⟩ := D
  have hd : (sObj "set" (es, ep, t)).data = .set es ep t := rfl
  have hf : t.fits es.size = true := F.fit
  have hel : ElemsOf (PySem.strKind P w) es.toList := F.el
  have hsz : es.size = l.length := F.sz
  have hb0 : es.size < scanBound := by omega
  have hkey : (PySem.strKind P w).is k (.str k u) = true := is_str k u
  unfold setAddHashed setAddHashedIn
  refine wpAny_holding (wpAny_bind (wpAny_setState_of ho hd hf ?_))
  dsimp only
  rw [byScan_of rfl hb0 hel]
  simp only [↓reduceIte]
  unfold setAddByScan
  refine wpAny_bind ?_
  refine wpAny_bind (wpAny_rule ?_)
  refine wpAny_bind (wpAny_setScan_of (knd := PySem.strKind P w) (k := k) hkey ho hd hf hel ?_)
  cases hfi : List.findIdx? (fun e => (PySem.strKind P w).is k e.2) es.toList with
  | some j =>
    dsimp only
    exact wpAny_pure (wpAny_pure q)
  | none =>
    obtain ⟨e, he, q⟩ := (F.mem k).mp hk
    have c := List.findIdx?_eq_none_iff.mp hfi e he
    rw [q] at c
    cases c
/-- one more text -/
theorem tset_add {k : Str} {u : Tok} {Q : Bool → Shared → Prop} (T : TSet P w s.heap a l) (hb : l.length + 1 < scanBound)
    (hQ : ∀ b h' l', Heap.SameBut a s.heap h' → TSet P w h' a l' → (∀ x, x ∈ l' ↔ x = k ∨ x ∈ l) → l'.length ≤ l.length + 1 → Q b { s with heap := h' }) : wpAny (model P w) A (setAddHashed a (.str k u) (hashStr w k)) Q E s := by
  obtain ⟨D, ho, F, nd, r, hl⟩ := T
  by_cases hk : k ∈ l
  · exact add_old ho F hk (by omega) (hQ false s.heap l (Heap.SameBut.refl a s.heap) ⟨D, ho, F, nd, r, hl⟩ (fun x => ⟨.inr, fun z => z.elim (fun e => e ▸ hk) id⟩) (Nat.le_succ _))
  · obtain ⟨r2, l2⟩ := add_walk (hs := hashStr w k) (v := .str k u) r hl
    refine add_x ho F hk hb (hQ true _ (k :: l) (Heap.SameBut.update s.heap a _) ⟨_, get_upd _ ho rfl, add_ok u F, List.nodup_cons.mpr ⟨hk, nd⟩, r2, l2⟩ (fun x => List.mem_cons) (Nat.le_refl _))
theorem set_update_txt {I : Addr} {fp wr : List Addr} {G : Array GenState → Array GenState → Prop} {n : Nat} {Pv : Nat → Value → Prop} {St : Nat → Shared → Prop} {R : Result → Shared → Prop}
    (W : WalksS P w A.in1 I fp wr G n Pv St) (S : Addr) (hSf : S ∉ fp) (ns : List Str) (hn : n = ns.length) (hb : ns.length + 1 < scanBound) (hval : ∀ i v, Pv i v → ∃ k t, ns[i]? = some k ∧ v = .str k t) :
    ∀ (k i : Nat) (s : Shared), n - i = k → i ≤ n → St i s → (∃ l, l.length ≤ i ∧ (∀ x, x ∈ l ↔ x ∈ ns.take i) ∧ TSet P w s.heap S l) →
      (∀ s' l, Moved (S :: wr) G s s' → l.length ≤ n → (∀ x, x ∈ l ↔ x ∈ ns) → TSet P w s'.heap S l → R (.ok (.ret .none)) s') →
      codeAny (model P w) A (.builtin "set.update.loop" ⟨[.ref S, .ref I], []⟩) R s := by
  have hSw : S ∉ wr := fun h => hSf (W.sub _ h)
  have hsub : ∀ b ∈ wr, b ∈ S :: wr := fun b hb => List.mem_cons_of_mem _ hb
  intro k
  induction k with
  | zero =>
    intro i s hk' hi hst ⟨l, hc, hm0, hS⟩ hR
    have hin : i = n := by omega
    subst hin
    refine codeAny_builtin F.entry_set_update_loop ?_
    rw [Around.under_plainId F.plain_set_update_loop _]
    show wpAny _ A.in1 (pyNext (.ref I) >>= _) _ _ s
    refine wpAny_bind (W.done s _ _ hst fun s' hm => ?_)
    show wpAny _ A.in1 (ret Value.none) _ _ s'
    have e : ns.take i = ns := List.take_of_length_le (by omega)
    rw [e] at hm0
    exact wpAny_pure (hR s' l (hm.mono hsub) hc hm0 (hS.at fun o e => hm.heap S o hSw e))
  | succ k ih =>
    intro i s hk' hi hst ⟨l, hc, hm0, hS⟩ hR
    have hlt : i < n := by omega
    refine codeAny_builtin F.entry_set_update_loop ?_
    rw [Around.under_plainId F.plain_set_update_loop _]
    show wpAny _ A.in1 (pyNext (.ref I) >>= _) _ _ s
    refine wpAny_bind (W.item i s _ _ hlt hst fun v s' hP hst' hm => ?_)
    obtain ⟨z, t, hz, rfl⟩ := hval i v hP
    have hS' : TSet P w s'.heap S l := hS.at fun o e => hm.heap S o hSw e
    show wpAny _ A.in1 (holding [Value.str z t] (setAdd S (.str z t)) >>= _) _ _ s'
    refine wpAny_bind (wpAny_holding ?_)
    unfold setAdd
    refine wpAny_holding ?_
    refine wpAny_bind ((PySem.strKind P w).pyHash (k := z) (is_str z t) ?_)
    refine tset_add (s := { s' with toks := s'.toks + 1 }) hS' (by omega) fun b h' l' hsb hS2 hm2 hl2 => ?_
    refine wpAny_pure ⟨plainId_quiet F.plain_set_update_loop _, ih (i + 1) _ (by omega) hlt (W.frame _ s' _ _ hst' (Nat.le_succ _) fun b hb o e => ?_) ⟨l', by omega, fun x => ?_, hS2⟩ fun s'' c2 hm'' hc'' hx hS'' => ?_⟩
    · rw [hsb.2 b (fun h : b = S => hSf (by rw [← h]; exact hb))]; exact e
    · rw [hm2, List.take_add_one, hz, hm0]
      simp [or_comm]
    · refine hR s'' c2 (Moved.trans W.gtrans ((hm.mono hsub).then_heap (Nat.le_succ _) fun b o hb e => ?_) hm'') hc'' hx hS''
      rw [hsb.2 b (fun h : b = S => hb (by rw [h]; exact List.mem_cons_self))]; exact e
theorem str_at {us : List Value} {ns : List Str} (h : StrsAre us ns) : ∀ (i : Nat) (v : Value), us[i]? = some v → ∃ k t, ns[i]? = some k ∧ v = Value.str k t := by
  induction h with
  | nil => intro i v h; simp at h
  | cons y t r ih =>
    intro i v h
    cases i with
    | zero => simp at h; exact ⟨y, t, rfl, h.symm⟩
    | succ i => simpa using ih i v (by simpa using h)
theorem tset_new {b : Bool} (hb : b = !w.params.followText "set-order") (ho : h.get? a = some { cls := .type "set", dict := none, data := .set #[] 0 (.fresh 0 0 b) }) : TSet P w h a [] :=
  ⟨(#[], 0, .fresh 0 0 b), ho, TxOk.nil rfl, List.nodup_nil, List.Pairwise.nil, by
    show _ ∨ b = true
    rw [hb]
    cases w.params.followText "set-order"
    · exact .inr rfl
    · exact .inl rfl⟩
set_option maxHeartbeats 8000000 in
/-- set(l) of a list of texts -/
theorem call_set_txt {l : Addr} {items : Array Value} (ns : List Str) {Q : Value → Shared → Prop} (hh : A.handled = none) (hl : s.heap.IsList l items) (hit : StrsAre items.toList ns) (hb : ns.length + 1 < scanBound)
    (h : ∀ (h' : Heap) (tk : Nat) (l' : List Str), TSet P w h' s.heap.objs.size l' → (∀ x, x ∈ l' ↔ x ∈ ns) → l'.length ≤ ns.length → (∀ b o, s.heap.get? b = some o → h'.get? b = some o) → Q (.ref s.heap.objs.size) { s with heap := h', toks := tk }) :
    wpAny (model P w) A (call (.type "set") [.ref l]) Q E s := by
  have hisz : items.size = ns.length := by
    have q := StrsAre.length hit
    rw [Array.length_toList] at q
    exact q
  obtain ⟨c, tl, hmro⟩ := F.called_set.mro
  have hmade := F.called_set.made
  have hsub := F.called_set.sub
  refine wpAny_call (codeAny_of_tree ?_)
  show wpAny _ _ (callAny (.type "set") _) _ _ _
  refine wpAny_pure ⟨Code.quiet_builtin _ (by decide +kernel), codeAny_builtin F.entry_type_call ?_⟩
  rw [Around.under_plain (weight_type_call_type "set" [.ref l] []) rfl]
  have h1 := F.called_set.notType
  have h2 := F.called_set.canCreate
  have hct := F.typeCall_set_1 (.ref l)
  repeat (any_goals (first | assumption | wp_step))

  refine codeAny_mono (code_set_led1 (.ref l) (E := E) (Q₁ := fun obj s₁ => obj = .ref s.heap.objs.size ∧ s₁ = { s with heap := s.heap.push { cls := .type "set", dict := none, data := .set #[] 0 (.fresh 0 0 (!w.params.followText "set-order")) } }) ⟨rfl, rfl⟩) fun r s₁ hr => ?_
  cases r with
  | error e => exact hr
  | ok fl =>
    cases fl with
    | ret obj =>
      obtain ⟨rfl, rfl⟩ := hr
      generalize hled : (!w.params.followText "set-order") = led
      have hS : (s.heap.push { cls := .type "set", dict := none, data := .set #[] 0 (.fresh 0 0 led) }).get? s.heap.objs.size = some { cls := .type "set", dict := none, data := .set #[] 0 (.fresh 0 0 led) } := Heap.get?_push_size _ rfl
      have hT : Shared.TypeIs { s with heap := s.heap.push { cls := .type "set", dict := none, data := .set #[] 0 (.fresh 0 0 led) } } (.ref s.heap.objs.size) "set" := ⟨_, hS, rfl⟩
      have hli := F.called_set.init.lookup
      have hbi := F.called_set.init.bind (.ref s.heap.objs.size)
      repeat (any_goals (first | assumption | wp_step))

      refine codeAny_mono (codeAny_call_builtin (R := wants (fun r s₂ => r = .none ∧ ∃ h' tk l', s₂ = { s with heap := h', toks := tk } ∧ TSet P w h' s.heap.objs.size l' ∧ (∀ x, x ∈ l' ↔ x ∈ ns) ∧ l'.length ≤ ns.length ∧
          (∀ b o, s.heap.get? b = some o → h'.get? b = some o)) E) F.called_set.init.plain F.entry_set_init (check_set_init_1 hT ?_)) fun r₂ s₂ hr₂ => ?_
      · obtain ⟨ol, hol, hcl, nl, hdl⟩ := hl
        obtain ⟨ocls, odict, odata, oslots⟩ := ol
        simp only at hcl hdl
        subst hcl; subst hdl
        have hol' : (s.heap.push { cls := .type "set", dict := none, data := .set #[] 0 (.fresh 0 0 led) }).get? l = some { cls := .type "list", dict := odict, data := .seq items nl, slots := oslots } := Heap.get?_push_of_some _ hol
        have hsls := F.sub_list_set
        have hslf := F.sub_list_frozenset
        have hne : (Value.type "list" == Value.type "dict") = false := by decide
        have hl1 : (s.heap.push { cls := .type "set", dict := none, data := .set #[] 0 (.fresh 0 0 led) }).IsList l items := ⟨_, hol', rfl, nl, rfl⟩
        unfold Builtin.«set.__init__» noKeywords Builtin.Frozenset.updateFrom
        generalize hPI : pyIter = PI
        wp_walk
        subst hPI

        refine wpAny_pyIter_list hl1 ?_
        refine wpAny_bind (wpAny_runValue ?_)
        have hlS : l < s.heap.objs.size := Heap.lt_size hol
        have hh3 : A.in1.in1.in1.handled = none := by simp [hh]
        have hneI : l ≠ (s.heap.push { cls := .type "set", dict := none, data := .set #[] 0 (.fresh 0 0 led) }).objs.size := by
          rw [Heap.size_push]; exact Nat.ne_of_lt (Nat.lt_succ_of_lt hlS)
        have hSf : s.heap.objs.size ∉ [(s.heap.push { cls := .type "set", dict := none, data := .set #[] 0 (.fresh 0 0 led) }).objs.size, l] := by
          rw [Heap.size_push]; simp only [List.mem_cons, List.mem_singleton, List.not_mem_nil, or_false, not_or]
          exact ⟨Nat.ne_of_lt (Nat.lt_succ_self _), Nat.ne_of_gt hlS⟩
        have hval : ∀ (i : Nat) (v : Value), items[i]? = some v → ∃ k t, ns[i]? = some k ∧ v = .str k t := fun i v hv => str_at hit i v (by rw [Array.getElem?_toList]; exact hv)
        refine set_update_txt ((Walks.list hh3 _ l hneI items).toS) s.heap.objs.size
          hSf ns hisz hb hval (items.size - 0) 0 _ (by omega) (Nat.zero_le _)
          ⟨⟨_, Heap.get?_push_size _ rfl, rfl, rfl⟩, (hl1.push _)⟩ ?hS0 ?hR
        case hS0 =>
          have hget : ((s.heap.push { cls := .type "set", dict := none, data := .set #[] 0 (.fresh 0 0 led) }).push { cls := .type "list_iterator", data := .fields #[.ref l, .int 0 0] }).get? s.heap.objs.size
              = some { cls := .type "set", dict := none, data := .set #[] 0 (.fresh 0 0 led) } := Heap.get?_push_of_some _ hS
          exact ⟨[], Nat.le_refl 0, fun x => by simp, tset_new hled.symm hget⟩
        case hR =>
          intro s' l' hm hl' hx hS'
          obtain ⟨h', g2, d', tk', os'⟩ := s'
          have eg : g2 = s.gens := hm.gens
          have ed : d' = s.drawn := hm.drawn
          have eo : os' = s.os := hm.os
          subst eg; subst ed; subst eo
          show wpAny _ _ _ _ _ _
          refine wpAny_pure ?_
          show wpAny _ _ (ret Value.none) _ _ _
          rw [hisz] at hl'
          refine wpAny_pure ⟨rfl, h', tk', l', rfl, hS', hx, hl', fun b o e => ?_⟩
          have hb0 : b < s.heap.objs.size := Heap.lt_size e
          have hb1 : b ≠ s.heap.objs.size := Nat.ne_of_lt hb0
          have hb2 : b ≠ (s.heap.push { cls := .type "set", dict := none, data := .set #[] 0 (.fresh 0 0 led) }).objs.size := by
            rw [Heap.size_push]; exact Nat.ne_of_lt (Nat.lt_succ_of_lt hb0)
          exact hm.heap b o (by simp only [List.mem_cons, List.mem_singleton, List.not_mem_nil, or_false, not_or]; exact ⟨hb1, hb2⟩) (Heap.get?_push_of_some _ (Heap.get?_push_of_some _ e))

      · cases r₂ with
        | error e => exact hr₂
        | ok fl₂ =>
          cases fl₂ with
          | ret r =>
            obtain ⟨rfl, h', tk, l', rfl, hS', hx, hl', hk'⟩ := hr₂
            repeat (any_goals (first | assumption | wp_step))
            exact h _ _ _ hS' hx hl' hk'
          | _ => exact hr₂.elim
    | _ => exact hr.elim
end
end Pu

namespace Pu
open PySem PySem.Spec PyProof.Rows L2 PySem.Froz
def TSetO (P : Program) (w : World) (a : Addr) (l : List Str) : HO := .ext fun h => TSet P w h a l
section
variable {X : Cx}
theorem tsetO_new {w : World} {P : Program} {H : Hp} {h : Heap} {a : Addr} {l : List Str} (R : TSet P w h a l) : ObjOk P w H h a (TSetO P w a l) := by
  have ⟨D, ho, _⟩ := R
  exact ⟨R, ⟨_, ho⟩, fun h1 h2 p k => TSet.at p k⟩
theorem tsetO_get {pins : List (Addr × Obj)} {σ : L2.St} {H : Hp} {s : Shared} {a : Addr} {l : List Str} (I : Inv X pins σ H s) (ha : H a = some (TSetO X.prog X.w a l)) : TSet X.prog X.w s.heap a l := (I.hok a _ ha).1
/-- set(xs) of a list of texts -/
def rSetT (X : Cx) : List V → Hp → VK → Prop := fun vs H Q => ∃ (a : Addr) (xs : List Str), vs = [V.ref a] ∧ SqL X.K H a (xs.map V.str) ∧ xs.length < 4000 ∧
  ∀ (l : List Str) (p : Addr), (∀ x, x ∈ l ↔ x ∈ xs) → l.length ≤ xs.length → H p = none → Q (.ref p) (upd H p (TSetO X.prog X.w p l))
theorem cr_setT (hc : X.calm = true) : CallR X (.type "set") (rSetT X) := by
  intro pins s σ H vs us Q I r h
  obtain ⟨a, xs, rfl, hs, hz, q⟩ := h
  obtain ⟨its, rv, hl, _⟩ := I.list hs
  rw [Vals.ref1 r]
  refine call_set_txt xs (I.ok.hd hc) hl.isList rv.strs (by unfold scanBound; omega) fun h' tk l' T hm hlen hk => ?_
  exact ⟨.ref _, upd H s.heap.objs.size (TSetO X.prog X.w s.heap.objs.size l'), I.laid (t' := tk) hk (Nat.le_refl _) (tsetO_new T), rfl, q l' _ hm hlen (I.hok.fresh (Nat.le_refl _))⟩
theorem nodup_is {P : Program} {w : World} {l : List Str} {D : SD} (F : TxOk P w D l) : ∃ ks : List Str, StrsAre (D.1.toList.map (·.2)) ks := by
  have : ∀ es : List (Int × Value), ElemsOf (PySem.strKind P w) es → ∃ ks : List Str, StrsAre (es.map (·.2)) ks := by
    intro es
    induction es with
    | nil => intro _; exact ⟨[], .nil⟩
    | cons e es ih =>
      intro h
      obtain ⟨ks, r⟩ := ih fun x hx => h x (List.mem_cons_of_mem _ hx)
      obtain ⟨⟨k, hk, _⟩, _⟩ := h e List.mem_cons_self
      have hk' : Value.isStrOf k e.2 = true := hk
      cases hv : e.2 with
      | str y t =>
        refine ⟨y :: ks, ?_⟩
        rw [List.map_cons, hv]
        exact .cons y t r
      | _ => rw [hv] at hk'; simp [Value.isStrOf] at hk'
  exact this _ F.el
theorem strs_all : ∀ {vs : List Value}, (∀ v ∈ vs, ∃ x t, v = Value.str x t) → ∃ ks, StrsAre vs ks
  | [], _ => ⟨[], .nil⟩
  | v :: vs, h => by
    obtain ⟨x, t, rfl⟩ := h v List.mem_cons_self
    obtain ⟨ks, r⟩ := strs_all fun u hu => h u (List.mem_cons_of_mem _ hu)
    exact ⟨x :: ks, .cons x t r⟩
theorem strsAre_mem {vs : List Value} {ks : List Str} (h : StrsAre vs ks) : ∀ k, k ∈ ks ↔ ∃ t, Value.str k t ∈ vs := by
  induction h with
  | nil => intro k; simp
  | cons y t r ih =>
    intro k
    constructor
    · intro hk
      rcases List.mem_cons.mp hk with e | hk
      · exact ⟨t, by rw [e]; exact List.mem_cons_self⟩
      · obtain ⟨u, hu⟩ := (ih k).mp hk
        exact ⟨u, List.mem_cons_of_mem _ hu⟩
    · rintro ⟨u, hu⟩
      rcases List.mem_cons.mp hu with e | hu
      · cases e; exact List.mem_cons_self
      · exact List.mem_cons_of_mem _ ((ih k).mpr ⟨u, hu⟩)
theorem same_perm {α : Type} [DecidableEq α] : ∀ {l ks : List α}, l.Nodup → (∀ x ∈ l, x ∈ ks) → ks.length ≤ l.length → l.Perm ks
  | [], ks, _, _, h => by
    have : ks = [] := List.eq_nil_of_length_eq_zero (by simpa using h)
    rw [this]
  | x :: l, ks, nd, hs, h => by
    obtain ⟨h1, h2⟩ := List.nodup_cons.mp nd
    have hx : x ∈ ks := hs x List.mem_cons_self
    have pe := List.perm_cons_erase hx
    have hl := pe.length_eq
    simp at h hl
    refine ((same_perm h2 (fun y hy => ?_) (by omega)).cons x).trans pe.symm
    rcases List.mem_cons.mp (pe.mem_iff.mp (hs y (List.mem_cons_of_mem _ hy))) with e | m
    · exact absurd (e ▸ hy) h1
    · exact m
/-- sorted(found) of a set of texts -/
def rSortedT (X : Cx) : List V → Hp → VK → Prop := fun vs H Q => ∃ (a : Addr) (l : List Str), vs = [V.ref a] ∧ H a = some (TSetO X.prog X.w a l) ∧ l.length < 4000 ∧
  ∀ (ys : List Str) (p : Addr), sortedS ys = true → (∀ x, x ∈ ys ↔ x ∈ l) → ys.length = l.length → ys.Nodup → H p = none → Q (.ref p) (upd H p (.lst (ys.map V.str)))
theorem sorted_tset {P : Program} {w : World} {A : Around} {E : Value → Shared → Prop} {s : Shared} {a : Addr} {l : List Str} {Q : Value → Shared → Prop} (T : TSet P w s.heap a l) (hh : A.handled = none) (hz : l.length < 4000)
    (hQ : ∀ s' p (out : Array Value) (c : Nat) (ys : List Str), (∀ b o, s.heap.get? b = some o → s'.heap.get? b = some o) → s'.gens = s.gens → s'.os = s.os → s.heap.objs.size ≤ p →
      s'.heap.get? p = some (seqObj "list" out c) → StrsAre out.toList ys → sortedS ys = true → (∀ k, k ∈ ys ↔ k ∈ l) → ys.length = l.length → ys.Nodup → Q (.ref p) s') :
    wpAny (model P w) A (call (.builtin "sorted") [.ref a]) Q E s := by
  obtain ⟨D, ho, F, nd, hr, hl⟩ := T
  obtain ⟨es, ep, t⟩ := D
  have hsz : es.size = l.length := F.sz
  have hb : es.size < scanBound := by unfold scanBound; omega
  refine Calls.call_function_entry kind_sorted plain_sorted entry_sorted (args_sorted1 _) ?_
  unfold Builtin.«sorted»
  refine wpAny_bind (m := checkCount "sorted" 1 1 _) (wpAny_pure ?_)
  refine wpAny_bind (collect_set (A := A.in1) hh ⟨_, ho, rfl, rfl⟩ F.fit hb hr hl fun s1 vs k1 hz1 g1 o1 pm => ?_)
  have hvl : vs.length = l.length := by rw [pm.length_eq, List.length_map, Array.length_toList]; exact hsz
  have hall : ∀ v ∈ vs, ∃ x t, v = Value.str x t := fun v hv => by
    obtain ⟨ks, r⟩ := nodup_is F
    exact StrsAre.all r v (pm.mem_iff.mp hv)
  obtain ⟨ks, hS⟩ := strs_all hall
  have hmem : ∀ k, k ∈ ks ↔ k ∈ l := fun k => by
    rw [strsAre_mem hS, F.mem]
    constructor
    · rintro ⟨t, ht⟩
      obtain ⟨e, he, q⟩ := List.mem_map.mp (pm.mem_iff.mp ht)
      exact ⟨e, he, by rw [q]; exact is_str k t⟩
    · rintro ⟨e, he, q⟩
      have q' : Value.isStrOf k e.2 = true := q
      have hm : e.2 ∈ vs := pm.mem_iff.mpr (List.mem_map.mpr ⟨e, he, rfl⟩)
      obtain ⟨x, t, ex⟩ := hall _ hm
      rw [ex] at q' hm
      have : x = k := by simpa [Value.isStrOf] using q'
      subst this
      exact ⟨t, hm⟩
  have hL : vs.length ≤ sizeLine := by rw [hvl, sizeLine_eq]; omega
  refine wpAny_bind (wpAny_newList ?_ hL)
  have hoL : (s1.heap.push (seqObj "list" vs.toArray 0)).get? s1.heap.objs.size = some (seqObj "list" vs.toArray 0) := Heap.get?_push_size _ rfl
  refine wpAny_bind (wpAny_holding (wpAny_call_entry slot_list_sort ⟨_, hoL, rfl⟩ entry_list_sort (list_sort_treeKAny strKind_oneLt hoL hS.keysOf (fun v₁ v₂ rest e => keyKind_strs (by rw [← e]; exact hS)) hL fun st' a1 a2 => ⟨_, rfl, ?_⟩) (args_list_sort _)))
  obtain ⟨ys, b1, b2, b3⟩ := sorted_out_str hS a1 a2
  obtain ⟨c, hc⟩ := sortedHeap_at (vs := vs) (out := (arrOf st').map (·.2)) hoL
  refine wpAny_pure ⟨_, rfl, hQ _ s1.heap.objs.size _ c ys (fun b u e => ?_) g1 o1 hz1 hc b1 b3 (fun k => b2.mem_iff.trans (hmem k)) (by rw [b2.length_eq, ← StrsAre.length hS]; exact hvl) ((same_perm nd (fun x => ((hmem x).symm.trans b2.mem_iff.symm).mp) (by rw [b2.length_eq, ← StrsAre.length hS]; omega)).nodup_iff.mp nd)⟩
  have q := k1 b u e
  have hlt := Heap.lt_size q
  show (sortedHeap (s1.heap.push (seqObj "list" vs.toArray 0)) s1.heap.objs.size vs _).get? b = some u
  rw [sortedHeap_old (Nat.ne_of_lt hlt) (by rw [size_push']; exact Nat.lt_succ_of_lt hlt)]
  exact Heap.get?_push_of_some _ q
theorem cr_sortedT (hc : X.calm = true) : CallR X (.builtin "sorted") (rSortedT X) := by
  intro pins s σ H vs us Q I r h
  obtain ⟨a, l, rfl, ha, hz, q⟩ := h
  have R := tsetO_get I ha
  rw [Vals.ref1 r]
  refine sorted_tset R (I.ok.hd hc) hz fun s' p out c ys k g o hp hg hi hs hm hl hnd => ?_
  have hlen : (ys.map V.str).length ≤ sizeLine := by rw [List.length_map, hl, sizeLine_eq]; omega
  have hn : H p = none := I.hok.fresh hp
  have J : Inv X pins σ (upd H p (.lst (ys.map V.str))) { s with heap := s'.heap, gens := s'.gens, drawn := s'.drawn, toks := s'.toks } :=
    I.call (ch := []) (Un.laid k hp hn) (I.hok.laid k hp ⟨hlen, out.toList, c, vals_of_strs hi, hg⟩) (by rw [g]; exact I.bare) (fun _ z => nomatch z)
  have e : s' = { s with heap := s'.heap, gens := s'.gens, drawn := s'.drawn, toks := s'.toks } := by
    cases s'
    cases s
    cases o
    rfl
  rw [e]
  exact ⟨.ref p, _, J, rfl, q ys p hs hm hl hnd hn⟩
end
end Pu

/-! The order of data that are ints, texts, tuples of these. -/
namespace Pu
open PySem PySem.Spec PyProof.Rows L2
mutual
def ordU : U → Bool
  | .int _ => true
  | .str _ => true
  | .tup us => ordUs us
  | _ => false
def ordUs : List U → Bool
  | [] => true
  | u :: us => ordU u && ordUs us
end
theorem str_eq_of {a b : Str} (h : a.cps.toList = b.cps.toList) : a = b := by
  cases a; cases b; simp at h; subst h; rfl
mutual
theorem eqU_ord : ∀ u w : U, ordU u = true → ordU w = true → (eqU u w = true ↔ u = w)
  | .int i, w, h1, h2 => by cases w <;> simp [ordU] at h2 <;> simp [eqU]
  | .str x, w, h1, h2 => by cases w <;> simp [ordU] at h2 <;> simp [eqU]
  | .tup us, w, h1, h2 => by
    cases w <;> simp [ordU] at h2 <;> simp [eqU]
    rename_i ws
    exact eqUs_ord us ws (by simpa [ordU] using h1) h2
  | .non, _, h1, _ => by simp [ordU] at h1
  | .bl _, _, h1, _ => by simp [ordU] at h1
  | .lst _, _, h1, _ => by simp [ordU] at h1
  | .dct _ _, _, h1, _ => by simp [ordU] at h1
  | .ty _, _, h1, _ => by simp [ordU] at h1
  | .ref _, _, h1, _ => by simp [ordU] at h1
theorem eqUs_ord : ∀ us ws : List U, ordUs us = true → ordUs ws = true → (eqUs us ws = true ↔ us = ws)
  | [], ws, _, _ => by cases ws <;> simp [eqUs]
  | u :: us, [], _, _ => by simp [eqUs]
  | u :: us, w :: ws, h1, h2 => by
    simp [ordUs] at h1 h2
    simp [eqUs, eqU_ord u w h1.1 h2.1, eqUs_ord us ws h1.2 h2.2]
end
mutual
/-- both ways not less: equal -/
theorem ltU_tot : ∀ u w : U, ordU u = true → ordU w = true → ltU u w = some false → ltU w u = some false → u = w
  | .int i, w, h1, h2, a, b => by
    cases w <;> simp [ordU] at h2 <;> simp [ltU] at a b
    rename_i j
    have : i = j := by omega
    rw [this]
  | .str x, w, h1, h2, a, b => by
    cases w <;> simp [ordU] at h2 <;> simp only [ltU, Option.some.injEq, decide_eq_false_iff_not, reduceCtorEq] at a b
    rename_i y
    exact congrArg U.str (str_eq_of (List.le_antisymm (List.not_lt.mp b) (List.not_lt.mp a)))
  | .tup us, w, h1, h2, a, b => by
    cases w <;> simp [ordU] at h2 <;> simp [ltU] at a b
    rename_i ws
    rw [ltUs_tot us ws (by simpa [ordU] using h1) h2 a b]
  | .non, _, h1, _, _, _ => by simp [ordU] at h1
  | .bl _, _, h1, _, _, _ => by simp [ordU] at h1
  | .lst _, _, h1, _, _, _ => by simp [ordU] at h1
  | .dct _ _, _, h1, _, _, _ => by simp [ordU] at h1
  | .ty _, _, h1, _, _, _ => by simp [ordU] at h1
  | .ref _, _, h1, _, _, _ => by simp [ordU] at h1
theorem ltUs_tot : ∀ us ws : List U, ordUs us = true → ordUs ws = true → ltUs us ws = some false → ltUs ws us = some false → us = ws
  | [], [], _, _, _, _ => rfl
  | [], w :: ws, _, _, a, _ => by simp [ltUs] at a
  | u :: us, [], _, _, _, b => by simp [ltUs] at b
  | u :: us, w :: ws, h1, h2, a, b => by
    simp [ordUs] at h1 h2
    simp only [ltUs] at a b
    by_cases e : eqU u w = true
    · have e1 := (eqU_ord u w h1.1 h2.1).mp e
      subst e1
      rw [if_pos e] at a b
      rw [ltUs_tot us ws h1.2 h2.2 a b]
    · have e2 : ¬ eqU w u = true := fun z => e ((eqU_ord u w h1.1 h2.1).mpr ((eqU_ord w u h2.1 h1.1).mp z).symm)
      rw [if_neg e] at a
      rw [if_neg e2] at b
      exact absurd ((eqU_ord u w h1.1 h2.1).mpr (ltU_tot u w h1.1 h2.1 a b)) e
end
mutual
theorem ltU_asym : ∀ u w : U, ordU u = true → ordU w = true → ltU u w = some true → ltU w u = some true → False
  | .int i, w, h1, h2, a, b => by
    cases w <;> simp [ordU] at h2 <;> simp [ltU] at a b
    omega
  | .str x, w, h1, h2, a, b => by
    cases w <;> simp [ordU] at h2 <;> simp [ltU] at a b
    exact List.lt_irrefl _ (List.lt_trans a b)
  | .tup us, w, h1, h2, a, b => by
    cases w <;> simp [ordU] at h2 <;> simp [ltU] at a b
    exact ltUs_asym us _ (by simpa [ordU] using h1) h2 a b
  | .non, _, h1, _, _, _ => by simp [ordU] at h1
  | .bl _, _, h1, _, _, _ => by simp [ordU] at h1
  | .lst _, _, h1, _, _, _ => by simp [ordU] at h1
  | .dct _ _, _, h1, _, _, _ => by simp [ordU] at h1
  | .ty _, _, h1, _, _, _ => by simp [ordU] at h1
  | .ref _, _, h1, _, _, _ => by simp [ordU] at h1
theorem ltUs_asym : ∀ us ws : List U, ordUs us = true → ordUs ws = true → ltUs us ws = some true → ltUs ws us = some true → False
  | [], [], _, _, a, _ => by simp [ltUs] at a
  | [], w :: ws, _, _, _, b => by simp [ltUs] at b
  | u :: us, [], _, _, a, _ => by simp [ltUs] at a
  | u :: us, w :: ws, h1, h2, a, b => by
    simp [ordUs] at h1 h2
    simp only [ltUs] at a b
    by_cases e : eqU u w = true
    · have e1 := (eqU_ord u w h1.1 h2.1).mp e
      subst e1
      rw [if_pos e] at a b
      exact ltUs_asym us ws h1.2 h2.2 a b
    · have e2 : ¬ eqU w u = true := fun z => e ((eqU_ord u w h1.1 h2.1).mpr ((eqU_ord w u h2.1 h1.1).mp z).symm)
      rw [if_neg e] at a
      rw [if_neg e2] at b
      exact ltU_asym u w h1.1 h2.1 a b
end
mutual
/-- not less, not less: not less -/
theorem ltU_tr : ∀ x y z : U, ordU x = true → ordU y = true → ordU z = true → ltU y x = some false → ltU z y = some false → ltU z x = some true → False
  | .int i, y, z, h1, h2, h3, a, b, c => by
    cases y <;> simp [ordU] at h2 <;> simp [ltU] at a
    cases z <;> simp [ordU] at h3 <;> simp [ltU] at b c
    omega
  | .str i, y, z, h1, h2, h3, a, b, c => by
    cases y <;> simp [ordU] at h2 <;> simp only [ltU, Option.some.injEq, decide_eq_false_iff_not, reduceCtorEq] at a
    cases z <;> simp [ordU] at h3 <;> simp only [ltU, Option.some.injEq, decide_eq_false_iff_not, decide_eq_true_eq, reduceCtorEq] at b c
    exact List.not_lt.mpr (List.le_trans (List.not_lt.mp a) (List.not_lt.mp b)) c
  | .tup us, y, z, h1, h2, h3, a, b, c => by
    cases y <;> simp [ordU] at h2 <;> simp [ltU] at a
    cases z <;> simp [ordU] at h3 <;> simp [ltU] at b c
    exact ltUs_tr us _ _ (by simpa [ordU] using h1) h2 h3 a b c
  | .non, _, _, h1, _, _, _, _, _ => by simp [ordU] at h1
  | .bl _, _, _, h1, _, _, _, _, _ => by simp [ordU] at h1
  | .lst _, _, _, h1, _, _, _, _, _ => by simp [ordU] at h1
  | .dct _ _, _, _, h1, _, _, _, _, _ => by simp [ordU] at h1
  | .ty _, _, _, h1, _, _, _, _, _ => by simp [ordU] at h1
  | .ref _, _, _, h1, _, _, _, _, _ => by simp [ordU] at h1
theorem ltUs_tr : ∀ x y z : List U, ordUs x = true → ordUs y = true → ordUs z = true → ltUs y x = some false → ltUs z y = some false → ltUs z x = some true → False
  | [], [], [], _, _, _, _, _, c => by simp [ltUs] at c
  | [], [], z :: zs, _, _, _, _, _, c => by simp [ltUs] at c
  | [], y :: ys, [], _, _, _, _, b, _ => by simp [ltUs] at b
  | [], y :: ys, z :: zs, _, _, _, _, _, c => by simp [ltUs] at c
  | x :: xs, [], _, _, _, _, a, _, _ => by simp [ltUs] at a
  | x :: xs, y :: ys, [], _, _, _, _, b, _ => by simp [ltUs] at b
  | x :: xs, y :: ys, z :: zs, h1, h2, h3, a, b, c => by
    simp [ordUs] at h1 h2 h3
    simp only [ltUs] at a b c
    by_cases e1 : eqU y x = true
    · have q1 := (eqU_ord y x h2.1 h1.1).mp e1
      subst q1
      rw [if_pos e1] at a
      by_cases e2 : eqU z y = true
      · rw [if_pos e2] at b c
        exact ltUs_tr xs ys zs h1.2 h2.2 h3.2 a b c
      · rw [if_neg e2] at b c
        rw [b] at c
        cases c
    · rw [if_neg e1] at a
      by_cases e2 : eqU z y = true
      · have q2 := (eqU_ord z y h3.1 h2.1).mp e2
        subst q2
        rw [if_neg e1] at c
        rw [a] at c
        cases c
      · rw [if_neg e2] at b
        by_cases e3 : eqU z x = true
        · have q3 := (eqU_ord z x h3.1 h1.1).mp e3
          subst q3
          exact e1 ((eqU_ord y z h2.1 h3.1).mpr (ltU_tot y z h2.1 h3.1 a b))
        · rw [if_neg e3] at c
          exact ltU_tr x y z h1.1 h2.1 h3.1 a b c
end
/-- how many of ds are less -/
def rankU (ds : List U) (u : U) : Nat := ds.countP fun e => ltU e u == some true
theorem count_le {α : Type} {p q : α → Bool} : ∀ {l : List α}, (∀ x ∈ l, p x = true → q x = true) → l.countP p ≤ l.countP q
  | [], _ => Nat.le_refl _
  | x :: l, h => by
    have ih := count_le (l := l) fun y hy => h y (List.mem_cons_of_mem _ hy)
    have hx := h x List.mem_cons_self
    rw [List.countP_cons, List.countP_cons]
    cases hp : p x <;> cases hq : q x <;> simp [hp, hq] at hx ⊢ <;> omega
theorem count_lt {α : Type} {p q : α → Bool} : ∀ {l : List α}, (∀ x ∈ l, p x = true → q x = true) → ∀ a ∈ l, p a = false → q a = true → l.countP p < l.countP q
  | [], _, a, ha, _, _ => by cases ha
  | x :: l, h, a, ha, hpa, hqa => by
    have hx := h x List.mem_cons_self
    rw [List.countP_cons, List.countP_cons]
    rcases List.mem_cons.mp ha with e | ha
    · subst e
      have := count_le (l := l) fun y hy => h y (List.mem_cons_of_mem _ hy)
      simp [hpa, hqa]
      omega
    · have ih := count_lt (l := l) (fun y hy => h y (List.mem_cons_of_mem _ hy)) a ha hpa hqa
      cases hp : p x <;> cases hq : q x <;> simp [hp, hq] at hx ⊢ <;> omega
/-- the order of ds by number -/
theorem rank_lt {ds : List U} (ho : ∀ u ∈ ds, ordU u = true) (hc : ∀ u ∈ ds, ∀ w ∈ ds, ∃ k, ltU u w = some k) {a b : U} (ha : a ∈ ds) (hb : b ∈ ds) : ltU a b = some (decide (rankU ds a < rankU ds b)) := by
  obtain ⟨k, hk⟩ := hc a ha b hb
  rw [hk]
  cases k with
  | true =>
    have hba : ltU b a = some false := by
      obtain ⟨k, hk2⟩ := hc b hb a ha
      cases k with
      | true => exact (ltU_asym a b (ho a ha) (ho b hb) hk hk2).elim
      | false => exact hk2
    have haa : ltU a a = some false := by
      obtain ⟨k, hk2⟩ := hc a ha a ha
      cases k with
      | true => exact (ltU_asym a a (ho a ha) (ho a ha) hk2 hk2).elim
      | false => exact hk2
    have : rankU ds a < rankU ds b := by
      refine count_lt (fun x hx h => ?_) a ha (by simp [haa]) (by simp [hk])
      obtain ⟨k, hk2⟩ := hc x hx b hb
      cases k with
      | true => simp [hk2]
      | false => exact (ltU_tr a b x (ho a ha) (ho b hb) (ho x hx) hba hk2 (by simpa using h)).elim
    simp [this]
  | false =>
    have : rankU ds b ≤ rankU ds a := by
      refine count_le fun x hx h => ?_
      obtain ⟨k, hk2⟩ := hc x hx a ha
      cases k with
      | true => simp [hk2]
      | false => exact (ltU_tr b a x (ho b hb) (ho a ha) (ho x hx) hk hk2 (by simpa using h)).elim
    simp
    omega
end Pu

/-! sorted(xs, key=f): the keys, compared. -/
namespace Pu
open PySem PySem.Spec PyProof.Rows L2 SeqAt PySem.W Srt SrtO
mutual
theorem pdT_inj : ∀ u w : U, ordU u = true → ordU w = true → pdT u = pdT w → u = w
  | .int i, w, h1, h2, e => by cases w <;> simp [ordU] at h2 <;> simp [pdT] at e; rw [e]
  | .str x, w, h1, h2, e => by cases w <;> simp [ordU] at h2 <;> simp [pdT] at e; rw [e]
  | .tup us, w, h1, h2, e => by
    cases w <;> simp [ordU] at h2 <;> simp [pdT] at e
    rw [pdTs_inj us _ (by simpa [ordU] using h1) h2 e]
  | .non, _, h1, _, _ => by simp [ordU] at h1
  | .bl _, _, h1, _, _ => by simp [ordU] at h1
  | .lst _, _, h1, _, _ => by simp [ordU] at h1
  | .dct _ _, _, h1, _, _ => by simp [ordU] at h1
  | .ty _, _, h1, _, _ => by simp [ordU] at h1
  | .ref _, _, h1, _, _ => by simp [ordU] at h1
theorem pdTs_inj : ∀ us ws : List U, ordUs us = true → ordUs ws = true → pdTs us = pdTs ws → us = ws
  | [], [], _, _, _ => rfl
  | [], w :: ws, _, _, e => by simp [pdTs] at e
  | u :: us, [], _, _, e => by simp [pdTs] at e
  | u :: us, w :: ws, h1, h2, e => by
    simp [ordUs] at h1 h2
    simp [pdTs] at e
    rw [pdT_inj u w h1.1 h2.1 e.1, pdTs_inj us ws h1.2 h2.2 e.2]
end
section
variable {prog : Program} {w : World} {A : Around} {s : Shared}
theorem lex_run (hu : A.units + 64 < cLine) : ∀ (xs ys : List PyData) (vs ws : List Value) (k fin : Bool) (i : Nat) (as bs : List Addr), ReadsAll s.heap vs xs as → ReadsAll s.heap ws ys bs → PyData.canLayAll0 xs = true → PyData.canLayAll0 ys = true → PyData.depthAll xs ≤ 60 →
    ltDs xs ys = some k → fin = decide (vs.length < ws.length) → (i = 0 → ∃ a b ta tb, vs[0]? = some (.int a ta) ∧ ws[0]? = some (.int b tb)) → KatLex prog w A true fin (fun r s' => s' = s ∧ r = k) (vs.zip ws) i s
  | [], [], vs, ws, k, fin, i, as, bs, r1, r2, _, _, _, e, hf, _ => by
    cases r1; cases r2
    simp [ltDs] at e hf
    subst e hf
    exact kat_nil ⟨rfl, rfl⟩
  | [], y :: ys, vs, ws, k, fin, i, as, bs, r1, r2, _, _, _, e, hf, _ => by
    cases r1; cases r2
    simp [ltDs] at e hf
    subst e hf
    exact kat_nil ⟨rfl, rfl⟩
  | x :: xs, [], vs, ws, k, fin, i, as, bs, r1, r2, _, _, _, e, hf, _ => by
    cases r1; cases r2
    simp [ltDs] at e hf
    subst e hf
    exact kat_nil ⟨rfl, rfl⟩
  | x :: xs, y :: ys, vs, ws, k, fin, i, as, bs, r1, r2, c1, c2, hd, e, hf, hi => by
    cases r1 with
    | @cons v vs _ _ as1 as2 q1 q2 =>
    cases r2 with
    | @cons z ws _ _ bs1 bs2 p1 p2 =>
    simp only [PyData.canLayAll0, Bool.and_eq_true] at c1 c2
    simp only [PyData.depthAll] at hd
    have hm := Nat.min_le_left x.depth y.depth
    have hx : x.depth ≤ 60 := by omega
    refine kat_cons (eqAt_reads x y A s v z as1 bs1 q1 p1 c1.1 c2.1 (by omega) prog w _ _ ?_)
    simp only [ltDs] at e
    refine kat_go (fun h => ?_) (fun h => ?_)
    · rw [if_pos h] at e
      exact kat_yes (lex_run hu xs ys vs ws k fin (i + 1) as2 bs2 q2 p2 c1.2 c2.2 (by omega) e (by rw [hf]; simp) (fun h => absurd h (by omega)))
    · rw [if_neg (by rw [h]; exact Bool.false_ne_true)] at e
      refine kat_no ?_
      by_cases h0 : i = 0
      · obtain ⟨a, b, ta, tb, e1, e2⟩ := hi h0
        simp at e1 e2
        subst h0 e1 e2
        cases q1; cases p1
        simp [ltD] at e
        exact oneLt_int ⟨rfl, e⟩
      · have hb : (true && i == 0) = false := by simp [h0]
        rw [hb]
        refine kat_one _ _ (rcLt_data 60 x y A s v z as1 bs1 k hx q1 p1 c1.1 c2.1 e (by omega) prog w _ _ ?_)
        exact ⟨rfl, rfl⟩
/-- the key at v: a tuple that begins with an int -/
structure KeyAt (h : Heap) (v : Value) (u : U) : Prop where
  at_ : ∃ a o vs n us i t as, v = .ref a ∧ h.get? a = some o ∧ o.cls = .type "tuple" ∧ o.data = .seq vs n ∧ u = .tup us ∧ ReadsAll h vs.toList (pdTs us) as ∧ vs[0]? = some (.int i t)
theorem KeyAt.reads {h : Heap} {v : Value} {u : U} (k : KeyAt h v u) : ∃ as, Reads h v (pdT u) as := by
  obtain ⟨a, o, vs, n, us, i, t, as, rfl, ho, hc, hd, rfl, r, _⟩ := k.at_
  exact ⟨as, by unfold pdT; exact .tuple ho hc hd r⟩
theorem key_lt' {v z : Value} {u y : U} {k : Bool} (hu : A.units + 64 < cLine) (h1 : KeyAt s.heap v u) (h2 : KeyAt s.heap z y) (f1 : Fit u) (f2 : Fit y) (e : ltU u y = some k) :
    wpAny (model prog w) A (keyLt' (tuples' true) v z) (fun r s' => s' = s ∧ r = k) (fun _ _ => False) s := by
  obtain ⟨a, o, vs, n, us, i, t, as, rfl, ho, hc, hd, rfl, r, hi⟩ := h1.at_
  obtain ⟨b, o2, ws, m, ys, j, t2, bs, rfl, ho2, hc2, hd2, rfl, r2, hj⟩ := h2.at_
  have o1 : okUs us = true := by simpa [okU] using f1.1
  have o2' : okUs ys = true := by simpa [okU] using f2.1
  refine kat_lt ho hd ho2 hd2 (lex_run hu (pdTs us) (pdTs ys) _ _ k _ 0 as bs r r2 (canLays_pd us o1) (canLays_pd ys o2') ?_ (lts_pd us ys o1 o2' k (by simpa [ltU] using e)) (by simp) fun _ => ⟨i, j, t, t2, by rw [Array.getElem?_toList]; exact hi, by rw [Array.getElem?_toList]; exact hj⟩)
  rw [deps_pd]
  have := f1.2
  simp only [depU] at this
  omega
open Classical in
noncomputable def rkV (h : Heap) (ds : List U) (v : Value) : Nat := if c : ∃ u, u ∈ ds ∧ KeyAt h v u then rankU ds (Classical.choose c) else 0
theorem rkV_eq {h : Heap} {ds : List U} (ho : ∀ u ∈ ds, ordU u = true) (hk : ∀ u ∈ ds, okU u = true) {v : Value} {u : U} (hu : u ∈ ds) (k : KeyAt h v u) : rkV h ds v = rankU ds u := by
  have c : ∃ u, u ∈ ds ∧ KeyAt h v u := ⟨u, hu, k⟩
  unfold rkV
  rw [dif_pos c]
  obtain ⟨h1, h2⟩ := Classical.choose_spec c
  obtain ⟨as, r1⟩ := k.reads
  obtain ⟨bs, r2⟩ := h2.reads
  have : u = Classical.choose c := pdT_inj _ _ (ho u hu) (ho _ h1) (Reads.unique _ _ v as bs (canLay_pd u (hk u hu)) r1 r2)
  rw [← this]
theorem cmp_keys (hu : A.units + 64 < cLine) {ds : List U} (ho : ∀ u ∈ ds, ordU u = true) (hf : ∀ u ∈ ds, Fit u) (hc : ∀ u ∈ ds, ∀ y ∈ ds, ∃ k, ltU u y = some k) :
    Cmp prog w A s (tuples' true) (fun p => ∃ u ∈ ds, KeyAt s.heap p.1 u) (fun p q => decide (rkV s.heap ds p.1 < rkV s.heap ds q.1)) := by
  rintro p q ⟨u, hu1, k1⟩ ⟨y, hy, k2⟩
  have h := rank_lt ho hc hu1 hy
  have hk : ∀ u ∈ ds, okU u = true := fun u hu => (hf u hu).1
  dsimp only
  rw [rkV_eq ho hk hu1 k1, rkV_eq ho hk hy k2]
  exact key_lt' hu k1 k2 (hf u hu1) (hf y hy) h
theorem kind_keys {M : Model} {E : Value → Shared → Prop} {ks : List Value} {Q : SortKind → Shared → Prop} (hne : 0 < ks.length) (hk : ∀ v ∈ ks, ∃ u, KeyAt s.heap v u) (q : Q (tuples' true) s) : wpAny M A (keyKind' ks.toArray) Q E s := by
  have hh : ∀ ks : List Value, (∀ v ∈ ks, ∃ u, KeyAt s.heap v u) → ∃ fs : List Value, KatTups s.heap ks fs ∧ fs.length = ks.length ∧ ∀ v ∈ fs, ∃ i t, v = .int i t := by
    intro ks
    induction ks with
    | nil => intro _; exact ⟨[], .nil, rfl, fun v hv => by cases hv⟩
    | cons v r ih =>
      intro h
      obtain ⟨fs, k1, k2, k3⟩ := ih fun z hz => h z (List.mem_cons_of_mem _ hz)
      obtain ⟨u, k⟩ := h v List.mem_cons_self
      obtain ⟨a, o, vs, n, us, i, t, as, rfl, ho, hc, hd, rfl, rr, hi⟩ := k.at_
      exact ⟨.int i t :: fs, .cons ho hc hd hi k1, by simp [k2], fun z hz => by
        rcases List.mem_cons.mp hz with e | hz
        · exact ⟨i, t, e⟩
        · exact k3 z hz⟩
  obtain ⟨fs, k1, k2, k3⟩ := hh ks hk
  refine kat_kind (T := .type "int") k1 (by omega) (fun v hv => ?_) (by decide) q
  obtain ⟨i, t, rfl⟩ := k3 v hv
  exact .now
end
end Pu

/-! sorted(xs, key=f): run. -/
namespace Pu
open PySem PySem.Spec PyProof.Rows L2 SeqAt PySem.W Srt SrtO
section
variable {prog : Program} {w : World} {A : Around} {E : Value → Shared → Prop} {s : Shared}
theorem key_tail {a kS : Addr} {e e1 : Nat} {keys : Array Value} {st : SortSt} {P : PySem.Fin → Shared → Prop} (hne : kS ≠ a) (hk : s.heap.get? kS = some (seqObj "list" keys e)) (ha : s.heap.get? a = some (seqObj "list" #[] e1)) (hkz : keys.size ≤ sizeLine)
    (hz : ((arrOf st).map (·.2)).size ≤ sizeLine) (hf : failedOf st = none)
    (h : ∀ h' c, h'.get? a = some (seqObj "list" ((arrOf st).map (·.2)) c) → (∀ b o, b ≠ a → b ≠ kS → s.heap.get? b = some o → h'.get? b = some o) → P (.done (.ret .none)) { s with heap := h' }) :
    wpAny (model prog w) A (ksk_tail a false e1 (.ref kS) st) P E s := by
  have s1 := Heap.SameBut.update s.heap kS (Obj.mapSeq fun _ => (#[] : Array Value))
  have ha1 : (s.heap.update kS (Obj.mapSeq fun _ => (#[] : Array Value))).get? a = some (seqObj "list" #[] e1) := by rw [s1.2 a (Ne.symm hne)]; exact ha
  have s2 := Heap.SameBut.update (s.heap.update kS (Obj.mapSeq fun _ => (#[] : Array Value))) a (Obj.mapSeq fun _ => (arrOf st).map (·.2))
  obtain ⟨c2, hc2⟩ : ∃ c2, ((s.heap.update kS (Obj.mapSeq fun _ => (#[] : Array Value))).update a (Obj.mapSeq fun _ => (arrOf st).map (·.2))).get? a = some (seqObj "list" ((arrOf st).map (·.2)) c2) := ⟨_, get?_update_seq ha1 fun _ => (arrOf st).map (·.2)⟩
  unfold ksk_tail
  try dsimp only
  refine wpAny_bind (listUpdate_at hk rfl ?_ hkz (Nat.zero_le _))
  refine wpAny_bind (wpAny_letGo ?_)
  refine wpAny_bind (seqEpoch_at ha1 rfl ?_)
  refine wpAny_bind (listUpdate_at ha1 rfl ?_ (Nat.zero_le _) (Nat.le_trans hz (Nat.le_succ _)))
  rw [hf]
  simp only [bne_self_eq_false, Bool.false_eq_true, if_false]
  refine wpAny_pure (h _ c2 hc2 fun b o hb hb2 q => ?_)
  rw [s2.2 b hb, s1.2 b hb2]
  exact q
theorem key_end {a kS : Addr} {e e1 : Nat} {ks vs : List Value} {κ : SortKind} {Pk : Keyed → Prop} {lt : Keyed → Keyed → Bool} {P : PySem.Fin → Shared → Prop} (hne : kS ≠ a) (hl : ks.length = vs.length) (hz : vs.length ≤ sizeLine) (hk : s.heap.get? kS = some (seqObj "list" ks.toArray e)) (ha : s.heap.get? a = some (seqObj "list" #[] e1))
    (O : Swo lt) (hkind : 2 ≤ vs.length → ∀ (Q : SortKind → Shared → Prop), Q κ s → wpAny (model prog w) A (keyKind' ks.toArray) Q E s) (T : Cmp prog w A s κ Pk lt) (hP : ∀ p ∈ ks.zip vs, Pk p)
    (h : ∀ (out : List Keyed) h' c, out.Perm (ks.zip vs) → Srtd lt out → h'.get? a = some (seqObj "list" (out.map (·.2)).toArray c) → (∀ b o, b ≠ a → b ≠ kS → s.heap.get? b = some o → h'.get? b = some o) → P (.done (.ret .none)) { s with heap := h' }) :
    wpAny (model prog w) A (ksk_end a false vs.toArray e1 (.ref kS) ks.toArray) P E s := by
  have ez : (ks.toArray.zip vs.toArray).toList = ks.zip vs := by rw [ksk_zip]
  have hzl : (ks.zip vs).length = vs.length := by rw [List.length_zip]; omega
  have fin : ∀ st' : SortSt, Srtd lt (arrOf st').toList → (arrOf st').toList.Perm (ks.zip vs) → failedOf st' = none → wpAny (model prog w) A (ksk_tail a false e1 (.ref kS) st') P E s := fun st' h1 h2 h3 => by
    have hlen := h2.length_eq
    rw [Array.length_toList] at hlen
    refine key_tail hne hk ha (by rw [List.size_toArray]; omega) (by rw [Array.size_map]; omega) h3 fun h' c q1 q2 => h _ h' c h2 h1 ?_ q2
    rw [q1]
    congr 2
    apply Array.ext'
    simp
  unfold ksk_end
  try dsimp only
  simp only [Bool.false_eq_true, if_false]
  have hsz : vs.toArray.size = vs.length := by simp
  by_cases h2 : vs.toArray.size < 2
  · rw [if_pos h2, if_pos h2]
    refine wpAny_bind (wpAny_pure ?_)
    rw [StateT.run_pure]
    refine wpAny_bind (wpAny_pure ?_)
    refine fin (SortSt.mk' general' (ks.toArray.zip vs.toArray) #[] 7 none) ?_ ?_ rfl
    · show Srtd lt (ks.toArray.zip vs.toArray).toList
      rw [ez]
      have : (ks.zip vs).length < 2 := by omega
      match ks.zip vs, this with
      | [], _ => exact List.Pairwise.nil
      | [v], _ => exact List.pairwise_singleton _ _
      | _ :: _ :: l, h => exact absurd h (by simp)
    · show (ks.toArray.zip vs.toArray).toList.Perm _
      rw [ez]
  · rw [if_neg h2, if_neg h2]
    refine wpAny_bind (hkind (by omega) _ ?_)
    have hall : AllL Pk (ks.toArray.zip vs.toArray).toList := fun p hm => hP p (by rwa [ez] at hm)
    refine wpAny_bind (wpAny_mono (wpS_sortO (st0 := SortSt.mk' κ (ks.toArray.zip vs.toArray) #[] 7 none)
      (Q := fun _ st' => Srtd lt (arrOf st').toList ∧ (arrOf st').toList.Perm (ks.zip vs) ∧ failedOf st' = none) O T rfl hall rfl rfl fun st' a1 a2 a3 => ⟨a1, by have := a2.perm; rwa [show arrOf (SortSt.mk' κ (ks.toArray.zip vs.toArray) #[] 7 none) = ks.toArray.zip vs.toArray from rfl, ez] at this, a3⟩) ?_ fun _ _ e => e)
    rintro ⟨⟨⟩, st'⟩ s' ⟨rfl, h1, h2, hf⟩
    try dsimp only
    exact fin st' h1 h2 hf
theorem fold_keys {vs : List Value} {J : List Value → Shared → Prop} {body : Value → PUnit → Sem (ForInStep PUnit)}
    (hb : ∀ x ks (s : Shared), J ks s → vs[ks.length]? = some x → wpAny (model prog w) A (body x ⟨⟩) (fun r s' => r = .yield ⟨⟩ ∧ ∃ k, J (ks ++ [k]) s') E s) : ∀ (r ks : List Value) (s : Shared), vs.drop ks.length = r → ks.length ≤ vs.length → J ks s →
      wpAny (model prog w) A (forIn r PUnit.unit body) (fun _ s' => ∃ ks, ks.length = vs.length ∧ J ks s') E s
  | [], ks, s, hd, hl, j => by
    rw [List.forIn_nil]
    have := congrArg List.length hd
    simp at this
    exact wpAny_pure ⟨ks, by omega, j⟩
  | x :: r, ks, s, hd, hl, j => by
    have hx : vs[ks.length]? = some x := by
      have e : (vs.drop ks.length)[0]? = (x :: r)[0]? := by rw [hd]
      rw [List.getElem?_drop] at e
      exact e
    have hlt : ks.length < vs.length := by
      have := (List.getElem?_eq_some_iff.mp hx).1
      exact this
    rw [List.forIn_cons]
    refine wpAny_bind (wpAny_mono (hb x ks s j hx) (fun q s' hq => ?_) fun _ _ x => x)
    obtain ⟨rfl, k, j'⟩ := hq
    show wpAny (model prog w) A (forIn r PUnit.unit body) _ E s'
    refine fold_keys hb r (ks ++ [k]) s' ?_ (by simp; omega) j'
    have e := congrArg (List.drop 1) hd
    rw [List.drop_drop] at e
    simp only [List.length_append, List.length_singleton]
    first
      | exact e
      | (rw [Nat.add_comm] at e; exact e)
theorem key_rest {a kS fa : Addr} {e1 : Nat} {vs : List Value} {J : List Value → Shared → Prop} {P : PySem.Fin → Shared → Prop} (hz : vs.length < sizeLine)
    (hJ : ∀ ks s, J ks s → ∃ e, s.heap.get? kS = some (seqObj "list" ks.toArray e))
    (hcall : ∀ x ks (s : Shared), J ks s → vs[ks.length]? = some x → wpAny (model prog w) A (call (.ref fa) [x]) (fun k s' => (∃ e, s'.heap.get? kS = some (seqObj "list" ks.toArray e)) ∧ ∀ h' c, Heap.SameBut kS s'.heap h' → h'.get? kS = some (seqObj "list" (ks ++ [k]).toArray c) → J (ks ++ [k]) { s' with heap := h' }) (fun _ _ => False) s)
    (hend : ∀ ks s, ks.length = vs.length → J ks s → wpAny (model prog w) A (ksk_end a false vs.toArray e1 (.ref kS) ks.toArray) P E s) (j : J [] s) :
    wpAny (model prog w) A (ksk_rest a (.ref fa) false vs.toArray e1 (.ref kS)) P E s := by
  unfold ksk_rest
  refine wpAny_bind (wpAny_rule ?_)
  first
    | rw [List.forIn_toArray]
    | (rw [← Array.forIn_toList]; simp only [List.toList_toArray])
    | rw [← Array.forIn_toList]
  refine wpAny_bind (wpAny_mono (fold_keys (vs := vs) (J := J) (fun x ks s' j hx => ?_) vs [] s (by simp) (by simp) j) (fun _ s' hd => ?_) fun _ _ x => x)
  · have hlt : ks.length < vs.length := (List.getElem?_eq_some_iff.mp hx).1
    refine wpAny_bind (wpAny_attempt (wpAny_mono (hcall x ks s' j hx) (fun k s'' hk => ?_) fun _ _ hF => hF.elim))
    obtain ⟨⟨e, he⟩, c⟩ := hk
    have s1 := Heap.SameBut.update s''.heap kS (Obj.mapSeq (·.push k))
    have ea : (List.toArray ks).push k = List.toArray (ks ++ [k]) := by simp
    obtain ⟨c2, hc2⟩ : ∃ c2, (s''.heap.update kS (Obj.mapSeq (·.push k))).get? kS = some (seqObj "list" (List.toArray (ks ++ [k])) c2) := ⟨_, by rw [← ea]; exact get?_update_seq he (·.push k)⟩
    try dsimp only
    refine wpAny_bind (listUpdate_at he rfl ?_ (by rw [List.size_toArray]; omega) (Nat.le_trans (Nat.le_of_eq (Array.size_push ..)) (by rw [List.size_toArray]; omega)))
    exact wpAny_pure ⟨rfl, k, c _ c2 s1 hc2⟩
  · obtain ⟨ks, hl, j'⟩ := hd
    obtain ⟨e, he⟩ := hJ ks s' j'
    try dsimp only
    refine wpAny_bind (listItems_at he rfl ?_)
    exact hend ks s' hl j'
end
end Pu

namespace Pu
open PySem PySem.Spec PyProof.Rows L2 SeqAt PySem.W Srt SrtO FbM
section
variable {X : Cx} {pins : List (Addr × Obj)} {σ : L2.St} {H : Hp} {s : Shared} {M : Mp} {k : Nat} {fa : Addr} {fd : FuncData} {ps : List Str} {sp : USp}
/-- an untracked record of ours, tracked from now on -/
theorem Rec.adopt {a : Addr} {o : HO} (r : Rec X pins a) (I : Inv X pins σ H s) (n : H a = none) (new : ObjOk X.prog X.w (upd H a o) s.heap a o) : Inv X pins σ (upd H a o) s := by
  have ne : ∀ b u, H b = some u → b ≠ a := fun b u e z => by rw [z, n] at e; cases e
  have hok : HOk X.prog X.w (upd H a o) s.heap := I.hok.laidN (fun _ _ q => q) n new
  have J := I.step (H' := upd H a o) (h' := s.heap) (g' := s.gens) (d' := s.drawn) (t' := s.toks) (ch := [a]) (fun b hb => by
      have e : b = a := by simpa using hb
      subst e
      exact ⟨.inr r.ge, r.nl, r.ce, r.pn⟩) (fun b o _ _ _ e _ => e) (fun b o _ _ _ e _ => ⟨o.slots, e⟩)
    (fun b u hc _ e => by rw [upd_ne (fun z => hc (by simp [z]))]; exact e) (fun b u _ e => ⟨u, e⟩)
    (fun b xs e => by rw [upd_ne (ne b _ e)]; exact e) (fun b u w e => by rw [upd_ne (ne b _ e)]; exact e) (fun b ps e => ⟨#[], by rw [upd_ne (ne b _ e), e]; simp⟩) (fun m hm => hm) hok I.bare
  exact J
/-- one key -/
theorem key_call {A : Around} {M : Mp} (F : FnOk X.prog X.w X.K X.mg X.base (L2.CX X.prog X.w) k fa fd ps (liftSp X.K X.mg sp)) (hb : Binds X.K fd ps []) (hr : Room k A) (hA : A.frames = some X.stack) (I : Inv X pins σ H s) (hd : RepM X.K M H)
    {x y : U} {xv : V} {v : Value} (rx : RepV X.K M H x xv) (rv : RelV xv v) (h : ∀ R' : UK, R' y M → sp [x] M R' fun _ _ => False) :
    wpAny (model X.prog X.w) A (call (.ref fa) [v]) (fun kv s' => ∃ v' H', Inv X pins σ H' s' ∧ RelV v' kv ∧ RepV X.K M H' y v' ∧ Stp M H M H' ∧ RepM X.K M H' ∧ ∀ b o, Rec X pins b → H b = none → s.heap.get? b = some o → s'.heap.get? b = some o ∧ H' b = none) (fun _ _ => False) s := by
  have e0 := I.env0
  have e1 : Env0 X.prog X.w X.K X.mg X.base A X.stack s H := ⟨hA, e0.mod, e0.bs, e0.bsz, e0.funs, e0.frf, e0.hok, e0.bare⟩
  have q : liftSp X.K X.mg sp [xv] H (fun v' H' => RepV X.K M H' y v' ∧ Stp M H M H' ∧ RepM X.K M H') (fun _ _ _ => False) :=
    ⟨[x], M, fun u M' => u = y ∧ M' = M, fun _ _ => False, .cons rx .nil, hd, h _ ⟨rfl, rfl⟩, fun u M' v' H' ⟨e, em⟩ st hd' r => by subst e em; exact ⟨r, st, hd'⟩, fun _ _ _ _ _ z => z.elim⟩
  have hl : ([v] ++ [] : List Value).length = ps.length := by
    have := F.len _ _ _ _ q
    simpa using this
  refine wpAny_call (codeAny_mono (F.run A X.stack s H ⟨[v], []⟩ ([v] ++ []) [xv] _ _ hr e1 (hb s [v] I.kIn hl) (.cons rv .nil) q) fun rr s2 hrr => ?_)
  cases rr with
  | error e =>
    obtain ⟨_, _, _, _, _, _, _, _, _, _, _, _, z⟩ := (show L2.CX X.prog X.w X.stack H s (fun _ _ _ => False) e s2 from hrr)
    exact z.elim
  | ok fl =>
    cases fl with
    | next => exact False.elim hrr
    | brk => exact False.elim hrr
    | cont => exact False.elim hrr
    | ret kv =>
      obtain ⟨v', H', os, bare, un, hok, rv', rk, st, hd'⟩ := (show CE X.stack X.prog X.w H s _ kv s2 from hrr)
      exact ⟨v', H', I.call' os un hok bare (fun b y => absurd y List.not_mem_nil), rv', rk, st, hd', fun b o rb ub eb => ⟨un.keep _ _ eb ub rb.fr List.not_mem_nil, un.free _ _ eb ub List.not_mem_nil⟩⟩
/-- from a key as a value to the key at its address -/
theorem keyAt_of {K : PySem.W.Frag} (I : Inv X pins σ H s) {i : Int} {us : List U} {v : V} {kv : Value} (r : RepV X.K M H (.tup (.int i :: us)) v) (rv : RelV v kv) (ok : okU (.tup (.int i :: us)) = true) : KeyAt s.heap kv (.tup (.int i :: us)) := by
  obtain ⟨as, rd⟩ := Dp.reads I _ v kv (dp_of _ _ r ok) rv
  unfold pdT at rd
  cases rd with
  | @tuple a o vs n xs as ho hc hd hr =>
    have hr' := hr
    simp only [pdTs] at hr'
    generalize hvl : vs.toList = vl at hr'
    cases hr' with
    | @cons z zs d ds as1 bs1 q1 q2 =>
      unfold pdT at q1
      cases q1 with
      | int _ t => exact ⟨a, o, vs, n, .int i :: us, i, t, _, rfl, ho, hc, hd, rfl, hr, by rw [← Array.getElem?_toList, hvl]; rfl⟩
end
end Pu

/-! Pu, part 16: names of built-ins, sorted. -/
namespace Pu
open PySem PySem.Spec PyProof.Rows L2
def uIn0 : O2 := uIn (fun _ => none) false
def uNotIn0 : O2 := uIn (fun _ => none) true
def uIdx0 : O2 := uIdx (fun _ => none)
section
variable {X : Cx}
theorem wds0 : WdsOk X (fun _ => none) := fun _ _ e => by cases e
theorem uop_in0 (hu : X.A.units + 65 < cLine) : UOp X (compareOp .In) uIn0 := uop_in false wds0 hu
theorem uop_notIn0 (hu : X.A.units + 65 < cLine) : UOp X (compareOp .NotIn) uNotIn0 := uop_in true wds0 hu
theorem uix0 (hu : X.A.units + 65 < cLine) : UIx X uIdx0 := uix wds0 hu
end
theorem boot_ty_int : bootBuiltins ("int" : Str) = some (.type "int") := by kernel_rfl
theorem boot_ty_str : bootBuiltins ("str" : Str) = some (.type "str") := by kernel_rfl
theorem boot_ty_bool : bootBuiltins ("bool" : Str) = some (.type "bool") := by kernel_rfl
theorem boot_ty_list : bootBuiltins ("list" : Str) = some (.type "list") := by kernel_rfl
theorem boot_ty_tuple : bootBuiltins ("tuple" : Str) = some (.type "tuple") := by kernel_rfl
theorem boot_ty_dict : bootBuiltins ("dict" : Str) = some (.type "dict") := by kernel_rfl
theorem boot_ty_set : bootBuiltins ("set" : Str) = some (.type "set") := by kernel_rfl
theorem boot_fn_len : bootBuiltins ("len" : Str) = some (.builtin "len") := by kernel_rfl
theorem boot_fn_isinstance : bootBuiltins ("isinstance" : Str) = some (.builtin "isinstance") := by kernel_rfl
theorem boot_fn_all : bootBuiltins ("all" : Str) = some (.builtin "all") := by kernel_rfl
theorem boot_fn_any : bootBuiltins ("any" : Str) = some (.builtin "any") := by kernel_rfl
theorem boot_fn_sum : bootBuiltins ("sum" : Str) = some (.builtin "sum") := by kernel_rfl
theorem boot_fn_max : bootBuiltins ("max" : Str) = some (.builtin "max") := by kernel_rfl
theorem boot_fn_min : bootBuiltins ("min" : Str) = some (.builtin "min") := by kernel_rfl
theorem boot_fn_sorted : bootBuiltins ("sorted" : Str) = some (.builtin "sorted") := by kernel_rfl
theorem boot_fn_repr : bootBuiltins ("repr" : Str) = some (.builtin "repr") := by kernel_rfl

/-! ### sorted(texts) -/
def uSorted : OC := fun us M R => ∃ u xs, us = [u] ∧ lstOf M u = some (xs.map .str) ∧ xs.length < 64 ∧ ∀ ys, ys.Perm xs → sortedS ys = true → R (.lst (ys.map .str)) M
theorem ucal_sorted {X : Cx} (hu : X.A.units + 64 < cLine) : UCal X (.builtin "sorted") uSorted := call_imp cr_sortedS fun xs H Q ⟨us, M, R, r, hd, ⟨u, ns, eu, en, hz, q⟩, c⟩ => by
  subst eu
  obtain ⟨v, rfl, r1⟩ := r.one
  obtain ⟨a, vs, rfl, h, t⟩ := lstOf_sq hd r1 en
  rw [strs_rep t] at h
  exact ⟨a, ns, rfl, h, hz, fun ys p k1 k2 hp => c.at_ (q ys k1 k2) (Stp.new hd hp) (hd.new hp) (new_lst hd hp (reps_of_strs ys))⟩
/-! ### sorted(set(texts)) -/
def insS (x : Str) : List Str → List Str
  | [] => [x]
  | y :: ys => if x = y then y :: ys else if x.cps.toList < y.cps.toList then x :: y :: ys else y :: insS x ys
def sortSetS (xs : List Str) : List Str := xs.foldr insS []
def wSortSet (te : WE) : WE := fun su M R => te su M fun u M1 => ∃ xs : List Str, lstOf M1 u = some (xs.map .str) ∧ xs.length < 64 ∧ R (.lst ((sortSetS xs).map .str)) M1
theorem str_ext {a b : Str} (h : a.cps.toList = b.cps.toList) : a = b := by
  obtain ⟨⟨a⟩⟩ := a
  obtain ⟨⟨b⟩⟩ := b
  simp at h
  rw [h]
theorem insS_mem {x y : Str} : ∀ {l : List Str}, y ∈ insS x l ↔ y = x ∨ y ∈ l
  | [] => by simp [insS]
  | z :: r => by
    unfold insS
    split
    · rename_i e; subst e; simp
    · split
      · simp
      · simp [insS_mem (l := r)]
        constructor
        · rintro (h | h | h) <;> simp [h]
        · rintro (h | h | h) <;> simp [h]
theorem sortSet_mem {y : Str} : ∀ {l : List Str}, y ∈ sortSetS l ↔ y ∈ l
  | [] => by simp [sortSetS]
  | x :: r => by
    show y ∈ insS x (sortSetS r) ↔ _
    rw [insS_mem, sortSet_mem (l := r)]
    simp
def StrictS : List Str → Prop := List.Pairwise fun a b => a.cps.toList < b.cps.toList
theorem lt_total (a b : Str) (h : ¬ a = b) (h2 : ¬ a.cps.toList < b.cps.toList) : b.cps.toList < a.cps.toList := by
  have h3 : b.cps.toList ≤ a.cps.toList := by simpa using h2
  rcases List.le_iff_lt_or_eq.mp h3 with h4 | h4
  · exact h4
  · exact absurd (str_ext h4.symm) h
theorem insS_strict {x : Str} : ∀ {l : List Str}, StrictS l → StrictS (insS x l)
  | [], _ => List.pairwise_singleton _ _
  | z :: r, h => by
    obtain ⟨h1, h2⟩ := List.pairwise_cons.mp h
    unfold insS
    split
    · exact h
    · rename_i ne
      split
      · rename_i lt
        refine List.pairwise_cons.mpr ⟨fun y hy => ?_, h⟩
        rcases List.mem_cons.mp hy with e | hy
        · subst e; exact lt
        · exact List.lt_trans lt (h1 y hy)
      · rename_i nlt
        refine List.pairwise_cons.mpr ⟨fun y hy => ?_, insS_strict h2⟩
        rcases insS_mem.mp hy with e | hy
        · subst e; exact lt_total _ _ ne nlt
        · exact h1 y hy
theorem sortSet_strict : ∀ l : List Str, StrictS (sortSetS l)
  | [] => List.Pairwise.nil
  | x :: r => insS_strict (sortSet_strict r)
theorem strict_unique : ∀ {a b : List Str}, StrictS a → StrictS b → (∀ x, x ∈ a ↔ x ∈ b) → a = b
  | [], [], _, _, _ => rfl
  | [], y :: b, _, _, h => by have := (h y).mpr List.mem_cons_self; cases this
  | x :: a, [], _, _, h => by have := (h x).mp List.mem_cons_self; cases this
  | x :: a, y :: b, ha, hb, h => by
    obtain ⟨a1, a2⟩ := List.pairwise_cons.mp ha
    obtain ⟨b1, b2⟩ := List.pairwise_cons.mp hb
    have exy : x = y := by
      rcases List.mem_cons.mp ((h x).mp List.mem_cons_self) with e | m
      · exact e
      · rcases List.mem_cons.mp ((h y).mpr List.mem_cons_self) with e | m2
        · exact e.symm
        · exact absurd (List.lt_trans (b1 x m) (a1 y m2)) (List.lt_irrefl _)
    subst exy
    congr 1
    refine strict_unique a2 b2 fun z => ?_
    have nx : ∀ {c : List Str}, (∀ w ∈ c, x.cps.toList < w.cps.toList) → z ∈ c → z ≠ x := fun hc hz e => by
      subst e; exact List.lt_irrefl _ (hc z hz)
    constructor
    · intro hz
      rcases List.mem_cons.mp ((h z).mp (List.mem_cons_of_mem _ hz)) with e | m
      · exact absurd e (nx a1 hz)
      · exact m
    · intro hz
      rcases List.mem_cons.mp ((h z).mpr (List.mem_cons_of_mem _ hz)) with e | m
      · exact absurd e (nx b1 hz)
      · exact m
theorem sortSet_ext {a b : List Str} (h : ∀ x, x ∈ a ↔ x ∈ b) : sortSetS a = sortSetS b :=
  strict_unique (sortSet_strict a) (sortSet_strict b) fun x => by rw [sortSet_mem, sortSet_mem]; exact h x
theorem insS_len {x : Str} : ∀ {l : List Str}, (insS x l).length ≤ l.length + 1
  | [] => by simp [insS]
  | z :: r => by
    unfold insS
    split
    · simp
    · split
      · simp
      · have := insS_len (x := x) (l := r); simp; omega
theorem sortSet_len : ∀ l : List Str, (sortSetS l).length ≤ l.length
  | [] => by simp [sortSetS]
  | x :: r => by
    have h1 := sortSet_len r
    have h2 := insS_len (x := x) (l := sortSetS r)
    show (insS x (sortSetS r)).length ≤ _
    simp
    omega
theorem sortedS_strict {l : List Str} (nd : l.Nodup) (h : sortedS l = true) : StrictS l := by
  have key : ∀ (l : List Str) (p : Str), risingS p l = true → (∀ q ∈ l, ¬ q.cps.toList < p.cps.toList) ∧ sortedS l = true := by
    intro l
    induction l with
    | nil => intro p _; exact ⟨fun q hq => (by cases hq), rfl⟩
    | cons x r ih =>
      intro p h
      simp only [risingS, Bool.and_eq_true, Bool.not_eq_true'] at h
      obtain ⟨h1, h2⟩ := h
      have h1' : ¬ x.cps.toList < p.cps.toList := by
        intro hlt
        rw [ltCps_eq] at h1
        simp [hlt] at h1
      refine ⟨fun q hq => ?_, h2⟩
      rcases List.mem_cons.mp hq with e | hq
      · subst e; exact h1'
      · have := (ih x h2).1 q hq
        intro hlt
        exact this (by
          rcases List.le_iff_lt_or_eq.mp (show p.cps.toList ≤ x.cps.toList by simpa using h1') with k | k
          · exact List.lt_trans hlt k
          · rw [← k]; exact hlt)
  induction l with
  | nil => exact List.Pairwise.nil
  | cons x r ih =>
    obtain ⟨n1, n2⟩ := List.nodup_cons.mp nd
    obtain ⟨k1, k2⟩ := key r x h
    refine List.pairwise_cons.mpr ⟨fun y hy => ?_, ih n2 k2⟩
    exact lt_total y x (fun e => n1 (e ▸ hy)) (k1 y hy)
section
variable {X : Cx} {P : Program} {w : World} {K : PySem.W.Frag} {mg : Str → Option Value} {base : Heap} {k : Nat} {N : List Str} {S : Scope} {g : Gd} {e a : Expr} {te : WE} {tr : WA} {p p2 pos pos2 : Pos}
theorem k_sortSet (W : Wk X P w K mg base k N S) (hc : X.calm = true) (hm : mg "sorted" = none) (hm2 : mg "set" = none) (h1 : glB S "sorted" = true) (h2 : glB S "set" = true) (ha : JE X g e te)
    (hs : starEach [e] X.env = (false, eval e X.env) :: starEach [] X.env) (hs2 : starEach [.Call (.Name "set" p2) [e] [] pos2] X.env = (false, eval (.Call (.Name "set" p2) [e] [] pos2) X.env) :: starEach [] X.env)
    (hp : (backTo pos (starEach [] X.env)).any (·.1) = false) (hp2 : (backTo pos2 (starEach [] X.env)).any (·.1) = false) :
    JE X g (.Call (.Name "sorted" p) [.Call (.Name "set" p2) [e] [] pos2] [] pos) (wSortSet te) := by
  obtain ⟨q1, q2⟩ := W.gl h1
  obtain ⟨q3, q4⟩ := W.gl h2
  have inner := L2.pe_callTy (p := p2) (cr_setT hc) q3 (by rw [W.mg]; exact hm2) boot_ty_set (L2.pa_cons ha L2.pa_nil hs) (by decide) q4 hs hp2
  have outer := L2.pe_callB (p := p) (cr_sortedT hc) q1 (by rw [W.mg]; exact hm) boot_fn_sorted (L2.pa_cons inner L2.pa_nil hs2) (by decide) q2 hs2 hp
  refine pe_imp outer fun σ H Q ⟨su, M, R, at0, h, c⟩ => ?_
  refine ⟨su, M, _, at0, h, fun u M1 v H1 ⟨xs, e, hz, q⟩ s1 d1 r1 => ?_⟩
  obtain ⟨a1, vs, rfl, sq, t⟩ := lstOf_sq d1 r1 e
  rw [strs_rep t] at sq
  refine ⟨a1, xs, rfl, sq, by omega, fun l p hm hl hp => ⟨p, l, rfl, upd_same, by omega, fun ys p2 k1 k2 _ k4 hp2 => ?_⟩⟩
  have e2 : ys = sortSetS xs := strict_unique (sortedS_strict k4 k1) (sortSet_strict xs) fun x => by rw [sortSet_mem]; exact (k2 x).trans (hm x)
  subst e2
  exact c.at_ q (s1.trans ((Stp.new d1 hp).trans (Stp.new (d1.new hp) hp2))) ((d1.new hp).new hp2) (new_lst (d1.new hp) hp2 (reps_of_strs _))
end
end Pu

namespace Pu
open PySem PySem.Spec PyProof.Rows L2 SeqAt PySem.W Srt SrtO FbM
theorem perm_lift {α β : Type} {f : α → β} {l m : List β} (h : l.Perm m) : ∀ t : List α, t.map f = m → ∃ t' : List α, t'.Perm t ∧ t'.map f = l := by
  induction h with
  | nil => intro t e; exact ⟨[], by rw [List.map_eq_nil_iff.mp e], rfl⟩
  | cons x h ih =>
    intro t e
    cases t with
    | nil => simp at e
    | cons y t0 =>
      simp at e
      obtain ⟨t', p, e2⟩ := ih t0 e.2
      exact ⟨y :: t', p.cons y, by simp [e2, e.1]⟩
  | swap x y l =>
    intro t e
    match t, e with
    | a :: b :: t0, e =>
      simp at e
      exact ⟨b :: a :: t0, List.Perm.swap _ _ _, by simp [e]⟩
  | trans h1 h2 ih1 ih2 =>
    intro t e
    obtain ⟨t1, p1, e1⟩ := ih2 t e
    obtain ⟨t2, p2, e2⟩ := ih1 t1 e1
    exact ⟨t2, p2.trans p1, e2⟩
abbrev Quad := (Value × Value) × (U × V)
theorem zip4 {K : PySem.W.Frag} {M : Mp} {H : Hp} (f : U → U) : ∀ (xs : List U) (kvs xvs : List V) (ks vs : List Value), RepVs K M H (xs.map f) kvs → RepVs K M H xs xvs → Vals kvs ks → Vals xvs vs →
    ∃ T : List Quad, T.map (·.1) = ks.zip vs ∧ T.map (·.2.1) = xs ∧ T.map (·.2.2) = xvs ∧ ∀ t ∈ T, t.2.1 ∈ xs ∧ RelV t.2.2 t.1.2 ∧ RepV K M H t.2.1 t.2.2 ∧ ∃ kv, RelV kv t.1.1 ∧ RepV K M H (f t.2.1) kv
  | [], kvs, xvs, ks, vs, r1, r2, v1, v2 => by
    have e1 := RepVs.nil_inv r1
    have e2 := r2.nil_inv
    subst e1 e2
    cases v1; cases v2
    exact ⟨[], rfl, rfl, rfl, fun t h => by cases h⟩
  | x :: xs, kvs, xvs, ks, vs, r1, r2, v1, v2 => by
    obtain ⟨kv, kr, rfl, a1, a2⟩ := RepVs.uncons r1
    obtain ⟨xv, xr, rfl, b1, b2⟩ := r2.uncons
    cases v1 with
    | cons q1 q2 =>
    cases v2 with
    | cons p1 p2 =>
    rename_i kb kl vb vl
    obtain ⟨T, t1, t2, t3, t4⟩ := zip4 f xs kr xr _ _ a2 b2 q2 p2
    refine ⟨((kb, vb), (x, xv)) :: T, by simp [t1], by simp [t2], by simp [t3], fun t ht => ?_⟩
    rcases List.mem_cons.mp ht with e | ht
    · subst e; exact ⟨List.mem_cons_self, p1, b1, kv, q1, a1⟩
    · obtain ⟨g1, g2⟩ := t4 t ht
      exact ⟨List.mem_cons_of_mem _ g1, g2⟩
theorem RepVs.snoc {K : PySem.W.Frag} {M : Mp} {H : Hp} {us : List U} {vs : List V} {u : U} {v : V} (h : RepVs K M H us vs) (r : RepV K M H u v) : RepVs K M H (us ++ [u]) (vs ++ [v]) := h.app (.cons r .nil)
theorem rep_quads {K : PySem.W.Frag} {M : Mp} {H : Hp} : ∀ T : List Quad, (∀ t ∈ T, RelV t.2.2 t.1.2 ∧ RepV K M H t.2.1 t.2.2) → RepVs K M H (T.map (·.2.1)) (T.map (·.2.2)) ∧ Vals (T.map (·.2.2)) (T.map (·.1.2))
  | [], _ => ⟨.nil, .nil⟩
  | t :: T, h => by
    obtain ⟨h1, h2⟩ := h t List.mem_cons_self
    obtain ⟨r1, r2⟩ := rep_quads T fun x hx => h x (List.mem_cons_of_mem _ hx)
    exact ⟨.cons h2 r1, .cons h1 r2⟩
/-- what is asked of the keys -/
structure KeysOk (xs : List U) (f : U → U) : Prop where
  ord : ∀ x ∈ xs, ordU (f x) = true
  fit : ∀ x ∈ xs, Fit (f x)
  int : ∀ x ∈ xs, ∃ i r, f x = .tup (.int i :: r)
  cmp : ∀ x ∈ xs, ∀ y ∈ xs, ∃ k, ltU (f x) (f y) = some k
section
variable {X : Cx} {pins : List (Addr × Obj)} {σ : L2.St} {H : Hp} {s : Shared} {M : Mp} {k : Nat} {fa : Addr} {fd : FuncData} {ps : List Str} {sp : USp}
theorem sortKey_run (F : FnOk X.prog X.w X.K X.mg X.base (L2.CX X.prog X.w) k fa fd ps (liftSp X.K X.mg sp)) (hb : Binds X.K fd ps []) (hr : Room k X.A.in1.in1) (hA : X.A.in1.in1.frames = some X.stack) (I : Inv X pins σ H s) (hd : RepM X.K M H)
    {l : Addr} {xs : List U} {xvs : List V} (hl : SqL X.K H l xvs) (rx : RepVs X.K M H xs xvs) (f : U → U) (hz : xs.length < 10000) (ko : KeysOk xs f) (hrun : ∀ x ∈ xs, ∀ R' : UK, R' (f x) M → sp [x] M R' fun _ _ => False) {Q : VK}
    (q : ∀ ys p yvs H', ys.Perm xs → ys.Pairwise (fun a b => ltU (f b) (f a) = some false) → Stp M H M H' → RepM X.K M H' → RepVs X.K M H' ys yvs → H' p = none → Q (.ref p) (upd H' p (.lst yvs))) :
    wpAny (model X.prog X.w) X.A (call (.builtin "sorted") [.ref l] [(Str.ofString "key", .ref fa)]) (EP X pins σ Q) X.xe s := by
  obtain ⟨vs, rv, pl, hzl⟩ := I.list hl
  have hlen : xs.length = vs.length := rx.length.trans rv.length
  have hzv : vs.length ≤ sizeLine := by rw [sizeLine_eq]; omega
  have hunits : X.A.in1.in1.units + 64 < cLine := hr.units
  refine call_function_entry_kw kind_sorted plain_sorted entry_sorted (ksk_s1 _ _) ?_
  unfold Builtin.«sorted»
  refine wpAny_bind (m := checkCount "sorted" 1 1 _) (wpAny_pure ?_)
  refine wpAny_bind (collect_list pl.isList ?_ hzv)
  refine wpAny_bind (wpAny_newList ?_ hzv)
  have hsz : ((s.heap.push (seqObj "list" #[] 0)).update s.heap.objs.size (Obj.mapSeq (· ++ vs.toArray))).objs.size = s.heap.objs.size + 1 := by
    rw [Heap.size_update, size_push']
  have hoL : (((s.heap.push (seqObj "list" #[] 0)).update s.heap.objs.size (Obj.mapSeq (· ++ vs.toArray))).push (seqObj "list" vs.toArray 0)).get? (s.heap.objs.size + 1) = some (seqObj "list" vs.toArray 0) := by
    rw [← hsz]; exact Heap.get?_push_size _ rfl
  have keep : ∀ b o, s.heap.get? b = some o → b ≠ s.heap.objs.size + 1 ∧ (((s.heap.push (seqObj "list" #[] 0)).update s.heap.objs.size (Obj.mapSeq (· ++ vs.toArray))).push (seqObj "list" vs.toArray 0)).get? b = some o := fun b o q => by
    have hlt : b < s.heap.objs.size := Heap.lt_size q
    refine ⟨Nat.ne_of_lt (Nat.lt_succ_of_lt hlt), Heap.get?_push_of_some _ ?_⟩
    rw [Heap.get?_update_ne _ _ _ _ (Nat.ne_of_lt hlt)]
    exact Heap.get?_push_of_some _ q
  have hz2 : (((s.heap.push (seqObj "list" #[] 0)).update s.heap.objs.size (Obj.mapSeq (· ++ vs.toArray))).push (seqObj "list" vs.toArray 0)).objs.size = s.heap.objs.size + 2 := by rw [size_push', hsz]
  show wpAny _ _ _ _ _ { s with heap := ((s.heap.push (seqObj "list" #[] 0)).update s.heap.objs.size (Obj.mapSeq (· ++ vs.toArray))).push (seqObj "list" vs.toArray 0) }
  rw [hsz]
  generalize ((s.heap.push (seqObj "list" #[] 0)).update s.heap.objs.size (Obj.mapSeq (· ++ vs.toArray))).push (seqObj "list" vs.toArray 0) = h1 at hoL keep hz2 ⊢
  generalize ea : s.heap.objs.size + 1 = a at hoL keep ⊢
  have haS : s.heap.objs.size ≤ a := by omega
  refine wpAny_bind (wpAny_holding (wpAny_call_entry_kw slot_list_sort ⟨_, hoL, rfl⟩ entry_list_sort ?_ (ksk_l1 _ _)))
  rw [ksk_t1]
  obtain ⟨e1, ho1⟩ : ∃ e1, (h1.update a (Obj.mapSeq fun _ => (#[] : Array Value))).get? a = some (seqObj "list" #[] e1) := ⟨_, get?_update_seq hoL fun _ => #[]⟩
  unfold ksk_tree
  refine wpAny_bind (listItems_at hoL rfl ?_)
  refine wpAny_bind (listUpdate_at hoL rfl ?_ (by rw [List.size_toArray]; exact hzv) (Nat.zero_le _))
  refine wpAny_bind (seqEpoch_at ho1 rfl ?_)
  refine wpAny_bind (wpAny_newTuple ?_ (by show vs.length ≤ _; exact hzv))
  refine wpAny_bind (wpAny_newList ?_ (Nat.zero_le _))
  refine wpAny_holding ?_
  have hkS : ((h1.update a (Obj.mapSeq fun _ => (#[] : Array Value))).push (seqObj "tuple" vs.toArray 0)).objs.size = a + 2 := by rw [size_push', Heap.size_update, hz2]; omega
  have gk : (((h1.update a (Obj.mapSeq fun _ => (#[] : Array Value))).push (seqObj "tuple" vs.toArray 0)).push (seqObj "list" #[] 0)).get? (a + 2) = some (seqObj "list" #[] 0) := by rw [← hkS]; exact Heap.get?_push_size _ rfl
  have ga : (((h1.update a (Obj.mapSeq fun _ => (#[] : Array Value))).push (seqObj "tuple" vs.toArray 0)).push (seqObj "list" #[] 0)).get? a = some (seqObj "list" #[] e1) := Heap.get?_push_of_some _ (Heap.get?_push_of_some _ ho1)
  have keep2 : ∀ b o, s.heap.get? b = some o → (((h1.update a (Obj.mapSeq fun _ => (#[] : Array Value))).push (seqObj "tuple" vs.toArray 0)).push (seqObj "list" #[] 0)).get? b = some o := fun b o e => by
    obtain ⟨k1, k2⟩ := keep b o e
    refine Heap.get?_push_of_some _ (Heap.get?_push_of_some _ ?_)
    rw [Heap.get?_update_ne _ _ _ _ k1]
    exact k2
  have ra : Rec X pins a := rec_new I haS
  have rk : Rec X pins (a + 2) := rec_new I (by omega)
  have na : H a = none := I.hok.fresh haS
  have nk : H (a + 2) = none := I.hok.fresh (by omega)
  have hka : a + 2 ≠ a := by omega
  have I2 : Inv X pins σ H { s with heap := ((h1.update a (Obj.mapSeq fun _ => (#[] : Array Value))).push (seqObj "tuple" vs.toArray 0)).push (seqObj "list" #[] 0) } := I.kept (t' := s.toks) keep2
  show wpAny _ _ (ksk_rest a (.ref fa) false vs.toArray e1 (.ref ((h1.update a (Obj.mapSeq fun _ => (#[] : Array Value))).push (seqObj "tuple" vs.toArray 0)).objs.size)) _ _ { s with heap := ((h1.update a (Obj.mapSeq fun _ => (#[] : Array Value))).push (seqObj "tuple" vs.toArray 0)).push (seqObj "list" #[] 0) }
  rw [hkS]
  generalize ((h1.update a (Obj.mapSeq fun _ => (#[] : Array Value))).push (seqObj "tuple" vs.toArray 0)).push (seqObj "list" #[] 0) = h2 at gk ga I2 ⊢
  refine key_rest (J := fun ks s' => ∃ H' kvs e, Inv X pins σ H' s' ∧ RepM X.K M H' ∧ Stp M H M H' ∧ Vals kvs ks ∧ RepVs X.K M H' ((xs.take ks.length).map f) kvs ∧ s'.heap.get? (a + 2) = some (seqObj "list" ks.toArray e) ∧ s'.heap.get? a = some (seqObj "list" #[] e1) ∧ H' (a + 2) = none ∧ H' a = none)
    (by rw [sizeLine_eq]; omega) (fun ks s' ⟨H', kvs, e, _, _, _, _, _, he, _⟩ => ⟨e, he⟩) (fun x ks s' ⟨H', kvs, e, J1, J2, J3, J4, J5, J6, J7, J8, J9⟩ hx => ?_) (fun ks s' hkl ⟨H', kvs, e, J1, J2, J3, J4, J5, J6, J7, J8, J9⟩ => ?_)
    ⟨H, [], 0, I2, hd, Stp.refl _ _, .nil, .nil, gk, ga, nk, na⟩
  · have hlt : ks.length < vs.length := (List.getElem?_eq_some_iff.mp hx).1
    have hxs : ks.length < xs.length := by omega
    have r3 := RepVs.step J3 _ _ rx
    obtain ⟨T, t1, t2, t3, t4⟩ := zip4 (fun u => u) xs xvs xvs vs vs (by simpa using r3) r3 rv rv
    have hT : T.length = xs.length := by rw [← t2, List.length_map]
    have htk : ks.length < T.length := by omega
    obtain ⟨g1, g2, g3, _⟩ := t4 _ (List.getElem_mem htk)
    have ex : xs[ks.length]? = some (T[ks.length].2.1) := by rw [← t2, List.getElem?_map, List.getElem?_eq_getElem htk]; rfl
    have ev : T[ks.length].1.2 = x := by
      have : (T.map (·.1))[ks.length]? = (vs.zip vs)[ks.length]? := by rw [t1]
      have e3 : (vs.zip vs)[ks.length]? = some (x, x) := List.getElem?_zip_eq_some.mpr ⟨hx, hx⟩
      rw [List.getElem?_map, List.getElem?_eq_getElem htk, e3] at this
      exact congrArg Prod.snd (Option.some.inj this)
    rw [ev] at g2
    refine wpAny_mono (key_call F hb hr hA J1 J2 g3 g2 (hrun _ g1)) (fun kv s2 ⟨v', H2, i2, rv2, rp2, st2, hd2, kp⟩ => ?_) fun _ _ z => z
    obtain ⟨kk1, kk2⟩ := kp _ _ rk J8 J6
    obtain ⟨ka1, ka2⟩ := kp _ _ ra J9 J7
    refine ⟨⟨e, kk1⟩, fun h' c sb hc => ⟨H2, kvs ++ [v'], c, ?_, hd2, J3.trans st2, J4.append (.cons rv2 .nil), ?_, hc, (sb.2 a (Ne.symm hka)).trans ka1, kk2, ka2⟩⟩
    · exact rk.turn (t' := s2.toks) i2 kk2 fun c o hc2 ec => (sb.2 c hc2).trans ec
    · rw [List.length_append, List.length_singleton, List.take_add_one, ex]
      simp only [Option.toList_some, List.map_append, List.map_cons, List.map_nil]
      exact (RepVs.step st2 _ _ J5).snoc rp2
  · have hxk : xs.take ks.length = xs := List.take_of_length_le (by omega)
    rw [hxk] at J5
    have r3 := RepVs.step J3 _ _ rx
    obtain ⟨T, t1, t2, t3, t4⟩ := zip4 f xs kvs xvs ks vs J5 r3 J4 rv
    have keyT : ∀ t ∈ T, KeyAt s'.heap t.1.1 (f t.2.1) := fun t ht => by
      obtain ⟨g1, _, _, kv, g4, g5⟩ := t4 t ht
      obtain ⟨i, r, ei⟩ := ko.int _ g1
      have ok := (ko.fit _ g1).1
      rw [ei] at g5 ok ⊢
      exact keyAt_of (K := X.K) J1 g5 g4 ok
    have hds : ∀ u ∈ xs.map f, ordU u = true := fun u hu => by
      obtain ⟨x, hx, rfl⟩ := List.mem_map.mp hu
      exact ko.ord x hx
    have hfs : ∀ u ∈ xs.map f, Fit u := fun u hu => by
      obtain ⟨x, hx, rfl⟩ := List.mem_map.mp hu
      exact ko.fit x hx
    have hcs : ∀ u ∈ xs.map f, ∀ y ∈ xs.map f, ∃ k, ltU u y = some k := fun u hu y hy => by
      obtain ⟨x, hx, rfl⟩ := List.mem_map.mp hu
      obtain ⟨z, hz, rfl⟩ := List.mem_map.mp hy
      exact ko.cmp x hx z hz
    have hmem : ∀ p ∈ ks.zip vs, ∃ u ∈ xs.map f, KeyAt s'.heap p.1 u := fun p hp => by
      rw [← t1] at hp
      obtain ⟨t, ht, rfl⟩ := List.mem_map.mp hp
      exact ⟨f t.2.1, List.mem_map.mpr ⟨_, (t4 t ht).1, rfl⟩, keyT t ht⟩
    refine key_end (κ := tuples' true) (Pk := fun p => ∃ u ∈ xs.map f, KeyAt s'.heap p.1 u) (lt := fun p q => decide (rkV s'.heap (xs.map f) p.1 < rkV s'.heap (xs.map f) q.1)) hka hkl hzv J6 J7 ?_ (fun h2 Q hQ => kind_keys (by omega) (fun v hv => ?_) hQ) (cmp_keys hunits hds hfs hcs) hmem fun out h' c pm srt g1 g2 => ?_
    · exact ⟨fun x y h => by simp at h ⊢; omega, fun x y z h1 h2 => by simp at h1 h2 ⊢; omega⟩
    · obtain ⟨i, hi, e⟩ := List.getElem_of_mem hv
      have hiv : i < vs.length := by omega
      obtain ⟨u, _, k⟩ := hmem (ks[i], vs[i]) (by
        have : (ks.zip vs)[i]? = some (ks[i], vs[i]) := List.getElem?_zip_eq_some.mpr ⟨List.getElem?_eq_getElem hi, List.getElem?_eq_getElem hiv⟩
        exact List.mem_of_getElem? this)
      exact ⟨u, by rw [← e]; exact k⟩
    · rw [← t1] at pm
      obtain ⟨T', pT, eT⟩ := perm_lift pm T rfl
      have t4' : ∀ t ∈ T', RelV t.2.2 t.1.2 ∧ RepV X.K M H' t.2.1 t.2.2 := fun t ht => by
        obtain ⟨_, h1, h2, _⟩ := t4 t (pT.mem_iff.mp ht)
        exact ⟨h1, h2⟩
      obtain ⟨rr, rvs⟩ := rep_quads T' t4'
      have hkk : ∀ u ∈ xs.map f, okU u = true := fun u hu => (hfs u hu).1
      have hpw : (T'.map (·.2.1)).Pairwise (fun a b => ltU (f b) (f a) = some false) := by
        have s1 : out.Pairwise (fun a b => decide (rkV s'.heap (xs.map f) b.1 < rkV s'.heap (xs.map f) a.1) = false) := srt
        rw [← eT, List.pairwise_map] at s1
        rw [List.pairwise_map]
        refine s1.imp_of_mem fun {t u} ht hu h => ?_
        have mt : f t.2.1 ∈ xs.map f := List.mem_map.mpr ⟨_, (t4 t (pT.mem_iff.mp ht)).1, rfl⟩
        have mu : f u.2.1 ∈ xs.map f := List.mem_map.mpr ⟨_, (t4 u (pT.mem_iff.mp hu)).1, rfl⟩
        rw [rkV_eq hds hkk mt (keyT t (pT.mem_iff.mp ht)), rkV_eq hds hkk mu (keyT u (pT.mem_iff.mp hu))] at h
        rw [rank_lt hds hcs mu mt, h]
      have ev : out.map (·.2) = T'.map (·.1.2) := by rw [← eT, List.map_map]; rfl
      have Ia : Inv X pins σ H' { s' with heap := h' } := by
        -- two records turned
        have ne : ∀ b u, H' b = some u → b ≠ a ∧ b ≠ a + 2 := fun b u e => ⟨fun z => (by rw [z, J9] at e; cases e), fun z => (by rw [z, J8] at e; cases e)⟩
        have mem2 : ∀ {b : Addr}, b ∉ [a, a + 2] → b ≠ a ∧ b ≠ a + 2 := fun h => by simpa using h
        have hok : HOk X.prog X.w H' h' := fun b u e => (J1.hok b u e).stay (fun c v hc q => g2 c v (by
            rcases hc with z | z
            · rw [z]; exact (ne b u e).1
            · exact (ne c _ z).1) (by
            rcases hc with z | z
            · rw [z]; exact (ne b u e).2
            · exact (ne c _ z).2) q) (fun _ q => q) fun _ _ q => q
        exact J1.step (H' := H') (h' := h') (g' := s'.gens) (d' := s'.drawn) (t' := s'.toks) (ch := [a, a + 2]) (fun b hb => by
            rcases List.mem_cons.mp hb with e | hb
            · subst e; exact ⟨.inr ra.ge, ra.nl, ra.ce, ra.pn⟩
            · have e : b = a + 2 := by simpa using hb
              subst e; exact ⟨.inr rk.ge, rk.nl, rk.ce, rk.pn⟩)
          (fun b o _ _ hc e _ => g2 b o (mem2 hc).1 (mem2 hc).2 e) (fun b o _ _ hc e _ => ⟨o.slots, g2 b o (mem2 hc).1 (mem2 hc).2 e⟩) (fun _ _ _ _ n => n)
          (fun b o hc e => ⟨o, g2 b o (mem2 hc).1 (mem2 hc).2 e⟩) (fun _ _ e => e) (fun _ _ _ e => e) (fun b ps e => ⟨#[], by rw [e]; simp⟩) (fun m hm => by
            obtain ⟨o, es, ep, ho, r⟩ := hm
            exact ⟨o, es, ep, g2 _ o (Ne.symm ra.nl) (Ne.symm rk.nl) ho, r⟩) hok J1.bare
      have hTl : T'.length = xs.length := by rw [pT.length_eq, ← t2, List.length_map]
      have new : ObjOk X.prog X.w (upd H' a (.lst (T'.map (·.2.2)))) h' a (.lst (T'.map (·.2.2))) := ⟨by rw [List.length_map, sizeLine_eq]; omega, T'.map (·.1.2), c, rvs, by rw [← ev]; exact g1⟩
      have If := Rec.adopt ra Ia J9 new
      refine ⟨_, rfl, wpAny_pure ⟨_, rfl, .ref a, _, If, rfl, q _ a _ H' ((pT.map _).trans (by rw [t2])) hpw J3 J2 rr J9⟩⟩
end
def wSortKey (sp : USp) (tr : WA) : WE := fun su M R => tr su M fun us M1 => ∃ (u : U) (xs : List U) (f : U → U), us = [u] ∧ lstOf M1 u = some xs ∧ xs.length < 10000 ∧ KeysOk xs f ∧ (∀ x ∈ xs, ∀ R' : UK, R' (f x) M1 → sp [x] M1 R' fun _ _ => False) ∧ ∀ ys : List U, ys.Perm xs → ys.Pairwise (fun a b => ltU (f b) (f a) = some false) → R (.lst ys) M1
section
variable {X : Cx} {P : Program} {w : World} {K : PySem.W.Frag} {mg : Str → Option Value} {base : Heap} {k : Nat} {N : List Str} {S : Scope} {g : Gd} {e a : Expr} {te : WE} {tr : WA} {p p2 pos pos2 : Pos}
theorem k_sortKey (W : Wk X P w K mg base k N S) (hc : X.calm = true) {k' : Nat} {x : Str} {st : Stmt} {ps : List Str} {sp : USp} {kp : Pos} (F : FnV P w K mg base k' x st ps sp) (hk : k' + 2 ≤ k) (hm : mg "sorted" = none) (h1 : glB S "sorted" = true) (h2 : glB S x = true) (ha : JA X g [e] tr)
    (hs : starEach [e] X.env = (false, eval e X.env) :: starEach [] X.env) (he : backTo pos (starEach [e] X.env) = (false, eval e X.env) :: backTo pos (starEach [] X.env)) (hpl : (backTo pos (starEach [e] X.env)).any (·.1) = false)
    (hall : (backToKw pos (keywordEach [⟨some "key", .Name x p2, kp⟩] X.env)).all (·.1.isSome) = true) (hnone : (backToKw pos (keywordEach [⟨some "key", .Name x p2, kp⟩] X.env)).any (·.1.isNone) = false) (hks : (backToKw pos (keywordEach [⟨some "key", .Name x p2, kp⟩] X.env)).filterMap (·.1) = [Str.ofString "key"]) :
    JE X g (.Call (.Name "sorted" p) [e] [⟨some "key", .Name x p2, kp⟩] pos) (wSortKey sp tr) := by
  obtain ⟨q1, q2⟩ := W.gl h1
  obtain ⟨q3, q4⟩ := W.gl h2
  obtain ⟨fa, fd, F1, hfa, _, _, hb⟩ := F.ex
  have r0 : Room k X.A := W.room hc
  obtain ⟨k0, rfl⟩ : ∃ k0, k = k0 + 2 := ⟨k - 2, by omega⟩
  have r2 : Room k0 X.A.in1.in1 := r0.in1.in1
  have e1 := W.prog; have e2 := W.wd; have e3 := W.K; have e4 := W.mg; have e5 := W.base
  subst e1 e2 e3 e4 e5
  have run : CallRK X (.builtin "sorted") [Str.ofString "key"] (fun vs zs H Q => ∃ M u v xs f, vs = [v] ∧ zs = [.ref fa] ∧ RepM X.K M H ∧ RepV X.K M H u v ∧ lstOf M u = some xs ∧ xs.length < 10000 ∧ KeysOk xs f ∧ (∀ x ∈ xs, ∀ R' : UK, R' (f x) M → sp [x] M R' fun _ _ => False) ∧
      ∀ ys p yvs H', ys.Perm xs → ys.Pairwise (fun a b => ltU (f b) (f a) = some false) → Stp M H M H' → RepM X.K M H' → RepVs X.K M H' ys yvs → H' p = none → Q (.ref p) (upd H' p (.lst yvs))) := by
    rintro pins s σ H vs zs us ws Q I r rz ⟨M, u, v, xs, f, rfl, rfl, hd, ru, en, hz, ko, hrun, q⟩
    obtain ⟨a, xvs, rfl, sq, t⟩ := lstOf_sq hd ru en
    obtain rfl := Vals.ref1 r
    obtain rfl := Vals.ref1 rz
    exact sortKey_run F1 hb (r2.mono (by omega)) I.env0.frames I hd sq t f hz ko hrun q
  have outer := L2.pe_callBK (p := p) run q1 hm boot_fn_sorted ha (pk_cons (nm := some "key") (kpos := kp) (L2.pe_glob (pos := p2) (v := .ref fa) q3 hfa rfl q4) pk_nil) (by decide) q2 he hpl hall hnone hks
  refine pe_imp outer fun σ H Q ⟨su, M, R, at0, h, c⟩ => ?_
  refine ⟨su, M, _, at0, h, fun us M1 vs H1 ⟨u, xs, f, eu, en, hz, ko, hrun, q⟩ s1 d1 r1 => ?_⟩
  subst eu
  obtain ⟨v, rfl, rv⟩ := r1.one
  refine ⟨M1, u, v, xs, f, rfl, rfl, d1, rv, en, hz, ko, hrun, fun ys p yvs H' k1 k2 k3 k4 k5 k6 => ?_⟩
  exact c.at_ (q ys k1 k2) (s1.trans (k3.trans (Stp.new k4 k6))) (k4.new k6) (new_lst k4 k6 k5)
end
end Pu

/-! Pu, part 17: the wishes, spelled out for simp. -/
namespace Pu
open PySem PySem.Spec PyProof.Rows L2

/-- what is wished of a value that is a bool, an int; of a value's truth -/
def asBl (u : U) (P : Bool → Prop) : Prop := ∃ b, u = .bl b ∧ P b
def asInt (u : U) (P : Int → Prop) : Prop := ∃ b, u = .int b ∧ P b
def truK (M : Mp) (u : U) (P : Bool → Prop) : Prop := ∃ k, Tru M u k ∧ P k
@[simp] theorem asBl_ {b : Bool} {P : Bool → Prop} : asBl (.bl b) P ↔ P b := ⟨fun ⟨_, e, h⟩ => by cases e; exact h, fun h => ⟨b, rfl, h⟩⟩
@[simp] theorem asInt_ {b : Int} {P : Int → Prop} : asInt (.int b) P ↔ P b := ⟨fun ⟨_, e, h⟩ => by cases e; exact h, fun h => ⟨b, rfl, h⟩⟩
@[simp] theorem truK_bl {M : Mp} {b : Bool} {P : Bool → Prop} : truK M (.bl b) P ↔ P b := ⟨fun ⟨_, e, h⟩ => by cases e; exact h, fun h => ⟨b, rfl, h⟩⟩
@[simp] theorem truK_non {M : Mp} {P : Bool → Prop} : truK M .non P ↔ P false := ⟨fun ⟨_, e, h⟩ => by cases e; exact h, fun h => ⟨_, rfl, h⟩⟩
@[simp] theorem truK_int {M : Mp} {i : Int} {P : Bool → Prop} : truK M (.int i) P ↔ P (i != 0) := ⟨fun ⟨_, e, h⟩ => by cases e; exact h, fun h => ⟨_, rfl, h⟩⟩
@[simp] theorem truK_tup {M : Mp} {us : List U} {P : Bool → Prop} : truK M (.tup us) P ↔ P (!us.isEmpty) := ⟨fun ⟨_, e, h⟩ => by cases e; exact h, fun h => ⟨_, rfl, h⟩⟩
@[simp] theorem truK_lst {M : Mp} {us : List U} {P : Bool → Prop} : truK M (.lst us) P ↔ P (!us.isEmpty) := ⟨fun ⟨_, e, h⟩ => by cases e; exact h, fun h => ⟨_, rfl, h⟩⟩
section
variable {D : UEnds} {su : Sg} {M : Mp} {R : UK} {RT : Bool → Mp → Prop} {RA : List U → Mp → Prop} {RG : Sg → Mp → Prop} {t u : WS} {c : WT} {ta tb tc te : WE} {tA tB : WT} {tr tk : WA} {gt : WG} {gs : WGs} {i j l : Nat}
@[simp] theorem wNext_ : wNext D su M = D.nx su M := rfl
@[simp] theorem wSeq_ : wSeq t u D su M = t { D with nx := u D } su M := rfl
@[simp] theorem wBreak_ : wBreak D su M = D.bk su M := rfl
@[simp] theorem wCont_ : wCont D su M = D.ct su M := rfl
@[simp] theorem wDrop_ : wDrop te D su M = te su M fun _ M1 => D.nx su M1 := rfl
@[simp] theorem wRet_ : wRet te D su M = te su M D.rt := rfl
@[simp] theorem wRetN_ : wRetN D su M = D.rt .non M := rfl
@[simp] theorem wIfS_ : wIfS c t u D su M = c su M fun k M1 => if k = true then t D su M1 else u D su M1 := rfl
@[simp] theorem wName_ {x : U} : wName i x su M RG = RG (su.set i (some x)) M := rfl
@[simp] theorem wGnil_ {us : List U} : wGnil us su M RG = (us = [] ∧ RG su M) := rfl
@[simp] theorem wGcons_ {x : U} {us : List U} : wGcons gt gs (x :: us) su M RG ↔ gt x su M fun su1 M1 => gs us su1 M1 RG := by
  unfold wGcons
  constructor
  · rintro ⟨a, b, e, h⟩; cases e; exact h
  · intro h; exact ⟨_, _, rfl, h⟩
@[simp] theorem wGtup_ {n : Nat} {us : List U} : wGtup n gs (.tup us) su M RG ↔ us.length = n ∧ gs us su M RG := by
  unfold wGtup
  constructor
  · rintro ⟨a, e, h⟩; rcases e with e | e <;> cases e; exact h
  · intro h; exact ⟨_, .inl rfl, h⟩
@[simp] theorem wGtup_p {n : Nat} {us : List U} : wGtup n gs (.pr us) su M RG ↔ us.length = n ∧ gs us su M RG := by
  unfold wGtup
  constructor
  · rintro ⟨a, e, h⟩; rcases e with e | e <;> cases e; exact h
  · intro h; exact ⟨_, .inr rfl, h⟩
@[simp] theorem wAsg_ : wAsg te gt D su M = te su M fun x M1 => gt x su M1 D.nx := rfl
@[simp] theorem wSet_ : wSet i te D su M = te su M fun x M1 => D.nx (su.set i (some x)) M1 := rfl
@[simp] theorem wPar_ : wPar i j tr D su M = tr su M fun us M1 => ∃ x y, us = [x, y] ∧ D.nx ((su.set i (some x)).set j (some y)) M1 := rfl
@[simp] theorem wPar3_ : wPar3 i j l tr D su M = tr su M fun us M1 => ∃ x y z, us = [x, y, z] ∧ D.nx (((su.set i (some x)).set j (some y)).set l (some z)) M1 := rfl
@[simp] theorem wGsub_ {s : WSet} {v : U} : wGsub ta tb s v su M RG = ta su M fun o M1 => tb su M1 fun i M2 => s o i v M2 fun M3 => RG su M3 := rfl
@[simp] theorem wVar_0 {x : Option U} : wVar 0 (x :: su) M R ↔ ∃ u, x = some u ∧ R u M := by
  unfold wVar
  simp
@[simp] theorem wVar_s {x : Option U} : wVar (i + 1) (x :: su) M R = wVar i su M R := by
  unfold wVar
  simp
@[simp] theorem wC_ {x : U} : wC x su M R = R x M := rfl
@[simp] theorem wBin_ {o : O2} : wBin o ta tb su M R = ta su M fun x M1 => tb su M1 fun y M2 => o x y M2 R := rfl
@[simp] theorem wUn_ {o : O1} : wUn o ta su M R = ta su M fun x M1 => o x M1 R := rfl
@[simp] theorem wB_ : wB te su M RT = te su M fun u M1 => asBl u fun b => RT b M1 := rfl
@[simp] theorem wChain_ {o o' : O2} : wChain o o' ta tb tc su M R = ta su M fun x M1 => tb su M1 fun y M2 => o x y M2 fun z M3 => asBl z fun k => (if k = true then tc su M3 fun w M4 => o' y w M4 R else R (.bl false) M3) := rfl
@[simp] theorem wTr_ : wTr te su M RT = te su M fun u M1 => truK M1 u fun k => RT k M1 := rfl
@[simp] theorem wAndT_ : wAndT tA tB su M RT = tA su M fun k M1 => if k = true then tB su M1 RT else RT false M1 := rfl
@[simp] theorem wOrT_ : wOrT tA tB su M RT = tA su M fun k M1 => if k = true then RT true M1 else tB su M1 RT := rfl
@[simp] theorem wNotT_ : wNotT tA su M RT = tA su M fun k M1 => RT (!k) M1 := rfl
@[simp] theorem wAnd_ : wAnd ta tb su M R = ta su M fun x M1 => truK M1 x fun k => if k = true then tb su M1 R else R x M1 := rfl
@[simp] theorem wOr_ : wOr ta tb su M R = ta su M fun x M1 => truK M1 x fun k => if k = true then R x M1 else tb su M1 R := rfl
@[simp] theorem wNot_ : wNot ta su M R = ta su M fun x M1 => truK M1 x fun k => R (.bl (!k)) M1 := rfl
@[simp] theorem wIf_ : wIf tA ta tb su M R = tA su M fun k M1 => if k = true then ta su M1 R else tb su M1 R := rfl
@[simp] theorem wNil_ : wNil su M RA = RA [] M := rfl
@[simp] theorem wCons_ : wCons ta tr su M RA = ta su M fun x M1 => tr su M1 fun xs M2 => RA (x :: xs) M2 := rfl
@[simp] theorem wTup_ : wTup tr su M R = tr su M fun xs M1 => xs.length ≤ sizeLine ∧ R (.tup xs) M1 := rfl
@[simp] theorem wLst_ : wLst tr su M R = tr su M fun xs M1 => xs.length ≤ sizeLine ∧ R (.lst xs) M1 := rfl
@[simp] theorem wLstH_ : wLstH tr su M R = tr su M fun xs M1 => xs.length ≤ sizeLine ∧ ∀ p, M1 p = none → R (.ref p) (put M1 p (.lst xs)) := rfl
@[simp] theorem wCall_ {sp : USp} {ex : UWX} : wCall sp ex tr su M R = tr su M fun us M1 => sp us M1 R fun ux M2 => ex ux su M2 := rfl
@[simp] theorem wCallK_ {n m : Nat} {sp : USp} {ex : UWX} : wCallK n m sp ex tr tk su M R = tr su M fun us M1 => tk su M1 fun zs M2 => us.length = n ∧ zs.length = m ∧ sp (us ++ zs) M2 R fun ux M3 => ex ux su M3 := rfl
@[simp] theorem wCB_ {o : OC} : wCB o tr su M R = tr su M fun us M1 => o us M1 R := rfl
@[simp] theorem wBM_ {T : String} {o : OM} : wBM T o te tr su M R = te su M fun x M1 => tyU T M1 x ∧ tr su M1 fun xs M2 => o x xs M2 R := rfl
@[simp] theorem wOpt_n {Ro : Option Int → Mp → Prop} : wOpt none su M Ro = Ro none M := rfl
@[simp] theorem wOpt_s {Ro : Option Int → Mp → Prop} : wOpt (some te) su M Ro = te su M fun u M1 => asInt u fun i => Ro (some i) M1 := rfl
@[simp] theorem wSl_ {tl th : Option WE} : wSl te tl th su M R = te su M fun x M1 => wOpt tl su M1 fun lo M2 => wOpt th su M2 fun hi M3 => uSl x lo hi M3 R := rfl
@[simp] theorem wRepL_ : wRepL tr tb su M R = tr su M fun xs M1 => xs.length ≤ sizeLine ∧ tb su M1 fun y M2 => asInt y fun k => -(2 ^ 63) ≤ k ∧ k < 2 ^ 63 ∧ xs.length * k.toNat ≤ sizeLine ∧ R (.lst (List.replicate k.toNat xs).flatten) M2 := rfl
@[simp] theorem wDict0_ : wDict0 su M R = R (.dct [] []) M := rfl
@[simp] theorem wRaise_ {x : Str} {ex : UWX} : wRaise x ex D su M = ex ⟨x, []⟩ su M := rfl
@[simp] theorem wFor_ {w : WI} {tb : WS} : wFor w gt tb D su M = w su M fun us keep M1 => loopU keep gt tb us D su M1 := rfl
@[simp] theorem wIt_ {Ri : List U → (Mp → Prop) → Mp → Prop} : wIt te su M Ri = te su M fun u M1 => wItU u M1 Ri := rfl
@[simp] theorem wYes_ : wYes su M RT = RT true M := rfl
/-! values -/
@[simp] theorem uAdd_ii {a b : Int} : uAdd (.int a) (.int b) M R = R (.int (a + b)) M := rfl
@[simp] theorem uAdd_ss {a b : Str} : uAdd (.str a) (.str b) M R = (a.length + b.length ≤ sizeLine ∧ R (.str (a ++ b)) M) := rfl
@[simp] theorem uAdd_tt {a b : List U} : uAdd (.tup a) (.tup b) M R = (a.length + b.length ≤ sizeLine ∧ R (.tup (a ++ b)) M) := rfl
@[simp] theorem uAdd_ll {a b : List U} : uAdd (.lst a) (.lst b) M R = (a.length + b.length ≤ sizeLine ∧ R (.lst (a ++ b)) M) := rfl
@[simp] theorem uSub_ {a b : Int} : uSub (.int a) (.int b) M R ↔ R (.int (a - b)) M := by simp [uSub, uInts]
@[simp] theorem uMod_ {a b : Int} : uMod (.int a) (.int b) M R ↔ 0 < b ∧ R (.int (a % b)) M := by simp [uMod, uInts]
@[simp] theorem uFdiv_ {a b : Int} : uFdiv (.int a) (.int b) M R ↔ CDiv a b ∧ R (.int (a / b)) M := by simp [uFdiv, uInts]
@[simp] theorem uPow_ {a b : Int} : uPow (.int a) (.int b) M R ↔ CPow a b ∧ R (.int (a ^ b.toNat)) M := by simp [uPow, uInts]
@[simp] theorem uMul_ {a b : Int} : uMul (.int a) (.int b) M R = (CMul a b ∧ R (.int (a * b)) M) := rfl
@[simp] theorem uNeg_ {a : Int} : uNeg (.int a) M R = R (.int (-a)) M := rfl
@[simp] theorem uEq_ss {a b : Str} : uEq (.str a) (.str b) M R ↔ R (.bl (a == b)) M := by simp [uEq, rs, EqOk, eqU]
@[simp] theorem uEq_ii {a b : Int} : uEq (.int a) (.int b) M R ↔ R (.bl (a == b)) M := by simp [uEq, rs, EqOk, eqU]
@[simp] theorem uEq_bb {a b : Bool} : uEq (.bl a) (.bl b) M R ↔ R (.bl (a == b)) M := by simp [uEq, rs, EqOk, eqU]
@[simp] theorem uEq_t0 {a : List U} : uEq (.tup a) (.tup []) M R ↔ R (.bl a.isEmpty) M := by simp [uEq, rs, EqOk, eqU_empty]
@[simp] theorem uNe_ss {a b : Str} : uNe (.str a) (.str b) M R ↔ R (.bl (a != b)) M := by simp [uNe, rs, EqOk, eqU, bne]
@[simp] theorem uNe_ii {a b : Int} : uNe (.int a) (.int b) M R ↔ R (.bl (a != b)) M := by simp [uNe, rs, EqOk, eqU, bne]
@[simp] theorem uNe_bb {a b : Bool} : uNe (.bl a) (.bl b) M R ↔ R (.bl (a != b)) M := by simp [uNe, rs, EqOk, eqU, bne]
@[simp] theorem uNe_t0 {a : List U} : uNe (.tup a) (.tup []) M R ↔ R (.bl (!a.isEmpty)) M := by simp [uNe, rs, EqOk, eqU_empty]
@[simp] theorem uLt_ii {a b : Int} : uLt (.int a) (.int b) M R = R (.bl (decide (a < b))) M := rfl
@[simp] theorem uLt_ss {a b : Str} : uLt (.str a) (.str b) M R = R (.bl (strLt a b)) M := rfl
@[simp] theorem uLe_ii {a b : Int} : uLe (.int a) (.int b) M R = R (.bl (decide (a ≤ b))) M := rfl
@[simp] theorem uLe_ss {a b : Str} : uLe (.str a) (.str b) M R = R (.bl (!strLt b a)) M := rfl
@[simp] theorem uGt_ii {a b : Int} : uGt (.int a) (.int b) M R = R (.bl (decide (b < a))) M := rfl
@[simp] theorem uGe_ii {a b : Int} : uGe (.int a) (.int b) M R = R (.bl (decide (b ≤ a))) M := rfl
@[simp] theorem uIs_b {a b : Bool} : uIs (.bl a) (.bl b) M R = R (.bl (a == b)) M := rfl
@[simp] theorem uIs_n {x : U} : uIs x .non M R ↔ R (.bl (isNonU x)) M := by cases x <;> rfl
@[simp] theorem uIsNot_b {a b : Bool} : uIsNot (.bl a) (.bl b) M R = R (.bl (!(a == b))) M := rfl
@[simp] theorem uIsNot_n {x : U} : uIsNot x .non M R ↔ R (.bl (!isNonU x)) M := by cases x <;> rfl
@[simp] theorem uIn_ss {x z : Str} : uIn0 (.str x) (.str z) M R = ∃ c, x = ⟨#[c]⟩ ∧ R (.bl (decide (c ∈ z.cps.toList))) M := rfl
theorem uIn_l {x : U} {us : List U} (h : InOk x us) (q : R (.bl (us.any fun z => eqU z x)) M) : uIn0 x (.lst us) M R := by
  unfold uIn0 uIn
  cases x <;> exact .inl ⟨us, rfl, h, q⟩
theorem uIn_t {x : U} {us : List U} (h : InOk x us) (q : R (.bl (us.any fun z => eqU z x)) M) : uIn0 x (.tup us) M R := by
  unfold uIn0 uIn
  cases x <;> exact .inl ⟨us, rfl, h, q⟩
@[simp] theorem uIdx_t {us : List U} {i : Int} : uIdx0 (.tup us) (.int i) M R ↔ ∃ u, atI us i = some u ∧ R u M := by
  constructor
  · rintro ⟨i', u, e, h, q⟩; cases e; exact ⟨u, h, q⟩
  · rintro ⟨u, h, q⟩; exact ⟨i, u, rfl, h, q⟩
@[simp] theorem uIdx_l {us : List U} {i : Int} : uIdx0 (.lst us) (.int i) M R ↔ ∃ u, atI us i = some u ∧ R u M := by
  constructor
  · rintro ⟨i', u, e, h, q⟩; cases e; exact ⟨u, h, q⟩
  · rintro ⟨u, h, q⟩; exact ⟨i, u, rfl, h, q⟩
theorem uIdx_r {a : Addr} {us : List U} {i : Int} {u : U} (m : M a = some (.lst us)) (h : atI us i = some u) (q : R u M) : uIdx0 (.ref a) (.int i) M R := by
  unfold uIdx0 uIdx
  simp only [m]
  exact ⟨i, u, rfl, h, q⟩
@[simp] theorem uIdx_s {z : Str} {i : Int} : uIdx0 (.str z) (.int i) M R ↔ z.length ≤ sizeLine ∧ ∃ c, atI z.cps.toList i = some c ∧ R (.str ⟨#[c]⟩) M := by
  constructor
  · rintro ⟨hz, i', u, e, h, q⟩; cases e; exact ⟨hz, u, h, q⟩
  · rintro ⟨hz, u, h, q⟩; exact ⟨hz, i, u, rfl, h, q⟩
@[simp] theorem uSl_t {us : List U} {lo hi : Option Int} : uSl (.tup us) lo hi M R = R (.tup (cutU us lo hi)) M := rfl
@[simp] theorem uSl_s {z : Str} {lo hi : Option Int} : uSl (.str z) lo hi M R = (z.length ≤ sizeLine ∧ R (.str (cutStr z lo hi)) M) := rfl
@[simp] theorem uSl_l {us : List U} {lo hi : Option Int} : uSl (.lst us) lo hi M R ↔ R (.lst (cutU us lo hi)) M := by
  constructor
  · rintro ⟨_, e, h⟩; cases e; exact h
  · intro h; exact ⟨_, rfl, h⟩
@[simp] theorem uBack_t {us : List U} : uBack (.tup us) M R = R (.tup us.reverse) M := rfl
@[simp] theorem uIsi_ty {x : U} {n : String} : uIsi [x, .ty n] M R ↔ tyOk M x n ∧ R (.bl (isA (tyN M x) n)) M := by
  unfold uIsi
  constructor
  · rintro (⟨u, m, e, h⟩ | ⟨u, ws, ns, e, _⟩)
    · cases e; exact h
    · cases e
  · intro h; exact .inl ⟨_, _, rfl, h⟩
@[simp] theorem uIsi_tup {x : U} {ws : List U} : uIsi [x, .tup ws] M R ↔ ∃ ns, tysOf ws = some ns ∧ ns ≠ [] ∧ (∀ n ∈ ns, tyOk M x n) ∧ R (.bl (ns.any fun n => isA (tyN M x) n)) M := by
  unfold uIsi
  constructor
  · rintro (⟨u, m, e, h⟩ | ⟨u, ws, ns, e, h⟩)
    · cases e
    · cases e; exact ⟨ns, h⟩
  · rintro ⟨ns, h⟩; exact .inr ⟨_, _, ns, rfl, h⟩
@[simp] theorem uLen_ {x : U} : uLen [x] M R ↔ ∃ n, lenU M x = some n ∧ R (.int (n : Int)) M := by
  unfold uLen
  constructor
  · rintro ⟨u, n, e, h⟩; cases e; exact ⟨n, h⟩
  · rintro ⟨n, h⟩; exact ⟨_, n, rfl, h⟩
@[simp] theorem lenU_t {us : List U} : lenU M (.tup us) = some us.length := rfl
@[simp] theorem lenU_l {us : List U} : lenU M (.lst us) = some us.length := rfl
@[simp] theorem uInt_i {i : Int} : uInt1 [.int i] M R ↔ R (.int i) M := by
  unfold uInt1
  constructor
  · rintro (⟨j, e, h⟩ | ⟨k, e, h⟩)
    · cases e; exact h
    · cases e
  · intro h; exact .inl ⟨i, rfl, h⟩
@[simp] theorem uTuple_ {x : U} : uTuple [x] M R ↔ ∃ ws, seqOf M x = some ws ∧ R (.tup ws) M := by
  unfold uTuple
  constructor
  · rintro ⟨u, n, e, h⟩; cases e; exact ⟨n, h⟩
  · rintro ⟨n, h⟩; exact ⟨_, n, rfl, h⟩
@[simp] theorem uList_ {x : U} : uList [x] M R ↔ ∃ ws, seqOf M x = some ws ∧ R (.lst ws) M := by
  unfold uList
  constructor
  · rintro ⟨u, n, e, h⟩; cases e; exact ⟨n, h⟩
  · rintro ⟨n, h⟩; exact ⟨_, n, rfl, h⟩
@[simp] theorem seqOf_t {us : List U} : seqOf M (.tup us) = some us := rfl
@[simp] theorem seqOf_l {us : List U} : seqOf M (.lst us) = some us := rfl
@[simp] theorem lstOf_l {us : List U} : lstOf M (.lst us) = some us := rfl
@[simp] theorem uInD_s {kvs : List (Str × U)} {neg : Bool} {z : Str} : uInD kvs neg (.str z) M R ↔ R (.bl (if neg then !(kvs.lookup z).isSome else (kvs.lookup z).isSome)) M := by
  unfold uInD
  constructor
  · rintro ⟨_, e, h⟩; cases e; exact h
  · intro h; exact ⟨_, rfl, h⟩
@[simp] theorem uIdxD_s {kvs : List (Str × U)} {z : Str} : uIdxD kvs (.str z) M R ↔ ∃ u, kvs.lookup z = some u ∧ R u M := by
  unfold uIdxD
  constructor
  · rintro ⟨_, u, e, h⟩; cases e; exact ⟨u, h⟩
  · rintro ⟨u, h⟩; exact ⟨_, u, rfl, h⟩
@[simp] theorem wItU_t {us : List U} {Ri : List U → (Mp → Prop) → Mp → Prop} : wItU (.tup us) M Ri = Ri us Any M := rfl
@[simp] theorem wItU_l {us : List U} {Ri : List U → (Mp → Prop) → Mp → Prop} : wItU (.lst us) M Ri = Ri us Any M := rfl
@[simp] theorem wItU_s {z : Str} {Ri : List U → (Mp → Prop) → Mp → Prop} : wItU (.str z) M Ri = Ri (signsU z) Any M := rfl
@[simp] theorem Any_ : Any M := trivial
/-! loops -/
@[simp] theorem loopU_nil {keep : Mp → Prop} {tb : WS} : loopU keep gt tb [] D su M = D.nx su M := rfl
theorem loopU_cons {keep : Mp → Prop} {tb : WS} {x : U} {r : List U} : loopU keep gt tb (x :: r) D su M = gt x su M fun su1 M1 => tb { D with nx := fun s m => keep m ∧ loopU keep gt tb r D s m, ct := fun s m => keep m ∧ loopU keep gt tb r D s m, bk := D.nx } su1 M1 := rfl
/-- a for by its invariant: I by the items that are left -/
theorem loop_inv {keep : Mp → Prop} {tb : WS} (I : List U → Sg → Mp → Prop) (h : ∀ x r s m, I (x :: r) s m → gt x s m fun su1 M1 => tb { D with nx := fun s m => keep m ∧ I r s m, ct := fun s m => keep m ∧ I r s m, bk := D.nx } su1 M1)
    (hm : ∀ (x : U) (r : List U) (s : Sg) (m : Mp), (∀ s m, I r s m → loopU keep gt tb r D s m) → (gt x s m fun su1 M1 => tb { D with nx := fun s m => keep m ∧ I r s m, ct := fun s m => keep m ∧ I r s m, bk := D.nx } su1 M1) → gt x s m fun su1 M1 => tb { D with nx := fun s m => keep m ∧ loopU keep gt tb r D s m, ct := fun s m => keep m ∧ loopU keep gt tb r D s m, bk := D.nx } su1 M1)
    (he : ∀ s m, I [] s m → D.nx s m) : ∀ us s m, I us s m → loopU keep gt tb us D s m
  | [], s, m, hi => he s m hi
  | x :: r, s, m, hi => by
    rw [loopU_cons]
    exact hm x r s m (loop_inv I h hm he r) (h x r s m hi)
end
/-! comprehensions -/
/-- every item in turn gives a value; the world stays -/
theorem compU_map {D : Addr} {keep : Mp → Prop} {gt : WG} {te : WE} {su1 : Sg} {M : Mp} (hD : M D = none) (f : U → U) (hk : ∀ acc, keep (put M D (.lst acc))) :
    ∀ (us acc : List U) (R : List U → Mp → Prop), (∀ x ∈ us, ∀ a (R : UK), R (f x) (put M D (.lst a)) → gt x su1 (put M D (.lst a)) fun su2 M1 => te su2 M1 R) → acc.length + us.length ≤ sizeLine → R (acc ++ us.map f) (put M D (.lst (acc ++ us.map f))) →
      compU D keep gt wYes te su1 us (put M D (.lst acc)) R
  | [], acc, R, _, _, q => ⟨acc, put_same, by simpa using q⟩
  | x :: r, acc, R, h, hz, q => by
    have ih := compU_map hD f hk r (acc ++ [f x]) R (fun y hy => h y (List.mem_cons_of_mem _ hy)) (by simp at hz ⊢; omega) (by simpa using q)
    unfold compU
    refine h x List.mem_cons_self acc (fun y M1 => ∃ acc, M1 D = some (.lst acc) ∧ acc.length < sizeLine ∧ keep (put M1 D (.lst (acc ++ [y]))) ∧ compU D keep gt wYes te su1 r (put M1 D (.lst (acc ++ [y]))) R) ⟨acc, put_same, by simp at hz; omega, ?_, ?_⟩
    · rw [put_put]; exact hk _
    · rw [put_put]; exact ih
/-- .. those that pass the test p -/
theorem compU_filter {D : Addr} {keep : Mp → Prop} {gt : WG} {tc : WT} {te : WE} {su1 : Sg} {M : Mp} (hD : M D = none) (p : U → Bool) (f : U → U) (hk : ∀ acc, keep (put M D (.lst acc))) :
    ∀ (us acc : List U) (R : List U → Mp → Prop), (∀ x ∈ us, ∀ a (R : Bool → UK), R (p x) (f x) (put M D (.lst a)) → gt x su1 (put M D (.lst a)) fun su2 M1 => tc su2 M1 fun k M2 => if k = true then te su2 M2 (R true) else R false (f x) M2) → acc.length + us.length ≤ sizeLine →
      R (acc ++ (us.filter p).map f) (put M D (.lst (acc ++ (us.filter p).map f))) → compU D keep gt tc te su1 us (put M D (.lst acc)) R
  | [], acc, R, _, _, q => ⟨acc, put_same, by simpa using q⟩
  | x :: r, acc, R, h, hz, q => by
    unfold compU
    refine h x List.mem_cons_self acc (fun k y M1 => if k = true then ∃ acc, M1 D = some (.lst acc) ∧ acc.length < sizeLine ∧ keep (put M1 D (.lst (acc ++ [y]))) ∧ compU D keep gt tc te su1 r (put M1 D (.lst (acc ++ [y]))) R else keep M1 ∧ compU D keep gt tc te su1 r M1 R) ?_
    have h' := fun y hy => h y (List.mem_cons_of_mem x hy)
    cases e : p x with
    | true =>
      rw [List.filter_cons_of_pos (by simpa using e)] at q
      rw [if_pos rfl]
      refine ⟨acc, put_same, by simp at hz; omega, ?_, ?_⟩
      · rw [put_put]; exact hk _
      · rw [put_put]
        exact compU_filter hD p f hk r (acc ++ [f x]) R h' (by simp at hz ⊢; omega) (by simpa using q)
    | false =>
      rw [List.filter_cons_of_neg (by simp [e])] at q
      rw [if_neg Bool.false_ne_true]
      exact ⟨hk _, compU_filter hD p f hk r acc R h' (by simp at hz ⊢; omega) q⟩
/-- what a comprehension asks, its items told -/
def CompG (hh : Bool) (keep : Mp → Prop) (gt : WG) (tc : WT) (te : WE) (su1 : Sg) (us : List U) (M : Mp) (R : UK) : Prop := ∀ D, M D = none → keep (put M D (.lst [])) ∧ compU D keep gt tc te su1 us (put M D (.lst [])) (compEnd hh R D)
theorem comp_map {keep : Mp → Prop} {gt : WG} {te : WE} {su1 : Sg} {M : Mp} {us : List U} {R : UK} (f : U → U) (hk : ∀ D acc, M D = none → keep (put M D (.lst acc))) (hz : us.length ≤ sizeLine)
    (h : ∀ x ∈ us, ∀ M' (R : UK), R (f x) M' → gt x su1 M' fun su2 M1 => te su2 M1 R) (q : R (.lst (us.map f)) M) : CompG false keep gt wYes te su1 us M R := fun D hD =>
  ⟨hk D [] hD, compU_map hD f (fun acc => hk D acc hD) us [] _ (fun x hx a R r => h x hx _ R r) (by simpa using hz) (by
    unfold compEnd
    rw [if_neg Bool.false_ne_true, del_put hD]
    simpa using q)⟩
theorem comp_filter {keep : Mp → Prop} {gt : WG} {tc : WT} {te : WE} {su1 : Sg} {M : Mp} {us : List U} {R : UK} (p : U → Bool) (f : U → U) (hk : ∀ D acc, M D = none → keep (put M D (.lst acc))) (hz : us.length ≤ sizeLine)
    (h : ∀ x ∈ us, ∀ M' (R : Bool → UK), R (p x) (f x) M' → gt x su1 M' fun su2 M1 => tc su2 M1 fun k M2 => if k = true then te su2 M2 (R true) else R false (f x) M2) (q : R (.lst ((us.filter p).map f)) M) :
    CompG false keep gt tc te su1 us M R := fun D hD =>
  ⟨hk D [] hD, compU_filter hD p f (fun acc => hk D acc hD) us [] _ (fun x hx a R r => h x hx _ R r) (by simpa using hz) (by
    unfold compEnd
    rw [if_neg Bool.false_ne_true, del_put hD]
    simpa using q)⟩
theorem any_keep {M : Mp} : ∀ (D : Addr) (acc : List U), M D = none → Any (put M D (.lst acc)) := fun _ _ _ => trivial
theorem bls_map {M : Mp} {us : List U} {p : U → Bool} : blsU M (.lst (us.map fun x => .bl (p x))) (us.map p) := by
  show some _ = some _
  rw [List.map_map]
  rfl
theorem ints_map {M : Mp} {us : List U} {p : U → Int} : intsU M (.lst (us.map fun x => .int (p x))) (us.map p) := by
  show some _ = some _
  rw [List.map_map]
  rfl
/-- all([..]), any([..]), sum([..]) over what is walked -/
theorem all_map {keep : Mp → Prop} {gt : WG} {te : WE} {su1 : Sg} {M : Mp} {us : List U} {R : UK} (p : U → Bool) (hk : ∀ D acc, M D = none → keep (put M D (.lst acc))) (hz : us.length ≤ sizeLine)
    (h : ∀ x ∈ us, ∀ M' (R : UK), R (.bl (p x)) M' → gt x su1 M' fun su2 M1 => te su2 M1 R) (q : R (.bl (us.all p)) M) : CompG false keep gt wYes te su1 us M fun x M1 => uAll [x] M1 R :=
  comp_map (fun x => .bl (p x)) hk hz h ⟨_, _, rfl, bls_map, by rw [List.all_map]; exact q⟩
theorem any_map {keep : Mp → Prop} {gt : WG} {te : WE} {su1 : Sg} {M : Mp} {us : List U} {R : UK} (p : U → Bool) (hk : ∀ D acc, M D = none → keep (put M D (.lst acc))) (hz : us.length ≤ sizeLine)
    (h : ∀ x ∈ us, ∀ M' (R : UK), R (.bl (p x)) M' → gt x su1 M' fun su2 M1 => te su2 M1 R) (q : R (.bl (us.any p)) M) : CompG false keep gt wYes te su1 us M fun x M1 => uAny [x] M1 R :=
  comp_map (fun x => .bl (p x)) hk hz h ⟨_, _, rfl, bls_map, by rw [List.any_map]; exact q⟩
theorem sum_map {keep : Mp → Prop} {gt : WG} {te : WE} {su1 : Sg} {M : Mp} {us : List U} {R : UK} (p : U → Int) (hk : ∀ D acc, M D = none → keep (put M D (.lst acc))) (hz : us.length ≤ sizeLine)
    (h : ∀ x ∈ us, ∀ M' (R : UK), R (.int (p x)) M' → gt x su1 M' fun su2 M1 => te su2 M1 R) (q : R (.int (us.map p).sum) M) : CompG false keep gt wYes te su1 us M fun x M1 => uSum [x] M1 R :=
  comp_map (fun x => .int (p x)) hk hz h ⟨_, _, rfl, ints_map, q⟩
/-- the greatest -/
def maxL : List Int → Int
  | [] => 0
  | [x] => x
  | x :: y :: r => max x (maxL (y :: r))
theorem maxL_mem : ∀ ns : List Int, ns ≠ [] → maxL ns ∈ ns ∧ ∀ y ∈ ns, y ≤ maxL ns
  | [], h => absurd rfl h
  | [x], _ => by simp [maxL]
  | x :: y :: r, _ => by
    obtain ⟨h1, h2⟩ := maxL_mem (y :: r) (by simp)
    unfold maxL
    refine ⟨?_, fun z hz => ?_⟩
    · rcases Int.le_total x (maxL (y :: r)) with h | h
      · rw [Int.max_eq_right h]; exact List.mem_cons_of_mem _ h1
      · rw [Int.max_eq_left h]; exact List.mem_cons_self
    · rcases List.mem_cons.mp hz with e | hz
      · subst e; omega
      · have := h2 z hz; omega
theorem uMax_l {M : Mp} {u : U} {ns : List Int} {R : UK} (e : intsU M u ns) (h : ns ≠ []) (q : R (.int (maxL ns)) M) : uMax [u] M R :=
  .inl ⟨u, ns, rfl, e, h, fun m h1 h2 => by
    obtain ⟨k1, k2⟩ := maxL_mem ns h
    have : m = maxL ns := Int.le_antisymm (k2 m h1) (h2 _ k1)
    rw [this]; exact q⟩
@[simp] theorem uMax_2 {M : Mp} {i j : Int} {R : UK} : uMax [.int i, .int j] M R ↔ R (.int (max i j)) M := by
  unfold uMax
  constructor
  · rintro (⟨u, ns, e, _⟩ | ⟨a, b, e, h⟩)
    · cases e
    · cases e; exact h
  · intro h; exact .inr ⟨_, _, rfl, h⟩
@[simp] theorem uMin_2 {M : Mp} {i j : Int} {R : UK} : uMin [.int i, .int j] M R ↔ R (.int (min i j)) M := by
  unfold uMin
  constructor
  · rintro (⟨u, ns, e, _⟩ | ⟨a, b, e, h⟩)
    · cases e
    · cases e; exact h
  · intro h; exact .inr ⟨_, _, rfl, h⟩
@[simp] theorem wSortSet_ {te : WE} {su : Sg} {M : Mp} {R : UK} : wSortSet te su M R = te su M fun u M1 => ∃ xs : List Str, lstOf M1 u = some (xs.map .str) ∧ xs.length < 64 ∧ R (.lst ((sortSetS xs).map .str)) M1 := rfl
@[simp] theorem wipeU_nil {su : Sg} : wipeU su [] = su := rfl
@[simp] theorem wipeU_cons {su : Sg} {v : Nat} {vs : List Nat} : wipeU su (v :: vs) = (wipeU su vs).set v none := rfl
@[simp] theorem wRng1_ {tr : WA} {su : Sg} {M : Mp} {Ri : List U → (Mp → Prop) → Mp → Prop} : wRng1 tr su M Ri = tr su M fun us M1 => ∃ j : Int, us = [.int j] ∧ -(2 ^ 62) ≤ j ∧ j < 2 ^ 62 ∧ Ri ((List.range j.toNat).map fun i => U.int ((i : Nat) : Int)) Any M1 := rfl
@[simp] theorem wEnum_ {tr : WA} {su : Sg} {M : Mp} {Ri : List U → (Mp → Prop) → Mp → Prop} : wEnum tr su M Ri = tr su M fun us M1 => (match us with
  | [.ref a] => ∃ ws, M1 a = some (.lst ws) ∧ Ri (numbered ws) (fun M' => M' a = some (.lst ws)) M1
  | [.tup ws] => Ri (numbered ws) Any M1
  | [.lst ws] => Ri (numbered ws) Any M1
  | _ => False) := rfl
/-! promises by their arguments -/
def sp1 (f : U → Mp → UK → UXK → Prop) : USp := fun us M R E => match us with | [a] => f a M R E | _ => False
def sp2 (f : U → U → Mp → UK → UXK → Prop) : USp := fun us M R E => match us with | [a, b] => f a b M R E | _ => False
def sp3 (f : U → U → U → Mp → UK → UXK → Prop) : USp := fun us M R E => match us with | [a, b, c] => f a b c M R E | _ => False
def sp4 (f : U → U → U → U → Mp → UK → UXK → Prop) : USp := fun us M R E => match us with | [a, b, c, d] => f a b c d M R E | _ => False
@[simp] theorem sp1_ {f} {a : U} {M : Mp} {R : UK} {E : UXK} : sp1 f [a] M R E = f a M R E := rfl
@[simp] theorem sp2_ {f} {a b : U} {M : Mp} {R : UK} {E : UXK} : sp2 f [a, b] M R E = f a b M R E := rfl
@[simp] theorem sp3_ {f} {a b c : U} {M : Mp} {R : UK} {E : UXK} : sp3 f [a, b, c] M R E = f a b c M R E := rfl
@[simp] theorem sp4_ {f} {a b c d : U} {M : Mp} {R : UK} {E : UXK} : sp4 f [a, b, c, d] M R E = f a b c d M R E := rfl
/-- a def's ends -/
abbrev endU (R : UK) : UEnds := { nx := fun _ M' => Fin R .non M', rt := Fin R }
theorem ret_of {R : UK} {v : U} {M : Mp} (h : R v M) (w : U) (e : w = v) : Fin R w M := by rw [e]; exact .same h
/-- a def whose promise is never asked for -/
theorem fn_none {P : Program} {w : World} {K : PySem.W.Frag} {mg : Str → Option Value} {base : Heap} {k : Nat} {x nm : Str} {st : Stmt} {ps : List Str} {sp : USp} (F : ∃ (f : Addr) (fd : FuncData), FunD K nm nm (defArgs st) (defBody st) (defScope st) [] [] f fd ∧ mg x = some (.ref f))
    (bind : ∀ (kV doc pm : Value) (an : Option Addr) (cdv ct : Value) (us : List Value), us.length = ps.length → bindArgs (PySem.W.fnOf nm nm (defArgs st) (defBody st) (defScope st) .none kV doc pm an cdv ct) ⟨us, []⟩ = pure (ps.zip us)) (h : ∀ us M R E, ¬ sp us M R E) : FnV P w K mg base k x st ps sp := by
  obtain ⟨f, fd, F, m⟩ := F
  exact ⟨f, fd, ⟨fun vs H Q E ⟨us, M, R, Ru, _, _, q, _⟩ => (h _ _ _ _ q).elim, fun A outer s H args us vs Q E _ _ _ _ ⟨zs, M, R, Ru, _, _, q, _⟩ => (h _ _ _ _ q).elim⟩, m, F.kp, ⟨_, F⟩, F.bindsN bind⟩
@[simp] theorem wComp_ {hh : Bool} {w : WI} {gt : WG} {tc : WT} {te : WE} {vs : List Nat} {su : Sg} {M : Mp} {R : UK} : wComp hh w gt tc te vs su M R = w su M fun us keep M1 => CompG hh keep gt tc te (wipeU su vs) us M1 R := rfl
end Pu
namespace Pu
/-- a choice between two values -/
theorem wIf_pure {tA : WT} {ta tb : WE} {su : Sg} {M : Mp} {R : UK} (b : Bool) (x y : U) (hA : ∀ RT : Bool → Mp → Prop, RT b M → tA su M RT) (hx : ∀ R : UK, R x M → ta su M R) (hy : ∀ R : UK, R y M → tb su M R) (v : U) (e : (if b = true then x else y) = v) (h : R v M) : wIf tA ta tb su M R := by
  subst e
  refine hA _ ?_
  cases b
  · exact hy _ h
  · exact hx _ h
end Pu

/-! Pu, part 18: a try with several clauses. -/
namespace Pu
open PySem PySem.Spec PyProof.Rows L2
abbrev UCs : Type := List ((Str → Option Bool) × WS)
/-- what the clauses wish of an exception -/
def goC (D : UEnds) (ex : UWX) : UCs → UWX
  | [], ux, su, M => ex ux su M
  | (sub, ts) :: r, ux, su, M => match sub ux.cls with
    | some true => ts D su M
    | some false => goC D ex r ux su M
    | none => False
def wTryM (tb : UWX → WS) (cs : UCs) (ex : UWX) : WS := fun D su M => tb (goC D ex cs) D su M
@[simp] theorem wTryM_ {tb : UWX → WS} {cs : UCs} {ex : UWX} {D : UEnds} {su : Sg} {M : Mp} : wTryM tb cs ex D su M = tb (goC D ex cs) D su M := rfl
@[simp] theorem goC_nil {D : UEnds} {ex : UWX} {ux : UX} {su : Sg} {M : Mp} : goC D ex [] ux su M = ex ux su M := rfl
@[simp] theorem goC_cons {D : UEnds} {ex : UWX} {sub : Str → Option Bool} {ts : WS} {r : UCs} {ux : UX} {su : Sg} {M : Mp} : goC D ex ((sub, ts) :: r) ux su M = (match sub ux.cls with
    | some true => ts D su M
    | some false => goC D ex r ux su M
    | none => False) := rfl
section
variable {X : Cx} {g : Gd} {ex : UWX} {pos : Pos}
inductive HdsU (X : Cx) (g : Gd) : List ExceptHandler → UCs → List (Value × (Addr → Value → Option Addr → TS)) → Prop
  | nil : HdsU X g [] [] []
  | cons {x : Str} {c : Value} {ts : WS} {sub : Str → Option Bool} {b₀ : Stmt} {suite : List Stmt} {np pos' : Pos} {hds : List ExceptHandler} {cs : UCs} {l : List (Value × (Addr → Value → Option Addr → TS))} (hc : Names X x c)
      (hsub : ∀ n b C, sub n = some b → X.mg n = some C → PySem.W.exmOne X.K C c = some b) (hsu : ∀ (a : Addr) (oe : Obj) (pn : List (Addr × Obj)), JSs (X.suite a ((a, oe) :: pn)) g (b₀ :: suite) ts) (r : HdsU X g hds cs l) :
      HdsU X g (.ExceptHandler (some (.Name x np)) none (b₀ :: suite) pos' :: hds) ((sub, ts) :: cs) ((c, fun _ _ _ => liftS X.K g ts) :: l)
theorem HdsU.ok {hds : List ExceptHandler} {cs : UCs} {l : List (Value × (Addr → Value → Option Addr → TS))} (h : HdsU X g hds cs l) : HdsOk X hds l := by
  induction h with
  | nil => exact .nil
  | cons hc _ hsu _ ih => exact .cons hc (fun a oe cls d pn _ _ => hsu a oe pn) ih
theorem HdsU.wish {hds : List ExceptHandler} {cs : UCs} {l : List (Value × (Addr → Value → Option Addr → TS))} (h : HdsU X g hds cs l) {R : UEnds} {D : Ends} {ux : UX} {su : Sg} {M : Mp} {cls : Value} {d : Option Addr} {σ : Stt} {H : Hp}
    (a : At X.K g su M σ H) (r : RepX X.K X.mg M H ux cls d) (c : ClD X.K M H R D) (q : goC R ex cs ux su M) : wMany X.K (Wof X g ex) D l cls d σ H := by
  induction h with
  | nil => exact ⟨ux, su, M, a, r, q⟩
  | @cons x c' ts sub b₀ suite np pos' hds cs l hc hsub hsu _ ih =>
    simp only [goC_cons] at q
    cases e : sub ux.cls with
    | none => simp only [e] at q
    | some b =>
      refine ⟨b, hsub _ _ _ e r.1, fun hb => ?_, fun hb => ?_⟩
      · subst hb
        simp only [e] at q
        exact fun _ _ => ⟨su, M, R, a, q, c⟩
      · subst hb
        simp only [e] at q
        exact ih q
theorem js_tryM {body : List Stmt} {h₀ : ExceptHandler} {hds : List ExceptHandler} {cs : UCs} {l : List (Value × (Addr → Value → Option Addr → TS))} {tb : UWX → WS} (hs : X.stack = X.env :: X.outer) (hf : X.env.frame = some X.env.locals) (tk : Takes X (Wof X g ex))
    (hb : ∀ (g' : Gd) (ex' : UWX) (pn : List (Addr × Obj)) (xe : Value → Shared → Prop), Takes (X.tr pn xe) (Wof (X.tr pn xe) g' ex') → PassesOwn (model X.prog X.w) X.A X.env xe → JSs (X.tr pn xe) g' body (tb ex'))
    (hh : HdsU X g (h₀ :: hds) cs l) : JS X g (.Try body (h₀ :: hds) [] [] pos) (wTryM tb cs ex) := by
  refine ps_imp (ps_try_many (Wout := Wof X g ex) (tb := fun W D σ H => ∃ (g' : Gd) (ex' : UWX), (∀ ux su M cls d σ H, At X.K g' su M σ H → RepX X.K X.mg M H ux cls d → ex' ux su M → W cls d σ H) ∧ liftS X.K g' (tb ex') D σ H) hs hf tk ?_ hh.ok) fun D σ H ⟨su, M, R, a, h, c⟩ => ?_
  · intro W pn xe tk' hp
    refine ⟨fun pins s σ H D I ⟨g', ex', hW, h⟩ => ?_⟩
    exact (hb g' ex' pn xe (tk'.imp fun cls d σ H ⟨ux, su, M, a, r, e⟩ => hW ux su M cls d σ H a r e) hp).run pins s σ H D I h
  · refine ⟨⟨M, H⟩, _, fun ux su1 M1 cls d σ1 H1 a1 r1 e1 => ?_, su, M, R, ⟨Stp.refl _ _, a.sl, a.hd⟩, h, c⟩
    have a2 : At X.K g su1 M1 σ1 H1 := ⟨a.st.trans a1.st, a1.sl, a1.hd⟩
    exact hh.wish a2 r1 (c.go a1.st) e1
end
section
variable {X : Cx} {P : Program} {w : World} {K : PySem.W.Frag} {mg : Str → Option Value} {base : Heap} {k : Nat} {N : List Str} {S : Scope} {g : Gd} {pos : Pos}
/-- the clauses, walked -/
inductive HdsK (P : Program) (w : World) (K : PySem.W.Frag) (mg : Str → Option Value) (base : Heap) (k : Nat) (N : List Str) (S : Scope) (g : Gd) : List ExceptHandler → UCs → Prop
  | nil : HdsK P w K mg base k N S g [] []
  | cons {x : Str} {ts : WS} {sub : Str → Option Bool} {b₀ : Stmt} {suite : List Stmt} {np pos' : Pos} {hds : List ExceptHandler} {cs : UCs} (F : Catch K mg x sub) (h : glB S x = true)
      (hsu : ∀ (Y : Cx), Wk Y P w K mg base k N S → Y.env.scope = S → JSs Y g (b₀ :: suite) ts) (r : HdsK P w K mg base k N S g hds cs) : HdsK P w K mg base k N S g (.ExceptHandler (some (.Name x np)) none (b₀ :: suite) pos' :: hds) ((sub, ts) :: cs)
theorem k_tryM (D : DefX P w K mg base k N S X) (nd : N.Nodup) {body : List Stmt} {h₀ : ExceptHandler} {hds : List ExceptHandler} {cs : UCs} {ex : UWX} {tb : UWX → WS} (tk : Takes X (Wof X g ex))
    (hb : ∀ (Y : Cx) (g' : Gd) (ex' : UWX), DefX P w K mg base k N S Y → Takes Y (Wof Y g' ex') → JSs Y g' body (tb ex')) (hh : HdsK P w K mg base k N S g (h₀ :: hds) cs) :
    JS X g (.Try body (h₀ :: hds) [] [] pos) (wTryM tb cs ex) := by
  have W := D.wk nd
  have conv : ∀ {hds : List ExceptHandler} {cs : UCs}, HdsK P w K mg base k N S g hds cs → ∃ l, HdsU X g hds cs l := by
    intro hds cs h
    induction h with
    | nil => exact ⟨[], .nil⟩
    | @cons x ts sub b₀ suite np pos' hds cs F h hsu _ ih =>
      obtain ⟨l, ih⟩ := ih
      obtain ⟨q1, q2⟩ := W.gl h
      obtain ⟨C, m, cat⟩ := F.ex
      refine ⟨_, .cons (c := .ref C) ⟨q1, q2, .inl (by rw [D.mg]; exact m)⟩ (fun n b D' h1 h2 => by rw [D.K]; exact cat n b D' h1 (by rw [← D.mg]; exact h2)) (fun a oe pn => ?_) ih⟩
      exact hsu _ ⟨W.prog, W.wd, W.K, W.mg, W.base, W.N, W.nd, W.dp, W.un, (fun z => by cases z), W.look, W.st⟩ D.sc
  obtain ⟨l, hu⟩ := conv hh
  refine js_tryM D.stk D.fr tk (fun g' ex' pn xe tk' hp => ?_) hu
  exact hb _ g' ex' ⟨D.prog, D.wd, D.K, D.mg, D.base, D.N, D.sc, D.calm, D.fn, D.room, D.stk, D.fr, hp⟩ tk'
end
end Pu

/-! Pu, part 19: zip, tuple.index, a for by its invariant, the memory as it stands. -/
namespace Pu
open PySem PySem.Spec PyProof.Rows L2 PySem.SeqAt
/-! ### zip of two tuples, of two lists -/
def zipU (us ws : List U) : List U := List.zipWith (fun x y => .pr [x, y]) us ws
theorem zipU_get {us ws : List U} {i : Nat} {u : U} (e : (zipU us ws)[i]? = some u) : ∃ x y, us[i]? = some x ∧ ws[i]? = some y ∧ u = .pr [x, y] := by
  unfold zipU at e
  rw [List.getElem?_zipWith] at e
  split at e
  · rename_i x y h1 h2
    cases e
    exact ⟨x, y, h1, h2, rfl⟩
  · cases e
def wZip (t : WA) : WI := fun su M R => t su M fun us M1 => match us with
  | [.tup xs, .tup ys] => R (zipU xs ys) Any M1
  | [.lst xs, .lst ys] => R (zipU xs ys) Any M1
  | _ => False
section
variable {X : Cx} {g : Gd} {p pos : Pos}
theorem itzT_ok {M : Mp} {H : Hp} {a b : Addr} {us ws : List U} {vs xs : List V} {K : PySem.W.Frag} (f : FzT K M H a vs) (t : RepVs K M H us vs) (f2 : FzT K M H b xs) (t2 : RepVs K M H ws xs) : ItOk K (RZ.ItzT K a b) (zipU us ws) Any M H := by
  refine ⟨trivial, fun i M' H' st d k => ?_⟩
  have hq := (f.step st).sq
  have hq2 := (f2.step st).sq
  have r := RepVs.step st _ _ t
  have r2 := RepVs.step st _ _ t2
  refine ⟨fun u e => ?_, fun hl => ⟨vs, xs, hq, hq2, ?_⟩⟩
  · obtain ⟨x, y, e1, e2, rfl⟩ := zipU_get e
    obtain ⟨v, ev, rv⟩ := r.get e1
    obtain ⟨w, ew, rw'⟩ := r2.get e2
    refine ⟨⟨vs, xs, v, w, hq, hq2, ev, ew⟩, fun y' H'' yl => ?_⟩
    obtain ⟨T, z, z2, rfl, hT, rfl, yl, yl2⟩ := yl
    have q1 := yl vs hq
    have q2 := yl2 xs hq2
    rw [ev] at q1
    rw [ew] at q2
    cases q1
    cases q2
    exact pair_ok d hT rv rw'
  · rw [← r.length, ← r2.length]
    simp [zipU] at hl
    omega
theorem itzL_ok {M : Mp} {H : Hp} {a b : Addr} {us ws : List U} {vs xs : List V} {K : PySem.W.Frag} (f : FzL K M H a vs) (t : RepVs K M H us vs) (f2 : FzL K M H b xs) (t2 : RepVs K M H ws xs) : ItOk K (Itz K a b) (zipU us ws) Any M H := by
  refine ⟨trivial, fun i M' H' st d k => ?_⟩
  have hq := (f.step st).sq
  have hq2 := (f2.step st).sq
  have r := RepVs.step st _ _ t
  have r2 := RepVs.step st _ _ t2
  refine ⟨fun u e => ?_, fun hl => ⟨vs, xs, hq, hq2, ?_⟩⟩
  · obtain ⟨x, y, e1, e2, rfl⟩ := zipU_get e
    obtain ⟨v, ev, rv⟩ := r.get e1
    obtain ⟨w, ew, rw'⟩ := r2.get e2
    refine ⟨⟨vs, xs, v, w, hq, hq2, ev, ew⟩, fun y' H'' yl => ?_⟩
    obtain ⟨T, z, z2, rfl, hT, rfl, yl, yl2⟩ := yl
    have q1 := yl vs hq
    have q2 := yl2 xs hq2
    rw [ev] at q1
    rw [ew] at q2
    cases q1
    cases q2
    exact pair_ok d hT rv rw'
  · rw [← r.length, ← r2.length]
    simp [zipU] at hl
    omega
theorem ji_zip {a b : Expr} {t : WA} {elts : List Expr} {kk : Nat} {tpos : Pos} (hg : Gl X "zip") (hm : X.mg "zip" = none) (ha : JA X g [a, b] t) (hs : starEach [a, b] X.env = (false, eval a X.env) :: starEach [b] X.env) (hpl : (backTo pos (starEach [b] X.env)).any (·.1) = false) :
    JI X g (.Tuple elts kk tpos) (.Call (.Name "zip" p) [a, b] [] pos) (wZip t) :=
  pi_imp (RZ.pi_zipA hg hm ha hs hpl) fun σ H R ⟨su, M, Ru, a, h, c⟩ => ⟨su, M, _, a, h, fun us M1 vs H1 q s1 d1 r1 => by
    match us, q, r1 with
    | [.tup xs, .tup ys], q, r1 =>
      obtain ⟨v, w, rfl, r, r'⟩ := r1.two
      obtain ⟨p, vs, rfl, f, t⟩ := rep_tup r
      obtain ⟨p', vs', rfl, f', t'⟩ := rep_tup r'
      exact ⟨p, p', vs, vs', rfl, .inr ⟨f.sq, f'.sq, c _ _ M1 H1 _ q s1 d1 (itzT_ok f t f' t')⟩⟩
    | [.lst xs, .lst ys], q, r1 =>
      obtain ⟨v, w, rfl, r, r'⟩ := r1.two
      obtain ⟨p, vs, rfl, f, t⟩ := rep_lst r
      obtain ⟨p', vs', rfl, f', t'⟩ := rep_lst r'
      exact ⟨p, p', vs, vs', rfl, .inl ⟨f.sq, f'.sq, c _ _ M1 H1 _ q s1 d1 (itzL_ok f t f' t')⟩⟩⟩
end
section
variable {X : Cx} {P : Program} {w : World} {K : PySem.W.Frag} {mg : Str → Option Value} {base : Heap} {k : Nat} {N : List Str} {S : Scope} {g : Gd} {a b : Expr} {tr : WA} {p pos : Pos}
theorem k_zip (W : Wk X P w K mg base k N S) {elts : List Expr} {kk : Nat} {tpos : Pos} (hm : mg "zip" = none) (h : glB S "zip" = true) (ha : JA X g [a, b] tr) (hs : starEach [a, b] X.env = (false, eval a X.env) :: starEach [b] X.env) (hpl : (backTo pos (starEach [b] X.env)).any (·.1) = false) :
    JI X g (.Tuple elts kk tpos) (.Call (.Name "zip" p) [a, b] [] pos) (wZip tr) :=
  ji_zip (W.gl h).1 (by rw [W.mg]; exact hm) ha hs hpl
end
@[simp] theorem wZip_ {tr : WA} {su : Sg} {M : Mp} {Ri : List U → (Mp → Prop) → Mp → Prop} : wZip tr su M Ri = tr su M fun us M1 => (match us with
  | [.tup xs, .tup ys] => Ri (zipU xs ys) Any M1
  | [.lst xs, .lst ys] => Ri (zipU xs ys) Any M1
  | _ => False) := rfl
/-! ### t.index(x) of a tuple of texts -/
def uIndexT : OM := fun x xs M R => ∃ (ys : List Str) (z : Str) (j : Nat), x = .tup (ys.map .str) ∧ xs = [.str z] ∧ ys[j]? = some z ∧ (∀ m, m < j → ys[m]? ≠ some z) ∧ R (.int (j : Nat)) M
theorem umt_indexT {X : Cx} : UMt X "tuple.index" uIndexT := mt_imp mt_tup_index fun x xs H Q ⟨ux, us, M, R, r1, r2, hd, ⟨ys, z, j, e1, e2, hj, hn, q⟩, c⟩ => by
  subst e1 e2
  obtain ⟨p, vs, rfl, f, t⟩ := rep_tup r1
  obtain ⟨v, rfl, r2'⟩ := r2.one
  have e := strs_rep t
  subst e
  exact ⟨p, ys, z, j, rfl, by rw [rep_str r2'], f.sq, hj, hn, c.here q hd mk_int⟩
/-! ### a for by its invariant -/
theorem loop_ind {keep : Mp → Prop} {gt : WG} {tb : WS} {D : UEnds} (I : List U → Sg → Mp → Prop) (us : List U) (su : Sg) (M : Mp) (h0 : I us su M) (hn : ∀ s m, I [] s m → D.nx s m)
    (hc : ∀ x r s m, I (x :: r) s m → (∀ s' m', I r s' m' → loopU keep gt tb r D s' m') → gt x s m fun su1 M1 => tb { D with nx := fun s m => keep m ∧ loopU keep gt tb r D s m, ct := fun s m => keep m ∧ loopU keep gt tb r D s m, bk := D.nx } su1 M1) :
    loopU keep gt tb us D su M := by
  induction us generalizing su M with
  | nil => exact hn _ _ h0
  | cons x r ih => exact hc x r su M h0 fun s m hi => ih s m hi
/-! ### list(range(n)) -/
def rgU (n : Nat) : List U := (List.range n).map fun i => U.int ((i : Nat) : Int)
theorem reps_rg {K : PySem.W.Frag} {M : Mp} {H : Hp} {n : Int} : RepVs K M H (rgU n.toNat) (rgV 0 n) := by
  unfold rgU rgV
  rw [show (n - 0).toNat = n.toNat by omega]
  induction List.range n.toNat with
  | nil => exact .nil
  | cons i r ih => exact .cons (by simp [RepV]) ih
def wLstR (hh : Bool) (te : WE) : WE := fun su M R => te su M fun u M1 => ∃ n : Int, u = .int n ∧ 0 ≤ n ∧ n ≤ 16777216 ∧ (if hh = true then ∀ p, M1 p = none → R (.ref p) (put M1 p (.lst (rgU n.toNat))) else R (.lst (rgU n.toNat)) M1)
@[simp] theorem wLstR_ {hh : Bool} {te : WE} {su : Sg} {M : Mp} {R : UK} : wLstR hh te su M R = te su M fun u M1 => ∃ n : Int, u = .int n ∧ 0 ≤ n ∧ n ≤ 16777216 ∧ (if hh = true then ∀ p, M1 p = none → R (.ref p) (put M1 p (.lst (rgU n.toNat))) else R (.lst (rgU n.toNat)) M1) := rfl
section
variable {X : Cx} {P : Program} {w : World} {K : PySem.W.Frag} {mg : Str → Option Value} {base : Heap} {k : Nat} {N : List Str} {S : Scope} {g : Gd} {a b : Expr} {te : WE} {p p2 pos pos2 : Pos}
theorem k_listR (W : Wk X P w K mg base k N S) (hc : X.calm = true) (hh : Bool) (hm : mg "list" = none) (h : glB S "list" = true) (hm2 : mg "range" = none) (h2 : glB S "range" = true) (ha : JE X g a te) (na : starEach [a] X.env = (false, eval a X.env) :: starEach [] X.env)
    (nb : starEach [Expr.Call (.Name "range" p2) [a] [] pos2] X.env = (false, eval (Expr.Call (.Name "range" p2) [a] [] pos2) X.env) :: starEach [] X.env) :
    JE X g (.Call (.Name "list" p) [.Call (.Name "range" p2) [a] [] pos2] [] pos) (wLstR hh te) :=
  pe_imp (pe_listRg hc (W.gl h).1 (by rw [W.mg]; exact hm) (prg_1 (W.gl h2).1 (by rw [W.mg]; exact hm2) ha na) nb) fun σ H Q ⟨su, M, R, a, h, c⟩ => ⟨su, M, _, a, h, fun u M1 v H1 ⟨n, e, h0, h1, q⟩ s1 d1 r1 => by
    subst e
    refine ⟨n, rep_int r1, ⟨by omega, by omega, by omega, by omega, by omega⟩, fun l hl => ?_⟩
    cases hh with
    | false => exact c.at_ (by simpa using q) (s1.trans (Stp.new d1 hl)) (d1.new hl) (new_lst d1 hl reps_rg)
    | true => exact c.at_ ((by simpa using q : ∀ p, M1 p = none → R (.ref p) (put M1 p (.lst (rgU n.toNat)))) l (d1.free hl)) (s1.trans (Stp.newH hl)) (d1.putL (Stp.newH hl) reps_rg) mk_ref⟩
end
/-! ### methods of tuples -/
def NdT (K : PySem.W.Frag) (H : Hp) (x : V) : Prop := ∃ a, x = .ref a ∧ ((∃ o xs, H a = some (.frz o (.tup xs)) ∧ o.dict = none) ∨ ∃ o, K.lookup a = some o ∧ o.cls = .type "tuple" ∧ o.dict = none)
section
variable {X : Cx} {g : Gd} {o e : Expr} {es : List Expr} {to : WE} {tr : WA} {om : OM} {x name : Str} {p pos apos cpos : Pos} {id T : String}
theorem ndT_is {pins : List (Addr × Obj)} {σ : Stt} {H : Hp} {s : Shared} {x : V} {v : Value} (I : Inv X pins σ H s) (r : RelV x v) (ty : NdT X.K H x) :
    s.TypeIs v "tuple" ∧ ∀ a, v = .ref a → ∃ ob, s.heap.get? a = some ob ∧ ob.dict = none := by
  obtain ⟨a, rfl, h⟩ := ty
  obtain rfl : v = .ref a := r
  rcases h with ⟨ob, xs, h, hd⟩ | ⟨ob, h, hc, hd⟩
  · obtain ⟨e, z, its, rv, o', e', hc, n, hs⟩ := I.hok a _ h
    rw [e] at e'
    cases e'
    exact ⟨⟨ob, e, hc⟩, fun b hb => by cases hb; exact ⟨ob, e, hd⟩⟩
  · have e := I.kIn _ _ h
    exact ⟨⟨ob, e, hc⟩, fun b hb => by cases hb; exact ⟨ob, e, hd⟩⟩
theorem pe_bmT {to : TE} {t : TA} {r : V → List V → Hp → VK → Prop} (pa : PlainAttrs "tuple") (slot : Slot "tuple" name id) (hty : typeOf (.builtin id) = pure (.type "method_descriptor")) (hm : MtR X id r) (ho : PE X o to) (ha : PA X (e :: es) t)
    (hbase : attributeBase o name X.env (eval o X.env) = eval o X.env)
    (hfew : ((backTo cpos (starEach (e :: es) X.env)).all (fun x => !x.1) && (backToKw cpos (keywordEach [] X.env)).all (fun x => x.1.isSome)
      && decide ((e :: es).length + ([] : List Keyword).length + (if ([] : List Keyword).isEmpty then 0 else 1) < 30)) = true)
    (hline : (apos.endLine == cpos.line) = true) (hs : starEach (e :: es) X.env = (false, eval e X.env) :: starEach es X.env) (hplain : (backTo cpos (starEach es X.env)).any (·.1) = false) :
    PE X (.Call (.Attribute o name apos) (e :: es) [] cpos) (fun σ H Q => to σ H fun x H1 => NdT X.K H1 x ∧ t σ H1 fun xs H2 => r x xs H2 Q) := by
  refine ⟨fun pins s σ H Q I h => ?_⟩
  refine wpAny_Call_method_late hbase hfew hline rfl (thn (ho.run pins s σ H _ I h) fun v s1 ⟨x, H1, I1, r1, ty, q1⟩ => ?_)
  obtain ⟨h1, h2⟩ := ndT_is I1 r1 ty
  refine ⟨"tuple", id, pa, slot, hty, h1, h2, ?_⟩
  have hA := ha.run cpos pins s1 σ H1 _ I1 q1
  rw [hs] at hA ⊢
  refine Calls.callWith_builtin (by show (false || (backTo cpos (starEach es X.env)).any (·.1)) = false; rw [hplain] <;> rfl) (Calls.evalArgs_plain ?_)
  exact thn hA fun us s2 ⟨vs, H2, I2, r2, q2⟩ => hm pins s2 σ H2 x vs v us Q I2 r1 r2 q2
def wBMt (om : OM) (to : WE) (tr : WA) : WE := fun su M R => to su M fun x M1 => (∃ us, x = .tup us) ∧ tr su M1 fun xs M2 => om x xs M2 R
@[simp] theorem wBMt_ {su : Sg} {M : Mp} {R : UK} : wBMt om to tr su M R = to su M fun x M1 => (∃ us, x = .tup us) ∧ tr su M1 fun xs M2 => om x xs M2 R := rfl
theorem j_bmT (pa : PlainAttrs "tuple") (slot : Slot "tuple" name id) (hty : typeOf (.builtin id) = pure (.type "method_descriptor")) (hm : UMt X id om) (ho : JE X g o to) (ha : JA X g (e :: es) tr)
    (hbase : attributeBase o name X.env (eval o X.env) = eval o X.env)
    (hfew : ((backTo cpos (starEach (e :: es) X.env)).all (fun x => !x.1) && (backToKw cpos (keywordEach [] X.env)).all (fun x => x.1.isSome)
      && decide ((e :: es).length + ([] : List Keyword).length + (if ([] : List Keyword).isEmpty then 0 else 1) < 30)) = true)
    (hline : (apos.endLine == cpos.line) = true) (hs : starEach (e :: es) X.env = (false, eval e X.env) :: starEach es X.env) (hplain : (backTo cpos (starEach es X.env)).any (·.1) = false) : JE X g (.Call (.Attribute o name apos) (e :: es) [] cpos) (wBMt om to tr) :=
  pe_imp (pe_bmT pa slot hty hm ho ha hbase hfew hline hs hplain) fun σ H Q ⟨su, M, R, a, h, c⟩ => ⟨su, M, _, a, h, fun x M1 v H1 ⟨⟨us, t⟩, q⟩ s1 d1 r1 => by
    subst t
    have nd : NdT X.K H1 v := by
      obtain ⟨p, vs, rfl, f, _⟩ := rep_tup r1
      rcases f with ⟨⟨o, h, hd⟩, _⟩ | ⟨o, its, n, h1, h2, h3, _⟩
      · exact ⟨p, rfl, .inl ⟨o, vs, h, hd⟩⟩
      · exact ⟨p, rfl, .inr ⟨o, h1, h2, h3⟩⟩
    exact ⟨nd, su, M1, _, a.go s1 d1, q, fun xs M2 vs H2 q2 s2 d2 r2 => ⟨.tup us, xs, M2, R, r1.step s2, r2, d2, q2, (c.go s1).go s2⟩⟩⟩
end
end Pu

/-! Pu, part 20: sets made of lists and tuples, sorted. -/
namespace Pu
open PySem PySem.Spec PyProof.Rows L2 PySem.Froz
theorem int_at' {us : List Value} {ns : List Int} (h : IntsAre us ns) : ∀ (i : Nat) (v : Value), us[i]? = some v → ∃ k t, ns[i]? = some k ∧ v = Value.int k t := fun i v hv => by
  have hi : i < ns.length := by rw [← IntsAre.length h]; exact (List.getElem?_eq_some_iff.mp hv).1
  obtain ⟨t, e⟩ := PyProof.Rows.IntsAre.int_at h i v hv
  refine ⟨ns[i], t, List.getElem?_eq_getElem hi, ?_⟩
  rw [e, List.getD_eq_getElem?_getD, List.getElem?_eq_getElem hi] <;> rfl
section
variable {P : Program} {w : World} {h h' : Heap} {a : Addr} {l : List Str} {A : Around} {E : Value → Shared → Prop} {s : Shared}
set_option maxHeartbeats 8000000 in
/-- set(t) of a tuple of texts -/
theorem call_set_txtT {l : Addr} {items : Array Value} (ns : List Str) {Q : Value → Shared → Prop} (hh : A.handled = none) (hl : s.heap.IsTuple l items) (hit : StrsAre items.toList ns) (hb : ns.length + 1 < scanBound)
    (h : ∀ (h' : Heap) (tk : Nat) (l' : List Str), TSet P w h' s.heap.objs.size l' → (∀ x, x ∈ l' ↔ x ∈ ns) → l'.length ≤ ns.length → (∀ b o, s.heap.get? b = some o → h'.get? b = some o) → Q (.ref s.heap.objs.size) { s with heap := h', toks := tk }) :
    wpAny (model P w) A (call (.type "set") [.ref l]) Q E s := by
  have hisz : items.size = ns.length := by
    have q := StrsAre.length hit
    rw [Array.length_toList] at q
    exact q
  obtain ⟨c, tl, hmro⟩ := F.called_set.mro
  have hmade := F.called_set.made
  have hsub := F.called_set.sub
  refine wpAny_call (codeAny_of_tree ?_)
  show wpAny _ _ (callAny (.type "set") _) _ _ _
  refine wpAny_pure ⟨Code.quiet_builtin _ (by decide +kernel), codeAny_builtin F.entry_type_call ?_⟩
  rw [Around.under_plain (weight_type_call_type "set" [.ref l] []) rfl]
  have h1 := F.called_set.notType
  have h2 := F.called_set.canCreate
  have hct := F.typeCall_set_1 (.ref l)
  repeat (any_goals (first | assumption | wp_step))

  refine codeAny_mono (code_set_led1 (.ref l) (E := E) (Q₁ := fun obj s₁ => obj = .ref s.heap.objs.size ∧ s₁ = { s with heap := s.heap.push { cls := .type "set", dict := none, data := .set #[] 0 (.fresh 0 0 (!w.params.followText "set-order")) } }) ⟨rfl, rfl⟩) fun r s₁ hr => ?_
  cases r with
  | error e => exact hr
  | ok fl =>
    cases fl with
    | ret obj =>
      obtain ⟨rfl, rfl⟩ := hr
      generalize hled : (!w.params.followText "set-order") = led
      have hS : (s.heap.push { cls := .type "set", dict := none, data := .set #[] 0 (.fresh 0 0 led) }).get? s.heap.objs.size = some { cls := .type "set", dict := none, data := .set #[] 0 (.fresh 0 0 led) } := Heap.get?_push_size _ rfl
      have hT : Shared.TypeIs { s with heap := s.heap.push { cls := .type "set", dict := none, data := .set #[] 0 (.fresh 0 0 led) } } (.ref s.heap.objs.size) "set" := ⟨_, hS, rfl⟩
      have hli := F.called_set.init.lookup
      have hbi := F.called_set.init.bind (.ref s.heap.objs.size)
      repeat (any_goals (first | assumption | wp_step))

      refine codeAny_mono (codeAny_call_builtin (R := wants (fun r s₂ => r = .none ∧ ∃ h' tk l', s₂ = { s with heap := h', toks := tk } ∧ TSet P w h' s.heap.objs.size l' ∧ (∀ x, x ∈ l' ↔ x ∈ ns) ∧ l'.length ≤ ns.length ∧
          (∀ b o, s.heap.get? b = some o → h'.get? b = some o)) E) F.called_set.init.plain F.entry_set_init (check_set_init_1 hT ?_)) fun r₂ s₂ hr₂ => ?_
      · obtain ⟨ol, hol, hcl, nl, hdl⟩ := hl
        obtain ⟨ocls, odict, odata, oslots⟩ := ol
        simp only at hcl hdl
        subst hcl; subst hdl
        have hol' : (s.heap.push { cls := .type "set", dict := none, data := .set #[] 0 (.fresh 0 0 led) }).get? l = some { cls := .type "tuple", dict := odict, data := .seq items nl, slots := oslots } := Heap.get?_push_of_some _ hol
        have hsls := F.sub_tuple_set
        have hslf := F.sub_tuple_frozenset
        have hne : (Value.type "tuple" == Value.type "dict") = false := by decide
        have hl1 : (s.heap.push { cls := .type "set", dict := none, data := .set #[] 0 (.fresh 0 0 led) }).IsTuple l items := ⟨_, hol', rfl, nl, rfl⟩
        unfold Builtin.«set.__init__» noKeywords Builtin.Frozenset.updateFrom
        generalize hPI : pyIter = PI
        wp_walk
        subst hPI

        refine wpAny_pyIter_tuple hl1 ?_
        refine wpAny_bind (wpAny_runValue ?_)
        have hlS : l < s.heap.objs.size := Heap.lt_size hol
        have hh3 : A.in1.in1.in1.handled = none := by simp [hh]
        have hneI : l ≠ (s.heap.push { cls := .type "set", dict := none, data := .set #[] 0 (.fresh 0 0 led) }).objs.size := by
          rw [Heap.size_push]; exact Nat.ne_of_lt (Nat.lt_succ_of_lt hlS)
        have hSf : s.heap.objs.size ∉ [(s.heap.push { cls := .type "set", dict := none, data := .set #[] 0 (.fresh 0 0 led) }).objs.size, l] := by
          rw [Heap.size_push]; simp only [List.mem_cons, List.mem_singleton, List.not_mem_nil, or_false, not_or]
          exact ⟨Nat.ne_of_lt (Nat.lt_succ_self _), Nat.ne_of_gt hlS⟩
        have hval : ∀ (i : Nat) (v : Value), items[i]? = some v → ∃ k t, ns[i]? = some k ∧ v = .str k t := fun i v hv => str_at hit i v (by rw [Array.getElem?_toList]; exact hv)
        refine set_update_txt ((Walks.tuple hh3 _ l hneI items).toS) s.heap.objs.size
          hSf ns hisz hb hval (items.size - 0) 0 _ (by omega) (Nat.zero_le _)
          ⟨⟨_, Heap.get?_push_size _ rfl, rfl, rfl⟩, (hl1.push _)⟩ ?hS0 ?hR
        case hS0 =>
          have hget : ((s.heap.push { cls := .type "set", dict := none, data := .set #[] 0 (.fresh 0 0 led) }).push { cls := .type "tuple_iterator", data := .fields #[.ref l, .int 0 0] }).get? s.heap.objs.size
              = some { cls := .type "set", dict := none, data := .set #[] 0 (.fresh 0 0 led) } := Heap.get?_push_of_some _ hS
          exact ⟨[], Nat.le_refl 0, fun x => by simp, tset_new hled.symm hget⟩
        case hR =>
          intro s' l' hm hl' hx hS'
          obtain ⟨h', g2, d', tk', os'⟩ := s'
          have eg : g2 = s.gens := hm.gens
          have ed : d' = s.drawn := hm.drawn
          have eo : os' = s.os := hm.os
          subst eg; subst ed; subst eo
          show wpAny _ _ _ _ _ _
          refine wpAny_pure ?_
          show wpAny _ _ (ret Value.none) _ _ _
          rw [hisz] at hl'
          refine wpAny_pure ⟨rfl, h', tk', l', rfl, hS', hx, hl', fun b o e => ?_⟩
          have hb0 : b < s.heap.objs.size := Heap.lt_size e
          have hb1 : b ≠ s.heap.objs.size := Nat.ne_of_lt hb0
          have hb2 : b ≠ (s.heap.push { cls := .type "set", dict := none, data := .set #[] 0 (.fresh 0 0 led) }).objs.size := by
            rw [Heap.size_push]; exact Nat.ne_of_lt (Nat.lt_succ_of_lt hb0)
          exact hm.heap b o (by simp only [List.mem_cons, List.mem_singleton, List.not_mem_nil, or_false, not_or]; exact ⟨hb1, hb2⟩) (Heap.get?_push_of_some _ (Heap.get?_push_of_some _ e))

      · cases r₂ with
        | error e => exact hr₂
        | ok fl₂ =>
          cases fl₂ with
          | ret r =>
            obtain ⟨rfl, h', tk, l', rfl, hS', hx, hl', hk'⟩ := hr₂
            repeat (any_goals (first | assumption | wp_step))
            exact h _ _ _ hS' hx hl' hk'
          | _ => exact hr₂.elim
    | _ => exact hr.elim
set_option maxHeartbeats 8000000 in
/-- set(l) of a list of whole numbers -/
theorem call_set_intL {l : Addr} {items : Array Value} (ns : List Int) {Q : Value → Shared → Prop} (hh : A.handled = none) (hl : s.heap.IsList l items) (hit : IntsAre items.toList ns) (hb : ns.length + 1 < scanBound)
    (h : ∀ (h' : Heap) (tk c : Nat), SetR w h' s.heap.objs.size (fun j => decide (j ∈ ns)) c → c ≤ ns.length → (∀ b o, s.heap.get? b = some o → h'.get? b = some o) → Q (.ref s.heap.objs.size) { s with heap := h', toks := tk }) :
    wpAny (model P w) A (call (.type "set") [.ref l]) Q E s := by
  have hisz : items.size = ns.length := by
    have q := IntsAre.length hit
    rw [Array.length_toList] at q
    exact q
  obtain ⟨c, tl, hmro⟩ := F.called_set.mro
  have hmade := F.called_set.made
  have hsub := F.called_set.sub
  refine wpAny_call (codeAny_of_tree ?_)
  show wpAny _ _ (callAny (.type "set") _) _ _ _
  refine wpAny_pure ⟨Code.quiet_builtin _ (by decide +kernel), codeAny_builtin F.entry_type_call ?_⟩
  rw [Around.under_plain (weight_type_call_type "set" [.ref l] []) rfl]
  have h1 := F.called_set.notType
  have h2 := F.called_set.canCreate
  have hct := F.typeCall_set_1 (.ref l)
  repeat (any_goals (first | assumption | wp_step))

  refine codeAny_mono (code_set_led1 (.ref l) (E := E) (Q₁ := fun obj s₁ => obj = .ref s.heap.objs.size ∧ s₁ = { s with heap := s.heap.push { cls := .type "set", dict := none, data := .set #[] 0 (.fresh 0 0 (!w.params.followText "set-order")) } }) ⟨rfl, rfl⟩) fun r s₁ hr => ?_
  cases r with
  | error e => exact hr
  | ok fl =>
    cases fl with
    | ret obj =>
      obtain ⟨rfl, rfl⟩ := hr
      generalize hled : (!w.params.followText "set-order") = led
      have hS : (s.heap.push { cls := .type "set", dict := none, data := .set #[] 0 (.fresh 0 0 led) }).get? s.heap.objs.size = some { cls := .type "set", dict := none, data := .set #[] 0 (.fresh 0 0 led) } := Heap.get?_push_size _ rfl
      have hT : Shared.TypeIs { s with heap := s.heap.push { cls := .type "set", dict := none, data := .set #[] 0 (.fresh 0 0 led) } } (.ref s.heap.objs.size) "set" := ⟨_, hS, rfl⟩
      have hli := F.called_set.init.lookup
      have hbi := F.called_set.init.bind (.ref s.heap.objs.size)
      repeat (any_goals (first | assumption | wp_step))

      refine codeAny_mono (codeAny_call_builtin (R := wants (fun r s₂ => r = .none ∧ ∃ h' tk c, s₂ = { s with heap := h', toks := tk } ∧ SetR w h' s.heap.objs.size (fun j => decide (j ∈ ns)) c ∧ c ≤ ns.length ∧
          (∀ b o, s.heap.get? b = some o → h'.get? b = some o)) E) F.called_set.init.plain F.entry_set_init (check_set_init_1 hT ?_)) fun r₂ s₂ hr₂ => ?_
      · obtain ⟨ol, hol, hcl, nl, hdl⟩ := hl
        obtain ⟨ocls, odict, odata, oslots⟩ := ol
        simp only at hcl hdl
        subst hcl; subst hdl
        have hol' : (s.heap.push { cls := .type "set", dict := none, data := .set #[] 0 (.fresh 0 0 led) }).get? l = some { cls := .type "list", dict := odict, data := .seq items nl, slots := oslots } := Heap.get?_push_of_some _ hol
        have hsls := F.sub_list_set
        have hslf := F.sub_list_frozenset
        have hne : (Value.type "list" == Value.type "dict") = false := by decide
        have hl1 : (s.heap.push { cls := .type "set", dict := none, data := .set #[] 0 (.fresh 0 0 led) }).IsList l items := ⟨_, hol', rfl, nl, rfl⟩
        unfold Builtin.«set.__init__» noKeywords Builtin.Frozenset.updateFrom
        generalize hPI : pyIter = PI
        wp_walk
        subst hPI

        refine wpAny_pyIter_list hl1 ?_
        refine wpAny_bind (wpAny_runValue ?_)
        have hlS : l < s.heap.objs.size := Heap.lt_size hol
        have hh3 : A.in1.in1.in1.handled = none := by simp [hh]
        have hneI : l ≠ (s.heap.push { cls := .type "set", dict := none, data := .set #[] 0 (.fresh 0 0 led) }).objs.size := by
          rw [Heap.size_push]; exact Nat.ne_of_lt (Nat.lt_succ_of_lt hlS)
        have hSf : s.heap.objs.size ∉ [(s.heap.push { cls := .type "set", dict := none, data := .set #[] 0 (.fresh 0 0 led) }).objs.size, l] := by
          rw [Heap.size_push]; simp only [List.mem_cons, List.mem_singleton, List.not_mem_nil, or_false, not_or]
          exact ⟨Nat.ne_of_lt (Nat.lt_succ_self _), Nat.ne_of_gt hlS⟩
        have hval : ∀ (i : Nat) (v : Value), items[i]? = some v → ∃ k t, ns[i]? = some k ∧ v = .int k t := fun i v hv => int_at' hit i v (by rw [Array.getElem?_toList]; exact hv)
        refine set_update_ints ((Walks.list hh3 _ l hneI items).toS) s.heap.objs.size
          hSf ns hisz hb hval (items.size - 0) 0 _ (by omega) (Nat.zero_le _)
          ⟨⟨_, Heap.get?_push_size _ rfl, rfl, rfl⟩, (hl1.push _)⟩ ?hS0 ?hR
        case hS0 =>
          have hget : ((s.heap.push { cls := .type "set", dict := none, data := .set #[] 0 (.fresh 0 0 led) }).push { cls := .type "list_iterator", data := .fields #[.ref l, .int 0 0] }).get? s.heap.objs.size
              = some { cls := .type "set", dict := none, data := .set #[] 0 (.fresh 0 0 led) } := Heap.get?_push_of_some _ hS
          subst hled
          exact ⟨0, Nat.le_refl 0, setR_new_at hget⟩
        case hR =>
          intro s' c' hm hl' hS'
          obtain ⟨h', g2, d', tk', os'⟩ := s'
          have eg : g2 = s.gens := hm.gens
          have ed : d' = s.drawn := hm.drawn
          have eo : os' = s.os := hm.os
          subst eg; subst ed; subst eo
          show wpAny _ _ _ _ _ _
          refine wpAny_pure ?_
          show wpAny _ _ (ret Value.none) _ _ _
          rw [hisz] at hl'
          refine wpAny_pure ⟨rfl, h', tk', c', rfl, hS', hl', fun b o e => ?_⟩
          have hb0 : b < s.heap.objs.size := Heap.lt_size e
          have hb1 : b ≠ s.heap.objs.size := Nat.ne_of_lt hb0
          have hb2 : b ≠ (s.heap.push { cls := .type "set", dict := none, data := .set #[] 0 (.fresh 0 0 led) }).objs.size := by
            rw [Heap.size_push]; exact Nat.ne_of_lt (Nat.lt_succ_of_lt hb0)
          exact hm.heap b o (by simp only [List.mem_cons, List.mem_singleton, List.not_mem_nil, or_false, not_or]; exact ⟨hb1, hb2⟩) (Heap.get?_push_of_some _ (Heap.get?_push_of_some _ e))

      · cases r₂ with
        | error e => exact hr₂
        | ok fl₂ =>
          cases fl₂ with
          | ret r =>
            obtain ⟨rfl, h', tk, c', rfl, hS', hl', hk'⟩ := hr₂
            repeat (any_goals (first | assumption | wp_step))
            exact h _ _ _ hS' hl' hk'
          | _ => exact hr₂.elim
    | _ => exact hr.elim
end
end Pu

/-! Pu, part 21: sorted(set(..)). -/
namespace Pu
open PySem PySem.Spec PyProof.Rows L2 PySem.Froz
section
variable {P : Program} {w : World} {h h' : Heap} {a : Addr} {l : List Str} {A : Around} {E : Value → Shared → Prop} {s : Shared}
/-- sorted(found) of a set of whole numbers, of any size here -/
theorem sorted_setI {S : Int → Bool} {n : Nat} {Q : Value → Shared → Prop} (R : SetR w s.heap a S n) (hh : A.handled = none) (hz4 : n < 4000)
    (hQ : ∀ s' p (out : Array Value) (c : Nat) (ns : List Int), (∀ b o, s.heap.get? b = some o → s'.heap.get? b = some o) → s'.gens = s.gens → s'.os = s.os → s.heap.objs.size ≤ p →
      s'.heap.get? p = some (seqObj "list" out c) → IntsAre out.toList ns → ns.Pairwise (· ≤ ·) → ns.Nodup → (∀ k, k ∈ ns ↔ S k = true) → ns.length = n → Q (.ref p) s') :
    wpAny (model P w) A (call (.builtin "sorted") [.ref a]) Q E s := by
  obtain ⟨o, es, ep, t, ho, hex, hd, g, nd, hm, hb, hf, hn, hr, hl⟩ := R
  refine Calls.call_function_entry kind_sorted plain_sorted entry_sorted (args_sorted1 _) ?_
  unfold Builtin.«sorted»
  refine wpAny_bind (m := checkCount "sorted" 1 1 _) (wpAny_pure ?_)
  refine wpAny_bind (collect_set (A := A.in1) hh ⟨o, ho, hex.1, hd⟩ hf hb hr hl fun s1 vs k1 hz g1 o1 pm => ?_)
  have hvl : vs.length = n := by rw [pm.length_eq, List.length_map, Array.length_toList]; exact hn
  have hI : IntsAre vs (vs.map Builtin.Re.reRawOf) := ints_of vs fun v hv => by
    obtain ⟨e, he, q⟩ := List.mem_map.mp (pm.mem_iff.mp hv)
    obtain ⟨k, tk, h1, _⟩ := g e he
    exact ⟨k, tk, by rw [← q]; exact h1⟩
  have pk : (vs.map Builtin.Re.reRawOf).Perm (es.toList.map L2.keyOf) := by
    have q := pm.map Builtin.Re.reRawOf
    rw [List.map_map] at q
    exact q
  have hL : vs.length ≤ sizeLine := by rw [hvl, sizeLine_eq]; omega
  refine wpAny_bind (wpAny_newList ?_ hL)
  have hoL : (s1.heap.push (seqObj "list" vs.toArray 0)).get? s1.heap.objs.size = some (seqObj "list" vs.toArray 0) := Heap.get?_push_size _ rfl
  refine wpAny_bind (wpAny_holding (wpAny_call_entry slot_list_sort ⟨_, hoL, rfl⟩ entry_list_sort (SrtO.list_sort_ord SrtO.swo_int hoL hL (fun h2 => SrtO.ints_sortable hI h2) fun out a1 a2 => ⟨_, rfl, ?_⟩) (args_list_sort _)))
  obtain ⟨b1, b2, b3⟩ := SrtO.ints_out hI a1 a2
  obtain ⟨c, hc⟩ := sortedHeap_at (vs := vs) (out := out.toArray) hoL
  have pn : (out.map SrtO.iv).Perm (es.toList.map L2.keyOf) := b2.trans pk
  refine wpAny_pure ⟨_, rfl, hQ _ s1.heap.objs.size out.toArray c _ (fun b u e => ?_) g1 o1 hz hc (by simpa using b1) b3 (pn.nodup_iff.mpr nd) (fun k => by rw [pn.mem_iff, ← hm k]) ?_⟩
  · have q := k1 b u e
    have hlt := Heap.lt_size q
    show (sortedHeap (s1.heap.push (seqObj "list" vs.toArray 0)) s1.heap.objs.size vs out.toArray).get? b = some u
    rw [sortedHeap_old (Nat.ne_of_lt hlt) (by rw [size_push']; exact Nat.lt_succ_of_lt hlt)]
    exact Heap.get?_push_of_some _ q
  · rw [pn.length_eq, List.length_map, Array.length_toList]; exact hn
end
/-! set(..) of texts; of whole numbers -/
section
variable {X : Cx}
theorem cr_setA (hc : X.calm = true) : CallR X (.type "set") (fun vs H Q => ∃ a : Addr, vs = [V.ref a] ∧
    ((∃ xs : List Str, (SqL X.K H a (xs.map V.str) ∨ SqT X.K H a (xs.map V.str)) ∧ xs.length < 4000 ∧ ∀ (l : List Str) (p : Addr), (∀ x, x ∈ l ↔ x ∈ xs) → l.length ≤ xs.length → H p = none → Q (.ref p) (upd H p (TSetO X.prog X.w p l))) ∨
     (∃ ns : List Int, (SqL X.K H a (ns.map V.int) ∨ SqT X.K H a (ns.map V.int)) ∧ ns.length < 4000 ∧ ∀ (c : Nat) (p : Addr), c ≤ ns.length → H p = none → Q (.ref p) (upd H p (SetO X.w p (fun j => decide (j ∈ ns)) c))))) := by
  intro pins s σ H vs us Q I r h
  obtain ⟨a, rfl, h⟩ := h
  rw [Vals.ref1 r]
  rcases h with ⟨xs, hs, hz, q⟩ | ⟨ns, hs, hz, q⟩
  · rcases hs with hs | hs
    · obtain ⟨its, rv, hl, _⟩ := I.list hs
      refine call_set_txt xs (I.ok.hd hc) hl.isList rv.strs (by unfold scanBound; omega) fun h' tk l' T hm hlen hk => ?_
      exact ⟨.ref _, upd H s.heap.objs.size (TSetO X.prog X.w s.heap.objs.size l'), I.laid (t' := tk) hk (Nat.le_refl _) (tsetO_new T), rfl, q l' _ hm hlen (I.hok.fresh (Nat.le_refl _))⟩
    · obtain ⟨its, rv, hl, _⟩ := I.tuple hs
      refine call_set_txtT xs (I.ok.hd hc) (show s.heap.IsTuple a its.toArray from hl) rv.strs (by unfold scanBound; omega) fun h' tk l' T hm hlen hk => ?_
      exact ⟨.ref _, upd H s.heap.objs.size (TSetO X.prog X.w s.heap.objs.size l'), I.laid (t' := tk) hk (Nat.le_refl _) (tsetO_new T), rfl, q l' _ hm hlen (I.hok.fresh (Nat.le_refl _))⟩
  · rcases hs with hs | hs
    · obtain ⟨its, rv, hl, _⟩ := I.list hs
      refine call_set_intL ns (I.ok.hd hc) hl.isList rv.ints (by unfold scanBound; omega) fun h' tk c R hcn hk => ?_
      exact ⟨.ref _, upd H s.heap.objs.size (SetO X.w s.heap.objs.size (fun j => decide (j ∈ ns)) c), I.laid (t' := tk) hk (Nat.le_refl _) (setO_new R), rfl, q c _ hcn (I.hok.fresh (Nat.le_refl _))⟩
    · obtain ⟨its, rv, hl, _⟩ := I.tuple hs
      refine call_set_tupI ns (I.ok.hd hc) (show s.heap.IsTuple a its.toArray from hl) rv.ints (by unfold scanBound; omega) fun h' tk c R hcn hk => ?_
      exact ⟨.ref _, upd H s.heap.objs.size (SetO X.w s.heap.objs.size (fun j => decide (j ∈ ns)) c), I.laid (t' := tk) hk (Nat.le_refl _) (setO_new R), rfl, q c _ hcn (I.hok.fresh (Nat.le_refl _))⟩
theorem cr_sortedA (hc : X.calm = true) : CallR X (.builtin "sorted") (fun vs H Q => ∃ a : Addr, vs = [V.ref a] ∧
    ((∃ l : List Str, H a = some (TSetO X.prog X.w a l) ∧ l.length < 4000 ∧ ∀ (ys : List Str) (p : Addr), sortedS ys = true → (∀ x, x ∈ ys ↔ x ∈ l) → ys.length = l.length → ys.Nodup → H p = none → Q (.ref p) (upd H p (.lst (ys.map V.str)))) ∨
     (∃ (S : Int → Bool) (n : Nat), H a = some (SetO X.w a S n) ∧ n < 4000 ∧ ∀ (ns : List Int) (p : Addr), ns.Pairwise (· ≤ ·) → ns.Nodup → (∀ k : Int, k ∈ ns ↔ S k = true) → H p = none → Q (.ref p) (upd H p (.lst (ns.map V.int)))))) := by
  intro pins s σ H vs us Q I r h
  obtain ⟨a, rfl, h⟩ := h
  rcases h with ⟨l, h1, h2, h3⟩ | ⟨S, n, ha, hz, q⟩
  · exact cr_sortedT hc pins s σ H _ us Q I r ⟨a, l, rfl, h1, h2, h3⟩
  · have R := setO_get I ha
    rw [Vals.ref1 r]
    refine sorted_setI R (I.ok.hd hc) hz fun s' p out c ns k g o hp hg hi hs hnd hm hl => ?_
    have hlen : (ns.map V.int).length ≤ sizeLine := by rw [List.length_map, hl, sizeLine_eq]; omega
    have hn : H p = none := I.hok.fresh hp
    have J : Inv X pins σ (upd H p (.lst (ns.map V.int))) { s with heap := s'.heap, gens := s'.gens, drawn := s'.drawn, toks := s'.toks } :=
      I.call (ch := []) (Un.laid k hp hn) (I.hok.laid k hp ⟨hlen, out.toList, c, vals_of_ints hi, hg⟩) (by rw [g]; exact I.bare) (fun _ z => nomatch z)
    have e : s' = { s with heap := s'.heap, gens := s'.gens, drawn := s'.drawn, toks := s'.toks } := by
      cases s'
      cases s
      cases o
      rfl
    rw [e]
    exact ⟨.ref p, _, J, rfl, q ns p hs hnd hm hn⟩
end
/-! whole numbers, each once, ascending -/
def insI (x : Int) : List Int → List Int
  | [] => [x]
  | y :: ys => if x = y then y :: ys else if x < y then x :: y :: ys else y :: insI x ys
def sortSetI (xs : List Int) : List Int := xs.foldr insI []
theorem insI_mem {x y : Int} : ∀ {l : List Int}, y ∈ insI x l ↔ y = x ∨ y ∈ l
  | [] => by simp [insI]
  | z :: r => by
    unfold insI
    split
    · rename_i e; subst e; simp
    · split
      · simp
      · simp [insI_mem (l := r)]
        constructor
        · rintro (h | h | h) <;> simp [h]
        · rintro (h | h | h) <;> simp [h]
theorem sortSetI_mem {y : Int} : ∀ {l : List Int}, y ∈ sortSetI l ↔ y ∈ l
  | [] => by simp [sortSetI]
  | x :: r => by
    show y ∈ insI x (sortSetI r) ↔ _
    rw [insI_mem, sortSetI_mem (l := r)]
    simp
theorem insI_strict {x : Int} : ∀ {l : List Int}, l.Pairwise (· < ·) → (insI x l).Pairwise (· < ·)
  | [], _ => List.pairwise_singleton _ _
  | z :: r, h => by
    obtain ⟨h1, h2⟩ := List.pairwise_cons.mp h
    unfold insI
    split
    · exact h
    · split
      · refine List.pairwise_cons.mpr ⟨fun y hy => ?_, h⟩
        rcases List.mem_cons.mp hy with e | hy
        · omega
        · have := h1 y hy; omega
      · refine List.pairwise_cons.mpr ⟨fun y hy => ?_, insI_strict h2⟩
        rcases insI_mem.mp hy with e | hy
        · omega
        · exact h1 y hy
theorem sortSetI_strict : ∀ l : List Int, (sortSetI l).Pairwise (· < ·)
  | [] => List.Pairwise.nil
  | x :: r => insI_strict (sortSetI_strict r)
theorem strictI_unique : ∀ {a b : List Int}, a.Pairwise (· < ·) → b.Pairwise (· < ·) → (∀ x, x ∈ a ↔ x ∈ b) → a = b
  | [], [], _, _, _ => rfl
  | [], y :: b, _, _, h => by have := (h y).mpr List.mem_cons_self; cases this
  | x :: a, [], _, _, h => by have := (h x).mp List.mem_cons_self; cases this
  | x :: a, y :: b, ha, hb, h => by
    obtain ⟨a1, a2⟩ := List.pairwise_cons.mp ha
    obtain ⟨b1, b2⟩ := List.pairwise_cons.mp hb
    have exy : x = y := by
      rcases List.mem_cons.mp ((h x).mp List.mem_cons_self) with e | m
      · exact e
      · rcases List.mem_cons.mp ((h y).mpr List.mem_cons_self) with e | m2
        · exact e.symm
        · have := b1 x m; have := a1 y m2; omega
    subst exy
    congr 1
    refine strictI_unique a2 b2 fun z => ?_
    constructor
    · intro hz
      rcases List.mem_cons.mp ((h z).mp (List.mem_cons_of_mem _ hz)) with e | m
      · have := a1 z hz; omega
      · exact m
    · intro hz
      rcases List.mem_cons.mp ((h z).mpr (List.mem_cons_of_mem _ hz)) with e | m
      · have := b1 z hz; omega
      · exact m
theorem pairI_lt {l : List Int} (h : l.Pairwise (· ≤ ·)) (n : l.Nodup) : l.Pairwise (· < ·) := by
  refine List.Pairwise.imp (R := fun a b => a ≤ b ∧ a ≠ b) (fun h => by omega) (List.Pairwise.and h n)
theorem ints_repI {K : PySem.W.Frag} {M : Mp} {H : Hp} : ∀ {us : List Int} {vs : List V}, RepVs K M H (us.map .int) vs → vs = us.map V.int
  | [], _, h => h.nil_inv
  | u :: us, _, h => by
    obtain ⟨v, r, e, h1, h2⟩ := h.uncons
    rw [e, rep_int h1, ints_repI h2]
    rfl
theorem strs_repA {K : PySem.W.Frag} {M : Mp} {H : Hp} : ∀ {us : List Str} {vs : List V}, RepVs K M H (us.map .str) vs → vs = us.map V.str
  | [], _, h => h.nil_inv
  | u :: us, _, h => by
    obtain ⟨v, r, e, h1, h2⟩ := h.uncons
    rw [e, rep_str h1, strs_repA h2]
    rfl
def wSortSetA (te : WE) : WE := fun su M R => te su M fun u M1 => (∃ xs : List Str, seqOf M1 u = some (xs.map .str) ∧ xs.length < 4000 ∧ R (.lst ((sortSetS xs).map .str)) M1) ∨ ∃ xs : List Int, seqOf M1 u = some (xs.map .int) ∧ xs.length < 4000 ∧ R (.lst ((sortSetI xs).map .int)) M1
@[simp] theorem wSortSetA_ {te : WE} {su : Sg} {M : Mp} {R : UK} : wSortSetA te su M R = te su M fun u M1 => (∃ xs : List Str, seqOf M1 u = some (xs.map .str) ∧ xs.length < 4000 ∧ R (.lst ((sortSetS xs).map .str)) M1) ∨ ∃ xs : List Int, seqOf M1 u = some (xs.map .int) ∧ xs.length < 4000 ∧ R (.lst ((sortSetI xs).map .int)) M1 := rfl
section
variable {X : Cx} {P : Program} {w : World} {K : PySem.W.Frag} {mg : Str → Option Value} {base : Heap} {k : Nat} {N : List Str} {S : Scope} {g : Gd} {e a : Expr} {te : WE} {tr : WA} {p p2 pos pos2 : Pos}
theorem k_sortSetA (W : Wk X P w K mg base k N S) (hc : X.calm = true) (hm : mg "sorted" = none) (hm2 : mg "set" = none) (h1 : glB S "sorted" = true) (h2 : glB S "set" = true) (ha : JE X g e te)
    (hs : starEach [e] X.env = (false, eval e X.env) :: starEach [] X.env) (hs2 : starEach [.Call (.Name "set" p2) [e] [] pos2] X.env = (false, eval (.Call (.Name "set" p2) [e] [] pos2) X.env) :: starEach [] X.env)
    (hp : (backTo pos (starEach [] X.env)).any (·.1) = false) (hp2 : (backTo pos2 (starEach [] X.env)).any (·.1) = false) :
    JE X g (.Call (.Name "sorted" p) [.Call (.Name "set" p2) [e] [] pos2] [] pos) (wSortSetA te) := by
  obtain ⟨q1, q2⟩ := W.gl h1
  obtain ⟨q3, q4⟩ := W.gl h2
  have inner := L2.pe_callTy (p := p2) (cr_setA hc) q3 (by rw [W.mg]; exact hm2) boot_ty_set (L2.pa_cons ha L2.pa_nil hs) (by decide) q4 hs hp2
  have outer := L2.pe_callB (p := p) (cr_sortedA hc) q1 (by rw [W.mg]; exact hm) boot_fn_sorted (L2.pa_cons inner L2.pa_nil hs2) (by decide) q2 hs2 hp
  refine pe_imp outer fun σ H Q ⟨su, M, R, at0, h, c⟩ => ?_
  refine ⟨su, M, _, at0, h, fun u M1 v H1 q s1 d1 r1 => ?_⟩
  rcases q with ⟨xs, e, hz, q⟩ | ⟨xs, e, hz, q⟩
  · obtain ⟨a1, vs, rfl, sq, t⟩ := seqOf_rep d1 r1 e
    rw [strs_repA t] at sq
    refine ⟨a1, rfl, .inl ⟨xs, sq, hz, fun l p hm hl hp => ⟨p, rfl, .inl ⟨l, upd_same, by omega, fun ys p2 k1 k2 _ k4 hp2 => ?_⟩⟩⟩⟩
    have e2 : ys = sortSetS xs := strict_unique (sortedS_strict k4 k1) (sortSet_strict xs) fun x => by rw [sortSet_mem]; exact (k2 x).trans (hm x)
    subst e2
    exact c.at_ q (s1.trans ((Stp.new d1 hp).trans (Stp.new (d1.new hp) hp2))) ((d1.new hp).new hp2) (new_lst (d1.new hp) hp2 (reps_of_strs _))
  · obtain ⟨a1, vs, rfl, sq, t⟩ := seqOf_rep d1 r1 e
    rw [ints_repI t] at sq
    refine ⟨a1, rfl, .inr ⟨xs, sq, hz, fun n p hl hp => ⟨p, rfl, .inr ⟨_, n, upd_same, by omega, fun ys p2 k1 k4 k2 hp2 => ?_⟩⟩⟩⟩
    have e2 : ys = sortSetI xs := strictI_unique (pairI_lt k1 k4) (sortSetI_strict xs) fun x => by rw [sortSetI_mem, k2 x, decide_eq_true_eq]
    subst e2
    exact c.at_ q (s1.trans ((Stp.new d1 hp).trans (Stp.new (d1.new hp) hp2))) ((d1.new hp).new hp2) (new_lst (d1.new hp) hp2 (reps_of_ints _))
end
end Pu

/-! Pu, part 22: written values, told at once. -/
namespace Pu
open PySem PySem.Spec PyProof.Rows L2
def Pur (t : WE) (v : U) : Prop := ∀ su M (R : UK), R v M → t su M R
def PurA (t : WA) (vs : List U) : Prop := ∀ su M (R : List U → Mp → Prop), R vs M → t su M R
theorem pur_c {u : U} : Pur (wC u) u := fun _ _ _ h => h
theorem purA_nil : PurA wNil [] := fun _ _ _ h => h
theorem purA_cons {t : WE} {tr : WA} {v : U} {vs : List U} (h : Pur t v) (r : PurA tr vs) : PurA (wCons t tr) (v :: vs) := fun su M R q => h su M _ (r su M _ q)
theorem pur_tup {tr : WA} {vs : List U} (h : PurA tr vs) (hl : vs.length ≤ 1000) : Pur (wTup tr) (.tup vs) := fun su M R q => h su M _ ⟨by rw [sizeLine_eq]; omega, q⟩
theorem pur_lst {tr : WA} {vs : List U} (h : PurA tr vs) (hl : vs.length ≤ 1000) : Pur (wLst tr) (.lst vs) := fun su M R q => h su M _ ⟨by rw [sizeLine_eq]; omega, q⟩
end Pu
namespace Pu
theorem pur_goal {t : WA} {vs vs' : List U} (h : PurA t vs) (e : vs = vs') : PurA t vs' := e ▸ h
end Pu
namespace Pu
open PySem PySem.Spec PyProof.Rows L2
theorem j_pur {X : Cx} {g : Gd} {e : Expr} {t : WE} {v : U} (h : JE X g e t) (p : Pur t v) : JE X g e (wC v) :=
  pe_imp h fun σ H Q ⟨su, M, R, a, q, c⟩ => ⟨su, M, R, a, p su M R q, c⟩
end Pu

/-! Pu, part 23: one statement after another, what follows kept closed. -/
namespace Pu
open PySem PySem.Spec PyProof.Rows L2
theorem seq_gen {t u : WS} {D : UEnds} {su : Sg} {M : Mp} (h : ∀ D' : UEnds, (∀ s m, u D s m → D'.nx s m) → (∀ x m, D.rt x m → D'.rt x m) → (∀ s m, D.bk s m → D'.bk s m) → (∀ s m, D.ct s m → D'.ct s m) → t D' su M) : wSeq t u D su M :=
  h { D with nx := u D } (fun _ _ h => h) (fun _ _ h => h) (fun _ _ h => h) fun _ _ h => h
theorem for_gen {w : WI} {gt : WG} {tb : WS} {D : UEnds} {su : Sg} {M : Mp} (h : ∀ K : Sg → Mp → Prop, (∀ s m, D.nx s m → K s m) → wFor w gt tb { D with nx := K } su M) : wFor w gt tb D su M := h _ fun _ _ h => h
end Pu

/-! Pu, part 24: lists that only a property tells (hid): draws. -/
namespace Pu
open PySem PySem.Spec PyProof.Rows L2
section
variable {P : Program} {w : World} {K : PySem.W.Frag} {mg : Str → Option Value} {base : Heap} {k : Nat} {x : Str} {st : Stmt} {ps : List Str}
/-- another promise, about other handles of the same heap -/
theorem FnV.abs {sp sp' : USp} (F : FnV P w K mg base k x st ps sp) (h : ∀ us M R E H, RepM K M H → sp' us M R E → ∃ M1 R1, RepM K M1 H ∧ Stp M H M1 H ∧ sp us M1 R1 (fun _ _ => False) ∧
    ∀ u M1' H', R1 u M1' → RepM K M1' H' → ∃ M', RepM K M' H' ∧ Stp M1' H' M' H' ∧ R u M') : FnV P w K mg base k x st ps sp' := by
  have key : ∀ vs H Q E, liftSp K mg sp' vs H Q E → liftSp K mg sp vs H Q E := by
    rintro vs H Q E ⟨us, M, R, Ru, r, d, q, c, _⟩
    obtain ⟨M1, R1, d1, s1, q1, back⟩ := h us M R Ru H d q
    refine ⟨us, M1, R1, fun _ _ => False, RepVs.step s1 _ _ r, d1, q1, ?_, fun _ _ _ _ _ z => z.elim⟩
    intro u M1' v H' qr s2 d2 r2
    obtain ⟨M', d3, s3, q3⟩ := back u M1' H' qr d2
    exact c u M' v H' q3 ((s1.trans s2).trans s3) d3 (r2.step s3)
  obtain ⟨f, fd, F, r⟩ := F.ex
  exact ⟨f, fd, F.imp key, r⟩
variable {M : Mp} {H : Hp} {a : Addr} {us : List U} {vs : List V} {Q : List V → Prop}
theorem RepM.conc (r : RepM K M H) (m : M a = some (.hid Q)) (e : H a = some (.lst vs)) (t : ∀ M', RepVs K M' H us vs) : RepM K (put M a (.lst us)) H ∧ Stp M H (put M a (.lst us)) H := by
  have s2 : Stp M H (put M a (.lst us)) H := fun c o h1 h2 => ⟨h1, by rw [put_ne (fun z => by rw [z, m] at h2; cases h2)]; exact h2⟩
  refine ⟨fun c o ec => ?_, s2⟩
  by_cases hc : c = a
  · subst hc
    rw [put_same] at ec; cases ec
    exact ⟨vs, e, t _⟩
  · rw [put_ne hc] at ec
    have q := r c o ec
    cases o with
    | lst us => obtain ⟨ws, q, t⟩ := q; exact ⟨ws, q, RepVs.step s2 _ _ t⟩
    | dct ks us => obtain ⟨ws, q, l, t⟩ := q; exact ⟨ws, q, l, RepVs.step s2 _ _ t⟩
    | hid P => exact q
theorem RepM.hide (r : RepM K M H) (m : M a = some (.lst us)) (h : ∀ vs, RepVs K M H us vs → Q vs) : RepM K (put M a (.hid Q)) H ∧ Stp M H (put M a (.hid Q)) H := by
  have s2 : Stp M H (put M a (.hid Q)) H := fun c o h1 h2 => ⟨h1, by rw [put_ne (fun z => by rw [z, m] at h2; cases h2)]; exact h2⟩
  refine ⟨fun c o ec => ?_, s2⟩
  by_cases hc : c = a
  · subst hc
    rw [put_same] at ec; cases ec
    obtain ⟨ws, q, t⟩ := r c _ m
    exact ⟨ws, q, h ws t⟩
  · rw [put_ne hc] at ec
    have q := r c o ec
    cases o with
    | lst us => obtain ⟨ws, q, t⟩ := q; exact ⟨ws, q, RepVs.step s2 _ _ t⟩
    | dct ks us => obtain ⟨ws, q, l, t⟩ := q; exact ⟨ws, q, l, RepVs.step s2 _ _ t⟩
    | hid P => exact q
theorem cells_rep {ns : List Int} : ∀ {vs : List V}, RepVs K M H (ns.map U.int) vs → vs = ns.map V.int := by
  induction ns with
  | nil => intro vs h; exact h.nil_inv
  | cons n ns ih =>
    intro vs h
    obtain ⟨v, r, e, h1, h2⟩ := h.uncons
    rw [e, rep_int h1, ih h2]; rfl
end
/-! ### the draws' objects -/
/-- a list of at most n numbers -/
def cellsP (n : Nat) (vs : List V) : Prop := ∃ ns : List Int, ns.length ≤ n ∧ vs = ns.map V.int
/-- [cells at b, number, number] -/
def wellP (b : Addr) (vs : List V) : Prop := ∃ x s : Int, vs = [.ref b, .int x, .int s]
def Wl (M : Mp) (a b : Addr) : Prop := M a = some (.hid (wellP b)) ∧ M b = some (.hid (cellsP 63))
theorem Wl.ne {M : Mp} {a b : Addr} (h : Wl M a b) : a ≠ b := by
  intro e
  subst e
  have := h.1.symm.trans h.2
  simp only [Option.some.injEq, MO.hid.injEq] at this
  have q : cellsP 63 [] := ⟨[], by simp, rfl⟩
  rw [← this] at q
  obtain ⟨x, s, e⟩ := q
  cases e
theorem Wl.a {M : Mp} {a b : Addr} (h : Wl M a b) : M a ≠ none := by rw [h.1]; simp
theorem Wl.b {M : Mp} {a b : Addr} (h : Wl M a b) : M b ≠ none := by rw [h.2]; simp
theorem Wl.na {M : Mp} {a b p : Addr} (h : Wl M a b) (f : M p = none) : p ≠ a := fun e => h.a (e ▸ f)
theorem Wl.nb {M : Mp} {a b p : Addr} (h : Wl M a b) (f : M p = none) : p ≠ b := fun e => h.b (e ▸ f)
theorem Wl.of {M M' : Mp} {a b : Addr} (h : Wl M a b) (e : M' a = M a) (e' : M' b = M b) : Wl M' a b := ⟨e.trans h.1, e'.trans h.2⟩
theorem Wl.put {M : Mp} {a b p : Addr} {o : MO} (h : Wl M a b) (f : M p = none) : Wl (Pu.put M p o) a b := h.of (put_ne (Ne.symm (h.na f))) (put_ne (Ne.symm (h.nb f)))
/-- .. the handle p held a list -/
theorem Wl.putL {M : Mp} {a b p : Addr} {us : List U} {o : MO} (h : Wl M a b) (f : M p = some (.lst us)) : Wl (Pu.put M p o) a b :=
  h.of (put_ne (fun e => by have := h.1; rw [e, f] at this; cases this)) (put_ne (fun e => by have := h.2; rw [e, f] at this; cases this))
theorem Wl.less {M M' : Mp} {a b : Addr} (h : Wl M a b) (s : Fewer M M') : Wl M' a b := ⟨s _ _ h.1, s _ _ h.2⟩
/-- the draws' list of stir laws -/
def Dr (M : Mp) (a : Addr) : Prop := M a = some (.hid (cellsP 200000))
theorem Dr.a {M : Mp} {a : Addr} (h : Dr M a) : M a ≠ none := by rw [h]; simp
theorem Dr.na {M : Mp} {a p : Addr} (h : Dr M a) (f : M p = none) : p ≠ a := fun e => h.a (e ▸ f)
theorem Dr.put {M : Mp} {a p : Addr} {o : MO} (h : Dr M a) (f : M p = none) : Dr (Pu.put M p o) a := by unfold Dr; rw [put_ne (Ne.symm (h.na f))]; exact h
theorem Dr.putL {M : Mp} {a p : Addr} {us : List U} {o : MO} (h : Dr M a) (f : M p = some (.lst us)) : Dr (Pu.put M p o) a := by
  unfold Dr; rw [put_ne (fun e => by unfold Dr at h; rw [e, f] at h; cases h)]; exact h
/-- concrete: the same but at a and b -/
def Ow (a b : Addr) (M M' : Mp) : Prop := ∀ c, c ≠ a → c ≠ b → M' c = M c
theorem Ow.refl (a b : Addr) (M : Mp) : Ow a b M M := fun _ _ _ => rfl
theorem Ow.trans {a b : Addr} {M M1 M2 : Mp} (h : Ow a b M M1) (k : Ow a b M1 M2) : Ow a b M M2 := fun c h1 h2 => (k c h1 h2).trans (h c h1 h2)
theorem Ow.putA {a b : Addr} {M : Mp} {o : MO} : Ow a b M (Pu.put M a o) := fun c h1 _ => put_ne h1
theorem Ow.putB {a b : Addr} {M : Mp} {o : MO} : Ow a b M (Pu.put M b o) := fun c _ h2 => put_ne h2
/-- concrete: the well at a, its cells at b -/
def Wl0 (M : Mp) (a b : Addr) : Prop := ∃ (cs : List Int) (x s : Int), M a = some (.lst [.ref b, .int x, .int s]) ∧ M b = some (.lst (cs.map .int)) ∧ cs.length ≤ 63
theorem Wl0.ne {M : Mp} {a b : Addr} (h : Wl0 M a b) : a ≠ b := by
  obtain ⟨cs, x, s, h1, h2, _⟩ := h
  intro e
  subst e
  rw [h1] at h2
  cases cs <;> simp at h2
section
variable {K : PySem.W.Frag} {M : Mp} {H : Hp}
theorem Wl.open_ {a b : Addr} (r : RepM K M H) (h : Wl M a b) : ∃ M1, Wl0 M1 a b ∧ RepM K M1 H ∧ Stp M H M1 H ∧ Ow a b M M1 := by
  obtain ⟨vs, e1, x, s, rfl⟩ := r a _ h.1
  obtain ⟨ws, e2, ns, hl, rfl⟩ := r b _ h.2
  have hab := h.ne
  obtain ⟨r1, s1⟩ := r.conc h.1 e1 (us := [.ref b, .int x, .int s]) fun M' => .cons (by unfold RepV; rfl) (.cons mk_int (.cons mk_int .nil))
  obtain ⟨r2, s2⟩ := r1.conc (Q := cellsP 63) (by rw [put_ne (Ne.symm hab)]; exact h.2) e2 (us := ns.map .int) fun M' => reps_of_intsK ns
  exact ⟨_, ⟨ns, x, s, by rw [put_ne hab, put_same], put_same, hl⟩, r2, s1.trans s2, Ow.trans .putA .putB⟩
theorem Wl0.close {a b : Addr} (r : RepM K M H) (h : Wl0 M a b) : RepM K (Pu.put (Pu.put M a (.hid (wellP b))) b (.hid (cellsP 63))) H ∧ Stp M H (Pu.put (Pu.put M a (.hid (wellP b))) b (.hid (cellsP 63))) H := by
  have hab := h.ne
  obtain ⟨cs, x, s, h1, h2, hl⟩ := h
  obtain ⟨r1, s1⟩ := r.hide h1 (Q := wellP b) fun vs t => by
    obtain ⟨v, q, e, k1, k2⟩ := t.uncons
    obtain ⟨v2, q2, e2, k3, k4⟩ := k2.uncons
    obtain ⟨v3, q3, e3, k5, k6⟩ := k4.uncons
    rw [k6.nil_inv] at e3
    subst e3 e2 e
    exact ⟨x, s, by rw [rep_ref k1, rep_int k3, rep_int k5]⟩
  obtain ⟨r2, s2⟩ := r1.hide (us := cs.map .int) (by rw [put_ne (Ne.symm hab)]; exact h2) (Q := cellsP 63) fun vs t => ⟨cs, hl, cells_rep t⟩
  exact ⟨r2, s1.trans s2⟩
theorem Wl.back {a b : Addr} {M1 : Mp} (h : Wl M a b) (ho : Ow a b M M1) : Pu.put (Pu.put M1 a (.hid (wellP b))) b (.hid (cellsP 63)) = M := by
  funext c
  by_cases hb : c = b
  · subst hb; rw [put_same, h.2]
  · rw [put_ne hb]
    by_cases ha : c = a
    · subst ha; rw [put_same, h.1]
    · rw [put_ne ha]; exact ho c ha hb
/-- the draws, told -/
theorem Dr.open_ {a : Addr} (r : RepM K M H) (h : Dr M a) : ∃ ns : List Int, ns.length ≤ 200000 ∧ RepM K (Pu.put M a (.lst (ns.map .int))) H ∧ Stp M H (Pu.put M a (.lst (ns.map .int))) H := by
  obtain ⟨ws, e2, ns, hl, rfl⟩ := r a _ h
  exact ⟨ns, hl, r.conc h e2 (us := ns.map .int) fun M' => reps_of_intsK ns⟩
theorem Dr.close {a : Addr} {ns : List Int} (r : RepM K M H) (h : M a = some (.lst (ns.map .int))) (hl : ns.length ≤ 200000) : RepM K (Pu.put M a (.hid (cellsP 200000))) H ∧ Stp M H (Pu.put M a (.hid (cellsP 200000))) H :=
  r.hide h fun vs t => ⟨ns, hl, cells_rep t⟩
end
/-! ### comprehensions whose items are drawn -/
theorem compU_any {D : Addr} {keep : Mp → Prop} {gt : WG} {te : WE} {su1 : Sg} {M : Mp} (hk : ∀ acc, keep (Pu.put M D (.lst acc))) {Q : U → Prop} : ∀ (us acc : List U) (R : List U → Mp → Prop),
    (∀ x ∈ us, ∀ a (R : UK), (∀ y, Q y → R y (Pu.put M D (.lst a))) → gt x su1 (Pu.put M D (.lst a)) fun su2 M1 => te su2 M1 R) → acc.length + us.length ≤ sizeLine → (∀ vs, (∀ v ∈ vs, Q v) → vs.length = us.length → R (acc ++ vs) (Pu.put M D (.lst (acc ++ vs)))) → compU D keep gt wYes te su1 us (Pu.put M D (.lst acc)) R
  | [], acc, R, _, _, q => ⟨acc, put_same, by simpa using q [] (by simp) rfl⟩
  | x :: r, acc, R, h, hz, q => by
    unfold compU
    refine h x List.mem_cons_self acc (fun y M1 => ∃ acc, M1 D = some (.lst acc) ∧ acc.length < sizeLine ∧ keep (Pu.put M1 D (.lst (acc ++ [y]))) ∧ compU D keep gt wYes te su1 r (Pu.put M1 D (.lst (acc ++ [y]))) R) fun y hy => ⟨acc, put_same, by simp at hz; omega, ?_, ?_⟩
    · rw [put_put]; exact hk _
    · rw [put_put]
      refine compU_any hk r (acc ++ [y]) R (fun y hy => h y (List.mem_cons_of_mem _ hy)) (by simp at hz ⊢; omega) fun vs h1 h2 => ?_
      have := q (y :: vs) (fun v hv => by rcases List.mem_cons.mp hv with e | hv; · subst e; exact hy
                                          · exact h1 v hv) (by simp [h2])
      simpa using this
theorem comp_any {gt : WG} {te : WE} {su1 : Sg} {M : Mp} {us : List U} {R : UK} {Q : U → Prop} (hz : us.length ≤ sizeLine)
    (h : ∀ x ∈ us, ∀ D a (R : UK), M D = none → (∀ y, Q y → R y (Pu.put M D (.lst a))) → gt x su1 (Pu.put M D (.lst a)) fun su2 M1 => te su2 M1 R) (q : ∀ vs, (∀ v ∈ vs, Q v) → vs.length = us.length → R (.lst vs) M) : CompG false Any gt wYes te su1 us M R := fun D hD =>
  ⟨trivial, compU_any (fun _ => trivial) us [] _ (fun x hx a R q => h x hx D a R hD q) (by simpa using hz) fun vs h1 h2 => by
    unfold compEnd
    rw [if_neg Bool.false_ne_true, List.nil_append, del_put hD]
    exact q vs h1 h2⟩
theorem comp_anyH {gt : WG} {te : WE} {su1 : Sg} {M : Mp} {us : List U} {R : UK} {Q : U → Prop} (hz : us.length ≤ sizeLine)
    (h : ∀ x ∈ us, ∀ D a (R : UK), M D = none → (∀ y, Q y → R y (Pu.put M D (.lst a))) → gt x su1 (Pu.put M D (.lst a)) fun su2 M1 => te su2 M1 R) (q : ∀ D vs, M D = none → (∀ v ∈ vs, Q v) → vs.length = us.length → R (.ref D) (Pu.put M D (.lst vs))) : CompG true Any gt wYes te su1 us M R := fun D hD =>
  ⟨trivial, compU_any (fun _ => trivial) us [] _ (fun x hx a R q => h x hx D a R hD q) (by simpa using hz) fun vs h1 h2 => by
    unfold compEnd
    rw [if_pos rfl, List.nil_append]
    exact q D vs hD h1 h2⟩
theorem Fin.back {R : UK} {u : U} {M : Mp} {p : Addr} {o : MO} (h : M p = none) (q : R u M) : Fin R u (Pu.put M p o) := .less (.ofPut h) q
theorem Fewer.put2 {M : Mp} {p q : Addr} {o o' : MO} (h : M p = none) (h' : M q = none) : Fewer M (Pu.put (Pu.put M p o) q o') := fun a u e => by
  have h1 : a ≠ p := fun z => by rw [z, h] at e; cases e
  have h2 : a ≠ q := fun z => by rw [z, h'] at e; cases e
  rw [put_ne h2, put_ne h1]; exact e
end Pu

/-! What the text's values mean, in plain Lean. -/
namespace Sem
open PySem PySem.Spec PyProof.Rows L2 Pu

/-! ### pure values, their size -/
mutual
def pvU : U → Bool
  | .non => true | .bl _ => true | .int _ => true
  | .str s => okStr s
  | .tup us => pvUs us
  | .lst us => pvUs us
  | .dct ks us => ks.isEmpty && us.isEmpty
  | .ty _ => false | .ref _ => false | .pr _ => false
def pvUs : List U → Bool
  | [] => true
  | u :: us => pvU u && pvUs us
end
mutual
def nd : U → Nat
  | .str s => s.length + 1
  | .tup us => nds us + 1
  | .lst us => nds us + 1
  | _ => 1
def nds : List U → Nat
  | [] => 0
  | u :: us => nd u + nds us
end
theorem nd_pos (u : U) : 0 < nd u := by cases u <;> simp [nd]
theorem len_nds : ∀ us : List U, us.length ≤ nds us
  | [] => Nat.le_refl _
  | u :: us => by
    have := len_nds us
    have := nd_pos u
    simp [nds]
    omega
theorem nd_mem {u : U} : ∀ {us : List U}, u ∈ us → nd u ≤ nds us
  | v :: us, h => by
    simp only [nds]
    rcases List.mem_cons.mp h with e | h
    · subst e; omega
    · have := nd_mem h; omega
theorem pvU_mem {u : U} : ∀ {us : List U}, pvUs us = true → u ∈ us → pvU u = true
  | v :: us, h, m => by
    simp only [pvUs, Bool.and_eq_true] at h
    rcases List.mem_cons.mp m with e | m
    · subst e; exact h.1
    · exact pvU_mem h.2 m
theorem dep_mem {u : U} : ∀ {us : List U}, u ∈ us → depU u ≤ depUs us
  | v :: us, h => by
    simp only [depUs]
    rcases List.mem_cons.mp h with e | h
    · subst e; omega
    · have := dep_mem h; omega
theorem pvUs_append : ∀ {a b : List U}, pvUs (a ++ b) = (pvUs a && pvUs b)
  | [], b => by simp [pvUs]
  | u :: a, b => by simp [pvUs, pvUs_append (a := a), Bool.and_assoc]
theorem nds_append : ∀ {a b : List U}, nds (a ++ b) = nds a + nds b
  | [], b => by simp [nds]
  | u :: a, b => by simp [nds, nds_append (a := a)]; omega
theorem depUs_append : ∀ {a b : List U}, depUs (a ++ b) = max (depUs a) (depUs b)
  | [], b => by simp [depUs]
  | u :: a, b => by simp only [depUs, depUs_append (a := a), List.cons_append]; omega
/-- a value that is small: pure, of at most 2^20 signs and nodes -/
def Sm (u : U) : Prop := pvU u = true ∧ nd u ≤ 1000000
theorem Sm.line {u : U} (h : Sm u) : nd u ≤ sizeLine := by rw [sizeLine_eq]; have := h.2; omega
theorem Sm.str {s : Str} (h : Sm (.str s)) : s.length ≤ sizeLine := by
  have := h.line
  simp only [nd] at this
  omega
theorem Sm.tup {us : List U} (h : Sm (.tup us)) : us.length ≤ sizeLine := by
  have := h.line
  have := len_nds us
  simp only [nd] at *
  omega
theorem Sm.lst {us : List U} (h : Sm (.lst us)) : us.length ≤ sizeLine := by
  have := h.line
  have := len_nds us
  simp only [nd] at *
  omega
theorem Sm.mem {us : List U} (h : Sm (.tup us)) {u : U} (m : u ∈ us) : Sm u := by
  refine ⟨pvU_mem (by have := h.1; simpa [pvU] using this) m, ?_⟩
  have := nd_mem m
  have := h.2
  simp only [nd] at *
  omega
theorem Sm.meml {us : List U} (h : Sm (.lst us)) {u : U} (m : u ∈ us) : Sm u := by
  refine ⟨pvU_mem (by have := h.1; simpa [pvU] using this) m, ?_⟩
  have := nd_mem m
  have := h.2
  simp only [nd] at *
  omega
theorem Sm.noref {u : U} (h : Sm u) (M : Mp) : ∀ n, (n = "int" ∨ n = "bool" ∨ n = "str" ∨ n = "list" ∨ n = "tuple" ∨ n = "dict") → tyOk M u n := fun n hn => by
  refine ⟨hn, ?_⟩
  have := h.1
  cases u <;> first | (simp [pvU] at this; done) | trivial
theorem mem_at {α : Type} {us : List α} {i : Nat} {u : α} (h : us[i]? = some u) : u ∈ us := List.mem_of_getElem? h

/-! ### texts -/
def letters : Str := "abcdefghijklmnopqrstuvwxyz"
def digits : Str := "0123456789"
def cutL (z : Str) : Str := cutStr z none (some (-1))
def bareS (l : Str) : Str := if cutStr l (some (-1)) none == ("!" : Str) then cutStr l none (some (-1)) else l
/-- all signs are among these -/
def signsIn (a z : Str) : Bool := z.cps.toList.all fun c => decide (c ∈ a.cps.toList)
def isTagS (l : Str) : Bool := decide (1 ≤ (bareS l).length) && (decide ((bareS l).length ≤ 8) && signsIn letters (bareS l))
def kvPlain : List (Str × U) := [("$int", .str "0"), ("$text", .str "")]
def isKindS (l : Str) : Bool := (kvPlain.lookup (bareS l)).isSome
def isTag : U → Bool
  | .str l => isTagS l
  | _ => false
def isKind : U → Bool
  | .str l => isKindS l
  | _ => false
def intDigits (t : Str) : Str := if cutStr t none (some 1) == ("-" : Str) then cutStr t (some 1) none else t
def firstS (t : Str) : Str := match t.cps.toList with
  | c :: _ => ⟨#[c]⟩
  | [] => ""
def isIntS (t : Str) : Bool := !(intDigits t == ("" : Str)) && (signsIn digits (intDigits t) && (t == ("0" : Str) || !(firstS (intDigits t) == ("0" : Str))))
def sign1 (c : Nat) : Str := ⟨#[c]⟩
def okSign (c : Nat) : Bool := !strLt (sign1 c) " " && !strLt "~" (sign1 c)
def isTextS (k x : Str) : Bool := if bareS k == ("$int" : Str) then isIntS x else x.cps.toList.all okSign
def isTextOf (k : Str) : U → Bool
  | .str x => isTextS k x
  | _ => false
theorem cut_len {α : Type} (xs : List α) (lo hi : Option Int) : (cutU xs lo hi).length ≤ xs.length := by
  unfold cutU
  simp
  omega
theorem cut_mem {α : Type} {xs : List α} {lo hi : Option Int} {a : α} (h : a ∈ cutU xs lo hi) : a ∈ xs := List.mem_of_mem_drop (List.mem_of_mem_take h)
theorem cutStr_len (z : Str) (lo hi : Option Int) : (cutStr z lo hi).length ≤ z.length := by
  have := cut_len z.cps.toList lo hi
  unfold cutStr Str.length
  simpa using this
theorem bare_len (l : Str) : (bareS l).length ≤ l.length := by
  unfold bareS
  split
  · exact cutStr_len _ _ _
  · exact Nat.le_refl _
theorem idig_len (l : Str) : (intDigits l).length ≤ l.length := by
  unfold intDigits
  split
  · exact cutStr_len _ _ _
  · exact Nat.le_refl _
/-! ### parts -/
mutual
def isPart : U → Bool
  | .tup (.str l :: x :: []) => if isKindS l = true then isTextOf l x else isTagS l && isPartsT x
  | _ => false
def isPartsT : U → Bool
  | .tup ps => isParts ps
  | _ => false
def isParts : List U → Bool
  | [] => true
  | p :: ps => isPart p && isParts ps
end
theorem isParts_all : ∀ ps : List U, isParts ps = ps.all isPart
  | [] => by simp [isParts]
  | p :: ps => by simp [isParts, isParts_all ps]
def isDoc (u : U) : Bool := isPart u && (match u with
  | .tup (l :: _) => isTag l
  | _ => false)
@[simp] theorem atI_0 {α : Type} {x : α} {r : List α} : atI (x :: r) 0 = some x := by simp [atI, ixN]
@[simp] theorem atI_1 {α : Type} {x y : α} {r : List α} : atI (x :: y :: r) 1 = some y := by
  have e : ixN (x :: y :: r).length 1 = some 1 := by
    unfold ixN
    rw [if_pos (by decide), if_pos (by simp only [List.length_cons]; omega)]
    rfl
  unfold atI
  rw [e]
  rfl
inductive PartC : U → Prop where
  | kind {l x : Str} (k : isKindS l = true) (t : isTextS l x = true) : PartC (.tup [.str l, .str x])
  | tag {l : Str} {ps : List U} (k : isKindS l = false) (t : isTagS l = true) (h : ∀ p ∈ ps, isPart p = true) : PartC (.tup [.str l, .tup ps])
theorem partC {u : U} (h : isPart u = true) : PartC u := by
  cases u <;> try (simp [isPart] at h; done)
  rename_i us
  match us, h with
  | [], h => simp [isPart] at h
  | [a], h => cases a <;> simp [isPart] at h
  | a :: b :: c :: r, h => cases a <;> simp [isPart] at h
  | [a, b], h =>
    cases a <;> try (simp [isPart] at h; done)
    rename_i l
    simp only [isPart] at h
    cases k : isKindS l with
    | true =>
      rw [k, if_pos rfl] at h
      cases b <;> try (cases h; done)
      exact .kind k h
    | false =>
      rw [k, if_neg Bool.false_ne_true, Bool.and_eq_true] at h
      cases b <;> try (cases h.2; done)
      rename_i ps
      refine .tag k h.1 fun p hp => ?_
      have := h.2
      simp only [isPartsT] at this
      rw [isParts_all] at this
      exact List.all_eq_true.mp this p hp
def partsP : U → List U
  | .tup (_ :: .tup ps :: []) => ps
  | _ => []
mutual
def sizeP : U → Int
  | .tup (_ :: .tup ps :: []) => 1 + sizePs ps
  | _ => 1
def sizePs : List U → Int
  | [] => 0
  | p :: ps => sizeP p + sizePs ps
end
theorem sizePs_sum : ∀ ps : List U, sizePs ps = (ps.map sizeP).sum
  | [] => rfl
  | p :: ps => by simp [sizePs, sizePs_sum ps]
mutual
def depthP : U → Int
  | .tup (_ :: .tup ps :: []) => 1 + maxL (0 :: depthPs ps)
  | _ => 0
def depthPs : List U → List Int
  | [] => []
  | p :: ps => depthP p :: depthPs ps
end
theorem depthPs_map : ∀ ps : List U, depthPs ps = ps.map depthP
  | [] => rfl
  | p :: ps => by simp [depthPs, depthPs_map ps]
def lblS : U → List Str
  | .str l => [l]
  | _ => []
mutual
def labelsP : U → List Str
  | .tup (a :: r) => lblS a ++ labelsT r
  | _ => []
def labelsT : List U → List Str
  | b :: _ => labelsB b
  | [] => []
def labelsB : U → List Str
  | .tup ps => labelsPs ps
  | _ => []
def labelsPs : List U → List Str
  | [] => []
  | p :: ps => labelsP p ++ labelsPs ps
end
theorem labelsP_tag {l : Str} {ps : List U} : labelsP (.tup [.str l, .tup ps]) = l :: labelsPs ps := by simp [labelsP, labelsT, labelsB, lblS]
theorem labelsP_kind {l x : Str} : labelsP (.tup [.str l, .str x]) = [l] := by simp [labelsP, labelsT, labelsB, lblS]
def plainS (l : Str) : Str := if bareS l == ("$int" : Str) then "0" else ""
def plainK : U → U → U
  | .str l, _ => .str (plainS l)
  | _, b => b
mutual
def plainP : U → U
  | .tup (a :: r) => .tup (a :: plainT a r)
  | u => u
def plainT (a : U) : List U → List U
  | b :: r => plainB a b :: r
  | [] => []
def plainB (a : U) : U → U
  | .tup ps => .tup (plainPs ps)
  | b => plainK a b
def plainPs : List U → List U
  | [] => []
  | p :: ps => plainP p :: plainPs ps
end
theorem plainP_tag {l : Str} {ps : List U} : plainP (.tup [.str l, .tup ps]) = .tup [.str l, .tup (plainPs ps)] := by simp [plainP, plainT, plainB]
theorem plainP_kind {l x : Str} : plainP (.tup [.str l, .str x]) = .tup [.str l, .str (plainS l)] := by simp [plainP, plainT, plainB, plainK]
theorem plainPs_map : ∀ ps : List U, plainPs ps = ps.map plainP
  | [] => rfl
  | p :: ps => by simp [plainPs, plainPs_map ps]
theorem lblS_nd (a : U) : (lblS a).length ≤ nd a := by cases a <;> simp [lblS, nd]
mutual
theorem labels_nd : ∀ u : U, (labelsP u).length ≤ nd u
  | .tup [] => by simp [labelsP]
  | .tup (a :: r) => by
    have h1 := lblS_nd a
    have h2 := labelsT_nd r
    simp only [labelsP, nd, nds, List.length_append]
    omega
  | .non => by simp [labelsP]
  | .bl _ => by simp [labelsP]
  | .int _ => by simp [labelsP]
  | .str _ => by simp [labelsP]
  | .ty _ => by simp [labelsP]
  | .ref _ => by simp [labelsP]
  | .lst _ => by simp [labelsP]
  | .dct _ _ => by simp [labelsP]
  | .pr _ => by simp [labelsP]
theorem labelsT_nd : ∀ us : List U, (labelsT us).length ≤ nds us
  | [] => by simp [labelsT]
  | b :: r => by
    have := labelsB_nd b
    simp only [labelsT, nds]
    omega
theorem labelsB_nd : ∀ u : U, (labelsB u).length ≤ nd u
  | .tup ps => by
    have := labelsPs_nd ps
    simp only [labelsB, nd]
    omega
  | .non => by simp [labelsB]
  | .bl _ => by simp [labelsB]
  | .int _ => by simp [labelsB]
  | .str _ => by simp [labelsB]
  | .ty _ => by simp [labelsB]
  | .ref _ => by simp [labelsB]
  | .lst _ => by simp [labelsB]
  | .dct _ _ => by simp [labelsB]
  | .pr _ => by simp [labelsB]
theorem labelsPs_nd : ∀ us : List U, (labelsPs us).length ≤ nds us
  | [] => by simp [labelsPs]
  | p :: ps => by
    have h1 := labels_nd p
    have h2 := labelsPs_nd ps
    simp only [labelsPs, nds, List.length_append]
    omega
end
theorem part_ind {P : U → Prop} (hk : ∀ l x, isKindS l = true → isTextS l x = true → P (.tup [.str l, .str x])) (ht : ∀ l ps, isKindS l = false → isTagS l = true → (∀ p ∈ ps, isPart p = true ∧ P p) → P (.tup [.str l, .tup ps])) : ∀ u, isPart u = true → P u := by
  have key : ∀ n u, nd u ≤ n → isPart u = true → P u := by
    intro n
    induction n with
    | zero => intro u h; have := nd_pos u; omega
    | succ n ih =>
      intro u h hp
      cases partC hp with
      | @kind l x k t => exact hk l x k t
      | @tag l ps k t hh =>
        refine ht l ps k t fun p hm => ⟨hh p hm, ih p ?_ (hh p hm)⟩
        have := nd_mem hm
        simp only [nd, nds] at h
        omega
  exact fun u => key _ u (Nat.le_refl _)
theorem okUs_of {us : List U} (h : ∀ u ∈ us, okU u = true) : okUs us = true := by
  induction us with
  | nil => rfl
  | cons u us ih => simp only [okUs, h u List.mem_cons_self, ih fun x hx => h x (List.mem_cons_of_mem _ hx), Bool.and_self]
theorem part_ok : ∀ u, isPart u = true → pvU u = true → okU u = true := by
  refine part_ind (P := fun u => pvU u = true → okU u = true) (fun l x k t h => ?_) fun l ps k t hh h => ?_
  · simp only [pvU, pvUs, okU, okUs] at *
    exact h
  · simp only [pvU, pvUs, okU, okUs, Bool.and_eq_true] at *
    exact ⟨h.1, okUs_of fun p hm => (hh p hm).2 (pvU_mem h.2.1 hm), trivial⟩
theorem ltUs_all {ps : List U} (h : ∀ p ∈ ps, ∀ q, isPart q = true → ∃ k, ltU p q = some k) : ∀ qs : List U, (∀ q ∈ qs, isPart q = true) → ∃ k, ltUs ps qs = some k := by
  induction ps with
  | nil => intro qs _; cases qs <;> exact ⟨_, rfl⟩
  | cons p ps ih =>
    intro qs hq
    cases qs with
    | nil => exact ⟨_, rfl⟩
    | cons q qs =>
      unfold ltUs
      split
      · exact ih (fun x hx => h x (List.mem_cons_of_mem _ hx)) qs fun x hx => hq x (List.mem_cons_of_mem _ hx)
      · exact h p List.mem_cons_self q (hq q List.mem_cons_self)
theorem lt_part : ∀ p, isPart p = true → ∀ q, isPart q = true → ∃ k, ltU p q = some k := by
  refine part_ind (P := fun p => ∀ q, isPart q = true → ∃ k, ltU p q = some k) (fun l x k t q hq => ?_) fun l ps k t hh q hq => ?_
  · cases partC hq with
    | @kind l' x' k' t' =>
      simp only [ltU, ltUs]
      split
      · split
        · exact ⟨_, rfl⟩
        · exact ⟨_, rfl⟩
      · exact ⟨_, rfl⟩
    | @tag l' ps' k' t' hh' =>
      simp only [ltU, ltUs]
      split
      · rename_i e
        have e : l = l' := by simpa [Pu.eqU] using e
        rw [e, k'] at k
        cases k
      · exact ⟨_, rfl⟩
  · cases partC hq with
    | @kind l' x' k' t' =>
      simp only [ltU, ltUs]
      split
      · rename_i e
        have e : l = l' := by simpa [Pu.eqU] using e
        rw [e, k'] at k
        cases k
      · exact ⟨_, rfl⟩
    | @tag l' ps' k' t' hh' =>
      have := ltUs_all (fun p hm => (hh p hm).2) ps' hh'
      simp only [ltU, ltUs]
      split
      · split
        · exact ⟨_, rfl⟩
        · exact this
      · exact ⟨_, rfl⟩
def lessP (p q : U) : Bool := if sizeP p == sizeP q then (if Pu.eqU p q = true then false else (ltU p q).getD false) else decide (sizeP p < sizeP q)
theorem key_lt {p q : U} (hp : isPart p = true) (hq : isPart q = true) : ltUs [.int (sizeP p), p] [.int (sizeP q), q] = some (lessP p q) := by
  obtain ⟨k, e⟩ := lt_part p hp q hq
  unfold lessP
  have e1 : Pu.eqU (.int (sizeP p)) (.int (sizeP q)) = (sizeP p == sizeP q) := by simp only [Pu.eqU]
  simp only [ltUs, ltU, e1, e, Option.getD]
  cases sizeP p == sizeP q
  · rfl
  · cases Pu.eqU p q <;> rfl
theorem key_fit {p : U} (hp : isPart p = true) (h : Sm p) (hd : depU p < 40) : Fit (.tup [.int (sizeP p), p]) := by
  refine ⟨?_, ?_⟩
  · simp only [okU, okUs, part_ok p hp h.1, Bool.and_self]
  · simp only [depU, depUs]
    omega
end Sem

namespace Sem
open PySem PySem.Spec PyProof.Rows L2 Pu
theorem cut_last {α : Type} (xs : List α) : cutU xs (some (-1)) none = xs.drop (xs.length - 1) := by
  unfold cutU
  have e : HT.sIx xs.length 0 (some (-1)) = xs.length - 1 := by
    unfold HT.sIx
    simp
    omega
  rw [e, HT.sIx_none]
  apply List.take_of_length_le
  simp
theorem cut_init {α : Type} (xs : List α) : cutU xs none (some (-1)) = xs.take (xs.length - 1) := by
  unfold cutU
  have e : HT.sIx xs.length xs.length (some (-1)) = xs.length - 1 := by
    unfold HT.sIx
    simp
    omega
  rw [e, HT.sIx_none]
  simp
theorem cut_to {α : Type} (xs : List α) (k : Nat) : cutU xs none (some (k : Int)) = xs.take k := by
  unfold cutU
  rw [HT.sIx_nat, HT.sIx_none]
  simp
theorem cut_from {α : Type} (xs : List α) (k : Nat) : cutU xs (some (k : Int)) none = xs.drop k := by
  unfold cutU
  rw [HT.sIx_nat, HT.sIx_none]
  rcases Nat.le_total k xs.length with h | h
  · rw [Nat.min_eq_left h]
    apply List.take_of_length_le
    simp
  · rw [Nat.min_eq_right h]
    simp [List.drop_of_length_le h]
theorem cutStr_list (z : Str) (lo hi : Option Int) : (cutStr z lo hi).cps.toList = cutU z.cps.toList lo hi := by simp [cutStr]
theorem bare_list (l : Str) : l.cps.toList = (bareS l).cps.toList ∨ l.cps.toList = (bareS l).cps.toList ++ [33] := by
  unfold bareS
  split
  · rename_i e
    have e := congrArg (fun s : Str => s.cps.toList) (by simpa using e : cutStr l (some (-1)) none = ("!" : Str))
    simp only [cutStr_list, cut_last] at e
    right
    rw [cutStr_list, cut_init]
    have := List.take_append_drop (l.cps.toList.length - 1) l.cps.toList
    rw [e] at this
    exact this.symm
  · exact .inl rfl
theorem kind_two {l : Str} (h : isKindS l = true) : bareS l = ("$int" : Str) ∨ bareS l = ("$text" : Str) := by
  unfold isKindS kvPlain at h
  rw [List.lookup_cons] at h
  cases e : bareS l == ("$int" : Str) with
  | true => exact .inl (by simpa using e)
  | false =>
    rw [e] at h
    simp only [List.lookup_cons] at h
    cases e2 : bareS l == ("$text" : Str) with
    | true => exact .inr (by simpa using e2)
    | false => rw [e2] at h; simp at h
theorem kind_four {l : Str} (h : isKindS l = true) : l = ("$int" : Str) ∨ l = ("$int!" : Str) ∨ l = ("$text" : Str) ∨ l = ("$text!" : Str) := by
  rcases kind_two h with e | e <;> rcases bare_list l with q | q <;> rw [e] at q
  · exact .inl (str_ext q)
  · exact .inr (.inl (str_ext (q.trans rfl)))
  · exact .inr (.inr (.inl (str_ext q)))
  · exact .inr (.inr (.inr (str_ext (q.trans rfl))))
def lawKind (l : Str) : Bool := cutStr l none (some 1) == ("$" : Str)
def isLabelS (l : Str) : Bool := isKindS l || isTagS l
def isLabel : U → Bool
  | .str l => isLabelS l
  | _ => false
theorem cut1 {l : Str} {c : Nat} {r : List Nat} (h : l.cps.toList = c :: r) : cutStr l none (some 1) = ⟨#[c]⟩ := by
  apply str_ext
  rw [cutStr_list, h]
  exact cut_to _ 1
theorem tag_first {l : Str} (h : isTagS l = true) : ∃ c r, l.cps.toList = c :: r ∧ c ∈ letters.cps.toList := by
  unfold isTagS at h
  simp only [Bool.and_eq_true, decide_eq_true_eq] at h
  obtain ⟨h1, h2, h3⟩ := h
  unfold signsIn at h3
  cases e : (bareS l).cps.toList with
  | nil =>
    have : (bareS l).length = 0 := by
      unfold Str.length
      rw [← Array.length_toList, e]
      rfl
    omega
  | cons c r =>
    rw [e] at h3
    simp only [List.all_cons, Bool.and_eq_true, decide_eq_true_eq] at h3
    rcases bare_list l with q | q <;> rw [e] at q
    · exact ⟨c, r, q, h3.1⟩
    · exact ⟨c, r ++ [33], q.trans rfl, h3.1⟩
theorem not_dollar {c : Nat} (h : c ∈ letters.cps.toList) : c ≠ 36 := by
  intro e
  subst e
  revert h
  decide +kernel
theorem lawKind_eq {l : Str} (h : isLabelS l = true) : lawKind l = isKindS l := by
  unfold isLabelS at h
  cases k : isKindS l with
  | true =>
    rcases kind_four k with e | e | e | e <;> subst e <;> decide +kernel
  | false =>
    rw [k, Bool.false_or] at h
    obtain ⟨c, r, e, m⟩ := tag_first h
    unfold lawKind
    rw [cut1 e]
    have := not_dollar m
    simp only [beq_eq_false_iff_ne, ne_eq]
    intro z
    have z := congrArg (fun s : Str => s.cps.toList) z
    have z2 : [c] = [36] := z
    simp at z2
    exact this z2
theorem part_label {l x : U} (h : isPart (.tup [l, x]) = true) : ∃ s, l = .str s ∧ isLabelS s = true := by
  cases partC h with
  | @kind l x k t => exact ⟨l, rfl, by simp [isLabelS, k]⟩
  | @tag l ps k t hh => exact ⟨l, rfl, by simp [isLabelS, t]⟩
/-! the law's way of reading integers -/
def ones : Str := "123456789"
def lawInt (t : Str) : Bool := t == ("0" : Str) || (!(intDigits t == ("" : Str)) && ((match (intDigits t).cps.toList with
  | c :: _ => decide (c ∈ ones.cps.toList)
  | [] => false) && signsIn digits (intDigits t)))
theorem digit_one {c : Nat} (h : c ∈ digits.cps.toList) (h0 : c ≠ 48) : c ∈ ones.cps.toList := by
  have e1 : digits.cps.toList = [48, 49, 50, 51, 52, 53, 54, 55, 56, 57] := by decide +kernel
  have e2 : ones.cps.toList = [49, 50, 51, 52, 53, 54, 55, 56, 57] := by decide +kernel
  rw [e1] at h
  rw [e2]
  simp at h ⊢
  omega
theorem one_digit {c : Nat} (h : c ∈ ones.cps.toList) : c ≠ 48 := by
  have e2 : ones.cps.toList = [49, 50, 51, 52, 53, 54, 55, 56, 57] := by decide +kernel
  rw [e2] at h
  simp at h
  omega
theorem lawInt_eq (t : Str) : lawInt t = isIntS t := by
  unfold lawInt isIntS firstS
  by_cases h0 : t = ("0" : Str)
  · subst h0; decide +kernel
  · have e0 : (t == ("0" : Str)) = false := by simpa using h0
    rw [e0, Bool.false_or, Bool.false_or]
    cases e : (intDigits t).cps.toList with
    | nil => 
      have : intDigits t = ("" : Str) := str_ext (by rw [e]; rfl)
      simp [this]
    | cons c r =>
      simp only [signsIn, e, List.all_cons]
      cases hd : decide (c ∈ digits.cps.toList) with
      | false => simp
      | true =>
        have hm : c ∈ digits.cps.toList := by simpa using hd
        have e3 : ((⟨#[c]⟩ : Str) == ("0" : Str)) = decide (c = 48) := by
          rw [Bool.eq_iff_iff]
          simp only [beq_iff_eq, decide_eq_true_eq]
          constructor
          · intro z
            have z := congrArg (fun s : Str => s.cps.toList) z
            have z2 : [c] = [48] := z
            simpa using z2
          · rintro rfl; rfl
        rw [e3]
        by_cases h48 : c = 48
        · have : ¬ c ∈ ones.cps.toList := fun z => one_digit z h48
          subst h48
          simp [this]
        · have := digit_one hm h48
          simp [h48, this]
def lawText (k x : Str) : Bool := if cutStr k none (some 5) == ("$text" : Str) then x.cps.toList.all okSign else lawInt x
theorem lawText_eq {k x : Str} (h : isKindS k = true) : lawText k x = isTextS k x := by
  unfold lawText isTextS
  rw [lawInt_eq]
  have e1 : ∀ k : Str, k = ("$int" : Str) ∨ k = ("$int!" : Str) → (cutStr k none (some 5) == ("$text" : Str)) = false ∧ (bareS k == ("$int" : Str)) = true := by
    rintro k (e | e) <;> subst e <;> decide +kernel
  have e2 : ∀ k : Str, k = ("$text" : Str) ∨ k = ("$text!" : Str) → (cutStr k none (some 5) == ("$text" : Str)) = true ∧ (bareS k == ("$int" : Str)) = false := by
    rintro k (e | e) <;> subst e <;> decide +kernel
  rcases kind_four h with e | e | e | e
  · obtain ⟨a, b⟩ := e1 k (.inl e); simp [a, b]
  · obtain ⟨a, b⟩ := e1 k (.inr e); simp [a, b]
  · obtain ⟨a, b⟩ := e2 k (.inl e); simp [a, b]
  · obtain ⟨a, b⟩ := e2 k (.inr e); simp [a, b]
end Sem

/-! words of small letters; joined signs -/
namespace Sem
open PySem PySem.Spec PyProof.Rows L2 Pu
theorem joinS_list : ∀ ys : List Str, (Txt.join ("" : Str) ys).cps.toList = ys.flatMap fun y => y.cps.toList := by
  intro ys
  rw [TL.join_eq]
  have h : TL.tl (Str.join ("" : Str) ys) = ys.flatMap fun y => TL.tl y := by
    rw [TL.tl_join]
    have e0 : TL.tl ("" : Str) = [] := rfl
    rw [e0]
    have : ∀ ps : List (List Nat), TL.joinL [] ps = ps.flatten := by
      intro ps
      induction ps with
      | nil => rfl
      | cons p r ih =>
        cases r with
        | nil => simp [TL.joinL]
        | cons q r => simp [TL.joinL, ih]
    rw [this, List.flatMap_def]
  exact h
/-- one sign -/
def sgn (c : Nat) : Str := ⟨#[c]⟩
theorem joinS_signs (cs : List Nat) : (Txt.join ("" : Str) (cs.map sgn)).cps.toList = cs := by
  rw [joinS_list]
  induction cs with
  | nil => rfl
  | cons c cs ih => rw [List.map_cons, List.flatMap_cons, ih]; rfl
theorem slen_list (s : Str) : s.length = s.cps.toList.length := by simp [Str.length]
theorem app_list (a b : Str) : (a ++ b).cps.toList = a.cps.toList ++ b.cps.toList := TL.tl_append a b
theorem signsU_len (z : Str) : (signsU z).length = z.length := by simp [signsU, Str.length]
/-- what is picked from -/
def rowItems : U → List U
  | .lst us => us
  | .tup us => us
  | .str z => signsU z
  | _ => []
theorem at_row {α : Type} {us : List α} {i : Int} (h0 : 0 ≤ i) (h1 : i < us.length) : ∃ x, atI us i = some x ∧ x ∈ us := by
  have h : i.toNat < us.length := by omega
  have e := atI_nat (List.getElem?_eq_getElem h)
  rw [show ((i.toNat : Nat) : Int) = i by omega] at e
  exact ⟨_, e, List.getElem_mem h⟩
structure TagW (t : Str) : Prop where
  pos : 1 ≤ t.length
  le : t.length ≤ 8
  low : signsIn letters t = true
theorem letters_ok : okStr letters = true := by decide +kernel
theorem TagW.mem {t : Str} (h : TagW t) {c : Nat} (hc : c ∈ t.cps.toList) : c ∈ letters.cps.toList := by
  have := List.all_eq_true.mp h.low c hc
  simpa using this
theorem TagW.bare {t : Str} (h : TagW t) : bareS t = t := by
  rcases bare_list t with q | q
  · exact (str_ext q).symm
  · exfalso
    have : (33 : Nat) ∈ t.cps.toList := by rw [q]; simp
    exact absurd (h.mem this) (by decide +kernel)
theorem TagW.tag {t : Str} (h : TagW t) : isTagS t = true := by
  unfold isTagS
  rw [h.bare, h.low]
  simp [h.pos, h.le]
theorem TagW.ok {t : Str} (h : TagW t) : okStr t = true := by
  have l := letters_ok
  unfold okStr at *
  rw [← Array.all_toList] at *
  exact List.all_eq_true.mpr fun c hc => List.all_eq_true.mp l c (h.mem hc)
theorem TagW.first {t : Str} (h : TagW t) : ∃ c r, t.cps.toList = c :: r ∧ c ∈ letters.cps.toList := tag_first h.tag
theorem TagW.nokind {t : Str} (h : TagW t) : isKindS t = false := by
  cases k : isKindS t with
  | false => rfl
  | true =>
    obtain ⟨c, r, e, m⟩ := h.first
    rcases kind_four k with z | z | z | z <;> subst z <;> exact absurd (h.mem (c := 36) (by decide +kernel)) (by decide +kernel)
theorem tagw_list {t : Str} (h1 : 1 ≤ t.cps.toList.length) (h2 : t.cps.toList.length ≤ 8) (h3 : ∀ c ∈ t.cps.toList, c ∈ letters.cps.toList) : TagW t :=
  ⟨by rw [slen_list]; exact h1, by rw [slen_list]; exact h2, List.all_eq_true.mpr fun c hc => by simpa using h3 c hc⟩
theorem nodup_len {α : Type} [DecidableEq α] : ∀ {xs ys : List α}, xs.Nodup → (∀ x ∈ xs, x ∈ ys) → xs.length ≤ ys.length
  | [], ys, _, _ => Nat.zero_le _
  | x :: xs, ys, nd, h => by
    have hx := h x List.mem_cons_self
    have nd' := List.nodup_cons.mp nd
    have := nodup_len (ys := ys.erase x) nd'.2 fun z hz => by
      have : z ≠ x := fun e => nd'.1 (e ▸ hz)
      exact (List.mem_erase_of_ne this).mpr (h z (List.mem_cons_of_mem _ hz))
    rw [List.length_erase_of_mem hx] at this
    have : 0 < ys.length := List.length_pos_of_mem hx
    simp only [List.length_cons]
    omega
/-! labels as the laws draw them -/
def LabW (l : Str) : Prop := TagW l ∨ l = ("$int" : Str) ∨ l = ("$text" : Str)
theorem LabW.label {l : Str} (h : LabW l) : isLabelS l = true := by
  rcases h with h | h | h
  · simp [isLabelS, h.tag]
  · subst h; decide +kernel
  · subst h; decide +kernel
theorem LabW.ok {l : Str} (h : LabW l) : okStr l = true := by
  rcases h with h | h | h
  · exact h.ok
  · subst h; decide +kernel
  · subst h; decide +kernel
theorem LabW.len {l : Str} (h : LabW l) : 1 ≤ l.length ∧ l.length ≤ 8 := by
  rcases h with h | h | h
  · exact ⟨h.pos, h.le⟩
  · subst h; decide +kernel
  · subst h; decide +kernel
theorem LabW.bare {l : Str} (h : LabW l) : bareS l = l := by
  rcases h with h | h | h
  · exact h.bare
  · subst h; decide +kernel
  · subst h; decide +kernel
theorem LabW.kind {l : Str} (h : LabW l) : (cutStr l none (some 1) == ("$" : Str)) = isKindS l := lawKind_eq h.label
theorem LabW.kindP {l : Str} (h : LabW l) : (cutStr l none (some 1) = ("$" : Str)) = (isKindS l = true) := by
  rw [← h.kind]; simp
theorem LabW.tag {l : Str} (h : LabW l) (k : isKindS l = false) : isTagS l = true := by
  have := h.label
  simpa [isLabelS, k] using this
theorem LabW.sm {l : Str} (h : LabW l) : Sm (.str l) := ⟨by simpa [pvU] using h.ok, by have := h.len; simp only [nd]; omega⟩
structure LabL (ls : List Str) : Prop where
  all : ∀ l ∈ ls, LabW l
  nodup : ls.Nodup
  sorted : sortedS ls = true
  tag : ∃ l ∈ ls, isKindS l = false
theorem LabL.ne {ls : List Str} (h : LabL ls) : ls ≠ [] := by
  obtain ⟨l, hl, _⟩ := h.tag
  exact List.ne_nil_of_mem hl
structure Gp (ls : List Str) (p : U) (d : Nat) : Prop where
  part : isPart p = true
  pv : pvU p = true
  sz : nd p ≤ 16 * (labelsP p).length
  dep : depU p ≤ 2 * d + 2
  pos : 0 < (labelsP p).length
  lab : ∀ l ∈ labelsP p, l ∈ ls
structure Gps (ls : List Str) (ps : List U) (d : Nat) : Prop where
  part : ∀ p ∈ ps, isPart p = true
  pv : pvUs ps = true
  sz : nds ps ≤ 16 * (labelsPs ps).length
  dep : depUs ps ≤ 2 * d
  lab : ∀ l ∈ labelsPs ps, l ∈ ls
theorem labelsPs_append : ∀ {a b : List U}, labelsPs (a ++ b) = labelsPs a ++ labelsPs b
  | [], b => by simp [labelsPs]
  | x :: a, b => by simp [labelsPs, labelsPs_append (a := a)]
theorem labelsPs_single {p : U} : labelsPs [p] = labelsP p := by simp [labelsPs]
theorem Gp.mono {ls : List Str} {p : U} {d e : Nat} (g : Gp ls p d) (h : d ≤ e) : Gp ls p e := ⟨g.part, g.pv, g.sz, by have := g.dep; omega, g.pos, g.lab⟩
theorem Gps.nil {ls : List Str} {d : Nat} : Gps ls [] d := ⟨by simp, by simp [pvUs], by simp [nds], by simp [depUs], by simp [labelsPs]⟩
theorem Gps.snoc {ls : List Str} {ps : List U} {p : U} {d : Nat} (h : Gps ls ps (d + 1)) (g : Gp ls p d) : Gps ls (ps ++ [p]) (d + 1) := by
  refine ⟨fun q hq => ?_, ?_, ?_, ?_, ?_⟩
  · rcases List.mem_append.mp hq with h' | h'
    · exact h.part q h'
    · simp at h'; subst h'; exact g.part
  · rw [pvUs_append, h.pv]; simp [pvUs, g.pv]
  · have := h.sz; have := g.sz
    rw [nds_append, labelsPs_append, labelsPs_single]
    simp [nds]; omega
  · have := h.dep; have := g.dep
    rw [depUs_append]
    simp [depUs]; omega
  · rw [labelsPs_append, labelsPs_single]
    intro l hl
    rcases List.mem_append.mp hl with h' | h'
    · exact h.lab l h'
    · exact g.lab l h'
theorem Gp.tag {ls : List Str} {l : Str} {ps : List U} {d : Nat} (hm : l ∈ ls) (hl : LabW l) (hk : isKindS l = false) (h : Gps ls ps d) : Gp ls (.tup [.str l, .tup ps]) d := by
  have ht := hl.tag hk
  have e : (labelsP (.tup [.str l, .tup ps])).length = (labelsPs ps).length + 1 := by rw [labelsP_tag]; simp
  refine ⟨?_, ?_, ?_, ?_, ?_, ?_⟩
  · unfold isPart
    rw [if_neg (by simp [hk]), ht]
    unfold isPartsT
    rw [isParts_all]
    simpa using h.part
  · simp [pvU, pvUs, hl.ok, h.pv]
  · rw [e]
    have := h.sz
    have := hl.len
    simp only [nd, nds]
    omega
  · have := h.dep
    simp only [depU, depUs]
    omega
  · omega
  · rw [labelsP_tag]
    intro x hx
    rcases List.mem_cons.mp hx with e | hx
    · subst e; exact hm
    · exact h.lab x hx
theorem Gp.leaf {ls : List Str} {l x : Str} {d : Nat} (hm : l ∈ ls) (hl : LabW l) (hk : isKindS l = true) (h1 : isTextS l x = true) (h2 : okStr x = true) (h3 : x.length ≤ 5) : Gp ls (.tup [.str l, .str x]) d := by
  have e : (labelsP (.tup [.str l, .str x])).length = 1 := by rw [labelsP_kind]; simp
  refine ⟨?_, ?_, ?_, ?_, ?_, ?_⟩
  · unfold isPart
    rw [if_pos hk]
    exact h1
  · simp [pvU, pvUs, hl.ok, h2]
  · rw [e]
    have := hl.len
    simp only [nd, nds]
    omega
  · simp only [depU, depUs]
    omega
  · omega
  · rw [labelsP_kind]; simpa using hm
end Sem
namespace Pu
open PySem PySem.Spec PyProof.Rows L2
theorem put_swap {M : Mp} {r p : Addr} {o o' x : MO} (h : r ≠ p) : put (put (put M r o) p x) r o' = put (put M r o') p x := by
  funext c
  by_cases c1 : c = r
  · subst c1; rw [put_same, put_ne h, put_same]
  · rw [put_ne c1]
    by_cases c2 : c = p
    · subst c2; rw [put_same, put_same]
    · rw [put_ne c2, put_ne c2, put_ne c1, put_ne c1]
open PySem PySem.Spec PyProof.Rows L2
theorem Fewer.own {M M' : Mp} {q : Addr} {o : MO} (s : Fewer M M') (h : M q = none) : Fewer M (put M' q o) := fun a u e => by
  have : a ≠ q := fun z => by rw [z, h] at e; cases e
  rw [put_ne this]; exact s a u e
theorem any_str (xs : List Str) (x : Str) : (xs.map U.str).any (fun z => eqU z (.str x)) = decide (x ∈ xs) := by
  induction xs with
  | nil => rfl
  | cons y ys ih =>
    rw [List.map_cons, List.any_cons, ih]
    have : eqU (.str y) (.str x) = decide (x = y) := by
      simp only [eqU]
      rw [Bool.eq_iff_iff]
      simp
      exact eq_comm
    rw [this]
    by_cases h : x = y
    · simp [h]
    · simp [h]
theorem scal_strs (xs : List Str) : (xs.map U.str).all Scal = true := by simp [Scal]
/-- x (not) in a list of texts that a handle holds -/
theorem uIn_strs {M : Mp} {p : Addr} {xs : List Str} {x : Str} {R : UK} (m : M p = some (.lst (xs.map .str))) (q : R (.bl (decide (x ∈ xs))) M) : uIn0 (.str x) (.ref p) M R :=
  .inl ⟨xs.map .str, by simp [seqOf, lstOf, m], .inl ⟨rfl, scal_strs xs⟩, by rw [if_neg Bool.false_ne_true, any_str]; exact q⟩
theorem uNotIn_strs {M : Mp} {p : Addr} {xs : List Str} {x : Str} {R : UK} (m : M p = some (.lst (xs.map .str))) (q : R (.bl (!decide (x ∈ xs))) M) : uNotIn0 (.str x) (.ref p) M R :=
  .inl ⟨xs.map .str, by simp [seqOf, lstOf, m], .inl ⟨rfl, scal_strs xs⟩, by rw [if_pos rfl, any_str]; exact q⟩
theorem comp_filterM {gt : WG} {tc : WT} {te : WE} {su1 : Sg} {M : Mp} {us : List U} {R : UK} (p : U → Bool) (f : U → U) (hz : us.length ≤ sizeLine)
    (h : ∀ x ∈ us, ∀ D a (R : Bool → UK), M D = none → R (p x) (f x) (put M D (.lst a)) → gt x su1 (put M D (.lst a)) fun su2 M1 => tc su2 M1 fun k M2 => if k = true then te su2 M2 (R true) else R false (f x) M2) (q : R (.lst ((us.filter p).map f)) M) :
    CompG false Any gt tc te su1 us M R := fun D hD =>
  ⟨trivial, compU_filter hD p f (fun acc => trivial) us [] _ (fun x hx a R r => h x hx D a R hD r) (by simpa using hz) (by
    unfold compEnd
    rw [if_neg Bool.false_ne_true, del_put hD]
    simpa using q)⟩
theorem comp_mapM {gt : WG} {te : WE} {su1 : Sg} {M : Mp} {us : List U} {R : UK} (f : U → U) (hz : us.length ≤ sizeLine)
    (h : ∀ x ∈ us, ∀ D a (R : UK), M D = none → R (f x) (put M D (.lst a)) → gt x su1 (put M D (.lst a)) fun su2 M1 => te su2 M1 R) (q : R (.lst (us.map f)) M) : CompG false Any gt wYes te su1 us M R := fun D hD =>
  ⟨trivial, compU_map hD f (fun acc => trivial) us [] _ (fun x hx a R r => h x hx D a R hD r) (by simpa using hz) (by
    unfold compEnd
    rw [if_neg Bool.false_ne_true, del_put hD]
    simpa using q)⟩
/-- a for by its invariant, what follows a turn kept closed -/
theorem loop_K {keep : Mp → Prop} {gt : WG} {tb : WS} {D : UEnds} (I : List U → Sg → Mp → Prop) (us : List U) (su : Sg) (M : Mp) (h0 : I us su M) (hn : ∀ s m, I [] s m → D.nx s m)
    (hc : ∀ x r s m (K : Sg → Mp → Prop), I (x :: r) s m → (∀ s' m', keep m' → I r s' m' → K s' m') → gt x s m fun su1 M1 => tb { D with nx := K, ct := K, bk := D.nx } su1 M1) :
    loopU keep gt tb us D su M :=
  loop_ind I us su M h0 hn fun x r s m hi ih => hc x r s m (fun s m => keep m ∧ loopU keep gt tb r D s m) hi fun s' m' k i => ⟨k, ih s' m' i⟩
/-! comprehensions whose items are told by what they are made of -/
def Rel2 (Q : U → U → Prop) : List U → List U → Prop
  | [], ys => ys = []
  | x :: xs, ys => ∃ y r, ys = y :: r ∧ Q x y ∧ Rel2 Q xs r
theorem Rel2.length {Q : U → U → Prop} : ∀ {xs ys : List U}, Rel2 Q xs ys → ys.length = xs.length
  | [], ys, h => by unfold Rel2 at h; rw [h]
  | x :: xs, ys, h => by
    unfold Rel2 at h
    obtain ⟨y, r, rfl, _, h⟩ := h
    simp [Rel2.length h]
theorem Rel2.nil {Q : U → U → Prop} : Rel2 Q [] [] := by unfold Rel2; rfl
theorem Rel2.cons {Q : U → U → Prop} {x y : U} {xs ys : List U} (h : Q x y) (r : Rel2 Q xs ys) : Rel2 Q (x :: xs) (y :: ys) := by unfold Rel2; exact ⟨y, ys, rfl, h, r⟩
theorem Rel2.mem {Q : U → U → Prop} : ∀ {xs ys : List U}, Rel2 Q xs ys → ∀ y ∈ ys, ∃ x ∈ xs, Q x y
  | [], ys, h, y, hy => by unfold Rel2 at h; rw [h] at hy; cases hy
  | x :: xs, ys, h, y, hy => by
    unfold Rel2 at h
    obtain ⟨z, r, rfl, q, h⟩ := h
    rcases List.mem_cons.mp hy with e | hy
    · subst e; exact ⟨x, List.mem_cons_self, q⟩
    · obtain ⟨w, hw, q⟩ := Rel2.mem h y hy
      exact ⟨w, List.mem_cons_of_mem _ hw, q⟩
theorem compU_rel {D : Addr} {gt : WG} {te : WE} {su1 : Sg} {M : Mp} {Q : U → U → Prop} : ∀ (us acc : List U) (R : List U → Mp → Prop),
    (∀ x ∈ us, ∀ a (R : UK), (∀ y, Q x y → R y (put M D (.lst a))) → gt x su1 (put M D (.lst a)) fun su2 M1 => te su2 M1 R) → acc.length + us.length ≤ sizeLine → (∀ vs, Rel2 Q us vs → R (acc ++ vs) (put M D (.lst (acc ++ vs)))) → compU D Any gt wYes te su1 us (put M D (.lst acc)) R
  | [], acc, R, _, _, q => ⟨acc, put_same, by simpa using q [] .nil⟩
  | x :: r, acc, R, h, hz, q => by
    unfold compU
    refine h x List.mem_cons_self acc (fun y M1 => ∃ acc, M1 D = some (.lst acc) ∧ acc.length < sizeLine ∧ Any (put M1 D (.lst (acc ++ [y]))) ∧ compU D Any gt wYes te su1 r (put M1 D (.lst (acc ++ [y]))) R) fun y hy => ⟨acc, put_same, by simp at hz; omega, trivial, ?_⟩
    rw [put_put]
    refine compU_rel r (acc ++ [y]) R (fun y hy => h y (List.mem_cons_of_mem _ hy)) (by simp at hz ⊢; omega) fun vs h1 => ?_
    have := q (y :: vs) (.cons hy h1)
    simpa using this
theorem comp_rel {gt : WG} {te : WE} {su1 : Sg} {M : Mp} {us : List U} {R : UK} {Q : U → U → Prop} (hz : us.length ≤ sizeLine)
    (h : ∀ x ∈ us, ∀ D a (R : UK), M D = none → (∀ y, Q x y → R y (put M D (.lst a))) → gt x su1 (put M D (.lst a)) fun su2 M1 => te su2 M1 R) (q : ∀ vs, Rel2 Q us vs → R (.lst vs) M) : CompG false Any gt wYes te su1 us M R := fun D hD =>
  ⟨trivial, compU_rel us [] _ (fun x hx a R q => h x hx D a R hD q) (by simpa using hz) fun vs h1 => by
    unfold compEnd
    rw [if_neg Bool.false_ne_true, List.nil_append, del_put hD]
    exact q vs h1⟩
end Pu
namespace Sem
open PySem PySem.Spec PyProof.Rows L2 Pu
/-! marks -/
theorem bare_mark (l : Str) : bareS (l ++ ("!" : Str)) = l := by
  have e0 : (l ++ ("!" : Str)).cps.toList = l.cps.toList ++ [33] := app_list _ _
  have e1 : cutStr (l ++ ("!" : Str)) (some (-1)) none = ("!" : Str) := by
    apply str_ext
    rw [cutStr_list, cut_last, e0]
    simp
    rfl
  unfold bareS
  rw [if_pos (by rw [e1]; simp)]
  apply str_ext
  rw [cutStr_list, cut_init, e0]
  simp
theorem app_empty (l : Str) : l ++ ("" : Str) = l := str_ext (by rw [app_list]; exact List.append_nil _)
/-- a label, marked or not -/
theorem mark_bare {l m : Str} (h : LabW l) (hm : m = ("!" : Str) ∨ m = ("" : Str)) : bareS (l ++ m) = l ∧ okStr (l ++ m) = true ∧ (l ++ m).length ≤ l.length + 1 := by
  rcases hm with e | e <;> subst e
  · refine ⟨bare_mark l, ?_, ?_⟩
    · have := h.ok
      unfold okStr at *
      rw [← Array.all_toList] at *
      rw [app_list, List.all_append, this]
      decide +kernel
    · rw [slen_list, app_list, List.length_append, ← slen_list]
      exact Nat.le_refl _
  · rw [app_empty]
    exact ⟨h.bare, h.ok, by omega⟩
theorem mark_same {l m : Str} (h : bareS m = bareS l) : isKindS m = isKindS l ∧ isTagS m = isTagS l ∧ ∀ x, isTextS m x = isTextS l x := by
  refine ⟨by unfold isKindS; rw [h], by unfold isTagS; rw [h], fun x => by unfold isTextS; rw [h]⟩
theorem labels_mem {l : Str} {p : U} : ∀ {ps : List U}, p ∈ ps → l ∈ labelsP p → l ∈ labelsPs ps
  | q :: ps, hp, hl => by
    simp only [labelsPs, List.mem_append]
    rcases List.mem_cons.mp hp with e | hp
    · subst e; exact .inl hl
    · exact .inr (labels_mem hp hl)
/-- p with some of its labels marked -/
structure Mkd (p q : U) : Prop where
  part : isPart q = true
  pv : pvU q = true
  sz : nd q ≤ nd p + (labelsP p).length
  dep : depU q = depU p
  doc : isDoc q = isDoc p
theorem mkds {ps qs : List U} (h : Rel2 Mkd ps qs) : (∀ q ∈ qs, isPart q = true) ∧ pvUs qs = true ∧ nds qs ≤ nds ps + (labelsPs ps).length ∧ depUs qs = depUs ps := by
  induction ps generalizing qs with
  | nil => unfold Rel2 at h; subst h; simp [pvUs, nds, depUs]
  | cons p ps ih =>
    unfold Rel2 at h
    obtain ⟨q, r, rfl, m, h⟩ := h
    obtain ⟨h1, h2, h3, h4⟩ := ih h
    refine ⟨fun x hx => ?_, by simp [pvUs, m.pv, h2], ?_, by simp only [depUs, m.dep, h4]⟩
    · rcases List.mem_cons.mp hx with e | hx
      · subst e; exact m.part
      · exact h1 x hx
    · have := m.sz
      simp only [nds, labelsPs, List.length_append]
      omega
end Sem

/-! The walk of the text: printed by gen.py. -/
namespace Law
open PySem PySem.Spec PyProof.Rows L2 Pu
def top (i : Nat) : Stmt := PySem.Challenge.pw_shapeskept_k16_guards.main.body.getD i (.Pass ⟨0, 0, 0, 0⟩)
abbrev st_is_int : Stmt := top 9
abbrev st_is_row : Stmt := top 10
abbrev st_is_index_below : Stmt := top 11
abbrev st_bare : Stmt := top 12
abbrev st_is_tag : Stmt := top 13
abbrev st_is_kind : Stmt := top 14
abbrev st_is_integer_text : Stmt := top 16
abbrev st_is_text_of : Stmt := top 17
abbrev st_is_part : Stmt := top 19
abbrev st_is_document : Stmt := top 20
abbrev st_check_document : Stmt := top 21
abbrev st_parts_of : Stmt := top 22
abbrev st_has_place : Stmt := top 24
abbrev st_is_place : Stmt := top 25
abbrev st_is_kind_shape_work : Stmt := top 30
abbrev st_at_place : Stmt := top 32
abbrev st_with_part : Stmt := top 33
abbrev st_labels_of : Stmt := top 34
abbrev st_is_guard_kind : Stmt := top 37
abbrev st_check_guard_kind : Stmt := top 38
abbrev st_check_at : Stmt := top 39
abbrev st_guard_at : Stmt := top 40
abbrev st_guard_of : Stmt := top 41
abbrev st_exchanged : Stmt := top 42
abbrev st__law_well : Stmt := top 44
abbrev st__law_pick : Stmt := top 45
abbrev st__law_one : Stmt := top 46
abbrev st__law_some : Stmt := top 47
abbrev st__law_same : Stmt := top 48
abbrev st__law_is_int : Stmt := top 49
abbrev st__law_is_row : Stmt := top 50
abbrev st__law_bent : Stmt := top 51
abbrev st__law_tags : Stmt := top 52
abbrev st__law_labels : Stmt := top 53
abbrev st__law_is_leaf : Stmt := top 54
abbrev st__law_leaf : Stmt := top 55
abbrev st__law_part : Stmt := top 56
abbrev st__law_document : Stmt := top 57
abbrev st__law_places : Stmt := top 58
abbrev st__law_at : Stmt := top 59
abbrev st__law_put : Stmt := top 60
abbrev st__law_is_tag : Stmt := top 61
abbrev st__law_is_label : Stmt := top 62
abbrev st__law_is_text : Stmt := top 63
abbrev st__law_is_part : Stmt := top 64
abbrev st__law_is_document : Stmt := top 65
abbrev st__law_is_place : Stmt := top 66
abbrev st__law_guard : Stmt := top 67
abbrev st__law_asked : Stmt := top 68
abbrev st__law_some_marks : Stmt := top 69
abbrev st__law_document_right : Stmt := top 70
abbrev st__law_errors_right : Stmt := top 71
abbrev st_law : Stmt := top 72
abbrev c_MOST_LETTERS : U := (.int 8)
abbrev c_LETTERS : U := (.str "abcdefghijklmnopqrstuvwxyz")
abbrev c_DIGITS : U := (.str "0123456789")
abbrev c_GUARD_KINDS : U := (.tup [(.str "flat"), (.str "one-way"), (.str "onward")])
abbrev kv_PLAIN_TEXTS : List (Str × U) := [("$int", (.str "0")), ("$text", (.str ""))]
def defs0 : List (Str × Str × Stmt) := [("is_int", "is_int", st_is_int), ("is_row", "is_row", st_is_row), ("is_index_below", "is_index_below", st_is_index_below), ("bare", "bare", st_bare), ("is_tag", "is_tag", st_is_tag), ("is_kind_labels", "is_kind", st_is_kind), ("is_integer_text", "is_integer_text", st_is_integer_text), ("is_text_of", "is_text_of", st_is_text_of), ("is_part", "is_part", st_is_part), ("is_document", "is_document", st_is_document), ("check_document", "check_document", st_check_document), ("parts_of", "parts_of", st_parts_of), ("has_place", "has_place", st_has_place), ("is_place", "is_place", st_is_place), ("is_kind_shape_work", "is_kind", st_is_kind_shape_work), ("at_place", "at_place", st_at_place), ("with_part", "with_part", st_with_part), ("labels_of", "labels_of", st_labels_of), ("is_guard_kind", "is_guard_kind", st_is_guard_kind), ("check_guard_kind", "check_guard_kind", st_check_guard_kind), ("check_at", "check_at", st_check_at), ("guard_at", "guard_at", st_guard_at), ("guard_of", "guard_of", st_guard_of), ("exchanged", "exchanged", st_exchanged), ("_law_well", "_law_well", st__law_well), ("_law_pick", "_law_pick", st__law_pick), ("_law_one", "_law_one", st__law_one), ("_law_some", "_law_some", st__law_some), ("_law_same", "_law_same", st__law_same), ("_law_is_int", "_law_is_int", st__law_is_int)]
def defs1 : List (Str × Str × Stmt) := [("_law_is_row", "_law_is_row", st__law_is_row), ("_law_bent", "_law_bent", st__law_bent), ("_law_tags", "_law_tags", st__law_tags), ("_law_labels", "_law_labels", st__law_labels), ("_law_is_leaf", "_law_is_leaf", st__law_is_leaf), ("_law_leaf", "_law_leaf", st__law_leaf), ("_law_part", "_law_part", st__law_part), ("_law_document", "_law_document", st__law_document), ("_law_places", "_law_places", st__law_places), ("_law_at", "_law_at", st__law_at), ("_law_put", "_law_put", st__law_put), ("_law_is_tag", "_law_is_tag", st__law_is_tag), ("_law_is_label", "_law_is_label", st__law_is_label), ("_law_is_text", "_law_is_text", st__law_is_text), ("_law_is_part", "_law_is_part", st__law_is_part), ("_law_is_document", "_law_is_document", st__law_is_document), ("_law_is_place", "_law_is_place", st__law_is_place), ("_law_guard", "_law_guard", st__law_guard), ("_law_asked", "_law_asked", st__law_asked), ("_law_some_marks", "_law_some_marks", st__law_some_marks), ("_law_document_right", "_law_document_right", st__law_document_right), ("_law_errors_right", "_law_errors_right", st__law_errors_right), ("law", "law", st_law)]
def tx : Tx where
  free := ["int", "isinstance", "bool", "tuple", "len", "str", "all", "list", "min", "range", "sorted"]
  csts := [("MOST_LETTERS", c_MOST_LETTERS), ("LETTERS", c_LETTERS), ("DIGITS", c_DIGITS), ("GUARD_KINDS", c_GUARD_KINDS)]
  dics := [("PLAIN_TEXTS", kv_PLAIN_TEXTS)]
  excs := ["InvalidDocument", "InvalidGuard", "InvalidPlace", "InvalidExchange"]
  exms := [("InvalidExchange", "InvalidExchange", true), ("InvalidGuard", "InvalidGuard", true), ("InvalidExchange", "InvalidGuard", false), ("InvalidPlace", "InvalidPlace", true), ("InvalidGuard", "InvalidPlace", false), ("InvalidExchange", "InvalidPlace", false), ("InvalidDocument", "InvalidDocument", true), ("InvalidPlace", "InvalidDocument", false), ("InvalidGuard", "InvalidDocument", false), ("InvalidExchange", "InvalidDocument", false)]
  defs := defs0 ++ defs1
end Law
section
set_option maxHeartbeats 0
set_option maxRecDepth 100000
namespace Law
open PySem PySem.Spec PyProof.Rows L2 Pu PySem.W PySem.Calls HandSHeadRun
def names0 : List Str := ["ShapeError", "InvalidDocument", "InvalidPlace", "LETTERS", "DIGITS", "PLAIN_TEXTS", "MOST_LETTERS", "is_int", "is_row", "is_index_below", "bare", "is_tag", "is_kind", "is_kind_labels", "is_integer_text", "is_text_of", "is_part", "is_document", "check_document", "parts_of", "has_place", "is_place", "InvalidGuard", "InvalidExchange", "is_kind", "is_kind_shape_work", "at_place", "with_part", "labels_of", "GUARD_KINDS"]
def names1 : List Str := ["is_guard_kind", "check_guard_kind", "check_at", "guard_at", "guard_of", "exchanged", "_law_well", "_law_pick", "_law_one", "_law_some", "_law_same", "_law_is_int", "_law_is_row", "_law_bent", "_law_tags", "_law_labels", "_law_is_leaf", "_law_leaf", "_law_part", "_law_document", "_law_places", "_law_at", "_law_put", "_law_is_tag", "_law_is_label", "_law_is_text", "_law_is_part", "_law_is_document", "_law_is_place", "_law_guard"]
def names2 : List Str := ["_law_asked", "_law_some_marks", "_law_document_right", "_law_errors_right"]
abbrev Rw : PySem.W.OpenRow := PySem.W.OpenLaw.row PySem.Challenge.rw_shapeskept_k16_guards
theorem run : ∀ w : World, HandSHeadRun.RunEq Rw (PySem.W.view Rw.prog [72]) tx.hk tx.ob 20000 (names0 ++ names1 ++ names2) w :=
  byRow2 "special-get-raises" (P := fun w => HandSHeadRun.RunEq Rw (PySem.W.view Rw.prog [72]) tx.hk tx.ob 20000 (names0 ++ names1 ++ names2) w) (fun w => by intro os; kernel_rfl) (fun w => by intro os; kernel_rfl)
end Law
end
namespace Law
open PySem PySem.Spec PyProof.Rows L2 Pu
theorem mem_MOST_LETTERS : (("MOST_LETTERS" : Str), c_MOST_LETTERS) ∈ tx.csts := (.head _)
theorem mem_LETTERS : (("LETTERS" : Str), c_LETTERS) ∈ tx.csts := (.tail _ (.head _))
theorem mem_DIGITS : (("DIGITS" : Str), c_DIGITS) ∈ tx.csts := (.tail _ (.tail _ (.head _)))
theorem mem_GUARD_KINDS : (("GUARD_KINDS" : Str), c_GUARD_KINDS) ∈ tx.csts := (.tail _ (.tail _ (.tail _ (.head _))))
theorem mem_PLAIN_TEXTS : (("PLAIN_TEXTS" : Str), kv_PLAIN_TEXTS) ∈ tx.dics := (.head _)
theorem mem_is_int : (("is_int" : Str), ("is_int" : Str), st_is_int) ∈ tx.defs := List.mem_append_left _ ((.head _))
theorem mem_is_row : (("is_row" : Str), ("is_row" : Str), st_is_row) ∈ tx.defs := List.mem_append_left _ ((.tail _ (.head _)))
theorem mem_is_index_below : (("is_index_below" : Str), ("is_index_below" : Str), st_is_index_below) ∈ tx.defs := List.mem_append_left _ ((.tail _ (.tail _ (.head _))))
theorem mem_bare : (("bare" : Str), ("bare" : Str), st_bare) ∈ tx.defs := List.mem_append_left _ ((.tail _ (.tail _ (.tail _ (.head _)))))
theorem mem_is_tag : (("is_tag" : Str), ("is_tag" : Str), st_is_tag) ∈ tx.defs := List.mem_append_left _ ((.tail _ (.tail _ (.tail _ (.tail _ (.head _))))))
theorem mem_is_kind : (("is_kind_labels" : Str), ("is_kind" : Str), st_is_kind) ∈ tx.defs := List.mem_append_left _ ((.tail _ (.tail _ (.tail _ (.tail _ (.tail _ (.head _)))))))
theorem mem_is_integer_text : (("is_integer_text" : Str), ("is_integer_text" : Str), st_is_integer_text) ∈ tx.defs := List.mem_append_left _ ((.tail _ (.tail _ (.tail _ (.tail _ (.tail _ (.tail _ (.head _))))))))
theorem mem_is_text_of : (("is_text_of" : Str), ("is_text_of" : Str), st_is_text_of) ∈ tx.defs := List.mem_append_left _ ((.tail _ (.tail _ (.tail _ (.tail _ (.tail _ (.tail _ (.tail _ (.head _)))))))))
theorem mem_is_part : (("is_part" : Str), ("is_part" : Str), st_is_part) ∈ tx.defs := List.mem_append_left _ ((.tail _ (.tail _ (.tail _ (.tail _ (.tail _ (.tail _ (.tail _ (.tail _ (.head _))))))))))
theorem mem_is_document : (("is_document" : Str), ("is_document" : Str), st_is_document) ∈ tx.defs := List.mem_append_left _ ((.tail _ (.tail _ (.tail _ (.tail _ (.tail _ (.tail _ (.tail _ (.tail _ (.tail _ (.head _)))))))))))
theorem mem_check_document : (("check_document" : Str), ("check_document" : Str), st_check_document) ∈ tx.defs := List.mem_append_left _ ((.tail _ (.tail _ (.tail _ (.tail _ (.tail _ (.tail _ (.tail _ (.tail _ (.tail _ (.tail _ (.head _))))))))))))
theorem mem_parts_of : (("parts_of" : Str), ("parts_of" : Str), st_parts_of) ∈ tx.defs := List.mem_append_left _ ((.tail _ (.tail _ (.tail _ (.tail _ (.tail _ (.tail _ (.tail _ (.tail _ (.tail _ (.tail _ (.tail _ (.head _)))))))))))))
theorem mem_has_place : (("has_place" : Str), ("has_place" : Str), st_has_place) ∈ tx.defs := List.mem_append_left _ ((.tail _ (.tail _ (.tail _ (.tail _ (.tail _ (.tail _ (.tail _ (.tail _ (.tail _ (.tail _ (.tail _ (.tail _ (.head _))))))))))))))
theorem mem_is_place : (("is_place" : Str), ("is_place" : Str), st_is_place) ∈ tx.defs := List.mem_append_left _ ((.tail _ (.tail _ (.tail _ (.tail _ (.tail _ (.tail _ (.tail _ (.tail _ (.tail _ (.tail _ (.tail _ (.tail _ (.tail _ (.head _)))))))))))))))
theorem mem_is_kind_shape_work : (("is_kind_shape_work" : Str), ("is_kind" : Str), st_is_kind_shape_work) ∈ tx.defs := List.mem_append_left _ ((.tail _ (.tail _ (.tail _ (.tail _ (.tail _ (.tail _ (.tail _ (.tail _ (.tail _ (.tail _ (.tail _ (.tail _ (.tail _ (.tail _ (.head _))))))))))))))))
theorem mem_at_place : (("at_place" : Str), ("at_place" : Str), st_at_place) ∈ tx.defs := List.mem_append_left _ ((.tail _ (.tail _ (.tail _ (.tail _ (.tail _ (.tail _ (.tail _ (.tail _ (.tail _ (.tail _ (.tail _ (.tail _ (.tail _ (.tail _ (.tail _ (.head _)))))))))))))))))
theorem mem_with_part : (("with_part" : Str), ("with_part" : Str), st_with_part) ∈ tx.defs := List.mem_append_left _ ((.tail _ (.tail _ (.tail _ (.tail _ (.tail _ (.tail _ (.tail _ (.tail _ (.tail _ (.tail _ (.tail _ (.tail _ (.tail _ (.tail _ (.tail _ (.tail _ (.head _))))))))))))))))))
theorem mem_labels_of : (("labels_of" : Str), ("labels_of" : Str), st_labels_of) ∈ tx.defs := List.mem_append_left _ ((.tail _ (.tail _ (.tail _ (.tail _ (.tail _ (.tail _ (.tail _ (.tail _ (.tail _ (.tail _ (.tail _ (.tail _ (.tail _ (.tail _ (.tail _ (.tail _ (.tail _ (.head _)))))))))))))))))))
theorem mem_is_guard_kind : (("is_guard_kind" : Str), ("is_guard_kind" : Str), st_is_guard_kind) ∈ tx.defs := List.mem_append_left _ ((.tail _ (.tail _ (.tail _ (.tail _ (.tail _ (.tail _ (.tail _ (.tail _ (.tail _ (.tail _ (.tail _ (.tail _ (.tail _ (.tail _ (.tail _ (.tail _ (.tail _ (.tail _ (.head _))))))))))))))))))))
theorem mem_check_guard_kind : (("check_guard_kind" : Str), ("check_guard_kind" : Str), st_check_guard_kind) ∈ tx.defs := List.mem_append_left _ ((.tail _ (.tail _ (.tail _ (.tail _ (.tail _ (.tail _ (.tail _ (.tail _ (.tail _ (.tail _ (.tail _ (.tail _ (.tail _ (.tail _ (.tail _ (.tail _ (.tail _ (.tail _ (.tail _ (.head _)))))))))))))))))))))
theorem mem_check_at : (("check_at" : Str), ("check_at" : Str), st_check_at) ∈ tx.defs := List.mem_append_left _ ((.tail _ (.tail _ (.tail _ (.tail _ (.tail _ (.tail _ (.tail _ (.tail _ (.tail _ (.tail _ (.tail _ (.tail _ (.tail _ (.tail _ (.tail _ (.tail _ (.tail _ (.tail _ (.tail _ (.tail _ (.head _))))))))))))))))))))))
theorem mem_guard_at : (("guard_at" : Str), ("guard_at" : Str), st_guard_at) ∈ tx.defs := List.mem_append_left _ ((.tail _ (.tail _ (.tail _ (.tail _ (.tail _ (.tail _ (.tail _ (.tail _ (.tail _ (.tail _ (.tail _ (.tail _ (.tail _ (.tail _ (.tail _ (.tail _ (.tail _ (.tail _ (.tail _ (.tail _ (.tail _ (.head _)))))))))))))))))))))))
theorem mem_guard_of : (("guard_of" : Str), ("guard_of" : Str), st_guard_of) ∈ tx.defs := List.mem_append_left _ ((.tail _ (.tail _ (.tail _ (.tail _ (.tail _ (.tail _ (.tail _ (.tail _ (.tail _ (.tail _ (.tail _ (.tail _ (.tail _ (.tail _ (.tail _ (.tail _ (.tail _ (.tail _ (.tail _ (.tail _ (.tail _ (.tail _ (.head _))))))))))))))))))))))))
theorem mem_exchanged : (("exchanged" : Str), ("exchanged" : Str), st_exchanged) ∈ tx.defs := List.mem_append_left _ ((.tail _ (.tail _ (.tail _ (.tail _ (.tail _ (.tail _ (.tail _ (.tail _ (.tail _ (.tail _ (.tail _ (.tail _ (.tail _ (.tail _ (.tail _ (.tail _ (.tail _ (.tail _ (.tail _ (.tail _ (.tail _ (.tail _ (.tail _ (.head _)))))))))))))))))))))))))
theorem mem__law_well : (("_law_well" : Str), ("_law_well" : Str), st__law_well) ∈ tx.defs := List.mem_append_left _ ((.tail _ (.tail _ (.tail _ (.tail _ (.tail _ (.tail _ (.tail _ (.tail _ (.tail _ (.tail _ (.tail _ (.tail _ (.tail _ (.tail _ (.tail _ (.tail _ (.tail _ (.tail _ (.tail _ (.tail _ (.tail _ (.tail _ (.tail _ (.tail _ (.head _))))))))))))))))))))))))))
theorem mem__law_pick : (("_law_pick" : Str), ("_law_pick" : Str), st__law_pick) ∈ tx.defs := List.mem_append_left _ ((.tail _ (.tail _ (.tail _ (.tail _ (.tail _ (.tail _ (.tail _ (.tail _ (.tail _ (.tail _ (.tail _ (.tail _ (.tail _ (.tail _ (.tail _ (.tail _ (.tail _ (.tail _ (.tail _ (.tail _ (.tail _ (.tail _ (.tail _ (.tail _ (.tail _ (.head _)))))))))))))))))))))))))))
theorem mem__law_one : (("_law_one" : Str), ("_law_one" : Str), st__law_one) ∈ tx.defs := List.mem_append_left _ ((.tail _ (.tail _ (.tail _ (.tail _ (.tail _ (.tail _ (.tail _ (.tail _ (.tail _ (.tail _ (.tail _ (.tail _ (.tail _ (.tail _ (.tail _ (.tail _ (.tail _ (.tail _ (.tail _ (.tail _ (.tail _ (.tail _ (.tail _ (.tail _ (.tail _ (.tail _ (.head _))))))))))))))))))))))))))))
theorem mem__law_some : (("_law_some" : Str), ("_law_some" : Str), st__law_some) ∈ tx.defs := List.mem_append_left _ ((.tail _ (.tail _ (.tail _ (.tail _ (.tail _ (.tail _ (.tail _ (.tail _ (.tail _ (.tail _ (.tail _ (.tail _ (.tail _ (.tail _ (.tail _ (.tail _ (.tail _ (.tail _ (.tail _ (.tail _ (.tail _ (.tail _ (.tail _ (.tail _ (.tail _ (.tail _ (.tail _ (.head _)))))))))))))))))))))))))))))
theorem mem__law_same : (("_law_same" : Str), ("_law_same" : Str), st__law_same) ∈ tx.defs := List.mem_append_left _ ((.tail _ (.tail _ (.tail _ (.tail _ (.tail _ (.tail _ (.tail _ (.tail _ (.tail _ (.tail _ (.tail _ (.tail _ (.tail _ (.tail _ (.tail _ (.tail _ (.tail _ (.tail _ (.tail _ (.tail _ (.tail _ (.tail _ (.tail _ (.tail _ (.tail _ (.tail _ (.tail _ (.tail _ (.head _))))))))))))))))))))))))))))))
theorem mem__law_is_int : (("_law_is_int" : Str), ("_law_is_int" : Str), st__law_is_int) ∈ tx.defs := List.mem_append_left _ ((.tail _ (.tail _ (.tail _ (.tail _ (.tail _ (.tail _ (.tail _ (.tail _ (.tail _ (.tail _ (.tail _ (.tail _ (.tail _ (.tail _ (.tail _ (.tail _ (.tail _ (.tail _ (.tail _ (.tail _ (.tail _ (.tail _ (.tail _ (.tail _ (.tail _ (.tail _ (.tail _ (.tail _ (.tail _ (.head _)))))))))))))))))))))))))))))))
theorem mem__law_is_row : (("_law_is_row" : Str), ("_law_is_row" : Str), st__law_is_row) ∈ tx.defs := List.mem_append_right _ (.head _)
theorem mem__law_bent : (("_law_bent" : Str), ("_law_bent" : Str), st__law_bent) ∈ tx.defs := List.mem_append_right _ (.tail _ (.head _))
theorem mem__law_tags : (("_law_tags" : Str), ("_law_tags" : Str), st__law_tags) ∈ tx.defs := List.mem_append_right _ (.tail _ (.tail _ (.head _)))
theorem mem__law_labels : (("_law_labels" : Str), ("_law_labels" : Str), st__law_labels) ∈ tx.defs := List.mem_append_right _ (.tail _ (.tail _ (.tail _ (.head _))))
theorem mem__law_is_leaf : (("_law_is_leaf" : Str), ("_law_is_leaf" : Str), st__law_is_leaf) ∈ tx.defs := List.mem_append_right _ (.tail _ (.tail _ (.tail _ (.tail _ (.head _)))))
theorem mem__law_leaf : (("_law_leaf" : Str), ("_law_leaf" : Str), st__law_leaf) ∈ tx.defs := List.mem_append_right _ (.tail _ (.tail _ (.tail _ (.tail _ (.tail _ (.head _))))))
theorem mem__law_part : (("_law_part" : Str), ("_law_part" : Str), st__law_part) ∈ tx.defs := List.mem_append_right _ (.tail _ (.tail _ (.tail _ (.tail _ (.tail _ (.tail _ (.head _)))))))
theorem mem__law_document : (("_law_document" : Str), ("_law_document" : Str), st__law_document) ∈ tx.defs := List.mem_append_right _ (.tail _ (.tail _ (.tail _ (.tail _ (.tail _ (.tail _ (.tail _ (.head _))))))))
theorem mem__law_places : (("_law_places" : Str), ("_law_places" : Str), st__law_places) ∈ tx.defs := List.mem_append_right _ (.tail _ (.tail _ (.tail _ (.tail _ (.tail _ (.tail _ (.tail _ (.tail _ (.head _)))))))))
theorem mem__law_at : (("_law_at" : Str), ("_law_at" : Str), st__law_at) ∈ tx.defs := List.mem_append_right _ (.tail _ (.tail _ (.tail _ (.tail _ (.tail _ (.tail _ (.tail _ (.tail _ (.tail _ (.head _))))))))))
theorem mem__law_put : (("_law_put" : Str), ("_law_put" : Str), st__law_put) ∈ tx.defs := List.mem_append_right _ (.tail _ (.tail _ (.tail _ (.tail _ (.tail _ (.tail _ (.tail _ (.tail _ (.tail _ (.tail _ (.head _)))))))))))
theorem mem__law_is_tag : (("_law_is_tag" : Str), ("_law_is_tag" : Str), st__law_is_tag) ∈ tx.defs := List.mem_append_right _ (.tail _ (.tail _ (.tail _ (.tail _ (.tail _ (.tail _ (.tail _ (.tail _ (.tail _ (.tail _ (.tail _ (.head _))))))))))))
theorem mem__law_is_label : (("_law_is_label" : Str), ("_law_is_label" : Str), st__law_is_label) ∈ tx.defs := List.mem_append_right _ (.tail _ (.tail _ (.tail _ (.tail _ (.tail _ (.tail _ (.tail _ (.tail _ (.tail _ (.tail _ (.tail _ (.tail _ (.head _)))))))))))))
theorem mem__law_is_text : (("_law_is_text" : Str), ("_law_is_text" : Str), st__law_is_text) ∈ tx.defs := List.mem_append_right _ (.tail _ (.tail _ (.tail _ (.tail _ (.tail _ (.tail _ (.tail _ (.tail _ (.tail _ (.tail _ (.tail _ (.tail _ (.tail _ (.head _))))))))))))))
theorem mem__law_is_part : (("_law_is_part" : Str), ("_law_is_part" : Str), st__law_is_part) ∈ tx.defs := List.mem_append_right _ (.tail _ (.tail _ (.tail _ (.tail _ (.tail _ (.tail _ (.tail _ (.tail _ (.tail _ (.tail _ (.tail _ (.tail _ (.tail _ (.tail _ (.head _)))))))))))))))
theorem mem__law_is_document : (("_law_is_document" : Str), ("_law_is_document" : Str), st__law_is_document) ∈ tx.defs := List.mem_append_right _ (.tail _ (.tail _ (.tail _ (.tail _ (.tail _ (.tail _ (.tail _ (.tail _ (.tail _ (.tail _ (.tail _ (.tail _ (.tail _ (.tail _ (.tail _ (.head _))))))))))))))))
theorem mem__law_is_place : (("_law_is_place" : Str), ("_law_is_place" : Str), st__law_is_place) ∈ tx.defs := List.mem_append_right _ (.tail _ (.tail _ (.tail _ (.tail _ (.tail _ (.tail _ (.tail _ (.tail _ (.tail _ (.tail _ (.tail _ (.tail _ (.tail _ (.tail _ (.tail _ (.tail _ (.head _)))))))))))))))))
theorem mem__law_guard : (("_law_guard" : Str), ("_law_guard" : Str), st__law_guard) ∈ tx.defs := List.mem_append_right _ (.tail _ (.tail _ (.tail _ (.tail _ (.tail _ (.tail _ (.tail _ (.tail _ (.tail _ (.tail _ (.tail _ (.tail _ (.tail _ (.tail _ (.tail _ (.tail _ (.tail _ (.head _))))))))))))))))))
theorem mem__law_asked : (("_law_asked" : Str), ("_law_asked" : Str), st__law_asked) ∈ tx.defs := List.mem_append_right _ (.tail _ (.tail _ (.tail _ (.tail _ (.tail _ (.tail _ (.tail _ (.tail _ (.tail _ (.tail _ (.tail _ (.tail _ (.tail _ (.tail _ (.tail _ (.tail _ (.tail _ (.tail _ (.head _)))))))))))))))))))
theorem mem__law_some_marks : (("_law_some_marks" : Str), ("_law_some_marks" : Str), st__law_some_marks) ∈ tx.defs := List.mem_append_right _ (.tail _ (.tail _ (.tail _ (.tail _ (.tail _ (.tail _ (.tail _ (.tail _ (.tail _ (.tail _ (.tail _ (.tail _ (.tail _ (.tail _ (.tail _ (.tail _ (.tail _ (.tail _ (.tail _ (.head _))))))))))))))))))))
theorem mem__law_document_right : (("_law_document_right" : Str), ("_law_document_right" : Str), st__law_document_right) ∈ tx.defs := List.mem_append_right _ (.tail _ (.tail _ (.tail _ (.tail _ (.tail _ (.tail _ (.tail _ (.tail _ (.tail _ (.tail _ (.tail _ (.tail _ (.tail _ (.tail _ (.tail _ (.tail _ (.tail _ (.tail _ (.tail _ (.tail _ (.head _)))))))))))))))))))))
theorem mem__law_errors_right : (("_law_errors_right" : Str), ("_law_errors_right" : Str), st__law_errors_right) ∈ tx.defs := List.mem_append_right _ (.tail _ (.tail _ (.tail _ (.tail _ (.tail _ (.tail _ (.tail _ (.tail _ (.tail _ (.tail _ (.tail _ (.tail _ (.tail _ (.tail _ (.tail _ (.tail _ (.tail _ (.tail _ (.tail _ (.tail _ (.tail _ (.head _))))))))))))))))))))))
theorem mem_law : (("law" : Str), ("law" : Str), st_law) ∈ tx.defs := List.mem_append_right _ (.tail _ (.tail _ (.tail _ (.tail _ (.tail _ (.tail _ (.tail _ (.tail _ (.tail _ (.tail _ (.tail _ (.tail _ (.tail _ (.tail _ (.tail _ (.tail _ (.tail _ (.tail _ (.tail _ (.tail _ (.tail _ (.tail _ (.head _)))))))))))))))))))))))
section
variable {P : Program} {w : World} {K : PySem.W.Frag} {mg : Str → Option Value} {base : Heap} {k : Nat}
/-! ### is_int -/
def N_is_int : List Str := ["value"]
def ps_is_int : List Str := ["value"]
theorem sc_is_int : FnScope N_is_int ps_is_int (defScope st_is_int) := ⟨rfl, rfl, rfl, by decide +kernel, rfl, by decide +kernel, by decide +kernel⟩
def w_is_int : UXK → WS := fun E =>
 (wSeq (wRet (wAnd (wCB uIsi (wCons (wVar 0) (wCons (wC (.ty "int")) wNil))) (wNot (wCB uIsi (wCons (wVar 0) (wCons (wC (.ty "bool")) wNil))))))
 wNext)
theorem jj_is_int (t : Txt tx w K mg) (X : Cx) (g : Gd) (E : UXK) (D : DefX P w K mg base k N_is_int (defScope st_is_int) X) (tk : Takes X (Wof X g fun ux _ M => E ux M)) : JSs X g (defBody st_is_int) (w_is_int E) :=
 have W := D.wk sc_is_int.nd; have hc := D.calm
 (jss_cons (js_ret (j_and (k_callB W ucal_isi (t.free "isinstance" (by decide +kernel)) (by decide +kernel) boot_fn_isinstance (by decide +kernel) (ja_cons (k_var W 0 (by decide +kernel)) (ja_cons (k_ty W (t.free "int" (by decide +kernel)) (by decide +kernel) boot_ty_int (by decide +kernel)) ja_nil rfl) rfl) rfl rfl) (j_one (j_not (k_callB W ucal_isi (t.free "isinstance" (by decide +kernel)) (by decide +kernel) boot_fn_isinstance (by decide +kernel) (ja_cons (k_var W 0 (by decide +kernel)) (ja_cons (k_ty W (t.free "bool" (by decide +kernel)) (by decide +kernel) boot_ty_bool (by decide +kernel)) ja_nil rfl) rfl) rfl rfl)))))
 jss_nil)
theorem bd_is_int (kV doc pm : Value) (an : Option Addr) (cdv ct : Value) (us : List Value) (hl : us.length = ps_is_int.length) : bindArgs (PySem.W.fnOf "is_int" "is_int" (defArgs st_is_int) (defBody st_is_int) (defScope st_is_int) .none kV doc pm an cdv ct) ⟨us, []⟩ = pure (ps_is_int.zip us) := match us, hl with | [_], _ => rfl
/-! ### is_row -/
def N_is_row : List Str := ["value", "size"]
def ps_is_row : List Str := ["value", "size"]
theorem sc_is_row : FnScope N_is_row ps_is_row (defScope st_is_row) := ⟨rfl, rfl, rfl, by decide +kernel, rfl, by decide +kernel, by decide +kernel⟩
def w_is_row : UXK → WS := fun E =>
 (wSeq (wRet (wAnd (wCB uIsi (wCons (wVar 0) (wCons (wC (.ty "tuple")) wNil))) (wBin uEq (wCB uLen (wCons (wVar 0) wNil)) (wVar 1))))
 wNext)
theorem jj_is_row (t : Txt tx w K mg) (X : Cx) (g : Gd) (E : UXK) (D : DefX P w K mg base k N_is_row (defScope st_is_row) X) (tk : Takes X (Wof X g fun ux _ M => E ux M)) : JSs X g (defBody st_is_row) (w_is_row E) :=
 have W := D.wk sc_is_row.nd; have hc := D.calm
 (jss_cons (js_ret (j_and (k_callB W ucal_isi (t.free "isinstance" (by decide +kernel)) (by decide +kernel) boot_fn_isinstance (by decide +kernel) (ja_cons (k_var W 0 (by decide +kernel)) (ja_cons (k_ty W (t.free "tuple" (by decide +kernel)) (by decide +kernel) boot_ty_tuple (by decide +kernel)) ja_nil rfl) rfl) rfl rfl) (j_one (j_cmp (uop_eq W.u64) (k_callB W ucal_len (t.free "len" (by decide +kernel)) (by decide +kernel) boot_fn_len (by decide +kernel) (ja_cons (k_var W 0 (by decide +kernel)) ja_nil rfl) rfl rfl) (k_var W 1 (by decide +kernel)) rfl))))
 jss_nil)
theorem bd_is_row (kV doc pm : Value) (an : Option Addr) (cdv ct : Value) (us : List Value) (hl : us.length = ps_is_row.length) : bindArgs (PySem.W.fnOf "is_row" "is_row" (defArgs st_is_row) (defBody st_is_row) (defScope st_is_row) .none kV doc pm an cdv ct) ⟨us, []⟩ = pure (ps_is_row.zip us) := match us, hl with | [_, _], _ => rfl
/-! ### is_index_below -/
def N_is_index_below : List Str := ["value", "count"]
def ps_is_index_below : List Str := ["value", "count"]
theorem sc_is_index_below : FnScope N_is_index_below ps_is_index_below (defScope st_is_index_below) := ⟨rfl, rfl, rfl, by decide +kernel, rfl, by decide +kernel, by decide +kernel⟩
def w_is_index_below (sp_is_int : USp) : UXK → WS := fun E =>
 (wSeq (wRet (wAnd (wCall sp_is_int (fun ux _ M => E ux M) (wCons (wVar 0) wNil)) (wChain uLe uLt (wC (.int 0)) (wVar 0) (wVar 1))))
 wNext)
theorem jj_is_index_below (t : Txt tx w K mg) {k_is_int : Nat} {sp_is_int : USp} (F_is_int : FnV P w K mg base k_is_int "is_int" st_is_int ps_is_int sp_is_int) (hk_is_int : k_is_int ≤ k) (X : Cx) (g : Gd) (E : UXK) (D : DefX P w K mg base k N_is_index_below (defScope st_is_index_below) X) (tk : Takes X (Wof X g fun ux _ M => E ux M)) : JSs X g (defBody st_is_index_below) (w_is_index_below sp_is_int E) :=
 have W := D.wk sc_is_index_below.nd; have hc := D.calm
 (jss_cons (js_ret (j_and (k_call W hc F_is_int hk_is_int tk (by decide +kernel) (ja_cons (k_var W 0 (by decide +kernel)) ja_nil rfl) rfl rfl) (j_one (j_chain uop_le (uop_lt W.u64) j_int (k_var W 0 (by decide +kernel)) (k_var W 1 (by decide +kernel)) rfl))))
 jss_nil)
theorem bd_is_index_below (kV doc pm : Value) (an : Option Addr) (cdv ct : Value) (us : List Value) (hl : us.length = ps_is_index_below.length) : bindArgs (PySem.W.fnOf "is_index_below" "is_index_below" (defArgs st_is_index_below) (defBody st_is_index_below) (defScope st_is_index_below) .none kV doc pm an cdv ct) ⟨us, []⟩ = pure (ps_is_index_below.zip us) := match us, hl with | [_, _], _ => rfl
/-! ### bare -/
def N_bare : List Str := ["label"]
def ps_bare : List Str := ["label"]
theorem sc_bare : FnScope N_bare ps_bare (defScope st_bare) := ⟨rfl, rfl, rfl, by decide +kernel, rfl, by decide +kernel, by decide +kernel⟩
def w_bare : UXK → WS := fun E =>
 (wSeq (wRet (wIf (wB (wBin uEq (wSl (wVar 0) (some (wUn uNeg (wC (.int 1)))) none) (wC (.str "!")))) (wSl (wVar 0) none (some (wUn uNeg (wC (.int 1))))) (wVar 0)))
 wNext)
theorem jj_bare (t : Txt tx w K mg) (X : Cx) (g : Gd) (E : UXK) (D : DefX P w K mg base k N_bare (defScope st_bare) X) (tk : Takes X (Wof X g fun ux _ M => E ux M)) : JSs X g (defBody st_bare) (w_bare E) :=
 have W := D.wk sc_bare.nd; have hc := D.calm
 (jss_cons (js_ret (j_if (jt_cmp (uop_eq W.u64) (j_slice (tl := (some (wUn uNeg (wC (.int 1))))) (th := none) (k_var W 0 (by decide +kernel)) (j_un uun_neg j_int) trivial) j_str rfl) (j_slice (tl := none) (th := (some (wUn uNeg (wC (.int 1))))) (k_var W 0 (by decide +kernel)) trivial (j_un uun_neg j_int)) (k_var W 0 (by decide +kernel))))
 jss_nil)
theorem bd_bare (kV doc pm : Value) (an : Option Addr) (cdv ct : Value) (us : List Value) (hl : us.length = ps_bare.length) : bindArgs (PySem.W.fnOf "bare" "bare" (defArgs st_bare) (defBody st_bare) (defScope st_bare) .none kV doc pm an cdv ct) ⟨us, []⟩ = pure (ps_bare.zip us) := match us, hl with | [_], _ => rfl
/-! ### is_tag -/
def N_is_tag : List Str := ["value", "tag", "sign"]
def ps_is_tag : List Str := ["value"]
theorem sc_is_tag : FnScope N_is_tag ps_is_tag (defScope st_is_tag) := ⟨rfl, rfl, rfl, by decide +kernel, rfl, by decide +kernel, by decide +kernel⟩
def w_is_tag (sp_bare : USp) : UXK → WS := fun E =>
 (wSeq (wIfS (wNotT (wTr (wCB uIsi (wCons (wVar 0) (wCons (wC (.ty "str")) wNil))))) (wSeq (wRet (wC (.bl false)))
 wNext)
 wNext)
 (wSeq (wSet 1 (wCall sp_bare (fun ux _ M => E ux M) (wCons (wVar 0) wNil)))
 (wSeq (wRet (wAnd (wChain uLe uLe (wC (.int 1)) (wCB uLen (wCons (wVar 1) wNil)) (wC c_MOST_LETTERS)) (wCB uAll (wCons (wComp false (wIt (wVar 1)) (wName 2) wYes (wBin uIn0 (wVar 2) (wC c_LETTERS)) [2]) wNil))))
 wNext)))
theorem jj_is_tag (t : Txt tx w K mg) {k_bare : Nat} {sp_bare : USp} (F_bare : FnV P w K mg base k_bare "bare" st_bare ps_bare sp_bare) (hk_bare : k_bare ≤ k) (X : Cx) (g : Gd) (E : UXK) (D : DefX P w K mg base k N_is_tag (defScope st_is_tag) X) (tk : Takes X (Wof X g fun ux _ M => E ux M)) : JSs X g (defBody st_is_tag) (w_is_tag sp_bare E) :=
 have W := D.wk sc_is_tag.nd; have hc := D.calm
 (jss_cons (js_if (jt_not (jt_truth (k_callB W ucal_isi (t.free "isinstance" (by decide +kernel)) (by decide +kernel) boot_fn_isinstance (by decide +kernel) (ja_cons (k_var W 0 (by decide +kernel)) (ja_cons (k_ty W (t.free "str" (by decide +kernel)) (by decide +kernel) boot_ty_str (by decide +kernel)) ja_nil rfl) rfl) rfl rfl) (fun _ => rfl))) (jss_cons (js_ret j_bl)
 jss_nil)
 jss_nil)
 (jss_cons (k_set W 1 (by decide +kernel) (k_call W hc F_bare hk_bare tk (by decide +kernel) (ja_cons (k_var W 0 (by decide +kernel)) ja_nil rfl) rfl rfl) rfl)
 (jss_cons (js_ret (j_and (j_chain uop_le uop_le j_int (k_callB W ucal_len (t.free "len" (by decide +kernel)) (by decide +kernel) boot_fn_len (by decide +kernel) (ja_cons (k_var W 1 (by decide +kernel)) ja_nil rfl) rfl rfl) (k_cst W (t.cst ("MOST_LETTERS", c_MOST_LETTERS) mem_MOST_LETTERS) (by decide +kernel)) rfl) (j_one (k_callB W (ucal_all hc) (t.free "all" (by decide +kernel)) (by decide +kernel) boot_fn_all (by decide +kernel) (ja_cons (k_comp W hc false [("sign", 2)] (by decide +kernel) (ji_it (k_var W 1 (by decide +kernel))) (fun Y1 W1 hc1 => ⟨(k_nameo W1 [2] 2 (by decide +kernel) (by decide)), jts_nil, (j_cmp (uop_in0 W1.u65) (k_var W1 2 (by decide +kernel)) (k_cst W1 (t.cst ("LETTERS", c_LETTERS) mem_LETTERS) (by decide +kernel)) rfl)⟩) (fun _ => rfl)) ja_nil rfl) rfl rfl))))
 jss_nil)))
theorem bd_is_tag (kV doc pm : Value) (an : Option Addr) (cdv ct : Value) (us : List Value) (hl : us.length = ps_is_tag.length) : bindArgs (PySem.W.fnOf "is_tag" "is_tag" (defArgs st_is_tag) (defBody st_is_tag) (defScope st_is_tag) .none kV doc pm an cdv ct) ⟨us, []⟩ = pure (ps_is_tag.zip us) := match us, hl with | [_], _ => rfl
/-! ### is_kind -/
def N_is_kind : List Str := ["value"]
def ps_is_kind : List Str := ["value"]
theorem sc_is_kind : FnScope N_is_kind ps_is_kind (defScope st_is_kind) := ⟨rfl, rfl, rfl, by decide +kernel, rfl, by decide +kernel, by decide +kernel⟩
def w_is_kind (sp_bare : USp) : UXK → WS := fun E =>
 (wSeq (wRet (wAnd (wCB uIsi (wCons (wVar 0) (wCons (wC (.ty "str")) wNil))) (wUn (uInD kv_PLAIN_TEXTS false) (wCall sp_bare (fun ux _ M => E ux M) (wCons (wVar 0) wNil)))))
 wNext)
theorem jj_is_kind (t : Txt tx w K mg) {k_bare : Nat} {sp_bare : USp} (F_bare : FnV P w K mg base k_bare "bare" st_bare ps_bare sp_bare) (hk_bare : k_bare ≤ k) (X : Cx) (g : Gd) (E : UXK) (D : DefX P w K mg base k N_is_kind (defScope st_is_kind) X) (tk : Takes X (Wof X g fun ux _ M => E ux M)) : JSs X g (defBody st_is_kind) (w_is_kind sp_bare E) :=
 have W := D.wk sc_is_kind.nd; have hc := D.calm
 (jss_cons (js_ret (j_and (k_callB W ucal_isi (t.free "isinstance" (by decide +kernel)) (by decide +kernel) boot_fn_isinstance (by decide +kernel) (ja_cons (k_var W 0 (by decide +kernel)) (ja_cons (k_ty W (t.free "str" (by decide +kernel)) (by decide +kernel) boot_ty_str (by decide +kernel)) ja_nil rfl) rfl) rfl rfl) (j_one (k_inD W (t.dic ("PLAIN_TEXTS", kv_PLAIN_TEXTS) mem_PLAIN_TEXTS) (by decide +kernel) (k_call W hc F_bare hk_bare tk (by decide +kernel) (ja_cons (k_var W 0 (by decide +kernel)) ja_nil rfl) rfl rfl)))))
 jss_nil)
theorem bd_is_kind (kV doc pm : Value) (an : Option Addr) (cdv ct : Value) (us : List Value) (hl : us.length = ps_is_kind.length) : bindArgs (PySem.W.fnOf "is_kind" "is_kind" (defArgs st_is_kind) (defBody st_is_kind) (defScope st_is_kind) .none kV doc pm an cdv ct) ⟨us, []⟩ = pure (ps_is_kind.zip us) := match us, hl with | [_], _ => rfl
/-! ### is_integer_text -/
def N_is_integer_text : List Str := ["text", "digits", "sign"]
def ps_is_integer_text : List Str := ["text"]
theorem sc_is_integer_text : FnScope N_is_integer_text ps_is_integer_text (defScope st_is_integer_text) := ⟨rfl, rfl, rfl, by decide +kernel, rfl, by decide +kernel, by decide +kernel⟩
def w_is_integer_text : UXK → WS := fun E =>
 (wSeq (wSet 1 (wIf (wB (wBin uEq (wSl (wVar 0) none (some (wC (.int 1)))) (wC (.str "-")))) (wSl (wVar 0) (some (wC (.int 1))) none) (wVar 0)))
 (wSeq (wIfS (wOrT (wB (wBin uEq (wVar 1) (wC (.str "")))) (wNotT (wTr (wCB uAll (wCons (wComp false (wIt (wVar 1)) (wName 2) wYes (wBin uIn0 (wVar 2) (wC c_DIGITS)) [2]) wNil))))) (wSeq (wRet (wC (.bl false)))
 wNext)
 wNext)
 (wSeq (wRet (wOr (wBin uEq (wVar 0) (wC (.str "0"))) (wBin uNe (wBin uIdx0 (wVar 1) (wC (.int 0))) (wC (.str "0")))))
 wNext)))
theorem jj_is_integer_text (t : Txt tx w K mg) (X : Cx) (g : Gd) (E : UXK) (D : DefX P w K mg base k N_is_integer_text (defScope st_is_integer_text) X) (tk : Takes X (Wof X g fun ux _ M => E ux M)) : JSs X g (defBody st_is_integer_text) (w_is_integer_text E) :=
 have W := D.wk sc_is_integer_text.nd; have hc := D.calm
 (jss_cons (k_set W 1 (by decide +kernel) (j_if (jt_cmp (uop_eq W.u64) (j_slice (tl := none) (th := (some (wC (.int 1)))) (k_var W 0 (by decide +kernel)) trivial j_int) j_str rfl) (j_slice (tl := (some (wC (.int 1)))) (th := none) (k_var W 0 (by decide +kernel)) j_int trivial) (k_var W 0 (by decide +kernel))) rfl)
 (jss_cons (js_if (jt_of (jw_or (jt_cmp (uop_eq W.u64) (k_var W 1 (by decide +kernel)) j_str rfl) (jw_or1 (jt_not (jt_truth (k_callB W (ucal_all hc) (t.free "all" (by decide +kernel)) (by decide +kernel) boot_fn_all (by decide +kernel) (ja_cons (k_comp W hc false [("sign", 2)] (by decide +kernel) (ji_it (k_var W 1 (by decide +kernel))) (fun Y1 W1 hc1 => ⟨(k_nameo W1 [2] 2 (by decide +kernel) (by decide)), jts_nil, (j_cmp (uop_in0 W1.u65) (k_var W1 2 (by decide +kernel)) (k_cst W1 (t.cst ("DIGITS", c_DIGITS) mem_DIGITS) (by decide +kernel)) rfl)⟩) (fun _ => rfl)) ja_nil rfl) rfl rfl) (fun _ => rfl)))))) (jss_cons (js_ret j_bl)
 jss_nil)
 jss_nil)
 (jss_cons (js_ret (j_or (j_cmp (uop_eq W.u64) (k_var W 0 (by decide +kernel)) j_str rfl) (j_one (j_cmp (uop_ne W.u64) (j_idx (uix0 W.u65) (k_var W 1 (by decide +kernel)) j_int (fun _ _ => rfl)) j_str rfl))))
 jss_nil)))
theorem bd_is_integer_text (kV doc pm : Value) (an : Option Addr) (cdv ct : Value) (us : List Value) (hl : us.length = ps_is_integer_text.length) : bindArgs (PySem.W.fnOf "is_integer_text" "is_integer_text" (defArgs st_is_integer_text) (defBody st_is_integer_text) (defScope st_is_integer_text) .none kV doc pm an cdv ct) ⟨us, []⟩ = pure (ps_is_integer_text.zip us) := match us, hl with | [_], _ => rfl
/-! ### is_text_of -/
def N_is_text_of : List Str := ["kind", "value", "sign"]
def ps_is_text_of : List Str := ["kind", "value"]
theorem sc_is_text_of : FnScope N_is_text_of ps_is_text_of (defScope st_is_text_of) := ⟨rfl, rfl, rfl, by decide +kernel, rfl, by decide +kernel, by decide +kernel⟩
def w_is_text_of (sp_bare : USp) (sp_is_integer_text : USp) : UXK → WS := fun E =>
 (wSeq (wIfS (wNotT (wTr (wCB uIsi (wCons (wVar 1) (wCons (wC (.ty "str")) wNil))))) (wSeq (wRet (wC (.bl false)))
 wNext)
 wNext)
 (wSeq (wIfS (wB (wBin uEq (wCall sp_bare (fun ux _ M => E ux M) (wCons (wVar 0) wNil)) (wC (.str "$int")))) (wSeq (wRet (wCall sp_is_integer_text (fun ux _ M => E ux M) (wCons (wVar 1) wNil)))
 wNext)
 wNext)
 (wSeq (wRet (wCB uAll (wCons (wComp false (wIt (wVar 1)) (wName 2) wYes (wChain uLe uLe (wC (.str " ")) (wVar 2) (wC (.str "~"))) [2]) wNil)))
 wNext)))
theorem jj_is_text_of (t : Txt tx w K mg) {k_bare : Nat} {sp_bare : USp} (F_bare : FnV P w K mg base k_bare "bare" st_bare ps_bare sp_bare) (hk_bare : k_bare ≤ k) {k_is_integer_text : Nat} {sp_is_integer_text : USp} (F_is_integer_text : FnV P w K mg base k_is_integer_text "is_integer_text" st_is_integer_text ps_is_integer_text sp_is_integer_text) (hk_is_integer_text : k_is_integer_text ≤ k) (X : Cx) (g : Gd) (E : UXK) (D : DefX P w K mg base k N_is_text_of (defScope st_is_text_of) X) (tk : Takes X (Wof X g fun ux _ M => E ux M)) : JSs X g (defBody st_is_text_of) (w_is_text_of sp_bare sp_is_integer_text E) :=
 have W := D.wk sc_is_text_of.nd; have hc := D.calm
 (jss_cons (js_if (jt_not (jt_truth (k_callB W ucal_isi (t.free "isinstance" (by decide +kernel)) (by decide +kernel) boot_fn_isinstance (by decide +kernel) (ja_cons (k_var W 1 (by decide +kernel)) (ja_cons (k_ty W (t.free "str" (by decide +kernel)) (by decide +kernel) boot_ty_str (by decide +kernel)) ja_nil rfl) rfl) rfl rfl) (fun _ => rfl))) (jss_cons (js_ret j_bl)
 jss_nil)
 jss_nil)
 (jss_cons (js_if (jt_cmp (uop_eq W.u64) (k_call W hc F_bare hk_bare tk (by decide +kernel) (ja_cons (k_var W 0 (by decide +kernel)) ja_nil rfl) rfl rfl) j_str rfl) (jss_cons (js_ret (k_call W hc F_is_integer_text hk_is_integer_text tk (by decide +kernel) (ja_cons (k_var W 1 (by decide +kernel)) ja_nil rfl) rfl rfl))
 jss_nil)
 jss_nil)
 (jss_cons (js_ret (k_callB W (ucal_all hc) (t.free "all" (by decide +kernel)) (by decide +kernel) boot_fn_all (by decide +kernel) (ja_cons (k_comp W hc false [("sign", 2)] (by decide +kernel) (ji_it (k_var W 1 (by decide +kernel))) (fun Y1 W1 hc1 => ⟨(k_nameo W1 [2] 2 (by decide +kernel) (by decide)), jts_nil, (j_chain uop_le uop_le j_str (k_var W1 2 (by decide +kernel)) j_str rfl)⟩) (fun _ => rfl)) ja_nil rfl) rfl rfl))
 jss_nil)))
theorem bd_is_text_of (kV doc pm : Value) (an : Option Addr) (cdv ct : Value) (us : List Value) (hl : us.length = ps_is_text_of.length) : bindArgs (PySem.W.fnOf "is_text_of" "is_text_of" (defArgs st_is_text_of) (defBody st_is_text_of) (defScope st_is_text_of) .none kV doc pm an cdv ct) ⟨us, []⟩ = pure (ps_is_text_of.zip us) := match us, hl with | [_, _], _ => rfl
/-! ### is_part -/
def N_is_part : List Str := ["value", "part"]
def ps_is_part : List Str := ["value"]
theorem sc_is_part : FnScope N_is_part ps_is_part (defScope st_is_part) := ⟨rfl, rfl, rfl, by decide +kernel, rfl, by decide +kernel, by decide +kernel⟩
def w_is_part (sp_is_row : USp) (sp_is_kind : USp) (sp_is_text_of : USp) (sp_is_tag : USp) (sp_is_part : USp) : UXK → WS := fun E =>
 (wSeq (wIfS (wNotT (wTr (wCall sp_is_row (fun ux _ M => E ux M) (wCons (wVar 0) (wCons (wC (.int 2)) wNil))))) (wSeq (wRet (wC (.bl false)))
 wNext)
 wNext)
 (wSeq (wIfS (wTr (wCall sp_is_kind (fun ux _ M => E ux M) (wCons (wBin uIdx0 (wVar 0) (wC (.int 0))) wNil))) (wSeq (wRet (wCall sp_is_text_of (fun ux _ M => E ux M) (wCons (wBin uIdx0 (wVar 0) (wC (.int 0))) (wCons (wBin uIdx0 (wVar 0) (wC (.int 1))) wNil))))
 wNext)
 wNext)
 (wSeq (wRet (wAnd (wCall sp_is_tag (fun ux _ M => E ux M) (wCons (wBin uIdx0 (wVar 0) (wC (.int 0))) wNil)) (wAnd (wCB uIsi (wCons (wBin uIdx0 (wVar 0) (wC (.int 1))) (wCons (wC (.ty "tuple")) wNil))) (wCB uAll (wCons (wComp false (wIt (wBin uIdx0 (wVar 0) (wC (.int 1)))) (wName 1) wYes (wCall sp_is_part (fun _ _ _ => False) (wCons (wVar 1) wNil)) [1]) wNil)))))
 wNext)))
theorem jj_is_part (t : Txt tx w K mg) {k_is_row : Nat} {sp_is_row : USp} (F_is_row : FnV P w K mg base k_is_row "is_row" st_is_row ps_is_row sp_is_row) (hk_is_row : k_is_row ≤ k) {k_is_kind : Nat} {sp_is_kind : USp} (F_is_kind : FnV P w K mg base k_is_kind "is_kind_labels" st_is_kind ps_is_kind sp_is_kind) (hk_is_kind : k_is_kind ≤ k) {k_is_text_of : Nat} {sp_is_text_of : USp} (F_is_text_of : FnV P w K mg base k_is_text_of "is_text_of" st_is_text_of ps_is_text_of sp_is_text_of) (hk_is_text_of : k_is_text_of ≤ k) {k_is_tag : Nat} {sp_is_tag : USp} (F_is_tag : FnV P w K mg base k_is_tag "is_tag" st_is_tag ps_is_tag sp_is_tag) (hk_is_tag : k_is_tag ≤ k) {k_is_part : Nat} {sp_is_part : USp} (F_is_part : FnV P w K mg base k_is_part "is_part" st_is_part ps_is_part sp_is_part) (hk_is_part : k_is_part ≤ k) (X : Cx) (g : Gd) (E : UXK) (D : DefX P w K mg base k N_is_part (defScope st_is_part) X) (tk : Takes X (Wof X g fun ux _ M => E ux M)) : JSs X g (defBody st_is_part) (w_is_part sp_is_row sp_is_kind sp_is_text_of sp_is_tag sp_is_part E) :=
 have W := D.wk sc_is_part.nd; have hc := D.calm
 (jss_cons (js_if (jt_not (jt_truth (k_call W hc F_is_row hk_is_row tk (by decide +kernel) (ja_cons (k_var W 0 (by decide +kernel)) (ja_cons j_int ja_nil rfl) rfl) rfl rfl) (fun _ => rfl))) (jss_cons (js_ret j_bl)
 jss_nil)
 jss_nil)
 (jss_cons (js_if (jt_truth (k_call W hc F_is_kind hk_is_kind tk (by decide +kernel) (ja_cons (j_idx (uix0 W.u65) (k_var W 0 (by decide +kernel)) j_int (fun _ _ => rfl)) ja_nil rfl) rfl rfl) (fun _ => rfl)) (jss_cons (js_ret (k_call W hc F_is_text_of hk_is_text_of tk (by decide +kernel) (ja_cons (j_idx (uix0 W.u65) (k_var W 0 (by decide +kernel)) j_int (fun _ _ => rfl)) (ja_cons (j_idx (uix0 W.u65) (k_var W 0 (by decide +kernel)) j_int (fun _ _ => rfl)) ja_nil rfl) rfl) rfl rfl))
 jss_nil)
 jss_nil)
 (jss_cons (js_ret (j_and (k_call W hc F_is_tag hk_is_tag tk (by decide +kernel) (ja_cons (j_idx (uix0 W.u65) (k_var W 0 (by decide +kernel)) j_int (fun _ _ => rfl)) ja_nil rfl) rfl rfl) (j_and (k_callB W ucal_isi (t.free "isinstance" (by decide +kernel)) (by decide +kernel) boot_fn_isinstance (by decide +kernel) (ja_cons (j_idx (uix0 W.u65) (k_var W 0 (by decide +kernel)) j_int (fun _ _ => rfl)) (ja_cons (k_ty W (t.free "tuple" (by decide +kernel)) (by decide +kernel) boot_ty_tuple (by decide +kernel)) ja_nil rfl) rfl) rfl rfl) (j_one (k_callB W (ucal_all hc) (t.free "all" (by decide +kernel)) (by decide +kernel) boot_fn_all (by decide +kernel) (ja_cons (k_comp W hc false [("part", 1)] (by decide +kernel) (ji_it (j_idx (uix0 W.u65) (k_var W 0 (by decide +kernel)) j_int (fun _ _ => rfl))) (fun Y1 W1 hc1 => ⟨(k_nameo W1 [1] 1 (by decide +kernel) (by decide)), jts_nil, (k_call W1 hc1 F_is_part hk_is_part takes_no (by decide +kernel) (ja_cons (k_var W1 1 (by decide +kernel)) ja_nil rfl) rfl rfl)⟩) (fun _ => rfl)) ja_nil rfl) rfl rfl)))))
 jss_nil)))
theorem bd_is_part (kV doc pm : Value) (an : Option Addr) (cdv ct : Value) (us : List Value) (hl : us.length = ps_is_part.length) : bindArgs (PySem.W.fnOf "is_part" "is_part" (defArgs st_is_part) (defBody st_is_part) (defScope st_is_part) .none kV doc pm an cdv ct) ⟨us, []⟩ = pure (ps_is_part.zip us) := match us, hl with | [_], _ => rfl
/-! ### is_document -/
def N_is_document : List Str := ["value"]
def ps_is_document : List Str := ["value"]
theorem sc_is_document : FnScope N_is_document ps_is_document (defScope st_is_document) := ⟨rfl, rfl, rfl, by decide +kernel, rfl, by decide +kernel, by decide +kernel⟩
def w_is_document (sp_is_part : USp) (sp_is_tag : USp) : UXK → WS := fun E =>
 (wSeq (wRet (wAnd (wCall sp_is_part (fun ux _ M => E ux M) (wCons (wVar 0) wNil)) (wCall sp_is_tag (fun ux _ M => E ux M) (wCons (wBin uIdx0 (wVar 0) (wC (.int 0))) wNil))))
 wNext)
theorem jj_is_document (t : Txt tx w K mg) {k_is_part : Nat} {sp_is_part : USp} (F_is_part : FnV P w K mg base k_is_part "is_part" st_is_part ps_is_part sp_is_part) (hk_is_part : k_is_part ≤ k) {k_is_tag : Nat} {sp_is_tag : USp} (F_is_tag : FnV P w K mg base k_is_tag "is_tag" st_is_tag ps_is_tag sp_is_tag) (hk_is_tag : k_is_tag ≤ k) (X : Cx) (g : Gd) (E : UXK) (D : DefX P w K mg base k N_is_document (defScope st_is_document) X) (tk : Takes X (Wof X g fun ux _ M => E ux M)) : JSs X g (defBody st_is_document) (w_is_document sp_is_part sp_is_tag E) :=
 have W := D.wk sc_is_document.nd; have hc := D.calm
 (jss_cons (js_ret (j_and (k_call W hc F_is_part hk_is_part tk (by decide +kernel) (ja_cons (k_var W 0 (by decide +kernel)) ja_nil rfl) rfl rfl) (j_one (k_call W hc F_is_tag hk_is_tag tk (by decide +kernel) (ja_cons (j_idx (uix0 W.u65) (k_var W 0 (by decide +kernel)) j_int (fun _ _ => rfl)) ja_nil rfl) rfl rfl))))
 jss_nil)
theorem bd_is_document (kV doc pm : Value) (an : Option Addr) (cdv ct : Value) (us : List Value) (hl : us.length = ps_is_document.length) : bindArgs (PySem.W.fnOf "is_document" "is_document" (defArgs st_is_document) (defBody st_is_document) (defScope st_is_document) .none kV doc pm an cdv ct) ⟨us, []⟩ = pure (ps_is_document.zip us) := match us, hl with | [_], _ => rfl
/-! ### check_document -/
def N_check_document : List Str := ["document"]
def ps_check_document : List Str := ["document"]
theorem sc_check_document : FnScope N_check_document ps_check_document (defScope st_check_document) := ⟨rfl, rfl, rfl, by decide +kernel, rfl, by decide +kernel, by decide +kernel⟩
def w_check_document (sp_is_document : USp) : UXK → WS := fun E =>
 (wSeq (wIfS (wNotT (wTr (wCall sp_is_document (fun ux _ M => E ux M) (wCons (wVar 0) wNil)))) (wSeq (wRaise "InvalidDocument" (fun ux _ M => E ux M))
 wNext)
 wNext)
 wNext)
theorem jj_check_document (t : Txt tx w K mg) {k_is_document : Nat} {sp_is_document : USp} (F_is_document : FnV P w K mg base k_is_document "is_document" st_is_document ps_is_document sp_is_document) (hk_is_document : k_is_document ≤ k) (X : Cx) (g : Gd) (E : UXK) (D : DefX P w K mg base k N_check_document (defScope st_check_document) X) (tk : Takes X (Wof X g fun ux _ M => E ux M)) : JSs X g (defBody st_check_document) (w_check_document sp_is_document E) :=
 have W := D.wk sc_check_document.nd; have hc := D.calm
 (jss_cons (js_if (jt_not (jt_truth (k_call W hc F_is_document hk_is_document tk (by decide +kernel) (ja_cons (k_var W 0 (by decide +kernel)) ja_nil rfl) rfl rfl) (fun _ => rfl))) (jss_cons (k_raise W hc (t.exc "InvalidDocument" (by decide +kernel)) (by decide +kernel) tk)
 jss_nil)
 jss_nil)
 jss_nil)
theorem bd_check_document (kV doc pm : Value) (an : Option Addr) (cdv ct : Value) (us : List Value) (hl : us.length = ps_check_document.length) : bindArgs (PySem.W.fnOf "check_document" "check_document" (defArgs st_check_document) (defBody st_check_document) (defScope st_check_document) .none kV doc pm an cdv ct) ⟨us, []⟩ = pure (ps_check_document.zip us) := match us, hl with | [_], _ => rfl
/-! ### parts_of -/
def N_parts_of : List Str := ["part"]
def ps_parts_of : List Str := ["part"]
theorem sc_parts_of : FnScope N_parts_of ps_parts_of (defScope st_parts_of) := ⟨rfl, rfl, rfl, by decide +kernel, rfl, by decide +kernel, by decide +kernel⟩
def w_parts_of (sp_is_kind : USp) : UXK → WS := fun E =>
 (wSeq (wRet (wIf (wTr (wCall sp_is_kind (fun ux _ M => E ux M) (wCons (wBin uIdx0 (wVar 0) (wC (.int 0))) wNil))) (wTup wNil) (wBin uIdx0 (wVar 0) (wC (.int 1)))))
 wNext)
theorem jj_parts_of (t : Txt tx w K mg) {k_is_kind : Nat} {sp_is_kind : USp} (F_is_kind : FnV P w K mg base k_is_kind "is_kind_labels" st_is_kind ps_is_kind sp_is_kind) (hk_is_kind : k_is_kind ≤ k) (X : Cx) (g : Gd) (E : UXK) (D : DefX P w K mg base k N_parts_of (defScope st_parts_of) X) (tk : Takes X (Wof X g fun ux _ M => E ux M)) : JSs X g (defBody st_parts_of) (w_parts_of sp_is_kind E) :=
 have W := D.wk sc_parts_of.nd; have hc := D.calm
 (jss_cons (js_ret (j_if (jt_truth (k_call W hc F_is_kind hk_is_kind tk (by decide +kernel) (ja_cons (j_idx (uix0 W.u65) (k_var W 0 (by decide +kernel)) j_int (fun _ _ => rfl)) ja_nil rfl) rfl rfl) (fun _ => rfl)) (j_tup ja_nil) (j_idx (uix0 W.u65) (k_var W 0 (by decide +kernel)) j_int (fun _ _ => rfl))))
 jss_nil)
theorem bd_parts_of (kV doc pm : Value) (an : Option Addr) (cdv ct : Value) (us : List Value) (hl : us.length = ps_parts_of.length) : bindArgs (PySem.W.fnOf "parts_of" "parts_of" (defArgs st_parts_of) (defBody st_parts_of) (defScope st_parts_of) .none kV doc pm an cdv ct) ⟨us, []⟩ = pure (ps_parts_of.zip us) := match us, hl with | [_], _ => rfl
/-! ### has_place -/
def N_has_place : List Str := ["document", "value", "index", "inner"]
def ps_has_place : List Str := ["document", "value"]
theorem sc_has_place : FnScope N_has_place ps_has_place (defScope st_has_place) := ⟨rfl, rfl, rfl, by decide +kernel, rfl, by decide +kernel, by decide +kernel⟩
def w_has_place (sp_parts_of : USp) (sp_is_index_below : USp) : UXK → WS := fun E =>
 (wSeq (wIfS (wNotT (wTr (wCB uIsi (wCons (wVar 1) (wCons (wC (.ty "tuple")) wNil))))) (wSeq (wRet (wC (.bl false)))
 wNext)
 wNext)
 (wSeq (wFor (wIt (wVar 1)) (wName 2)
 (wSeq (wSet 3 (wCall sp_parts_of (fun ux _ M => E ux M) (wCons (wVar 0) wNil)))
 (wSeq (wIfS (wNotT (wTr (wCall sp_is_index_below (fun ux _ M => E ux M) (wCons (wVar 2) (wCons (wCB uLen (wCons (wVar 3) wNil)) wNil))))) (wSeq (wRet (wC (.bl false)))
 wNext)
 wNext)
 (wSeq (wSet 0 (wBin uIdx0 (wVar 3) (wVar 2)))
 wNext))))
 (wSeq (wRet (wC (.bl true)))
 wNext)))
theorem jj_has_place (t : Txt tx w K mg) {k_parts_of : Nat} {sp_parts_of : USp} (F_parts_of : FnV P w K mg base k_parts_of "parts_of" st_parts_of ps_parts_of sp_parts_of) (hk_parts_of : k_parts_of ≤ k) {k_is_index_below : Nat} {sp_is_index_below : USp} (F_is_index_below : FnV P w K mg base k_is_index_below "is_index_below" st_is_index_below ps_is_index_below sp_is_index_below) (hk_is_index_below : k_is_index_below ≤ k) (X : Cx) (g : Gd) (E : UXK) (D : DefX P w K mg base k N_has_place (defScope st_has_place) X) (tk : Takes X (Wof X g fun ux _ M => E ux M)) : JSs X g (defBody st_has_place) (w_has_place sp_parts_of sp_is_index_below E) :=
 have W := D.wk sc_has_place.nd; have hc := D.calm
 (jss_cons (js_if (jt_not (jt_truth (k_callB W ucal_isi (t.free "isinstance" (by decide +kernel)) (by decide +kernel) boot_fn_isinstance (by decide +kernel) (ja_cons (k_var W 1 (by decide +kernel)) (ja_cons (k_ty W (t.free "tuple" (by decide +kernel)) (by decide +kernel) boot_ty_tuple (by decide +kernel)) ja_nil rfl) rfl) rfl rfl) (fun _ => rfl))) (jss_cons (js_ret j_bl)
 jss_nil)
 jss_nil)
 (jss_cons (js_for D.pass hc (ji_it (k_var W 1 (by decide +kernel))) (k_name W 2 (by decide +kernel)) (jss_cons (k_set W 3 (by decide +kernel) (k_call W hc F_parts_of hk_parts_of tk (by decide +kernel) (ja_cons (k_var W 0 (by decide +kernel)) ja_nil rfl) rfl rfl) rfl)
 (jss_cons (js_if (jt_not (jt_truth (k_call W hc F_is_index_below hk_is_index_below tk (by decide +kernel) (ja_cons (k_var W 2 (by decide +kernel)) (ja_cons (k_callB W ucal_len (t.free "len" (by decide +kernel)) (by decide +kernel) boot_fn_len (by decide +kernel) (ja_cons (k_var W 3 (by decide +kernel)) ja_nil rfl) rfl rfl) ja_nil rfl) rfl) rfl rfl) (fun _ => rfl))) (jss_cons (js_ret j_bl)
 jss_nil)
 jss_nil)
 (jss_cons (k_set W 0 (by decide +kernel) (j_idx (uix0 W.u65) (k_var W 3 (by decide +kernel)) (k_var W 2 (by decide +kernel)) (fun _ _ => rfl)) rfl)
 jss_nil))) (fun _ => rfl))
 (jss_cons (js_ret j_bl)
 jss_nil)))
theorem bd_has_place (kV doc pm : Value) (an : Option Addr) (cdv ct : Value) (us : List Value) (hl : us.length = ps_has_place.length) : bindArgs (PySem.W.fnOf "has_place" "has_place" (defArgs st_has_place) (defBody st_has_place) (defScope st_has_place) .none kV doc pm an cdv ct) ⟨us, []⟩ = pure (ps_has_place.zip us) := match us, hl with | [_, _], _ => rfl
/-! ### is_place -/
def N_is_place : List Str := ["document", "value"]
def ps_is_place : List Str := ["document", "value"]
theorem sc_is_place : FnScope N_is_place ps_is_place (defScope st_is_place) := ⟨rfl, rfl, rfl, by decide +kernel, rfl, by decide +kernel, by decide +kernel⟩
def w_is_place (sp_check_document : USp) (sp_has_place : USp) : UXK → WS := fun E =>
 (wSeq (wDrop (wCall sp_check_document (fun ux _ M => E ux M) (wCons (wVar 0) wNil)))
 (wSeq (wRet (wCall sp_has_place (fun ux _ M => E ux M) (wCons (wVar 0) (wCons (wVar 1) wNil))))
 wNext))
theorem jj_is_place (t : Txt tx w K mg) {k_check_document : Nat} {sp_check_document : USp} (F_check_document : FnV P w K mg base k_check_document "check_document" st_check_document ps_check_document sp_check_document) (hk_check_document : k_check_document ≤ k) {k_has_place : Nat} {sp_has_place : USp} (F_has_place : FnV P w K mg base k_has_place "has_place" st_has_place ps_has_place sp_has_place) (hk_has_place : k_has_place ≤ k) (X : Cx) (g : Gd) (E : UXK) (D : DefX P w K mg base k N_is_place (defScope st_is_place) X) (tk : Takes X (Wof X g fun ux _ M => E ux M)) : JSs X g (defBody st_is_place) (w_is_place sp_check_document sp_has_place E) :=
 have W := D.wk sc_is_place.nd; have hc := D.calm
 (jss_cons (js_expr (k_call W hc F_check_document hk_check_document tk (by decide +kernel) (ja_cons (k_var W 0 (by decide +kernel)) ja_nil rfl) rfl rfl) rfl)
 (jss_cons (js_ret (k_call W hc F_has_place hk_has_place tk (by decide +kernel) (ja_cons (k_var W 0 (by decide +kernel)) (ja_cons (k_var W 1 (by decide +kernel)) ja_nil rfl) rfl) rfl rfl))
 jss_nil))
theorem bd_is_place (kV doc pm : Value) (an : Option Addr) (cdv ct : Value) (us : List Value) (hl : us.length = ps_is_place.length) : bindArgs (PySem.W.fnOf "is_place" "is_place" (defArgs st_is_place) (defBody st_is_place) (defScope st_is_place) .none kV doc pm an cdv ct) ⟨us, []⟩ = pure (ps_is_place.zip us) := match us, hl with | [_, _], _ => rfl
/-! ### is_kind_shape_work -/
def N_is_kind_shape_work : List Str := ["label"]
def ps_is_kind_shape_work : List Str := ["label"]
theorem sc_is_kind_shape_work : FnScope N_is_kind_shape_work ps_is_kind_shape_work (defScope st_is_kind_shape_work) := ⟨rfl, rfl, rfl, by decide +kernel, rfl, by decide +kernel, by decide +kernel⟩
def w_is_kind_shape_work : UXK → WS := fun E =>
 (wSeq (wRet (wBin uEq (wBin uIdx0 (wVar 0) (wC (.int 0))) (wC (.str "$"))))
 wNext)
theorem jj_is_kind_shape_work (t : Txt tx w K mg) (X : Cx) (g : Gd) (E : UXK) (D : DefX P w K mg base k N_is_kind_shape_work (defScope st_is_kind_shape_work) X) (tk : Takes X (Wof X g fun ux _ M => E ux M)) : JSs X g (defBody st_is_kind_shape_work) (w_is_kind_shape_work E) :=
 have W := D.wk sc_is_kind_shape_work.nd; have hc := D.calm
 (jss_cons (js_ret (j_cmp (uop_eq W.u64) (j_idx (uix0 W.u65) (k_var W 0 (by decide +kernel)) j_int (fun _ _ => rfl)) j_str rfl))
 jss_nil)
theorem bd_is_kind_shape_work (kV doc pm : Value) (an : Option Addr) (cdv ct : Value) (us : List Value) (hl : us.length = ps_is_kind_shape_work.length) : bindArgs (PySem.W.fnOf "is_kind" "is_kind" (defArgs st_is_kind_shape_work) (defBody st_is_kind_shape_work) (defScope st_is_kind_shape_work) .none kV doc pm an cdv ct) ⟨us, []⟩ = pure (ps_is_kind_shape_work.zip us) := match us, hl with | [_], _ => rfl
/-! ### at_place -/
def N_at_place : List Str := ["document", "place", "index"]
def ps_at_place : List Str := ["document", "place"]
theorem sc_at_place : FnScope N_at_place ps_at_place (defScope st_at_place) := ⟨rfl, rfl, rfl, by decide +kernel, rfl, by decide +kernel, by decide +kernel⟩
def w_at_place : UXK → WS := fun E =>
 (wSeq (wFor (wIt (wVar 1)) (wName 2)
 (wSeq (wSet 0 (wBin uIdx0 (wBin uIdx0 (wVar 0) (wC (.int 1))) (wVar 2)))
 wNext))
 (wSeq (wRet (wVar 0))
 wNext))
theorem jj_at_place (t : Txt tx w K mg) (X : Cx) (g : Gd) (E : UXK) (D : DefX P w K mg base k N_at_place (defScope st_at_place) X) (tk : Takes X (Wof X g fun ux _ M => E ux M)) : JSs X g (defBody st_at_place) (w_at_place E) :=
 have W := D.wk sc_at_place.nd; have hc := D.calm
 (jss_cons (js_for D.pass hc (ji_it (k_var W 1 (by decide +kernel))) (k_name W 2 (by decide +kernel)) (jss_cons (k_set W 0 (by decide +kernel) (j_idx (uix0 W.u65) (j_idx (uix0 W.u65) (k_var W 0 (by decide +kernel)) j_int (fun _ _ => rfl)) (k_var W 2 (by decide +kernel)) (fun _ _ => rfl)) rfl)
 jss_nil) (fun _ => rfl))
 (jss_cons (js_ret (k_var W 0 (by decide +kernel)))
 jss_nil))
theorem bd_at_place (kV doc pm : Value) (an : Option Addr) (cdv ct : Value) (us : List Value) (hl : us.length = ps_at_place.length) : bindArgs (PySem.W.fnOf "at_place" "at_place" (defArgs st_at_place) (defBody st_at_place) (defScope st_at_place) .none kV doc pm an cdv ct) ⟨us, []⟩ = pure (ps_at_place.zip us) := match us, hl with | [_, _], _ => rfl
/-! ### with_part -/
def N_with_part : List Str := ["document", "place", "part", "at", "parts"]
def ps_with_part : List Str := ["document", "place", "part"]
theorem sc_with_part : FnScope N_with_part ps_with_part (defScope st_with_part) := ⟨rfl, rfl, rfl, by decide +kernel, rfl, by decide +kernel, by decide +kernel⟩
def w_with_part (sp_with_part : USp) : UXK → WS := fun E =>
 (wSeq (wIfS (wB (wBin uEq (wVar 1) (wTup wNil))) (wSeq (wRet (wVar 2))
 wNext)
 wNext)
 (wSeq (wSet 3 (wBin uIdx0 (wVar 1) (wC (.int 0))))
 (wSeq (wSet 4 (wBin uIdx0 (wVar 0) (wC (.int 1))))
 (wSeq (wRet (wTup (wCons (wBin uIdx0 (wVar 0) (wC (.int 0))) (wCons (wBin uAdd (wBin uAdd (wSl (wVar 4) none (some (wVar 3))) (wTup (wCons (wCall sp_with_part (fun ux _ M => E ux M) (wCons (wBin uIdx0 (wVar 4) (wVar 3)) (wCons (wSl (wVar 1) (some (wC (.int 1))) none) (wCons (wVar 2) wNil)))) wNil))) (wSl (wVar 4) (some (wBin uAdd (wVar 3) (wC (.int 1)))) none)) wNil))))
 wNext))))
theorem jj_with_part (t : Txt tx w K mg) {k_with_part : Nat} {sp_with_part : USp} (F_with_part : FnV P w K mg base k_with_part "with_part" st_with_part ps_with_part sp_with_part) (hk_with_part : k_with_part ≤ k) (X : Cx) (g : Gd) (E : UXK) (D : DefX P w K mg base k N_with_part (defScope st_with_part) X) (tk : Takes X (Wof X g fun ux _ M => E ux M)) : JSs X g (defBody st_with_part) (w_with_part sp_with_part E) :=
 have W := D.wk sc_with_part.nd; have hc := D.calm
 (jss_cons (js_if (jt_cmp (uop_eq W.u64) (k_var W 1 (by decide +kernel)) (j_tup ja_nil) rfl) (jss_cons (js_ret (k_var W 2 (by decide +kernel)))
 jss_nil)
 jss_nil)
 (jss_cons (k_set W 3 (by decide +kernel) (j_idx (uix0 W.u65) (k_var W 1 (by decide +kernel)) j_int (fun _ _ => rfl)) rfl)
 (jss_cons (k_set W 4 (by decide +kernel) (j_idx (uix0 W.u65) (k_var W 0 (by decide +kernel)) j_int (fun _ _ => rfl)) rfl)
 (jss_cons (js_ret (j_tup (ja_cons (j_idx (uix0 W.u65) (k_var W 0 (by decide +kernel)) j_int (fun _ _ => rfl)) (ja_cons (j_bin uop_add (j_bin uop_add (j_slice (tl := none) (th := (some (wVar 3))) (k_var W 4 (by decide +kernel)) trivial (k_var W 3 (by decide +kernel))) (j_tup (ja_cons (k_call W hc F_with_part hk_with_part tk (by decide +kernel) (ja_cons (j_idx (uix0 W.u65) (k_var W 4 (by decide +kernel)) (k_var W 3 (by decide +kernel)) (fun _ _ => rfl)) (ja_cons (j_slice (tl := (some (wC (.int 1)))) (th := none) (k_var W 1 (by decide +kernel)) j_int trivial) (ja_cons (k_var W 2 (by decide +kernel)) ja_nil rfl) rfl) rfl) rfl rfl) ja_nil rfl))) (j_slice (tl := (some (wBin uAdd (wVar 3) (wC (.int 1))))) (th := none) (k_var W 4 (by decide +kernel)) (j_bin uop_add (k_var W 3 (by decide +kernel)) j_int) trivial)) ja_nil rfl) rfl)))
 jss_nil))))
theorem bd_with_part (kV doc pm : Value) (an : Option Addr) (cdv ct : Value) (us : List Value) (hl : us.length = ps_with_part.length) : bindArgs (PySem.W.fnOf "with_part" "with_part" (defArgs st_with_part) (defBody st_with_part) (defScope st_with_part) .none kV doc pm an cdv ct) ⟨us, []⟩ = pure (ps_with_part.zip us) := match us, hl with | [_, _, _], _ => rfl
/-! ### labels_of -/
def N_labels_of : List Str := ["parts", "part"]
def ps_labels_of : List Str := ["parts"]
theorem sc_labels_of : FnScope N_labels_of ps_labels_of (defScope st_labels_of) := ⟨rfl, rfl, rfl, by decide +kernel, rfl, by decide +kernel, by decide +kernel⟩
def w_labels_of : UXK → WS := fun E =>
 (wSeq (wRet (wCB uTuple (wCons (wComp false (wIt (wVar 0)) (wName 1) wYes (wBin uIdx0 (wVar 1) (wC (.int 0))) [1]) wNil)))
 wNext)
theorem jj_labels_of (t : Txt tx w K mg) (X : Cx) (g : Gd) (E : UXK) (D : DefX P w K mg base k N_labels_of (defScope st_labels_of) X) (tk : Takes X (Wof X g fun ux _ M => E ux M)) : JSs X g (defBody st_labels_of) (w_labels_of E) :=
 have W := D.wk sc_labels_of.nd; have hc := D.calm
 (jss_cons (js_ret (k_callTy W ucal_tuple (t.free "tuple" (by decide +kernel)) (by decide +kernel) boot_ty_tuple (by decide +kernel) (ja_cons (k_comp W hc false [("part", 1)] (by decide +kernel) (ji_it (k_var W 0 (by decide +kernel))) (fun Y1 W1 hc1 => ⟨(k_nameo W1 [1] 1 (by decide +kernel) (by decide)), jts_nil, (j_idx (uix0 W1.u65) (k_var W1 1 (by decide +kernel)) j_int (fun _ _ => rfl))⟩) (fun _ => rfl)) ja_nil rfl) rfl rfl))
 jss_nil)
theorem bd_labels_of (kV doc pm : Value) (an : Option Addr) (cdv ct : Value) (us : List Value) (hl : us.length = ps_labels_of.length) : bindArgs (PySem.W.fnOf "labels_of" "labels_of" (defArgs st_labels_of) (defBody st_labels_of) (defScope st_labels_of) .none kV doc pm an cdv ct) ⟨us, []⟩ = pure (ps_labels_of.zip us) := match us, hl with | [_], _ => rfl
/-! ### is_guard_kind -/
def N_is_guard_kind : List Str := ["value"]
def ps_is_guard_kind : List Str := ["value"]
theorem sc_is_guard_kind : FnScope N_is_guard_kind ps_is_guard_kind (defScope st_is_guard_kind) := ⟨rfl, rfl, rfl, by decide +kernel, rfl, by decide +kernel, by decide +kernel⟩
def w_is_guard_kind : UXK → WS := fun E =>
 (wSeq (wRet (wAnd (wCB uIsi (wCons (wVar 0) (wCons (wC (.ty "str")) wNil))) (wBin uIn0 (wVar 0) (wC c_GUARD_KINDS))))
 wNext)
theorem jj_is_guard_kind (t : Txt tx w K mg) (X : Cx) (g : Gd) (E : UXK) (D : DefX P w K mg base k N_is_guard_kind (defScope st_is_guard_kind) X) (tk : Takes X (Wof X g fun ux _ M => E ux M)) : JSs X g (defBody st_is_guard_kind) (w_is_guard_kind E) :=
 have W := D.wk sc_is_guard_kind.nd; have hc := D.calm
 (jss_cons (js_ret (j_and (k_callB W ucal_isi (t.free "isinstance" (by decide +kernel)) (by decide +kernel) boot_fn_isinstance (by decide +kernel) (ja_cons (k_var W 0 (by decide +kernel)) (ja_cons (k_ty W (t.free "str" (by decide +kernel)) (by decide +kernel) boot_ty_str (by decide +kernel)) ja_nil rfl) rfl) rfl rfl) (j_one (j_cmp (uop_in0 W.u65) (k_var W 0 (by decide +kernel)) (k_cst W (t.cst ("GUARD_KINDS", c_GUARD_KINDS) mem_GUARD_KINDS) (by decide +kernel)) rfl))))
 jss_nil)
theorem bd_is_guard_kind (kV doc pm : Value) (an : Option Addr) (cdv ct : Value) (us : List Value) (hl : us.length = ps_is_guard_kind.length) : bindArgs (PySem.W.fnOf "is_guard_kind" "is_guard_kind" (defArgs st_is_guard_kind) (defBody st_is_guard_kind) (defScope st_is_guard_kind) .none kV doc pm an cdv ct) ⟨us, []⟩ = pure (ps_is_guard_kind.zip us) := match us, hl with | [_], _ => rfl
/-! ### check_guard_kind -/
def N_check_guard_kind : List Str := ["value"]
def ps_check_guard_kind : List Str := ["value"]
theorem sc_check_guard_kind : FnScope N_check_guard_kind ps_check_guard_kind (defScope st_check_guard_kind) := ⟨rfl, rfl, rfl, by decide +kernel, rfl, by decide +kernel, by decide +kernel⟩
def w_check_guard_kind (sp_is_guard_kind : USp) : UXK → WS := fun E =>
 (wSeq (wIfS (wNotT (wTr (wCall sp_is_guard_kind (fun ux _ M => E ux M) (wCons (wVar 0) wNil)))) (wSeq (wRaise "InvalidGuard" (fun ux _ M => E ux M))
 wNext)
 wNext)
 wNext)
theorem jj_check_guard_kind (t : Txt tx w K mg) {k_is_guard_kind : Nat} {sp_is_guard_kind : USp} (F_is_guard_kind : FnV P w K mg base k_is_guard_kind "is_guard_kind" st_is_guard_kind ps_is_guard_kind sp_is_guard_kind) (hk_is_guard_kind : k_is_guard_kind ≤ k) (X : Cx) (g : Gd) (E : UXK) (D : DefX P w K mg base k N_check_guard_kind (defScope st_check_guard_kind) X) (tk : Takes X (Wof X g fun ux _ M => E ux M)) : JSs X g (defBody st_check_guard_kind) (w_check_guard_kind sp_is_guard_kind E) :=
 have W := D.wk sc_check_guard_kind.nd; have hc := D.calm
 (jss_cons (js_if (jt_not (jt_truth (k_call W hc F_is_guard_kind hk_is_guard_kind tk (by decide +kernel) (ja_cons (k_var W 0 (by decide +kernel)) ja_nil rfl) rfl rfl) (fun _ => rfl))) (jss_cons (k_raise W hc (t.exc "InvalidGuard" (by decide +kernel)) (by decide +kernel) tk)
 jss_nil)
 jss_nil)
 jss_nil)
theorem bd_check_guard_kind (kV doc pm : Value) (an : Option Addr) (cdv ct : Value) (us : List Value) (hl : us.length = ps_check_guard_kind.length) : bindArgs (PySem.W.fnOf "check_guard_kind" "check_guard_kind" (defArgs st_check_guard_kind) (defBody st_check_guard_kind) (defScope st_check_guard_kind) .none kV doc pm an cdv ct) ⟨us, []⟩ = pure (ps_check_guard_kind.zip us) := match us, hl with | [_], _ => rfl
/-! ### check_at -/
def N_check_at : List Str := ["document", "place"]
def ps_check_at : List Str := ["document", "place"]
theorem sc_check_at : FnScope N_check_at ps_check_at (defScope st_check_at) := ⟨rfl, rfl, rfl, by decide +kernel, rfl, by decide +kernel, by decide +kernel⟩
def w_check_at (sp_is_document : USp) (sp_is_place : USp) : UXK → WS := fun E =>
 (wSeq (wIfS (wNotT (wTr (wCall sp_is_document (fun ux _ M => E ux M) (wCons (wVar 0) wNil)))) (wSeq (wRaise "InvalidDocument" (fun ux _ M => E ux M))
 wNext)
 wNext)
 (wSeq (wIfS (wNotT (wTr (wCall sp_is_place (fun ux _ M => E ux M) (wCons (wVar 0) (wCons (wVar 1) wNil))))) (wSeq (wRaise "InvalidPlace" (fun ux _ M => E ux M))
 wNext)
 wNext)
 wNext))
theorem jj_check_at (t : Txt tx w K mg) {k_is_document : Nat} {sp_is_document : USp} (F_is_document : FnV P w K mg base k_is_document "is_document" st_is_document ps_is_document sp_is_document) (hk_is_document : k_is_document ≤ k) {k_is_place : Nat} {sp_is_place : USp} (F_is_place : FnV P w K mg base k_is_place "is_place" st_is_place ps_is_place sp_is_place) (hk_is_place : k_is_place ≤ k) (X : Cx) (g : Gd) (E : UXK) (D : DefX P w K mg base k N_check_at (defScope st_check_at) X) (tk : Takes X (Wof X g fun ux _ M => E ux M)) : JSs X g (defBody st_check_at) (w_check_at sp_is_document sp_is_place E) :=
 have W := D.wk sc_check_at.nd; have hc := D.calm
 (jss_cons (js_if (jt_not (jt_truth (k_call W hc F_is_document hk_is_document tk (by decide +kernel) (ja_cons (k_var W 0 (by decide +kernel)) ja_nil rfl) rfl rfl) (fun _ => rfl))) (jss_cons (k_raise W hc (t.exc "InvalidDocument" (by decide +kernel)) (by decide +kernel) tk)
 jss_nil)
 jss_nil)
 (jss_cons (js_if (jt_not (jt_truth (k_call W hc F_is_place hk_is_place tk (by decide +kernel) (ja_cons (k_var W 0 (by decide +kernel)) (ja_cons (k_var W 1 (by decide +kernel)) ja_nil rfl) rfl) rfl rfl) (fun _ => rfl))) (jss_cons (k_raise W hc (t.exc "InvalidPlace" (by decide +kernel)) (by decide +kernel) tk)
 jss_nil)
 jss_nil)
 jss_nil))
theorem bd_check_at (kV doc pm : Value) (an : Option Addr) (cdv ct : Value) (us : List Value) (hl : us.length = ps_check_at.length) : bindArgs (PySem.W.fnOf "check_at" "check_at" (defArgs st_check_at) (defBody st_check_at) (defScope st_check_at) .none kV doc pm an cdv ct) ⟨us, []⟩ = pure (ps_check_at.zip us) := match us, hl with | [_, _], _ => rfl
/-! ### guard_at -/
def N_guard_at : List Str := ["document", "place", "guard_kind", "found", "index", "labels"]
def ps_guard_at : List Str := ["document", "place", "guard_kind"]
theorem sc_guard_at : FnScope N_guard_at ps_guard_at (defScope st_guard_at) := ⟨rfl, rfl, rfl, by decide +kernel, rfl, by decide +kernel, by decide +kernel⟩
def w_guard_at (sp_at_place : USp) (sp_labels_of : USp) : UXK → WS := fun E =>
 (wSeq (wIfS (wB (wBin uEq (wVar 2) (wC (.str "flat")))) (wSeq (wRet (wTup (wCons (wBin uIdx0 (wCall sp_at_place (fun ux _ M => E ux M) (wCons (wVar 0) (wCons (wVar 1) wNil))) (wC (.int 0))) wNil)))
 wNext)
 wNext)
 (wSeq (wSet 3 (wLstH (wCons (wIf (wB (wBin uEq (wVar 2) (wC (.str "one-way")))) (wBin uIdx0 (wVar 0) (wC (.int 0))) (wTup (wCons (wBin uIdx0 (wVar 0) (wC (.int 0))) wNil))) wNil)))
 (wSeq (wFor (wIt (wVar 1)) (wName 4)
 (wSeq (wSet 5 (wCall sp_labels_of (fun ux _ M => E ux M) (wCons (wSl (wBin uIdx0 (wVar 0) (wC (.int 1))) none (some (wBin uAdd (wVar 4) (wC (.int 1))))) wNil)))
 (wSeq (wDrop (wBM "list" uAppend (wVar 3) (wCons (wIf (wB (wBin uEq (wVar 2) (wC (.str "one-way")))) (wBin uIdx0 (wVar 5) (wUn uNeg (wC (.int 1)))) (wVar 5)) wNil)))
 (wSeq (wSet 0 (wBin uIdx0 (wBin uIdx0 (wVar 0) (wC (.int 1))) (wVar 4)))
 wNext))))
 (wSeq (wRet (wCB uTuple (wCons (wVar 3) wNil)))
 wNext))))
theorem jj_guard_at (t : Txt tx w K mg) {k_at_place : Nat} {sp_at_place : USp} (F_at_place : FnV P w K mg base k_at_place "at_place" st_at_place ps_at_place sp_at_place) (hk_at_place : k_at_place ≤ k) {k_labels_of : Nat} {sp_labels_of : USp} (F_labels_of : FnV P w K mg base k_labels_of "labels_of" st_labels_of ps_labels_of sp_labels_of) (hk_labels_of : k_labels_of ≤ k) (X : Cx) (g : Gd) (E : UXK) (D : DefX P w K mg base k N_guard_at (defScope st_guard_at) X) (tk : Takes X (Wof X g fun ux _ M => E ux M)) : JSs X g (defBody st_guard_at) (w_guard_at sp_at_place sp_labels_of E) :=
 have W := D.wk sc_guard_at.nd; have hc := D.calm
 (jss_cons (js_if (jt_cmp (uop_eq W.u64) (k_var W 2 (by decide +kernel)) j_str rfl) (jss_cons (js_ret (j_tup (ja_cons (j_idx (uix0 W.u65) (k_call W hc F_at_place hk_at_place tk (by decide +kernel) (ja_cons (k_var W 0 (by decide +kernel)) (ja_cons (k_var W 1 (by decide +kernel)) ja_nil rfl) rfl) rfl rfl) j_int (fun _ _ => rfl)) ja_nil rfl)))
 jss_nil)
 jss_nil)
 (jss_cons (k_set W 3 (by decide +kernel) (j_lstH (ja_cons (j_if (jt_cmp (uop_eq W.u64) (k_var W 2 (by decide +kernel)) j_str rfl) (j_idx (uix0 W.u65) (k_var W 0 (by decide +kernel)) j_int (fun _ _ => rfl)) (j_tup (ja_cons (j_idx (uix0 W.u65) (k_var W 0 (by decide +kernel)) j_int (fun _ _ => rfl)) ja_nil rfl))) ja_nil rfl)) rfl)
 (jss_cons (js_for D.pass hc (ji_it (k_var W 1 (by decide +kernel))) (k_name W 4 (by decide +kernel)) (jss_cons (k_set W 5 (by decide +kernel) (k_call W hc F_labels_of hk_labels_of tk (by decide +kernel) (ja_cons (j_slice (tl := none) (th := (some (wBin uAdd (wVar 4) (wC (.int 1))))) (j_idx (uix0 W.u65) (k_var W 0 (by decide +kernel)) j_int (fun _ _ => rfl)) trivial (j_bin uop_add (k_var W 4 (by decide +kernel)) j_int)) ja_nil rfl) rfl rfl) rfl)
 (jss_cons (js_expr (j_bm PySem.F.plainAttrs_list PySem.F.slot_list_append PySem.F.type_list_append umt_append (k_var W 3 (by decide +kernel)) (ja_cons (j_if (jt_cmp (uop_eq W.u64) (k_var W 2 (by decide +kernel)) j_str rfl) (j_idx (uix0 W.u65) (k_var W 5 (by decide +kernel)) (j_un uun_neg j_int) (fun _ _ => rfl)) (k_var W 5 (by decide +kernel))) ja_nil rfl) rfl rfl rfl rfl rfl) rfl)
 (jss_cons (k_set W 0 (by decide +kernel) (j_idx (uix0 W.u65) (j_idx (uix0 W.u65) (k_var W 0 (by decide +kernel)) j_int (fun _ _ => rfl)) (k_var W 4 (by decide +kernel)) (fun _ _ => rfl)) rfl)
 jss_nil))) (fun _ => rfl))
 (jss_cons (js_ret (k_callTy W ucal_tuple (t.free "tuple" (by decide +kernel)) (by decide +kernel) boot_ty_tuple (by decide +kernel) (ja_cons (k_var W 3 (by decide +kernel)) ja_nil rfl) rfl rfl))
 jss_nil))))
theorem bd_guard_at (kV doc pm : Value) (an : Option Addr) (cdv ct : Value) (us : List Value) (hl : us.length = ps_guard_at.length) : bindArgs (PySem.W.fnOf "guard_at" "guard_at" (defArgs st_guard_at) (defBody st_guard_at) (defScope st_guard_at) .none kV doc pm an cdv ct) ⟨us, []⟩ = pure (ps_guard_at.zip us) := match us, hl with | [_, _, _], _ => rfl
/-! ### guard_of -/
def N_guard_of : List Str := ["document", "place", "guard_kind"]
def ps_guard_of : List Str := ["document", "place", "guard_kind"]
theorem sc_guard_of : FnScope N_guard_of ps_guard_of (defScope st_guard_of) := ⟨rfl, rfl, rfl, by decide +kernel, rfl, by decide +kernel, by decide +kernel⟩
def w_guard_of (sp_check_at : USp) (sp_check_guard_kind : USp) (sp_guard_at : USp) : UXK → WS := fun E =>
 (wSeq (wDrop (wCall sp_check_at (fun ux _ M => E ux M) (wCons (wVar 0) (wCons (wVar 1) wNil))))
 (wSeq (wDrop (wCall sp_check_guard_kind (fun ux _ M => E ux M) (wCons (wVar 2) wNil)))
 (wSeq (wRet (wCall sp_guard_at (fun ux _ M => E ux M) (wCons (wVar 0) (wCons (wVar 1) (wCons (wVar 2) wNil)))))
 wNext)))
theorem jj_guard_of (t : Txt tx w K mg) {k_check_at : Nat} {sp_check_at : USp} (F_check_at : FnV P w K mg base k_check_at "check_at" st_check_at ps_check_at sp_check_at) (hk_check_at : k_check_at ≤ k) {k_check_guard_kind : Nat} {sp_check_guard_kind : USp} (F_check_guard_kind : FnV P w K mg base k_check_guard_kind "check_guard_kind" st_check_guard_kind ps_check_guard_kind sp_check_guard_kind) (hk_check_guard_kind : k_check_guard_kind ≤ k) {k_guard_at : Nat} {sp_guard_at : USp} (F_guard_at : FnV P w K mg base k_guard_at "guard_at" st_guard_at ps_guard_at sp_guard_at) (hk_guard_at : k_guard_at ≤ k) (X : Cx) (g : Gd) (E : UXK) (D : DefX P w K mg base k N_guard_of (defScope st_guard_of) X) (tk : Takes X (Wof X g fun ux _ M => E ux M)) : JSs X g (defBody st_guard_of) (w_guard_of sp_check_at sp_check_guard_kind sp_guard_at E) :=
 have W := D.wk sc_guard_of.nd; have hc := D.calm
 (jss_cons (js_expr (k_call W hc F_check_at hk_check_at tk (by decide +kernel) (ja_cons (k_var W 0 (by decide +kernel)) (ja_cons (k_var W 1 (by decide +kernel)) ja_nil rfl) rfl) rfl rfl) rfl)
 (jss_cons (js_expr (k_call W hc F_check_guard_kind hk_check_guard_kind tk (by decide +kernel) (ja_cons (k_var W 2 (by decide +kernel)) ja_nil rfl) rfl rfl) rfl)
 (jss_cons (js_ret (k_call W hc F_guard_at hk_guard_at tk (by decide +kernel) (ja_cons (k_var W 0 (by decide +kernel)) (ja_cons (k_var W 1 (by decide +kernel)) (ja_cons (k_var W 2 (by decide +kernel)) ja_nil rfl) rfl) rfl) rfl rfl))
 jss_nil)))
theorem bd_guard_of (kV doc pm : Value) (an : Option Addr) (cdv ct : Value) (us : List Value) (hl : us.length = ps_guard_of.length) : bindArgs (PySem.W.fnOf "guard_of" "guard_of" (defArgs st_guard_of) (defBody st_guard_of) (defScope st_guard_of) .none kV doc pm an cdv ct) ⟨us, []⟩ = pure (ps_guard_of.zip us) := match us, hl with | [_, _, _], _ => rfl
/-! ### exchanged -/
def N_exchanged : List Str := ["document", "place", "other_document", "other_place", "part"]
def ps_exchanged : List Str := ["document", "place", "other_document", "other_place"]
theorem sc_exchanged : FnScope N_exchanged ps_exchanged (defScope st_exchanged) := ⟨rfl, rfl, rfl, by decide +kernel, rfl, by decide +kernel, by decide +kernel⟩
def w_exchanged (sp_check_at : USp) (sp_at_place : USp) (sp_is_kind_shape_work : USp) (sp_with_part : USp) : UXK → WS := fun E =>
 (wSeq (wDrop (wCall sp_check_at (fun ux _ M => E ux M) (wCons (wVar 0) (wCons (wVar 1) wNil))))
 (wSeq (wDrop (wCall sp_check_at (fun ux _ M => E ux M) (wCons (wVar 2) (wCons (wVar 3) wNil))))
 (wSeq (wSet 4 (wCall sp_at_place (fun ux _ M => E ux M) (wCons (wVar 2) (wCons (wVar 3) wNil))))
 (wSeq (wIfS (wAndT (wB (wBin uEq (wVar 1) (wTup wNil))) (wTr (wCall sp_is_kind_shape_work (fun ux _ M => E ux M) (wCons (wBin uIdx0 (wVar 4) (wC (.int 0))) wNil)))) (wSeq (wRaise "InvalidExchange" (fun ux _ M => E ux M))
 wNext)
 wNext)
 (wSeq (wRet (wCall sp_with_part (fun ux _ M => E ux M) (wCons (wVar 0) (wCons (wVar 1) (wCons (wVar 4) wNil)))))
 wNext)))))
theorem jj_exchanged (t : Txt tx w K mg) {k_check_at : Nat} {sp_check_at : USp} (F_check_at : FnV P w K mg base k_check_at "check_at" st_check_at ps_check_at sp_check_at) (hk_check_at : k_check_at ≤ k) {k_at_place : Nat} {sp_at_place : USp} (F_at_place : FnV P w K mg base k_at_place "at_place" st_at_place ps_at_place sp_at_place) (hk_at_place : k_at_place ≤ k) {k_is_kind_shape_work : Nat} {sp_is_kind_shape_work : USp} (F_is_kind_shape_work : FnV P w K mg base k_is_kind_shape_work "is_kind_shape_work" st_is_kind_shape_work ps_is_kind_shape_work sp_is_kind_shape_work) (hk_is_kind_shape_work : k_is_kind_shape_work ≤ k) {k_with_part : Nat} {sp_with_part : USp} (F_with_part : FnV P w K mg base k_with_part "with_part" st_with_part ps_with_part sp_with_part) (hk_with_part : k_with_part ≤ k) (X : Cx) (g : Gd) (E : UXK) (D : DefX P w K mg base k N_exchanged (defScope st_exchanged) X) (tk : Takes X (Wof X g fun ux _ M => E ux M)) : JSs X g (defBody st_exchanged) (w_exchanged sp_check_at sp_at_place sp_is_kind_shape_work sp_with_part E) :=
 have W := D.wk sc_exchanged.nd; have hc := D.calm
 (jss_cons (js_expr (k_call W hc F_check_at hk_check_at tk (by decide +kernel) (ja_cons (k_var W 0 (by decide +kernel)) (ja_cons (k_var W 1 (by decide +kernel)) ja_nil rfl) rfl) rfl rfl) rfl)
 (jss_cons (js_expr (k_call W hc F_check_at hk_check_at tk (by decide +kernel) (ja_cons (k_var W 2 (by decide +kernel)) (ja_cons (k_var W 3 (by decide +kernel)) ja_nil rfl) rfl) rfl rfl) rfl)
 (jss_cons (k_set W 4 (by decide +kernel) (k_call W hc F_at_place hk_at_place tk (by decide +kernel) (ja_cons (k_var W 2 (by decide +kernel)) (ja_cons (k_var W 3 (by decide +kernel)) ja_nil rfl) rfl) rfl rfl) rfl)
 (jss_cons (js_if (jt_of (jw_and (jt_cmp (uop_eq W.u64) (k_var W 1 (by decide +kernel)) (j_tup ja_nil) rfl) (jw_and1 (jt_truth (k_call W hc F_is_kind_shape_work hk_is_kind_shape_work tk (by decide +kernel) (ja_cons (j_idx (uix0 W.u65) (k_var W 4 (by decide +kernel)) j_int (fun _ _ => rfl)) ja_nil rfl) rfl rfl) (fun _ => rfl))))) (jss_cons (k_raise W hc (t.exc "InvalidExchange" (by decide +kernel)) (by decide +kernel) tk)
 jss_nil)
 jss_nil)
 (jss_cons (js_ret (k_call W hc F_with_part hk_with_part tk (by decide +kernel) (ja_cons (k_var W 0 (by decide +kernel)) (ja_cons (k_var W 1 (by decide +kernel)) (ja_cons (k_var W 4 (by decide +kernel)) ja_nil rfl) rfl) rfl) rfl rfl))
 jss_nil)))))
theorem bd_exchanged (kV doc pm : Value) (an : Option Addr) (cdv ct : Value) (us : List Value) (hl : us.length = ps_exchanged.length) : bindArgs (PySem.W.fnOf "exchanged" "exchanged" (defArgs st_exchanged) (defBody st_exchanged) (defScope st_exchanged) .none kV doc pm an cdv ct) ⟨us, []⟩ = pure (ps_exchanged.zip us) := match us, hl with | [_, _, _, _], _ => rfl
/-! ### _law_well -/
def N__law_well : List Str := ["script", "cell", "cells", "seed"]
def ps__law_well : List Str := ["script"]
theorem sc__law_well : FnScope N__law_well ps__law_well (defScope st__law_well) := ⟨rfl, rfl, rfl, by decide +kernel, rfl, by decide +kernel, by decide +kernel⟩
def w__law_well : UXK → WS := fun E =>
 (wSeq (wPar 2 3 (wCons (wComp true (wIt (wSl (wVar 0) none (some (wC (.int 63))))) (wName 1) wYes (wCB uInt1 (wCons (wVar 1) wNil)) [1]) (wCons (wBin uAdd (wBin uMul (wC (.int 11)) (wCB uLen (wCons (wVar 0) wNil))) (wC (.int 5))) wNil)))
 (wSeq (wFor (wIt (wVar 2)) (wName 1)
 (wSeq (wSet 3 (wBin uMod (wCB uInt1 (wCons (wBin uAdd (wBin uAdd (wBin uMul (wVar 3) (wC (.int 3202034522624059733))) (wBin uMod (wCB uInt1 (wCons (wVar 1) wNil)) (wC (.int 2305843009213693921)))) (wC (.int 7919))) wNil)) (wC (.int 2305843009213693921))))
 wNext))
 (wSeq (wRet (wLstH (wCons (wVar 2) (wCons (wC (.int 0)) (wCons (wVar 3) wNil)))))
 wNext)))
theorem jj__law_well (t : Txt tx w K mg) (X : Cx) (g : Gd) (E : UXK) (D : DefX P w K mg base k N__law_well (defScope st__law_well) X) (tk : Takes X (Wof X g fun ux _ M => E ux M)) : JSs X g (defBody st__law_well) (w__law_well E) :=
 have W := D.wk sc__law_well.nd; have hc := D.calm
 (jss_cons (k_par D sc__law_well.nd 2 3 (by decide +kernel) (ja_cons (k_comp W hc true [("cell", 1)] (by decide +kernel) (ji_it (j_slice (tl := none) (th := (some (wC (.int 63)))) (k_var W 0 (by decide +kernel)) trivial j_int)) (fun Y1 W1 hc1 => ⟨(k_nameo W1 [1] 1 (by decide +kernel) (by decide)), jts_nil, (k_callTy W1 ucal_int (t.free "int" (by decide +kernel)) (by decide +kernel) boot_ty_int (by decide +kernel) (ja_cons (k_var W1 1 (by decide +kernel)) ja_nil rfl) rfl rfl)⟩) (fun _ => rfl)) (ja_cons (j_bin uop_add (j_bin uop_mul j_int (k_callB W ucal_len (t.free "len" (by decide +kernel)) (by decide +kernel) boot_fn_len (by decide +kernel) (ja_cons (k_var W 0 (by decide +kernel)) ja_nil rfl) rfl rfl)) j_int) ja_nil rfl) rfl) (by kernel_rfl) rfl)
 (jss_cons (js_for D.pass hc (ji_it (k_var W 2 (by decide +kernel))) (k_name W 1 (by decide +kernel)) (jss_cons (k_set W 3 (by decide +kernel) (j_bin uop_mod (k_callTy W ucal_int (t.free "int" (by decide +kernel)) (by decide +kernel) boot_ty_int (by decide +kernel) (ja_cons (j_bin uop_add (j_bin uop_add (j_bin uop_mul (k_var W 3 (by decide +kernel)) j_int) (j_bin uop_mod (k_callTy W ucal_int (t.free "int" (by decide +kernel)) (by decide +kernel) boot_ty_int (by decide +kernel) (ja_cons (k_var W 1 (by decide +kernel)) ja_nil rfl) rfl rfl) j_int)) j_int) ja_nil rfl) rfl rfl) j_int) rfl)
 jss_nil) (fun _ => rfl))
 (jss_cons (js_ret (j_lstH (ja_cons (k_var W 2 (by decide +kernel)) (ja_cons j_int (ja_cons (k_var W 3 (by decide +kernel)) ja_nil rfl) rfl) rfl)))
 jss_nil)))
theorem bd__law_well (kV doc pm : Value) (an : Option Addr) (cdv ct : Value) (us : List Value) (hl : us.length = ps__law_well.length) : bindArgs (PySem.W.fnOf "_law_well" "_law_well" (defArgs st__law_well) (defBody st__law_well) (defScope st__law_well) .none kV doc pm an cdv ct) ⟨us, []⟩ = pure (ps__law_well.zip us) := match us, hl with | [_], _ => rfl
/-! ### _law_pick -/
def N__law_pick : List Str := ["well", "many", "step", "found"]
def ps__law_pick : List Str := ["well", "many"]
theorem sc__law_pick : FnScope N__law_pick ps__law_pick (defScope st__law_pick) := ⟨rfl, rfl, rfl, by decide +kernel, rfl, by decide +kernel, by decide +kernel⟩
def w__law_pick : UXK → WS := fun E =>
 (wSeq (wWhile (wAndT (wB (wBin uEq (wBin uIdx0 (wVar 0) (wC (.int 1))) (wC (.int 0)))) (wAndT (wB (wBin uNe (wBin uIdx0 (wVar 0) (wC (.int 0))) (wLst wNil))) (wB (wBin uGe (wBin uIdx0 (wBin uIdx0 (wVar 0) (wC (.int 0))) (wC (.int 0))) (wBin uPow (wC (.int 10)) (wC (.int 18))))))) (wSeq (wAsg (wBin uSub (wBM "list" uPopAt (wBin uIdx0 (wVar 0) (wC (.int 0))) (wCons (wC (.int 0)) wNil)) (wBin uPow (wC (.int 10)) (wC (.int 18)))) (wGsub (wVar 0) (wC (.int 1)) uSetL))
 wNext))
 (wSeq (wIfS (wB (wBin uGt (wBin uIdx0 (wVar 0) (wC (.int 1))) (wC (.int 0)))) (wSeq (wSet 3 (wBin uMod (wCB uInt1 (wCons (wBin uIdx0 (wVar 0) (wC (.int 1))) wNil)) (wVar 1)))
 (wSeq (wAsg (wBin uFdiv (wCB uInt1 (wCons (wBin uIdx0 (wVar 0) (wC (.int 1))) wNil)) (wVar 1)) (wGsub (wVar 0) (wC (.int 1)) uSetL))
 (wSeq (wRet (wVar 3))
 wNext)))
 wNext)
 (wSeq (wSet 2 (wBin uAdd (wC (.int 65537)) (wIf (wB (wBin uNe (wBin uIdx0 (wVar 0) (wC (.int 0))) (wLst wNil))) (wBin uMod (wCB uInt1 (wCons (wBM "list" uPopAt (wBin uIdx0 (wVar 0) (wC (.int 0))) (wCons (wC (.int 0)) wNil)) wNil)) (wC (.int 2305843009213693921))) (wC (.int 0)))))
 (wSeq (wAsg (wBin uMod (wCB uInt1 (wCons (wBin uAdd (wBin uMul (wBin uIdx0 (wVar 0) (wC (.int 2))) (wC (.int 3935559000370003845))) (wVar 2)) wNil)) (wC (.int 2305843009213693921))) (wGsub (wVar 0) (wC (.int 2)) uSetL))
 (wSeq (wRet (wBin uMod (wBin uFdiv (wCB uInt1 (wCons (wBin uIdx0 (wVar 0) (wC (.int 2))) wNil)) (wC (.int 28657))) (wVar 1)))
 wNext)))))
theorem jj__law_pick (t : Txt tx w K mg) (X : Cx) (g : Gd) (E : UXK) (D : DefX P w K mg base k N__law_pick (defScope st__law_pick) X) (tk : Takes X (Wof X g fun ux _ M => E ux M)) : JSs X g (defBody st__law_pick) (w__law_pick E) :=
 have W := D.wk sc__law_pick.nd; have hc := D.calm
 (jss_cons (js_while D.pass (jt_of (jw_and (jt_cmp (uop_eq W.u64) (j_idx (uix0 W.u65) (k_var W 0 (by decide +kernel)) j_int (fun _ _ => rfl)) j_int rfl) (jw_and (jt_cmp (uop_ne W.u64) (j_idx (uix0 W.u65) (k_var W 0 (by decide +kernel)) j_int (fun _ _ => rfl)) (j_lst ja_nil) rfl) (jw_and1 (jt_cmp uop_ge (j_idx (uix0 W.u65) (j_idx (uix0 W.u65) (k_var W 0 (by decide +kernel)) j_int (fun _ _ => rfl)) j_int (fun _ _ => rfl)) (j_bin uop_pow j_int j_int) rfl))))) (jss_cons (k_asg D (j_bin uop_sub (j_bm PySem.F.plainAttrs_list PySem.F.slot_list_pop PySem.F.type_list_pop umt_popAt (j_idx (uix0 W.u65) (k_var W 0 (by decide +kernel)) j_int (fun _ _ => rfl)) (ja_cons j_int ja_nil rfl) rfl rfl rfl rfl rfl) (j_bin uop_pow j_int j_int)) (jg_sub (k_var W 0 (by decide +kernel)) j_int uset_list (fun _ => rfl)) rfl rfl rfl)
 jss_nil))
 (jss_cons (js_if (jt_cmp uop_gt (j_idx (uix0 W.u65) (k_var W 0 (by decide +kernel)) j_int (fun _ _ => rfl)) j_int rfl) (jss_cons (k_set W 3 (by decide +kernel) (j_bin uop_mod (k_callTy W ucal_int (t.free "int" (by decide +kernel)) (by decide +kernel) boot_ty_int (by decide +kernel) (ja_cons (j_idx (uix0 W.u65) (k_var W 0 (by decide +kernel)) j_int (fun _ _ => rfl)) ja_nil rfl) rfl rfl) (k_var W 1 (by decide +kernel))) rfl)
 (jss_cons (k_asg D (j_bin uop_fdiv (k_callTy W ucal_int (t.free "int" (by decide +kernel)) (by decide +kernel) boot_ty_int (by decide +kernel) (ja_cons (j_idx (uix0 W.u65) (k_var W 0 (by decide +kernel)) j_int (fun _ _ => rfl)) ja_nil rfl) rfl rfl) (k_var W 1 (by decide +kernel))) (jg_sub (k_var W 0 (by decide +kernel)) j_int uset_list (fun _ => rfl)) rfl rfl rfl)
 (jss_cons (js_ret (k_var W 3 (by decide +kernel)))
 jss_nil)))
 jss_nil)
 (jss_cons (k_set W 2 (by decide +kernel) (j_bin uop_add j_int (j_if (jt_cmp (uop_ne W.u64) (j_idx (uix0 W.u65) (k_var W 0 (by decide +kernel)) j_int (fun _ _ => rfl)) (j_lst ja_nil) rfl) (j_bin uop_mod (k_callTy W ucal_int (t.free "int" (by decide +kernel)) (by decide +kernel) boot_ty_int (by decide +kernel) (ja_cons (j_bm PySem.F.plainAttrs_list PySem.F.slot_list_pop PySem.F.type_list_pop umt_popAt (j_idx (uix0 W.u65) (k_var W 0 (by decide +kernel)) j_int (fun _ _ => rfl)) (ja_cons j_int ja_nil rfl) rfl rfl rfl rfl rfl) ja_nil rfl) rfl rfl) j_int) j_int)) rfl)
 (jss_cons (k_asg D (j_bin uop_mod (k_callTy W ucal_int (t.free "int" (by decide +kernel)) (by decide +kernel) boot_ty_int (by decide +kernel) (ja_cons (j_bin uop_add (j_bin uop_mul (j_idx (uix0 W.u65) (k_var W 0 (by decide +kernel)) j_int (fun _ _ => rfl)) j_int) (k_var W 2 (by decide +kernel))) ja_nil rfl) rfl rfl) j_int) (jg_sub (k_var W 0 (by decide +kernel)) j_int uset_list (fun _ => rfl)) rfl rfl rfl)
 (jss_cons (js_ret (j_bin uop_mod (j_bin uop_fdiv (k_callTy W ucal_int (t.free "int" (by decide +kernel)) (by decide +kernel) boot_ty_int (by decide +kernel) (ja_cons (j_idx (uix0 W.u65) (k_var W 0 (by decide +kernel)) j_int (fun _ _ => rfl)) ja_nil rfl) rfl rfl) j_int) (k_var W 1 (by decide +kernel))))
 jss_nil)))))
theorem bd__law_pick (kV doc pm : Value) (an : Option Addr) (cdv ct : Value) (us : List Value) (hl : us.length = ps__law_pick.length) : bindArgs (PySem.W.fnOf "_law_pick" "_law_pick" (defArgs st__law_pick) (defBody st__law_pick) (defScope st__law_pick) .none kV doc pm an cdv ct) ⟨us, []⟩ = pure (ps__law_pick.zip us) := match us, hl with | [_, _], _ => rfl
/-! ### _law_one -/
def N__law_one : List Str := ["well", "row"]
def ps__law_one : List Str := ["well", "row"]
theorem sc__law_one : FnScope N__law_one ps__law_one (defScope st__law_one) := ⟨rfl, rfl, rfl, by decide +kernel, rfl, by decide +kernel, by decide +kernel⟩
def w__law_one (sp__law_pick : USp) : UXK → WS := fun E =>
 (wSeq (wRet (wBin uIdx0 (wVar 1) (wCall sp__law_pick (fun ux _ M => E ux M) (wCons (wVar 0) (wCons (wCB uLen (wCons (wVar 1) wNil)) wNil)))))
 wNext)
theorem jj__law_one (t : Txt tx w K mg) {k__law_pick : Nat} {sp__law_pick : USp} (F__law_pick : FnV P w K mg base k__law_pick "_law_pick" st__law_pick ps__law_pick sp__law_pick) (hk__law_pick : k__law_pick ≤ k) (X : Cx) (g : Gd) (E : UXK) (D : DefX P w K mg base k N__law_one (defScope st__law_one) X) (tk : Takes X (Wof X g fun ux _ M => E ux M)) : JSs X g (defBody st__law_one) (w__law_one sp__law_pick E) :=
 have W := D.wk sc__law_one.nd; have hc := D.calm
 (jss_cons (js_ret (j_idx (uix0 W.u65) (k_var W 1 (by decide +kernel)) (k_call W hc F__law_pick hk__law_pick tk (by decide +kernel) (ja_cons (k_var W 0 (by decide +kernel)) (ja_cons (k_callB W ucal_len (t.free "len" (by decide +kernel)) (by decide +kernel) boot_fn_len (by decide +kernel) (ja_cons (k_var W 1 (by decide +kernel)) ja_nil rfl) rfl rfl) ja_nil rfl) rfl) rfl rfl) (fun _ _ => rfl)))
 jss_nil)
theorem bd__law_one (kV doc pm : Value) (an : Option Addr) (cdv ct : Value) (us : List Value) (hl : us.length = ps__law_one.length) : bindArgs (PySem.W.fnOf "_law_one" "_law_one" (defArgs st__law_one) (defBody st__law_one) (defScope st__law_one) .none kV doc pm an cdv ct) ⟨us, []⟩ = pure (ps__law_one.zip us) := match us, hl with | [_, _], _ => rfl
/-! ### _law_some -/
def N__law_some : List Str := ["well", "row", "fewest", "most", "turn", "left", "found"]
def ps__law_some : List Str := ["well", "row", "fewest", "most"]
theorem sc__law_some : FnScope N__law_some ps__law_some (defScope st__law_some) := ⟨rfl, rfl, rfl, by decide +kernel, rfl, by decide +kernel, by decide +kernel⟩
def w__law_some (sp__law_pick : USp) : UXK → WS := fun E =>
 (wSeq (wPar 5 6 (wCons (wCB uListH (wCons (wVar 1) wNil)) (wCons (wLstH wNil) wNil)))
 (wSeq (wFor (wRng1 (wCons (wCB uMin (wCons (wCB uLen (wCons (wVar 5) wNil)) (wCons (wBin uAdd (wVar 2) (wCall sp__law_pick (fun ux _ M => E ux M) (wCons (wVar 0) (wCons (wBin uAdd (wBin uSub (wVar 3) (wVar 2)) (wC (.int 1))) wNil)))) wNil))) wNil)) (wName 4)
 (wSeq (wDrop (wBM "list" uAppend (wVar 6) (wCons (wBM "list" uPopAt (wVar 5) (wCons (wCall sp__law_pick (fun ux _ M => E ux M) (wCons (wVar 0) (wCons (wCB uLen (wCons (wVar 5) wNil)) wNil))) wNil)) wNil)))
 wNext))
 (wSeq (wRet (wVar 6))
 wNext)))
theorem jj__law_some (t : Txt tx w K mg) {k__law_pick : Nat} {sp__law_pick : USp} (F__law_pick : FnV P w K mg base k__law_pick "_law_pick" st__law_pick ps__law_pick sp__law_pick) (hk__law_pick : k__law_pick ≤ k) (X : Cx) (g : Gd) (E : UXK) (D : DefX P w K mg base k N__law_some (defScope st__law_some) X) (tk : Takes X (Wof X g fun ux _ M => E ux M)) : JSs X g (defBody st__law_some) (w__law_some sp__law_pick E) :=
 have W := D.wk sc__law_some.nd; have hc := D.calm
 (jss_cons (k_par D sc__law_some.nd 5 6 (by decide +kernel) (ja_cons (k_callTy W ucal_listH (t.free "list" (by decide +kernel)) (by decide +kernel) boot_ty_list (by decide +kernel) (ja_cons (k_var W 1 (by decide +kernel)) ja_nil rfl) rfl rfl) (ja_cons (j_lstH ja_nil) ja_nil rfl) rfl) (by kernel_rfl) rfl)
 (jss_cons (js_for D.pass hc (k_range1 W (t.free "range" (by decide +kernel)) (by decide +kernel) (ja_cons (k_callB W (ucal_min hc) (t.free "min" (by decide +kernel)) (by decide +kernel) boot_fn_min (by decide +kernel) (ja_cons (k_callB W ucal_len (t.free "len" (by decide +kernel)) (by decide +kernel) boot_fn_len (by decide +kernel) (ja_cons (k_var W 5 (by decide +kernel)) ja_nil rfl) rfl rfl) (ja_cons (j_bin uop_add (k_var W 2 (by decide +kernel)) (k_call W hc F__law_pick hk__law_pick tk (by decide +kernel) (ja_cons (k_var W 0 (by decide +kernel)) (ja_cons (j_bin uop_add (j_bin uop_sub (k_var W 3 (by decide +kernel)) (k_var W 2 (by decide +kernel))) j_int) ja_nil rfl) rfl) rfl rfl)) ja_nil rfl) rfl) rfl rfl) ja_nil rfl) rfl) (k_name W 4 (by decide +kernel)) (jss_cons (js_expr (j_bm PySem.F.plainAttrs_list PySem.F.slot_list_append PySem.F.type_list_append umt_append (k_var W 6 (by decide +kernel)) (ja_cons (j_bm PySem.F.plainAttrs_list PySem.F.slot_list_pop PySem.F.type_list_pop umt_popAt (k_var W 5 (by decide +kernel)) (ja_cons (k_call W hc F__law_pick hk__law_pick tk (by decide +kernel) (ja_cons (k_var W 0 (by decide +kernel)) (ja_cons (k_callB W ucal_len (t.free "len" (by decide +kernel)) (by decide +kernel) boot_fn_len (by decide +kernel) (ja_cons (k_var W 5 (by decide +kernel)) ja_nil rfl) rfl rfl) ja_nil rfl) rfl) rfl rfl) ja_nil rfl) rfl rfl rfl rfl rfl) ja_nil rfl) rfl rfl rfl rfl rfl) rfl)
 jss_nil) (fun _ => rfl))
 (jss_cons (js_ret (k_var W 6 (by decide +kernel)))
 jss_nil)))
theorem bd__law_some (kV doc pm : Value) (an : Option Addr) (cdv ct : Value) (us : List Value) (hl : us.length = ps__law_some.length) : bindArgs (PySem.W.fnOf "_law_some" "_law_some" (defArgs st__law_some) (defBody st__law_some) (defScope st__law_some) .none kV doc pm an cdv ct) ⟨us, []⟩ = pure (ps__law_some.zip us) := match us, hl with | [_, _, _, _], _ => rfl
/-! ### _law_same -/
def N__law_same : List Str := ["got", "due", "k"]
def ps__law_same : List Str := ["got", "due"]
theorem sc__law_same : FnScope N__law_same ps__law_same (defScope st__law_same) := ⟨rfl, rfl, rfl, by decide +kernel, rfl, by decide +kernel, by decide +kernel⟩
def w__law_same (sp__law_same : USp) : UXK → WS := fun E =>
 (wSeq (wIfS (wTr (wCB uIsi (wCons (wVar 1) (wCons (wTup (wCons (wC (.ty "tuple")) (wCons (wC (.ty "list")) wNil))) wNil)))) (wSeq (wIfS (wOrT (wB (wBin uNe (wCB uIsi (wCons (wVar 1) (wCons (wC (.ty "tuple")) wNil))) (wCB uIsi (wCons (wVar 0) (wCons (wC (.ty "tuple")) wNil))))) (wB (wBin uNe (wCB uIsi (wCons (wVar 1) (wCons (wC (.ty "list")) wNil))) (wCB uIsi (wCons (wVar 0) (wCons (wC (.ty "list")) wNil)))))) (wSeq (wRet (wC (.bl false)))
 wNext)
 wNext)
 (wSeq (wRet (wAnd (wBin uEq (wCB uLen (wCons (wVar 0) wNil)) (wCB uLen (wCons (wVar 1) wNil))) (wCB uAll (wCons (wComp false (wRng1 (wCons (wCB uLen (wCons (wVar 1) wNil)) wNil)) (wName 2) wYes (wCall sp__law_same (fun _ _ _ => False) (wCons (wBin uIdx0 (wVar 0) (wVar 2)) (wCons (wBin uIdx0 (wVar 1) (wVar 2)) wNil))) [2]) wNil))))
 wNext))
 wNext)
 (wSeq (wIfS (wOrT (wB (wBin uIs (wVar 1) (wC .non))) (wOrT (wTr (wCB uIsi (wCons (wVar 1) (wCons (wC (.ty "bool")) wNil)))) (wTr (wCB uIsi (wCons (wVar 0) (wCons (wC (.ty "bool")) wNil)))))) (wSeq (wRet (wIf (wB (wBin uIs (wVar 1) (wC .non))) (wBin uIs (wVar 0) (wC .non)) (wAnd (wCB uIsi (wCons (wVar 1) (wCons (wC (.ty "bool")) wNil))) (wAnd (wCB uIsi (wCons (wVar 0) (wCons (wC (.ty "bool")) wNil))) (wBin uEq (wVar 0) (wVar 1))))))
 wNext)
 wNext)
 (wSeq (wRet (wAnd (wIf (wTr (wCB uIsi (wCons (wVar 1) (wCons (wC (.ty "int")) wNil)))) (wCB uIsi (wCons (wVar 0) (wCons (wC (.ty "int")) wNil))) (wCB uIsi (wCons (wVar 0) (wCons (wC (.ty "str")) wNil)))) (wBin uEq (wVar 0) (wVar 1))))
 wNext)))
theorem jj__law_same (t : Txt tx w K mg) {k__law_same : Nat} {sp__law_same : USp} (F__law_same : FnV P w K mg base k__law_same "_law_same" st__law_same ps__law_same sp__law_same) (hk__law_same : k__law_same ≤ k) (X : Cx) (g : Gd) (E : UXK) (D : DefX P w K mg base k N__law_same (defScope st__law_same) X) (tk : Takes X (Wof X g fun ux _ M => E ux M)) : JSs X g (defBody st__law_same) (w__law_same sp__law_same E) :=
 have W := D.wk sc__law_same.nd; have hc := D.calm
 (jss_cons (js_if (jt_truth (k_callB W ucal_isi (t.free "isinstance" (by decide +kernel)) (by decide +kernel) boot_fn_isinstance (by decide +kernel) (ja_cons (k_var W 1 (by decide +kernel)) (ja_cons (j_tup (ja_cons (k_ty W (t.free "tuple" (by decide +kernel)) (by decide +kernel) boot_ty_tuple (by decide +kernel)) (ja_cons (k_ty W (t.free "list" (by decide +kernel)) (by decide +kernel) boot_ty_list (by decide +kernel)) ja_nil rfl) rfl)) ja_nil rfl) rfl) rfl rfl) (fun _ => rfl)) (jss_cons (js_if (jt_of (jw_or (jt_cmp (uop_ne W.u64) (k_callB W ucal_isi (t.free "isinstance" (by decide +kernel)) (by decide +kernel) boot_fn_isinstance (by decide +kernel) (ja_cons (k_var W 1 (by decide +kernel)) (ja_cons (k_ty W (t.free "tuple" (by decide +kernel)) (by decide +kernel) boot_ty_tuple (by decide +kernel)) ja_nil rfl) rfl) rfl rfl) (k_callB W ucal_isi (t.free "isinstance" (by decide +kernel)) (by decide +kernel) boot_fn_isinstance (by decide +kernel) (ja_cons (k_var W 0 (by decide +kernel)) (ja_cons (k_ty W (t.free "tuple" (by decide +kernel)) (by decide +kernel) boot_ty_tuple (by decide +kernel)) ja_nil rfl) rfl) rfl rfl) rfl) (jw_or1 (jt_cmp (uop_ne W.u64) (k_callB W ucal_isi (t.free "isinstance" (by decide +kernel)) (by decide +kernel) boot_fn_isinstance (by decide +kernel) (ja_cons (k_var W 1 (by decide +kernel)) (ja_cons (k_ty W (t.free "list" (by decide +kernel)) (by decide +kernel) boot_ty_list (by decide +kernel)) ja_nil rfl) rfl) rfl rfl) (k_callB W ucal_isi (t.free "isinstance" (by decide +kernel)) (by decide +kernel) boot_fn_isinstance (by decide +kernel) (ja_cons (k_var W 0 (by decide +kernel)) (ja_cons (k_ty W (t.free "list" (by decide +kernel)) (by decide +kernel) boot_ty_list (by decide +kernel)) ja_nil rfl) rfl) rfl rfl) rfl)))) (jss_cons (js_ret j_bl)
 jss_nil)
 jss_nil)
 (jss_cons (js_ret (j_and (j_cmp (uop_eq W.u64) (k_callB W ucal_len (t.free "len" (by decide +kernel)) (by decide +kernel) boot_fn_len (by decide +kernel) (ja_cons (k_var W 0 (by decide +kernel)) ja_nil rfl) rfl rfl) (k_callB W ucal_len (t.free "len" (by decide +kernel)) (by decide +kernel) boot_fn_len (by decide +kernel) (ja_cons (k_var W 1 (by decide +kernel)) ja_nil rfl) rfl rfl) rfl) (j_one (k_callB W (ucal_all hc) (t.free "all" (by decide +kernel)) (by decide +kernel) boot_fn_all (by decide +kernel) (ja_cons (k_comp W hc false [("k", 2)] (by decide +kernel) (k_range1 W (t.free "range" (by decide +kernel)) (by decide +kernel) (ja_cons (k_callB W ucal_len (t.free "len" (by decide +kernel)) (by decide +kernel) boot_fn_len (by decide +kernel) (ja_cons (k_var W 1 (by decide +kernel)) ja_nil rfl) rfl rfl) ja_nil rfl) rfl) (fun Y1 W1 hc1 => ⟨(k_nameo W1 [2] 2 (by decide +kernel) (by decide)), jts_nil, (k_call W1 hc1 F__law_same hk__law_same takes_no (by decide +kernel) (ja_cons (j_idx (uix0 W1.u65) (k_var W1 0 (by decide +kernel)) (k_var W1 2 (by decide +kernel)) (fun _ _ => rfl)) (ja_cons (j_idx (uix0 W1.u65) (k_var W1 1 (by decide +kernel)) (k_var W1 2 (by decide +kernel)) (fun _ _ => rfl)) ja_nil rfl) rfl) rfl rfl)⟩) (fun _ => rfl)) ja_nil rfl) rfl rfl))))
 jss_nil))
 jss_nil)
 (jss_cons (js_if (jt_of (jw_or (jt_cmp uop_is (k_var W 1 (by decide +kernel)) j_non rfl) (jw_or (jt_truth (k_callB W ucal_isi (t.free "isinstance" (by decide +kernel)) (by decide +kernel) boot_fn_isinstance (by decide +kernel) (ja_cons (k_var W 1 (by decide +kernel)) (ja_cons (k_ty W (t.free "bool" (by decide +kernel)) (by decide +kernel) boot_ty_bool (by decide +kernel)) ja_nil rfl) rfl) rfl rfl) (fun _ => rfl)) (jw_or1 (jt_truth (k_callB W ucal_isi (t.free "isinstance" (by decide +kernel)) (by decide +kernel) boot_fn_isinstance (by decide +kernel) (ja_cons (k_var W 0 (by decide +kernel)) (ja_cons (k_ty W (t.free "bool" (by decide +kernel)) (by decide +kernel) boot_ty_bool (by decide +kernel)) ja_nil rfl) rfl) rfl rfl) (fun _ => rfl)))))) (jss_cons (js_ret (j_if (jt_cmp uop_is (k_var W 1 (by decide +kernel)) j_non rfl) (j_cmp uop_is (k_var W 0 (by decide +kernel)) j_non rfl) (j_and (k_callB W ucal_isi (t.free "isinstance" (by decide +kernel)) (by decide +kernel) boot_fn_isinstance (by decide +kernel) (ja_cons (k_var W 1 (by decide +kernel)) (ja_cons (k_ty W (t.free "bool" (by decide +kernel)) (by decide +kernel) boot_ty_bool (by decide +kernel)) ja_nil rfl) rfl) rfl rfl) (j_and (k_callB W ucal_isi (t.free "isinstance" (by decide +kernel)) (by decide +kernel) boot_fn_isinstance (by decide +kernel) (ja_cons (k_var W 0 (by decide +kernel)) (ja_cons (k_ty W (t.free "bool" (by decide +kernel)) (by decide +kernel) boot_ty_bool (by decide +kernel)) ja_nil rfl) rfl) rfl rfl) (j_one (j_cmp (uop_eq W.u64) (k_var W 0 (by decide +kernel)) (k_var W 1 (by decide +kernel)) rfl))))))
 jss_nil)
 jss_nil)
 (jss_cons (js_ret (j_and (j_if (jt_truth (k_callB W ucal_isi (t.free "isinstance" (by decide +kernel)) (by decide +kernel) boot_fn_isinstance (by decide +kernel) (ja_cons (k_var W 1 (by decide +kernel)) (ja_cons (k_ty W (t.free "int" (by decide +kernel)) (by decide +kernel) boot_ty_int (by decide +kernel)) ja_nil rfl) rfl) rfl rfl) (fun _ => rfl)) (k_callB W ucal_isi (t.free "isinstance" (by decide +kernel)) (by decide +kernel) boot_fn_isinstance (by decide +kernel) (ja_cons (k_var W 0 (by decide +kernel)) (ja_cons (k_ty W (t.free "int" (by decide +kernel)) (by decide +kernel) boot_ty_int (by decide +kernel)) ja_nil rfl) rfl) rfl rfl) (k_callB W ucal_isi (t.free "isinstance" (by decide +kernel)) (by decide +kernel) boot_fn_isinstance (by decide +kernel) (ja_cons (k_var W 0 (by decide +kernel)) (ja_cons (k_ty W (t.free "str" (by decide +kernel)) (by decide +kernel) boot_ty_str (by decide +kernel)) ja_nil rfl) rfl) rfl rfl)) (j_one (j_cmp (uop_eq W.u64) (k_var W 0 (by decide +kernel)) (k_var W 1 (by decide +kernel)) rfl))))
 jss_nil)))
theorem bd__law_same (kV doc pm : Value) (an : Option Addr) (cdv ct : Value) (us : List Value) (hl : us.length = ps__law_same.length) : bindArgs (PySem.W.fnOf "_law_same" "_law_same" (defArgs st__law_same) (defBody st__law_same) (defScope st__law_same) .none kV doc pm an cdv ct) ⟨us, []⟩ = pure (ps__law_same.zip us) := match us, hl with | [_, _], _ => rfl
/-! ### _law_is_int -/
def N__law_is_int : List Str := ["value"]
def ps__law_is_int : List Str := ["value"]
theorem sc__law_is_int : FnScope N__law_is_int ps__law_is_int (defScope st__law_is_int) := ⟨rfl, rfl, rfl, by decide +kernel, rfl, by decide +kernel, by decide +kernel⟩
def w__law_is_int : UXK → WS := fun E =>
 (wSeq (wRet (wAnd (wCB uIsi (wCons (wVar 0) (wCons (wC (.ty "int")) wNil))) (wNot (wCB uIsi (wCons (wVar 0) (wCons (wC (.ty "bool")) wNil))))))
 wNext)
theorem jj__law_is_int (t : Txt tx w K mg) (X : Cx) (g : Gd) (E : UXK) (D : DefX P w K mg base k N__law_is_int (defScope st__law_is_int) X) (tk : Takes X (Wof X g fun ux _ M => E ux M)) : JSs X g (defBody st__law_is_int) (w__law_is_int E) :=
 have W := D.wk sc__law_is_int.nd; have hc := D.calm
 (jss_cons (js_ret (j_and (k_callB W ucal_isi (t.free "isinstance" (by decide +kernel)) (by decide +kernel) boot_fn_isinstance (by decide +kernel) (ja_cons (k_var W 0 (by decide +kernel)) (ja_cons (k_ty W (t.free "int" (by decide +kernel)) (by decide +kernel) boot_ty_int (by decide +kernel)) ja_nil rfl) rfl) rfl rfl) (j_one (j_not (k_callB W ucal_isi (t.free "isinstance" (by decide +kernel)) (by decide +kernel) boot_fn_isinstance (by decide +kernel) (ja_cons (k_var W 0 (by decide +kernel)) (ja_cons (k_ty W (t.free "bool" (by decide +kernel)) (by decide +kernel) boot_ty_bool (by decide +kernel)) ja_nil rfl) rfl) rfl rfl)))))
 jss_nil)
theorem bd__law_is_int (kV doc pm : Value) (an : Option Addr) (cdv ct : Value) (us : List Value) (hl : us.length = ps__law_is_int.length) : bindArgs (PySem.W.fnOf "_law_is_int" "_law_is_int" (defArgs st__law_is_int) (defBody st__law_is_int) (defScope st__law_is_int) .none kV doc pm an cdv ct) ⟨us, []⟩ = pure (ps__law_is_int.zip us) := match us, hl with | [_], _ => rfl
/-! ### _law_is_row -/
def N__law_is_row : List Str := ["value", "size"]
def ps__law_is_row : List Str := ["value", "size"]
theorem sc__law_is_row : FnScope N__law_is_row ps__law_is_row (defScope st__law_is_row) := ⟨rfl, rfl, rfl, by decide +kernel, rfl, by decide +kernel, by decide +kernel⟩
def w__law_is_row : UXK → WS := fun E =>
 (wSeq (wRet (wAnd (wCB uIsi (wCons (wVar 0) (wCons (wC (.ty "tuple")) wNil))) (wBin uEq (wCB uLen (wCons (wVar 0) wNil)) (wVar 1))))
 wNext)
theorem jj__law_is_row (t : Txt tx w K mg) (X : Cx) (g : Gd) (E : UXK) (D : DefX P w K mg base k N__law_is_row (defScope st__law_is_row) X) (tk : Takes X (Wof X g fun ux _ M => E ux M)) : JSs X g (defBody st__law_is_row) (w__law_is_row E) :=
 have W := D.wk sc__law_is_row.nd; have hc := D.calm
 (jss_cons (js_ret (j_and (k_callB W ucal_isi (t.free "isinstance" (by decide +kernel)) (by decide +kernel) boot_fn_isinstance (by decide +kernel) (ja_cons (k_var W 0 (by decide +kernel)) (ja_cons (k_ty W (t.free "tuple" (by decide +kernel)) (by decide +kernel) boot_ty_tuple (by decide +kernel)) ja_nil rfl) rfl) rfl rfl) (j_one (j_cmp (uop_eq W.u64) (k_callB W ucal_len (t.free "len" (by decide +kernel)) (by decide +kernel) boot_fn_len (by decide +kernel) (ja_cons (k_var W 0 (by decide +kernel)) ja_nil rfl) rfl rfl) (k_var W 1 (by decide +kernel)) rfl))))
 jss_nil)
theorem bd__law_is_row (kV doc pm : Value) (an : Option Addr) (cdv ct : Value) (us : List Value) (hl : us.length = ps__law_is_row.length) : bindArgs (PySem.W.fnOf "_law_is_row" "_law_is_row" (defArgs st__law_is_row) (defBody st__law_is_row) (defScope st__law_is_row) .none kV doc pm an cdv ct) ⟨us, []⟩ = pure (ps__law_is_row.zip us) := match us, hl with | [_, _], _ => rfl
/-! ### _law_bent -/
def N__law_bent : List Str := ["well", "value", "inner", "k", "way", "at", "sign"]
def ps__law_bent : List Str := ["well", "value"]
theorem sc__law_bent : FnScope N__law_bent ps__law_bent (defScope st__law_bent) := ⟨rfl, rfl, rfl, by decide +kernel, rfl, by decide +kernel, by decide +kernel⟩
def w__law_bent (sp__law_pick : USp) (sp__law_bent : USp) (sp__law_is_int : USp) (sp__law_one : USp) : UXK → WS := fun E =>
 (wSeq (wIfS (wAndT (wTr (wCB uIsi (wCons (wVar 1) (wCons (wC (.ty "tuple")) wNil)))) (wAndT (wB (wBin uNe (wVar 1) (wTup wNil))) (wB (wBin uGt (wCall sp__law_pick (fun ux _ M => E ux M) (wCons (wVar 0) (wCons (wC (.int 7)) wNil))) (wC (.int 0)))))) (wSeq (wPar 3 4 (wCons (wCall sp__law_pick (fun ux _ M => E ux M) (wCons (wVar 0) (wCons (wCB uLen (wCons (wVar 1) wNil)) wNil))) (wCons (wCall sp__law_pick (fun ux _ M => E ux M) (wCons (wVar 0) (wCons (wC (.int 9)) wNil))) wNil)))
 (wSeq (wIfS (wB (wBin uLt (wVar 4) (wC (.int 3)))) (wSeq (wRet (wBin uIdx0 (wLst (wCons (wBin uAdd (wSl (wVar 1) none (some (wVar 3))) (wSl (wVar 1) (some (wBin uAdd (wVar 3) (wC (.int 1)))) none)) (wCons (wBin uAdd (wSl (wVar 1) none (some (wBin uAdd (wVar 3) (wC (.int 1))))) (wSl (wVar 1) (some (wVar 3)) none)) (wCons (wBin uAdd (wSl (wVar 1) none (some (wVar 3))) (wUn uBack (wSl (wVar 1) (some (wVar 3)) none))) wNil)))) (wVar 4)))
 wNext)
 wNext)
 (wSeq (wRet (wBin uAdd (wBin uAdd (wSl (wVar 1) none (some (wVar 3))) (wTup (wCons (wCall sp__law_bent (fun ux _ M => E ux M) (wCons (wVar 0) (wCons (wBin uIdx0 (wVar 1) (wVar 3)) wNil))) wNil))) (wSl (wVar 1) (some (wBin uAdd (wVar 3) (wC (.int 1)))) none)))
 wNext)))
 wNext)
 (wSeq (wIfS (wAndT (wTr (wCall sp__law_is_int (fun ux _ M => E ux M) (wCons (wVar 1) wNil))) (wB (wBin uGt (wCall sp__law_pick (fun ux _ M => E ux M) (wCons (wVar 0) (wCons (wC (.int 5)) wNil))) (wC (.int 0))))) (wSeq (wRet (wBin uAdd (wVar 1) (wCall sp__law_one (fun ux _ M => E ux M) (wCons (wVar 0) (wCons (wLst (wCons (wC (.int 1)) (wCons (wUn uNeg (wC (.int 1))) (wCons (wC (.int 2)) (wCons (wUn uNeg (wC (.int 2))) (wCons (wC (.int 7)) (wCons (wUn uNeg (wVar 1)) wNil))))))) wNil)))))
 wNext)
 wNext)
 (wSeq (wIfS (wAndT (wTr (wCB uIsi (wCons (wVar 1) (wCons (wC (.ty "str")) wNil)))) (wB (wBin uGt (wCall sp__law_pick (fun ux _ M => E ux M) (wCons (wVar 0) (wCons (wC (.int 4)) wNil))) (wC (.int 0))))) (wSeq (wPar 5 6 (wCons (wCall sp__law_pick (fun ux _ M => E ux M) (wCons (wVar 0) (wCons (wBin uAdd (wCB uLen (wCons (wVar 1) wNil)) (wC (.int 1))) wNil))) (wCons (wCall sp__law_one (fun ux _ M => E ux M) (wCons (wVar 0) (wCons (wC (.str "ab$!*0-")) wNil))) wNil)))
 (wSeq (wRet (wBin uIdx0 (wLst (wCons (wBin uAdd (wSl (wVar 1) none (some (wVar 5))) (wSl (wVar 1) (some (wBin uAdd (wVar 5) (wC (.int 1)))) none)) (wCons (wBin uAdd (wBin uAdd (wSl (wVar 1) none (some (wVar 5))) (wVar 6)) (wSl (wVar 1) (some (wVar 5)) none)) (wCons (wBin uAdd (wBin uAdd (wSl (wVar 1) none (some (wVar 5))) (wVar 6)) (wSl (wVar 1) (some (wBin uAdd (wVar 5) (wC (.int 1)))) none)) wNil)))) (wCall sp__law_pick (fun ux _ M => E ux M) (wCons (wVar 0) (wCons (wC (.int 3)) wNil)))))
 wNext))
 wNext)
 (wSeq (wIfS (wAndT (wTr (wCB uIsi (wCons (wVar 1) (wCons (wC (.ty "bool")) wNil)))) (wB (wBin uGt (wCall sp__law_pick (fun ux _ M => E ux M) (wCons (wVar 0) (wCons (wC (.int 3)) wNil))) (wC (.int 0))))) (wSeq (wRet (wNot (wVar 1)))
 wNext)
 wNext)
 (wSeq (wSet 2 (wIf (wTr (wCB uIsi (wCons (wVar 1) (wCons (wC (.ty "tuple")) wNil)))) (wCB uList (wCons (wVar 1) wNil)) (wLst (wCons (wVar 1) wNil))))
 (wSeq (wRet (wCall sp__law_one (fun ux _ M => E ux M) (wCons (wVar 0) (wCons (wLst (wCons (wC .non) (wCons (wTup wNil) (wCons (wVar 2) (wCons (wC (.bl true)) (wCons (wC (.bl false)) (wCons (wTup (wCons (wVar 1) wNil)) (wCons (wC (.int 0)) (wCons (wC (.int 1)) (wCons wDict0 (wCons (wC (.str "a")) (wCons (wC (.str "$int")) (wCons (wUn uNeg (wC (.int 1))) (wCons (wC (.tup [(.str "a"), (.tup [])])) wNil)))))))))))))) wNil))))
 wNext))))))
theorem jj__law_bent (t : Txt tx w K mg) {k__law_pick : Nat} {sp__law_pick : USp} (F__law_pick : FnV P w K mg base k__law_pick "_law_pick" st__law_pick ps__law_pick sp__law_pick) (hk__law_pick : k__law_pick ≤ k) {k__law_bent : Nat} {sp__law_bent : USp} (F__law_bent : FnV P w K mg base k__law_bent "_law_bent" st__law_bent ps__law_bent sp__law_bent) (hk__law_bent : k__law_bent ≤ k) {k__law_is_int : Nat} {sp__law_is_int : USp} (F__law_is_int : FnV P w K mg base k__law_is_int "_law_is_int" st__law_is_int ps__law_is_int sp__law_is_int) (hk__law_is_int : k__law_is_int ≤ k) {k__law_one : Nat} {sp__law_one : USp} (F__law_one : FnV P w K mg base k__law_one "_law_one" st__law_one ps__law_one sp__law_one) (hk__law_one : k__law_one ≤ k) (X : Cx) (g : Gd) (E : UXK) (D : DefX P w K mg base k N__law_bent (defScope st__law_bent) X) (tk : Takes X (Wof X g fun ux _ M => E ux M)) : JSs X g (defBody st__law_bent) (w__law_bent sp__law_pick sp__law_bent sp__law_is_int sp__law_one E) :=
 have W := D.wk sc__law_bent.nd; have hc := D.calm
 (jss_cons (js_if (jt_of (jw_and (jt_truth (k_callB W ucal_isi (t.free "isinstance" (by decide +kernel)) (by decide +kernel) boot_fn_isinstance (by decide +kernel) (ja_cons (k_var W 1 (by decide +kernel)) (ja_cons (k_ty W (t.free "tuple" (by decide +kernel)) (by decide +kernel) boot_ty_tuple (by decide +kernel)) ja_nil rfl) rfl) rfl rfl) (fun _ => rfl)) (jw_and (jt_cmp (uop_ne W.u64) (k_var W 1 (by decide +kernel)) (j_tup ja_nil) rfl) (jw_and1 (jt_cmp uop_gt (k_call W hc F__law_pick hk__law_pick tk (by decide +kernel) (ja_cons (k_var W 0 (by decide +kernel)) (ja_cons j_int ja_nil rfl) rfl) rfl rfl) j_int rfl))))) (jss_cons (k_par D sc__law_bent.nd 3 4 (by decide +kernel) (ja_cons (k_call W hc F__law_pick hk__law_pick tk (by decide +kernel) (ja_cons (k_var W 0 (by decide +kernel)) (ja_cons (k_callB W ucal_len (t.free "len" (by decide +kernel)) (by decide +kernel) boot_fn_len (by decide +kernel) (ja_cons (k_var W 1 (by decide +kernel)) ja_nil rfl) rfl rfl) ja_nil rfl) rfl) rfl rfl) (ja_cons (k_call W hc F__law_pick hk__law_pick tk (by decide +kernel) (ja_cons (k_var W 0 (by decide +kernel)) (ja_cons j_int ja_nil rfl) rfl) rfl rfl) ja_nil rfl) rfl) (by kernel_rfl) rfl)
 (jss_cons (js_if (jt_cmp (uop_lt W.u64) (k_var W 4 (by decide +kernel)) j_int rfl) (jss_cons (js_ret (j_idx (uix0 W.u65) (j_lst (ja_cons (j_bin uop_add (j_slice (tl := none) (th := (some (wVar 3))) (k_var W 1 (by decide +kernel)) trivial (k_var W 3 (by decide +kernel))) (j_slice (tl := (some (wBin uAdd (wVar 3) (wC (.int 1))))) (th := none) (k_var W 1 (by decide +kernel)) (j_bin uop_add (k_var W 3 (by decide +kernel)) j_int) trivial)) (ja_cons (j_bin uop_add (j_slice (tl := none) (th := (some (wBin uAdd (wVar 3) (wC (.int 1))))) (k_var W 1 (by decide +kernel)) trivial (j_bin uop_add (k_var W 3 (by decide +kernel)) j_int)) (j_slice (tl := (some (wVar 3))) (th := none) (k_var W 1 (by decide +kernel)) (k_var W 3 (by decide +kernel)) trivial)) (ja_cons (j_bin uop_add (j_slice (tl := none) (th := (some (wVar 3))) (k_var W 1 (by decide +kernel)) trivial (k_var W 3 (by decide +kernel))) (j_back (j_slice (tl := (some (wVar 3))) (th := none) (k_var W 1 (by decide +kernel)) (k_var W 3 (by decide +kernel)) trivial))) ja_nil rfl) rfl) rfl)) (k_var W 4 (by decide +kernel)) (fun _ _ => rfl)))
 jss_nil)
 jss_nil)
 (jss_cons (js_ret (j_bin uop_add (j_bin uop_add (j_slice (tl := none) (th := (some (wVar 3))) (k_var W 1 (by decide +kernel)) trivial (k_var W 3 (by decide +kernel))) (j_tup (ja_cons (k_call W hc F__law_bent hk__law_bent tk (by decide +kernel) (ja_cons (k_var W 0 (by decide +kernel)) (ja_cons (j_idx (uix0 W.u65) (k_var W 1 (by decide +kernel)) (k_var W 3 (by decide +kernel)) (fun _ _ => rfl)) ja_nil rfl) rfl) rfl rfl) ja_nil rfl))) (j_slice (tl := (some (wBin uAdd (wVar 3) (wC (.int 1))))) (th := none) (k_var W 1 (by decide +kernel)) (j_bin uop_add (k_var W 3 (by decide +kernel)) j_int) trivial)))
 jss_nil)))
 jss_nil)
 (jss_cons (js_if (jt_of (jw_and (jt_truth (k_call W hc F__law_is_int hk__law_is_int tk (by decide +kernel) (ja_cons (k_var W 1 (by decide +kernel)) ja_nil rfl) rfl rfl) (fun _ => rfl)) (jw_and1 (jt_cmp uop_gt (k_call W hc F__law_pick hk__law_pick tk (by decide +kernel) (ja_cons (k_var W 0 (by decide +kernel)) (ja_cons j_int ja_nil rfl) rfl) rfl rfl) j_int rfl)))) (jss_cons (js_ret (j_bin uop_add (k_var W 1 (by decide +kernel)) (k_call W hc F__law_one hk__law_one tk (by decide +kernel) (ja_cons (k_var W 0 (by decide +kernel)) (ja_cons (j_lst (ja_cons j_int (ja_cons (j_un uun_neg j_int) (ja_cons j_int (ja_cons (j_un uun_neg j_int) (ja_cons j_int (ja_cons (j_un uun_neg (k_var W 1 (by decide +kernel))) ja_nil rfl) rfl) rfl) rfl) rfl) rfl)) ja_nil rfl) rfl) rfl rfl)))
 jss_nil)
 jss_nil)
 (jss_cons (js_if (jt_of (jw_and (jt_truth (k_callB W ucal_isi (t.free "isinstance" (by decide +kernel)) (by decide +kernel) boot_fn_isinstance (by decide +kernel) (ja_cons (k_var W 1 (by decide +kernel)) (ja_cons (k_ty W (t.free "str" (by decide +kernel)) (by decide +kernel) boot_ty_str (by decide +kernel)) ja_nil rfl) rfl) rfl rfl) (fun _ => rfl)) (jw_and1 (jt_cmp uop_gt (k_call W hc F__law_pick hk__law_pick tk (by decide +kernel) (ja_cons (k_var W 0 (by decide +kernel)) (ja_cons j_int ja_nil rfl) rfl) rfl rfl) j_int rfl)))) (jss_cons (k_par D sc__law_bent.nd 5 6 (by decide +kernel) (ja_cons (k_call W hc F__law_pick hk__law_pick tk (by decide +kernel) (ja_cons (k_var W 0 (by decide +kernel)) (ja_cons (j_bin uop_add (k_callB W ucal_len (t.free "len" (by decide +kernel)) (by decide +kernel) boot_fn_len (by decide +kernel) (ja_cons (k_var W 1 (by decide +kernel)) ja_nil rfl) rfl rfl) j_int) ja_nil rfl) rfl) rfl rfl) (ja_cons (k_call W hc F__law_one hk__law_one tk (by decide +kernel) (ja_cons (k_var W 0 (by decide +kernel)) (ja_cons j_str ja_nil rfl) rfl) rfl rfl) ja_nil rfl) rfl) (by kernel_rfl) rfl)
 (jss_cons (js_ret (j_idx (uix0 W.u65) (j_lst (ja_cons (j_bin uop_add (j_slice (tl := none) (th := (some (wVar 5))) (k_var W 1 (by decide +kernel)) trivial (k_var W 5 (by decide +kernel))) (j_slice (tl := (some (wBin uAdd (wVar 5) (wC (.int 1))))) (th := none) (k_var W 1 (by decide +kernel)) (j_bin uop_add (k_var W 5 (by decide +kernel)) j_int) trivial)) (ja_cons (j_bin uop_add (j_bin uop_add (j_slice (tl := none) (th := (some (wVar 5))) (k_var W 1 (by decide +kernel)) trivial (k_var W 5 (by decide +kernel))) (k_var W 6 (by decide +kernel))) (j_slice (tl := (some (wVar 5))) (th := none) (k_var W 1 (by decide +kernel)) (k_var W 5 (by decide +kernel)) trivial)) (ja_cons (j_bin uop_add (j_bin uop_add (j_slice (tl := none) (th := (some (wVar 5))) (k_var W 1 (by decide +kernel)) trivial (k_var W 5 (by decide +kernel))) (k_var W 6 (by decide +kernel))) (j_slice (tl := (some (wBin uAdd (wVar 5) (wC (.int 1))))) (th := none) (k_var W 1 (by decide +kernel)) (j_bin uop_add (k_var W 5 (by decide +kernel)) j_int) trivial)) ja_nil rfl) rfl) rfl)) (k_call W hc F__law_pick hk__law_pick tk (by decide +kernel) (ja_cons (k_var W 0 (by decide +kernel)) (ja_cons j_int ja_nil rfl) rfl) rfl rfl) (fun _ _ => rfl)))
 jss_nil))
 jss_nil)
 (jss_cons (js_if (jt_of (jw_and (jt_truth (k_callB W ucal_isi (t.free "isinstance" (by decide +kernel)) (by decide +kernel) boot_fn_isinstance (by decide +kernel) (ja_cons (k_var W 1 (by decide +kernel)) (ja_cons (k_ty W (t.free "bool" (by decide +kernel)) (by decide +kernel) boot_ty_bool (by decide +kernel)) ja_nil rfl) rfl) rfl rfl) (fun _ => rfl)) (jw_and1 (jt_cmp uop_gt (k_call W hc F__law_pick hk__law_pick tk (by decide +kernel) (ja_cons (k_var W 0 (by decide +kernel)) (ja_cons j_int ja_nil rfl) rfl) rfl rfl) j_int rfl)))) (jss_cons (js_ret (j_not (k_var W 1 (by decide +kernel))))
 jss_nil)
 jss_nil)
 (jss_cons (k_set W 2 (by decide +kernel) (j_if (jt_truth (k_callB W ucal_isi (t.free "isinstance" (by decide +kernel)) (by decide +kernel) boot_fn_isinstance (by decide +kernel) (ja_cons (k_var W 1 (by decide +kernel)) (ja_cons (k_ty W (t.free "tuple" (by decide +kernel)) (by decide +kernel) boot_ty_tuple (by decide +kernel)) ja_nil rfl) rfl) rfl rfl) (fun _ => rfl)) (k_callTy W ucal_list (t.free "list" (by decide +kernel)) (by decide +kernel) boot_ty_list (by decide +kernel) (ja_cons (k_var W 1 (by decide +kernel)) ja_nil rfl) rfl rfl) (j_lst (ja_cons (k_var W 1 (by decide +kernel)) ja_nil rfl))) rfl)
 (jss_cons (js_ret (k_call W hc F__law_one hk__law_one tk (by decide +kernel) (ja_cons (k_var W 0 (by decide +kernel)) (ja_cons (j_lst (ja_cons j_non (ja_cons (j_tup ja_nil) (ja_cons (k_var W 2 (by decide +kernel)) (ja_cons j_bl (ja_cons j_bl (ja_cons (j_tup (ja_cons (k_var W 1 (by decide +kernel)) ja_nil rfl)) (ja_cons j_int (ja_cons j_int (ja_cons j_dict0 (ja_cons j_str (ja_cons j_str (ja_cons (j_un uun_neg j_int) (ja_cons (j_pur (j_tup (ja_cons j_str (ja_cons (j_tup ja_nil) ja_nil rfl) rfl)) (pur_tup (purA_cons pur_c (purA_cons (pur_tup purA_nil (by decide)) purA_nil)) (by decide))) ja_nil rfl) rfl) rfl) rfl) rfl) rfl) rfl) rfl) rfl) rfl) rfl) rfl) rfl)) ja_nil rfl) rfl) rfl rfl))
 jss_nil))))))
theorem bd__law_bent (kV doc pm : Value) (an : Option Addr) (cdv ct : Value) (us : List Value) (hl : us.length = ps__law_bent.length) : bindArgs (PySem.W.fnOf "_law_bent" "_law_bent" (defArgs st__law_bent) (defBody st__law_bent) (defScope st__law_bent) .none kV doc pm an cdv ct) ⟨us, []⟩ = pure (ps__law_bent.zip us) := match us, hl with | [_, _], _ => rfl
/-! ### _law_tags -/
def N__law_tags : List Str := ["well", "many", "at", "k", "letters", "found", "near", "base", "word", "some", "j", "letter", "one"]
def ps__law_tags : List Str := ["well", "many"]
theorem sc__law_tags : FnScope N__law_tags ps__law_tags (defScope st__law_tags) := ⟨rfl, rfl, rfl, by decide +kernel, rfl, by decide +kernel, by decide +kernel⟩
def w__law_tags (sp__law_pick : USp) (sp__law_one : USp) : UXK → WS := fun E =>
 (wSeq (wAsg (wTup (wCons (wC (.str "abcdefghijklmnopqrstuvwxyz")) (wCons (wLstH wNil) wNil))) (wGtup 2 (wGcons (wName 4) (wGcons (wName 5) wGnil))))
 (wSeq (wPar 6 7 (wCons (wCall sp__law_pick (fun ux _ M => E ux M) (wCons (wVar 0) (wCons (wC (.int 2)) wNil))) (wCons (wComp false (wRng1 (wCons (wBin uAdd (wC (.int 1)) (wCall sp__law_pick (fun ux _ M => E ux M) (wCons (wVar 0) (wCons (wC (.int 4)) wNil)))) wNil)) (wName 3) wYes (wCall sp__law_one (fun _ _ _ => False) (wCons (wVar 0) (wCons (wVar 4) wNil))) [3]) wNil)))
 (wSeq (wSet 2 (wCall sp__law_pick (fun ux _ M => E ux M) (wCons (wVar 0) (wCons (wCB uLen (wCons (wVar 7) wNil)) wNil))))
 (wSeq (wFor (wRng1 (wCons (wVar 1) wNil)) (wName 3)
 (wSeq (wSet 8 (wCB uListH (wCons (wVar 7) wNil)))
 (wSeq (wIfS (wB (wBin uEq (wVar 6) (wC (.int 0)))) (wSeq (wSet 8 (wComp true (wRng1 (wCons (wBin uAdd (wC (.int 1)) (wCall sp__law_pick (fun ux _ M => E ux M) (wCons (wVar 0) (wCons (wC (.int 3)) wNil)))) wNil)) (wName 10) wYes (wCall sp__law_one (fun _ _ _ => False) (wCons (wVar 0) (wCons (wVar 4) wNil))) [10]))
 wNext)
 (wSeq (wAsg (wCall sp__law_one (fun ux _ M => E ux M) (wCons (wVar 0) (wCons (wVar 4) wNil))) (wGsub (wVar 8) (wVar 2) uSetL))
 wNext))
 (wSeq (wSet 9 (wBin uAdd (wLst (wCons (wBM "str" uJoin (wC (.str "")) (wCons (wVar 8) wNil)) wNil)) (wComp false (wIt (wVar 4)) (wName 11) wYes (wBin uAdd (wBin uAdd (wVar 11) (wC (.str "q"))) (wBin uIdx0 (wVar 4) (wVar 3))) [11])))
 (wSeq (wDrop (wBM "list" uAppend (wVar 5) (wCons (wBin uIdx0 (wComp false (wIt (wVar 9)) (wName 12) (wB (wBin uNotIn0 (wVar 12) (wVar 5))) (wVar 12) [12]) (wC (.int 0))) wNil)))
 wNext)))))
 (wSeq (wRet (wVar 5))
 wNext)))))
theorem jj__law_tags (t : Txt tx w K mg) {k__law_pick : Nat} {sp__law_pick : USp} (F__law_pick : FnV P w K mg base k__law_pick "_law_pick" st__law_pick ps__law_pick sp__law_pick) (hk__law_pick : k__law_pick ≤ k) {k__law_one : Nat} {sp__law_one : USp} (F__law_one : FnV P w K mg base k__law_one "_law_one" st__law_one ps__law_one sp__law_one) (hk__law_one : k__law_one ≤ k) (X : Cx) (g : Gd) (E : UXK) (D : DefX P w K mg base k N__law_tags (defScope st__law_tags) X) (tk : Takes X (Wof X g fun ux _ M => E ux M)) : JSs X g (defBody st__law_tags) (w__law_tags sp__law_pick sp__law_one E) :=
 have W := D.wk sc__law_tags.nd; have hc := D.calm
 (jss_cons (k_asg D (j_tup (ja_cons j_str (ja_cons (j_lstH ja_nil) ja_nil rfl) rfl)) (jg_tup hc (jgs_cons (k_name W 4 (by decide +kernel)) (jgs_cons (k_name W 5 (by decide +kernel)) jgs_nil rfl) rfl) rfl rfl) rfl (by kernel_rfl) rfl)
 (jss_cons (k_par D sc__law_tags.nd 6 7 (by decide +kernel) (ja_cons (k_call W hc F__law_pick hk__law_pick tk (by decide +kernel) (ja_cons (k_var W 0 (by decide +kernel)) (ja_cons j_int ja_nil rfl) rfl) rfl rfl) (ja_cons (k_comp W hc false [("k", 3)] (by decide +kernel) (k_range1 W (t.free "range" (by decide +kernel)) (by decide +kernel) (ja_cons (j_bin uop_add j_int (k_call W hc F__law_pick hk__law_pick tk (by decide +kernel) (ja_cons (k_var W 0 (by decide +kernel)) (ja_cons j_int ja_nil rfl) rfl) rfl rfl)) ja_nil rfl) rfl) (fun Y1 W1 hc1 => ⟨(k_nameo W1 [3] 3 (by decide +kernel) (by decide)), jts_nil, (k_call W1 hc1 F__law_one hk__law_one takes_no (by decide +kernel) (ja_cons (k_var W1 0 (by decide +kernel)) (ja_cons (k_var W1 4 (by decide +kernel)) ja_nil rfl) rfl) rfl rfl)⟩) (fun _ => rfl)) ja_nil rfl) rfl) (by kernel_rfl) rfl)
 (jss_cons (k_set W 2 (by decide +kernel) (k_call W hc F__law_pick hk__law_pick tk (by decide +kernel) (ja_cons (k_var W 0 (by decide +kernel)) (ja_cons (k_callB W ucal_len (t.free "len" (by decide +kernel)) (by decide +kernel) boot_fn_len (by decide +kernel) (ja_cons (k_var W 7 (by decide +kernel)) ja_nil rfl) rfl rfl) ja_nil rfl) rfl) rfl rfl) rfl)
 (jss_cons (js_for D.pass hc (k_range1 W (t.free "range" (by decide +kernel)) (by decide +kernel) (ja_cons (k_var W 1 (by decide +kernel)) ja_nil rfl) rfl) (k_name W 3 (by decide +kernel)) (jss_cons (k_set W 8 (by decide +kernel) (k_callTy W ucal_listH (t.free "list" (by decide +kernel)) (by decide +kernel) boot_ty_list (by decide +kernel) (ja_cons (k_var W 7 (by decide +kernel)) ja_nil rfl) rfl rfl) rfl)
 (jss_cons (js_if (jt_cmp (uop_eq W.u64) (k_var W 6 (by decide +kernel)) j_int rfl) (jss_cons (k_setComp W hc (by rw [D.sc]; rfl) true 8 [("j", 10)] (by decide +kernel) (by decide +kernel) (by decide +kernel) (k_range1 W (t.free "range" (by decide +kernel)) (by decide +kernel) (ja_cons (j_bin uop_add j_int (k_call W hc F__law_pick hk__law_pick tk (by decide +kernel) (ja_cons (k_var W 0 (by decide +kernel)) (ja_cons j_int ja_nil rfl) rfl) rfl rfl)) ja_nil rfl) rfl) (fun Y1 W1 hc1 => ⟨(k_nameo W1 [10] 10 (by decide +kernel) (by decide)), jts_nil, (k_call W1 hc1 F__law_one hk__law_one takes_no (by decide +kernel) (ja_cons (k_var W1 0 (by decide +kernel)) (ja_cons (k_var W1 4 (by decide +kernel)) ja_nil rfl) rfl) rfl rfl)⟩) (fun _ => rfl))
 jss_nil)
 (jss_cons (k_asg D (k_call W hc F__law_one hk__law_one tk (by decide +kernel) (ja_cons (k_var W 0 (by decide +kernel)) (ja_cons (k_var W 4 (by decide +kernel)) ja_nil rfl) rfl) rfl rfl) (jg_sub (k_var W 8 (by decide +kernel)) (k_var W 2 (by decide +kernel)) uset_list (fun _ => rfl)) rfl rfl rfl)
 jss_nil))
 (jss_cons (k_set W 9 (by decide +kernel) (j_bin uop_add (j_lst (ja_cons (j_bm PySem.F.plainAttrs_str PySem.F.slot_str_join PySem.F.type_str_join umt_join j_str (ja_cons (k_var W 8 (by decide +kernel)) ja_nil rfl) rfl rfl rfl rfl rfl) ja_nil rfl)) (k_comp W hc false [("letter", 11)] (by decide +kernel) (ji_it (k_var W 4 (by decide +kernel))) (fun Y1 W1 hc1 => ⟨(k_nameo W1 [11] 11 (by decide +kernel) (by decide)), jts_nil, (j_bin uop_add (j_bin uop_add (k_var W1 11 (by decide +kernel)) j_str) (j_idx (uix0 W1.u65) (k_var W1 4 (by decide +kernel)) (k_var W1 3 (by decide +kernel)) (fun _ _ => rfl)))⟩) (fun _ => rfl))) rfl)
 (jss_cons (js_expr (j_bm PySem.F.plainAttrs_list PySem.F.slot_list_append PySem.F.type_list_append umt_append (k_var W 5 (by decide +kernel)) (ja_cons (j_idx (uix0 W.u65) (k_comp W hc false [("one", 12)] (by decide +kernel) (ji_it (k_var W 9 (by decide +kernel))) (fun Y1 W1 hc1 => ⟨(k_nameo W1 [12] 12 (by decide +kernel) (by decide)), (jts_one (jt_cmp (uop_notIn0 W1.u65) (k_var W1 12 (by decide +kernel)) (k_var W1 5 (by decide +kernel)) rfl)), (k_var W1 12 (by decide +kernel))⟩) (fun _ => rfl)) j_int (fun _ _ => rfl)) ja_nil rfl) rfl rfl rfl rfl rfl) rfl)
 jss_nil)))) (fun _ => rfl))
 (jss_cons (js_ret (k_var W 5 (by decide +kernel)))
 jss_nil)))))
theorem bd__law_tags (kV doc pm : Value) (an : Option Addr) (cdv ct : Value) (us : List Value) (hl : us.length = ps__law_tags.length) : bindArgs (PySem.W.fnOf "_law_tags" "_law_tags" (defArgs st__law_tags) (defBody st__law_tags) (defScope st__law_tags) .none kV doc pm an cdv ct) ⟨us, []⟩ = pure (ps__law_tags.zip us) := match us, hl with | [_, _], _ => rfl
/-! ### _law_labels -/
def N__law_labels : List Str := ["well", "fewest", "most", "kinds"]
def ps__law_labels : List Str := ["well", "fewest", "most", "kinds"]
theorem sc__law_labels : FnScope N__law_labels ps__law_labels (defScope st__law_labels) := ⟨rfl, rfl, rfl, by decide +kernel, rfl, by decide +kernel, by decide +kernel⟩
def w__law_labels (sp__law_tags : USp) (sp__law_pick : USp) (sp__law_some : USp) : UXK → WS := fun E =>
 (wSeq (wRet (wCB uTuple (wCons (wCB uSorted (wCons (wBin uAdd (wCall sp__law_tags (fun ux _ M => E ux M) (wCons (wVar 0) (wCons (wBin uAdd (wVar 1) (wCall sp__law_pick (fun ux _ M => E ux M) (wCons (wVar 0) (wCons (wBin uAdd (wBin uSub (wVar 2) (wVar 1)) (wC (.int 1))) wNil)))) wNil))) (wCall sp__law_some (fun ux _ M => E ux M) (wCons (wVar 0) (wCons (wLst (wCons (wC (.str "$int")) (wCons (wC (.str "$text")) wNil))) (wCons (wC (.int 0)) (wCons (wVar 3) wNil)))))) wNil)) wNil)))
 wNext)
theorem jj__law_labels (t : Txt tx w K mg) {k__law_tags : Nat} {sp__law_tags : USp} (F__law_tags : FnV P w K mg base k__law_tags "_law_tags" st__law_tags ps__law_tags sp__law_tags) (hk__law_tags : k__law_tags ≤ k) {k__law_pick : Nat} {sp__law_pick : USp} (F__law_pick : FnV P w K mg base k__law_pick "_law_pick" st__law_pick ps__law_pick sp__law_pick) (hk__law_pick : k__law_pick ≤ k) {k__law_some : Nat} {sp__law_some : USp} (F__law_some : FnV P w K mg base k__law_some "_law_some" st__law_some ps__law_some sp__law_some) (hk__law_some : k__law_some ≤ k) (X : Cx) (g : Gd) (E : UXK) (D : DefX P w K mg base k N__law_labels (defScope st__law_labels) X) (tk : Takes X (Wof X g fun ux _ M => E ux M)) : JSs X g (defBody st__law_labels) (w__law_labels sp__law_tags sp__law_pick sp__law_some E) :=
 have W := D.wk sc__law_labels.nd; have hc := D.calm
 (jss_cons (js_ret (k_callTy W ucal_tuple (t.free "tuple" (by decide +kernel)) (by decide +kernel) boot_ty_tuple (by decide +kernel) (ja_cons (k_callB W (ucal_sorted W.u64) (t.free "sorted" (by decide +kernel)) (by decide +kernel) boot_fn_sorted (by decide +kernel) (ja_cons (j_bin uop_add (k_call W hc F__law_tags hk__law_tags tk (by decide +kernel) (ja_cons (k_var W 0 (by decide +kernel)) (ja_cons (j_bin uop_add (k_var W 1 (by decide +kernel)) (k_call W hc F__law_pick hk__law_pick tk (by decide +kernel) (ja_cons (k_var W 0 (by decide +kernel)) (ja_cons (j_bin uop_add (j_bin uop_sub (k_var W 2 (by decide +kernel)) (k_var W 1 (by decide +kernel))) j_int) ja_nil rfl) rfl) rfl rfl)) ja_nil rfl) rfl) rfl rfl) (k_call W hc F__law_some hk__law_some tk (by decide +kernel) (ja_cons (k_var W 0 (by decide +kernel)) (ja_cons (j_lst (ja_cons j_str (ja_cons j_str ja_nil rfl) rfl)) (ja_cons j_int (ja_cons (k_var W 3 (by decide +kernel)) ja_nil rfl) rfl) rfl) rfl) rfl rfl)) ja_nil rfl) rfl rfl) ja_nil rfl) rfl rfl))
 jss_nil)
theorem bd__law_labels (kV doc pm : Value) (an : Option Addr) (cdv ct : Value) (us : List Value) (hl : us.length = ps__law_labels.length) : bindArgs (PySem.W.fnOf "_law_labels" "_law_labels" (defArgs st__law_labels) (defBody st__law_labels) (defScope st__law_labels) .none kV doc pm an cdv ct) ⟨us, []⟩ = pure (ps__law_labels.zip us) := match us, hl with | [_, _, _, _], _ => rfl
/-! ### _law_is_leaf -/
def N__law_is_leaf : List Str := ["part"]
def ps__law_is_leaf : List Str := ["part"]
theorem sc__law_is_leaf : FnScope N__law_is_leaf ps__law_is_leaf (defScope st__law_is_leaf) := ⟨rfl, rfl, rfl, by decide +kernel, rfl, by decide +kernel, by decide +kernel⟩
def w__law_is_leaf : UXK → WS := fun E =>
 (wSeq (wRet (wBin uEq (wSl (wBin uIdx0 (wVar 0) (wC (.int 0))) none (some (wC (.int 1)))) (wC (.str "$"))))
 wNext)
theorem jj__law_is_leaf (t : Txt tx w K mg) (X : Cx) (g : Gd) (E : UXK) (D : DefX P w K mg base k N__law_is_leaf (defScope st__law_is_leaf) X) (tk : Takes X (Wof X g fun ux _ M => E ux M)) : JSs X g (defBody st__law_is_leaf) (w__law_is_leaf E) :=
 have W := D.wk sc__law_is_leaf.nd; have hc := D.calm
 (jss_cons (js_ret (j_cmp (uop_eq W.u64) (j_slice (tl := none) (th := (some (wC (.int 1)))) (j_idx (uix0 W.u65) (k_var W 0 (by decide +kernel)) j_int (fun _ _ => rfl)) trivial j_int) j_str rfl))
 jss_nil)
theorem bd__law_is_leaf (kV doc pm : Value) (an : Option Addr) (cdv ct : Value) (us : List Value) (hl : us.length = ps__law_is_leaf.length) : bindArgs (PySem.W.fnOf "_law_is_leaf" "_law_is_leaf" (defArgs st__law_is_leaf) (defBody st__law_is_leaf) (defScope st__law_is_leaf) .none kV doc pm an cdv ct) ⟨us, []⟩ = pure (ps__law_is_leaf.zip us) := match us, hl with | [_], _ => rfl
/-! ### _law_leaf -/
def N__law_leaf : List Str := ["well", "kind"]
def ps__law_leaf : List Str := ["well", "kind"]
theorem sc__law_leaf : FnScope N__law_leaf ps__law_leaf (defScope st__law_leaf) := ⟨rfl, rfl, rfl, by decide +kernel, rfl, by decide +kernel, by decide +kernel⟩
def w__law_leaf (sp__law_one : USp) : UXK → WS := fun E =>
 (wSeq (wIfS (wB (wBin uEq (wSl (wVar 1) none (some (wC (.int 4)))) (wC (.str "$int")))) (wSeq (wRet (wTup (wCons (wVar 1) (wCons (wCall sp__law_one (fun ux _ M => E ux M) (wCons (wVar 0) (wCons (wLst (wCons (wC (.str "0")) (wCons (wC (.str "7")) (wCons (wC (.str "-3")) (wCons (wC (.str "12")) (wCons (wC (.str "400")) (wCons (wC (.str "-10")) wNil))))))) wNil))) wNil))))
 wNext)
 wNext)
 (wSeq (wRet (wTup (wCons (wVar 1) (wCons (wCall sp__law_one (fun ux _ M => E ux M) (wCons (wVar 0) (wCons (wLst (wCons (wC (.str "")) (wCons (wC (.str "x")) (wCons (wC (.str "a b")) (wCons (wC (.str "\"")) (wCons (wC (.str "\\")) (wCons (wC (.str "0")) (wCons (wC (.str "(")) (wCons (wC (.str "~!")) wNil))))))))) wNil))) wNil))))
 wNext))
theorem jj__law_leaf (t : Txt tx w K mg) {k__law_one : Nat} {sp__law_one : USp} (F__law_one : FnV P w K mg base k__law_one "_law_one" st__law_one ps__law_one sp__law_one) (hk__law_one : k__law_one ≤ k) (X : Cx) (g : Gd) (E : UXK) (D : DefX P w K mg base k N__law_leaf (defScope st__law_leaf) X) (tk : Takes X (Wof X g fun ux _ M => E ux M)) : JSs X g (defBody st__law_leaf) (w__law_leaf sp__law_one E) :=
 have W := D.wk sc__law_leaf.nd; have hc := D.calm
 (jss_cons (js_if (jt_cmp (uop_eq W.u64) (j_slice (tl := none) (th := (some (wC (.int 4)))) (k_var W 1 (by decide +kernel)) trivial j_int) j_str rfl) (jss_cons (js_ret (j_tup (ja_cons (k_var W 1 (by decide +kernel)) (ja_cons (k_call W hc F__law_one hk__law_one tk (by decide +kernel) (ja_cons (k_var W 0 (by decide +kernel)) (ja_cons (j_lst (ja_cons j_str (ja_cons j_str (ja_cons j_str (ja_cons j_str (ja_cons j_str (ja_cons j_str ja_nil rfl) rfl) rfl) rfl) rfl) rfl)) ja_nil rfl) rfl) rfl rfl) ja_nil rfl) rfl)))
 jss_nil)
 jss_nil)
 (jss_cons (js_ret (j_tup (ja_cons (k_var W 1 (by decide +kernel)) (ja_cons (k_call W hc F__law_one hk__law_one tk (by decide +kernel) (ja_cons (k_var W 0 (by decide +kernel)) (ja_cons (j_lst (ja_cons j_str (ja_cons j_str (ja_cons j_str (ja_cons j_str (ja_cons j_str (ja_cons j_str (ja_cons j_str (ja_cons j_str ja_nil rfl) rfl) rfl) rfl) rfl) rfl) rfl) rfl)) ja_nil rfl) rfl) rfl rfl) ja_nil rfl) rfl)))
 jss_nil))
theorem bd__law_leaf (kV doc pm : Value) (an : Option Addr) (cdv ct : Value) (us : List Value) (hl : us.length = ps__law_leaf.length) : bindArgs (PySem.W.fnOf "_law_leaf" "_law_leaf" (defArgs st__law_leaf) (defBody st__law_leaf) (defScope st__law_leaf) .none kV doc pm an cdv ct) ⟨us, []⟩ = pure (ps__law_leaf.zip us) := match us, hl with | [_, _], _ => rfl
/-! ### _law_part -/
def N__law_part : List Str := ["well", "labels", "room", "deep", "label", "parts", "turn"]
def ps__law_part : List Str := ["well", "labels", "room", "deep"]
theorem sc__law_part : FnScope N__law_part ps__law_part (defScope st__law_part) := ⟨rfl, rfl, rfl, by decide +kernel, rfl, by decide +kernel, by decide +kernel⟩
def w__law_part (sp__law_one : USp) (sp__law_leaf : USp) (sp__law_pick : USp) (sp__law_part : USp) : UXK → WS := fun E =>
 (wSeq (wSet 4 (wCall sp__law_one (fun ux _ M => E ux M) (wCons (wVar 0) (wCons (wVar 1) wNil))))
 (wSeq (wAsg (wBin uSub (wBin uIdx0 (wVar 2) (wC (.int 0))) (wC (.int 1))) (wGsub (wVar 2) (wC (.int 0)) uSetL))
 (wSeq (wIfS (wB (wBin uEq (wSl (wVar 4) none (some (wC (.int 1)))) (wC (.str "$")))) (wSeq (wRet (wCall sp__law_leaf (fun ux _ M => E ux M) (wCons (wVar 0) (wCons (wVar 4) wNil))))
 wNext)
 wNext)
 (wSeq (wSet 5 (wLstH wNil))
 (wSeq (wFor (wRng1 (wCons (wIf (wB (wBin uGt (wVar 3) (wC (.int 0)))) (wCall sp__law_pick (fun ux _ M => E ux M) (wCons (wVar 0) (wCons (wC (.int 4)) wNil))) (wC (.int 0))) wNil)) (wName 6)
 (wSeq (wIfS (wB (wBin uGt (wBin uIdx0 (wVar 2) (wC (.int 0))) (wC (.int 0)))) (wSeq (wDrop (wBM "list" uAppend (wVar 5) (wCons (wCall sp__law_part (fun ux _ M => E ux M) (wCons (wVar 0) (wCons (wVar 1) (wCons (wVar 2) (wCons (wBin uSub (wVar 3) (wC (.int 1))) wNil))))) wNil)))
 wNext)
 wNext)
 wNext))
 (wSeq (wRet (wTup (wCons (wVar 4) (wCons (wCB uTuple (wCons (wVar 5) wNil)) wNil))))
 wNext))))))
theorem jj__law_part (t : Txt tx w K mg) {k__law_one : Nat} {sp__law_one : USp} (F__law_one : FnV P w K mg base k__law_one "_law_one" st__law_one ps__law_one sp__law_one) (hk__law_one : k__law_one ≤ k) {k__law_leaf : Nat} {sp__law_leaf : USp} (F__law_leaf : FnV P w K mg base k__law_leaf "_law_leaf" st__law_leaf ps__law_leaf sp__law_leaf) (hk__law_leaf : k__law_leaf ≤ k) {k__law_pick : Nat} {sp__law_pick : USp} (F__law_pick : FnV P w K mg base k__law_pick "_law_pick" st__law_pick ps__law_pick sp__law_pick) (hk__law_pick : k__law_pick ≤ k) {k__law_part : Nat} {sp__law_part : USp} (F__law_part : FnV P w K mg base k__law_part "_law_part" st__law_part ps__law_part sp__law_part) (hk__law_part : k__law_part ≤ k) (X : Cx) (g : Gd) (E : UXK) (D : DefX P w K mg base k N__law_part (defScope st__law_part) X) (tk : Takes X (Wof X g fun ux _ M => E ux M)) : JSs X g (defBody st__law_part) (w__law_part sp__law_one sp__law_leaf sp__law_pick sp__law_part E) :=
 have W := D.wk sc__law_part.nd; have hc := D.calm
 (jss_cons (k_set W 4 (by decide +kernel) (k_call W hc F__law_one hk__law_one tk (by decide +kernel) (ja_cons (k_var W 0 (by decide +kernel)) (ja_cons (k_var W 1 (by decide +kernel)) ja_nil rfl) rfl) rfl rfl) rfl)
 (jss_cons (k_asg D (j_bin uop_sub (j_idx (uix0 W.u65) (k_var W 2 (by decide +kernel)) j_int (fun _ _ => rfl)) j_int) (jg_sub (k_var W 2 (by decide +kernel)) j_int uset_list (fun _ => rfl)) rfl rfl rfl)
 (jss_cons (js_if (jt_cmp (uop_eq W.u64) (j_slice (tl := none) (th := (some (wC (.int 1)))) (k_var W 4 (by decide +kernel)) trivial j_int) j_str rfl) (jss_cons (js_ret (k_call W hc F__law_leaf hk__law_leaf tk (by decide +kernel) (ja_cons (k_var W 0 (by decide +kernel)) (ja_cons (k_var W 4 (by decide +kernel)) ja_nil rfl) rfl) rfl rfl))
 jss_nil)
 jss_nil)
 (jss_cons (k_set W 5 (by decide +kernel) (j_lstH ja_nil) rfl)
 (jss_cons (js_for D.pass hc (k_range1 W (t.free "range" (by decide +kernel)) (by decide +kernel) (ja_cons (j_if (jt_cmp uop_gt (k_var W 3 (by decide +kernel)) j_int rfl) (k_call W hc F__law_pick hk__law_pick tk (by decide +kernel) (ja_cons (k_var W 0 (by decide +kernel)) (ja_cons j_int ja_nil rfl) rfl) rfl rfl) j_int) ja_nil rfl) rfl) (k_name W 6 (by decide +kernel)) (jss_cons (js_if (jt_cmp uop_gt (j_idx (uix0 W.u65) (k_var W 2 (by decide +kernel)) j_int (fun _ _ => rfl)) j_int rfl) (jss_cons (js_expr (j_bm PySem.F.plainAttrs_list PySem.F.slot_list_append PySem.F.type_list_append umt_append (k_var W 5 (by decide +kernel)) (ja_cons (k_call W hc F__law_part hk__law_part tk (by decide +kernel) (ja_cons (k_var W 0 (by decide +kernel)) (ja_cons (k_var W 1 (by decide +kernel)) (ja_cons (k_var W 2 (by decide +kernel)) (ja_cons (j_bin uop_sub (k_var W 3 (by decide +kernel)) j_int) ja_nil rfl) rfl) rfl) rfl) rfl rfl) ja_nil rfl) rfl rfl rfl rfl rfl) rfl)
 jss_nil)
 jss_nil)
 jss_nil) (fun _ => rfl))
 (jss_cons (js_ret (j_tup (ja_cons (k_var W 4 (by decide +kernel)) (ja_cons (k_callTy W ucal_tuple (t.free "tuple" (by decide +kernel)) (by decide +kernel) boot_ty_tuple (by decide +kernel) (ja_cons (k_var W 5 (by decide +kernel)) ja_nil rfl) rfl rfl) ja_nil rfl) rfl)))
 jss_nil))))))
theorem bd__law_part (kV doc pm : Value) (an : Option Addr) (cdv ct : Value) (us : List Value) (hl : us.length = ps__law_part.length) : bindArgs (PySem.W.fnOf "_law_part" "_law_part" (defArgs st__law_part) (defBody st__law_part) (defScope st__law_part) .none kV doc pm an cdv ct) ⟨us, []⟩ = pure (ps__law_part.zip us) := match us, hl with | [_, _, _, _], _ => rfl
/-! ### _law_document -/
def N__law_document : List Str := ["well", "labels", "most", "deep", "tag", "turn", "room", "parts", "label"]
def ps__law_document : List Str := ["well", "labels", "most", "deep"]
theorem sc__law_document : FnScope N__law_document ps__law_document (defScope st__law_document) := ⟨rfl, rfl, rfl, by decide +kernel, rfl, by decide +kernel, by decide +kernel⟩
def w__law_document (sp__law_one : USp) (sp__law_pick : USp) (sp__law_part : USp) : UXK → WS := fun E =>
 (wSeq (wPar 6 7 (wCons (wLstH (wCons (wBin uSub (wVar 2) (wC (.int 1))) wNil)) (wCons (wLstH wNil) wNil)))
 (wSeq (wSet 4 (wCall sp__law_one (fun ux _ M => E ux M) (wCons (wVar 0) (wCons (wComp false (wIt (wVar 1)) (wName 8) (wB (wBin uNe (wSl (wVar 8) none (some (wC (.int 1)))) (wC (.str "$")))) (wVar 8) [8]) wNil))))
 (wSeq (wFor (wRng1 (wCons (wIf (wB (wBin uGt (wVar 3) (wC (.int 1)))) (wCall sp__law_pick (fun ux _ M => E ux M) (wCons (wVar 0) (wCons (wC (.int 5)) wNil))) (wC (.int 0))) wNil)) (wName 5)
 (wSeq (wIfS (wB (wBin uGt (wBin uIdx0 (wVar 6) (wC (.int 0))) (wC (.int 0)))) (wSeq (wDrop (wBM "list" uAppend (wVar 7) (wCons (wCall sp__law_part (fun ux _ M => E ux M) (wCons (wVar 0) (wCons (wVar 1) (wCons (wVar 6) (wCons (wBin uSub (wVar 3) (wC (.int 2))) wNil))))) wNil)))
 wNext)
 wNext)
 wNext))
 (wSeq (wRet (wTup (wCons (wVar 4) (wCons (wCB uTuple (wCons (wVar 7) wNil)) wNil))))
 wNext))))
theorem jj__law_document (t : Txt tx w K mg) {k__law_one : Nat} {sp__law_one : USp} (F__law_one : FnV P w K mg base k__law_one "_law_one" st__law_one ps__law_one sp__law_one) (hk__law_one : k__law_one ≤ k) {k__law_pick : Nat} {sp__law_pick : USp} (F__law_pick : FnV P w K mg base k__law_pick "_law_pick" st__law_pick ps__law_pick sp__law_pick) (hk__law_pick : k__law_pick ≤ k) {k__law_part : Nat} {sp__law_part : USp} (F__law_part : FnV P w K mg base k__law_part "_law_part" st__law_part ps__law_part sp__law_part) (hk__law_part : k__law_part ≤ k) (X : Cx) (g : Gd) (E : UXK) (D : DefX P w K mg base k N__law_document (defScope st__law_document) X) (tk : Takes X (Wof X g fun ux _ M => E ux M)) : JSs X g (defBody st__law_document) (w__law_document sp__law_one sp__law_pick sp__law_part E) :=
 have W := D.wk sc__law_document.nd; have hc := D.calm
 (jss_cons (k_par D sc__law_document.nd 6 7 (by decide +kernel) (ja_cons (j_lstH (ja_cons (j_bin uop_sub (k_var W 2 (by decide +kernel)) j_int) ja_nil rfl)) (ja_cons (j_lstH ja_nil) ja_nil rfl) rfl) (by kernel_rfl) rfl)
 (jss_cons (k_set W 4 (by decide +kernel) (k_call W hc F__law_one hk__law_one tk (by decide +kernel) (ja_cons (k_var W 0 (by decide +kernel)) (ja_cons (k_comp W hc false [("label", 8)] (by decide +kernel) (ji_it (k_var W 1 (by decide +kernel))) (fun Y1 W1 hc1 => ⟨(k_nameo W1 [8] 8 (by decide +kernel) (by decide)), (jts_one (jt_cmp (uop_ne W1.u64) (j_slice (tl := none) (th := (some (wC (.int 1)))) (k_var W1 8 (by decide +kernel)) trivial j_int) j_str rfl)), (k_var W1 8 (by decide +kernel))⟩) (fun _ => rfl)) ja_nil rfl) rfl) rfl rfl) rfl)
 (jss_cons (js_for D.pass hc (k_range1 W (t.free "range" (by decide +kernel)) (by decide +kernel) (ja_cons (j_if (jt_cmp uop_gt (k_var W 3 (by decide +kernel)) j_int rfl) (k_call W hc F__law_pick hk__law_pick tk (by decide +kernel) (ja_cons (k_var W 0 (by decide +kernel)) (ja_cons j_int ja_nil rfl) rfl) rfl rfl) j_int) ja_nil rfl) rfl) (k_name W 5 (by decide +kernel)) (jss_cons (js_if (jt_cmp uop_gt (j_idx (uix0 W.u65) (k_var W 6 (by decide +kernel)) j_int (fun _ _ => rfl)) j_int rfl) (jss_cons (js_expr (j_bm PySem.F.plainAttrs_list PySem.F.slot_list_append PySem.F.type_list_append umt_append (k_var W 7 (by decide +kernel)) (ja_cons (k_call W hc F__law_part hk__law_part tk (by decide +kernel) (ja_cons (k_var W 0 (by decide +kernel)) (ja_cons (k_var W 1 (by decide +kernel)) (ja_cons (k_var W 6 (by decide +kernel)) (ja_cons (j_bin uop_sub (k_var W 3 (by decide +kernel)) j_int) ja_nil rfl) rfl) rfl) rfl) rfl rfl) ja_nil rfl) rfl rfl rfl rfl rfl) rfl)
 jss_nil)
 jss_nil)
 jss_nil) (fun _ => rfl))
 (jss_cons (js_ret (j_tup (ja_cons (k_var W 4 (by decide +kernel)) (ja_cons (k_callTy W ucal_tuple (t.free "tuple" (by decide +kernel)) (by decide +kernel) boot_ty_tuple (by decide +kernel) (ja_cons (k_var W 7 (by decide +kernel)) ja_nil rfl) rfl rfl) ja_nil rfl) rfl)))
 jss_nil))))
theorem bd__law_document (kV doc pm : Value) (an : Option Addr) (cdv ct : Value) (us : List Value) (hl : us.length = ps__law_document.length) : bindArgs (PySem.W.fnOf "_law_document" "_law_document" (defArgs st__law_document) (defBody st__law_document) (defScope st__law_document) .none kV doc pm an cdv ct) ⟨us, []⟩ = pure (ps__law_document.zip us) := match us, hl with | [_, _, _, _], _ => rfl
/-! ### _law_places -/
def N__law_places : List Str := ["part", "at", "found", "k"]
def ps__law_places : List Str := ["part", "at"]
theorem sc__law_places : FnScope N__law_places ps__law_places (defScope st__law_places) := ⟨rfl, rfl, rfl, by decide +kernel, rfl, by decide +kernel, by decide +kernel⟩
def w__law_places (sp__law_is_leaf : USp) (sp__law_places : USp) : UXK → WS := fun E =>
 (wSeq (wSet 2 (wLst (wCons (wVar 1) wNil)))
 (wSeq (wIfS (wNotT (wTr (wCall sp__law_is_leaf (fun ux _ M => E ux M) (wCons (wVar 0) wNil)))) (wSeq (wFor (wRng1 (wCons (wCB uLen (wCons (wBin uIdx0 (wVar 0) (wC (.int 1))) wNil)) wNil)) (wName 3)
 (wSeq (wSet 2 (wBin uAdd (wVar 2) (wCall sp__law_places (fun ux _ M => E ux M) (wCons (wBin uIdx0 (wBin uIdx0 (wVar 0) (wC (.int 1))) (wVar 3)) (wCons (wBin uAdd (wVar 1) (wTup (wCons (wVar 3) wNil))) wNil)))))
 wNext))
 wNext)
 wNext)
 (wSeq (wRet (wVar 2))
 wNext)))
theorem jj__law_places (t : Txt tx w K mg) {k__law_is_leaf : Nat} {sp__law_is_leaf : USp} (F__law_is_leaf : FnV P w K mg base k__law_is_leaf "_law_is_leaf" st__law_is_leaf ps__law_is_leaf sp__law_is_leaf) (hk__law_is_leaf : k__law_is_leaf ≤ k) {k__law_places : Nat} {sp__law_places : USp} (F__law_places : FnV P w K mg base k__law_places "_law_places" st__law_places ps__law_places sp__law_places) (hk__law_places : k__law_places ≤ k) (X : Cx) (g : Gd) (E : UXK) (D : DefX P w K mg base k N__law_places (defScope st__law_places) X) (tk : Takes X (Wof X g fun ux _ M => E ux M)) : JSs X g (defBody st__law_places) (w__law_places sp__law_is_leaf sp__law_places E) :=
 have W := D.wk sc__law_places.nd; have hc := D.calm
 (jss_cons (k_set W 2 (by decide +kernel) (j_lst (ja_cons (k_var W 1 (by decide +kernel)) ja_nil rfl)) rfl)
 (jss_cons (js_if (jt_not (jt_truth (k_call W hc F__law_is_leaf hk__law_is_leaf tk (by decide +kernel) (ja_cons (k_var W 0 (by decide +kernel)) ja_nil rfl) rfl rfl) (fun _ => rfl))) (jss_cons (js_for D.pass hc (k_range1 W (t.free "range" (by decide +kernel)) (by decide +kernel) (ja_cons (k_callB W ucal_len (t.free "len" (by decide +kernel)) (by decide +kernel) boot_fn_len (by decide +kernel) (ja_cons (j_idx (uix0 W.u65) (k_var W 0 (by decide +kernel)) j_int (fun _ _ => rfl)) ja_nil rfl) rfl rfl) ja_nil rfl) rfl) (k_name W 3 (by decide +kernel)) (jss_cons (k_set W 2 (by decide +kernel) (j_bin uop_add (k_var W 2 (by decide +kernel)) (k_call W hc F__law_places hk__law_places tk (by decide +kernel) (ja_cons (j_idx (uix0 W.u65) (j_idx (uix0 W.u65) (k_var W 0 (by decide +kernel)) j_int (fun _ _ => rfl)) (k_var W 3 (by decide +kernel)) (fun _ _ => rfl)) (ja_cons (j_bin uop_add (k_var W 1 (by decide +kernel)) (j_tup (ja_cons (k_var W 3 (by decide +kernel)) ja_nil rfl))) ja_nil rfl) rfl) rfl rfl)) rfl)
 jss_nil) (fun _ => rfl))
 jss_nil)
 jss_nil)
 (jss_cons (js_ret (k_var W 2 (by decide +kernel)))
 jss_nil)))
theorem bd__law_places (kV doc pm : Value) (an : Option Addr) (cdv ct : Value) (us : List Value) (hl : us.length = ps__law_places.length) : bindArgs (PySem.W.fnOf "_law_places" "_law_places" (defArgs st__law_places) (defBody st__law_places) (defScope st__law_places) .none kV doc pm an cdv ct) ⟨us, []⟩ = pure (ps__law_places.zip us) := match us, hl with | [_, _], _ => rfl
/-! ### _law_at -/
def N__law_at : List Str := ["document", "place", "k"]
def ps__law_at : List Str := ["document", "place"]
theorem sc__law_at : FnScope N__law_at ps__law_at (defScope st__law_at) := ⟨rfl, rfl, rfl, by decide +kernel, rfl, by decide +kernel, by decide +kernel⟩
def w__law_at : UXK → WS := fun E =>
 (wSeq (wFor (wIt (wVar 1)) (wName 2)
 (wSeq (wSet 0 (wBin uIdx0 (wBin uIdx0 (wVar 0) (wC (.int 1))) (wVar 2)))
 wNext))
 (wSeq (wRet (wVar 0))
 wNext))
theorem jj__law_at (t : Txt tx w K mg) (X : Cx) (g : Gd) (E : UXK) (D : DefX P w K mg base k N__law_at (defScope st__law_at) X) (tk : Takes X (Wof X g fun ux _ M => E ux M)) : JSs X g (defBody st__law_at) (w__law_at E) :=
 have W := D.wk sc__law_at.nd; have hc := D.calm
 (jss_cons (js_for D.pass hc (ji_it (k_var W 1 (by decide +kernel))) (k_name W 2 (by decide +kernel)) (jss_cons (k_set W 0 (by decide +kernel) (j_idx (uix0 W.u65) (j_idx (uix0 W.u65) (k_var W 0 (by decide +kernel)) j_int (fun _ _ => rfl)) (k_var W 2 (by decide +kernel)) (fun _ _ => rfl)) rfl)
 jss_nil) (fun _ => rfl))
 (jss_cons (js_ret (k_var W 0 (by decide +kernel)))
 jss_nil))
theorem bd__law_at (kV doc pm : Value) (an : Option Addr) (cdv ct : Value) (us : List Value) (hl : us.length = ps__law_at.length) : bindArgs (PySem.W.fnOf "_law_at" "_law_at" (defArgs st__law_at) (defBody st__law_at) (defScope st__law_at) .none kV doc pm an cdv ct) ⟨us, []⟩ = pure (ps__law_at.zip us) := match us, hl with | [_, _], _ => rfl
/-! ### _law_put -/
def N__law_put : List Str := ["document", "place", "part", "k"]
def ps__law_put : List Str := ["document", "place", "part"]
theorem sc__law_put : FnScope N__law_put ps__law_put (defScope st__law_put) := ⟨rfl, rfl, rfl, by decide +kernel, rfl, by decide +kernel, by decide +kernel⟩
def w__law_put (sp__law_put : USp) : UXK → WS := fun E =>
 (wSeq (wIfS (wB (wBin uEq (wVar 1) (wTup wNil))) (wSeq (wRet (wVar 2))
 wNext)
 wNext)
 (wSeq (wSet 3 (wBin uIdx0 (wVar 1) (wC (.int 0))))
 (wSeq (wRet (wTup (wCons (wBin uIdx0 (wVar 0) (wC (.int 0))) (wCons (wBin uAdd (wBin uAdd (wSl (wBin uIdx0 (wVar 0) (wC (.int 1))) none (some (wVar 3))) (wTup (wCons (wCall sp__law_put (fun ux _ M => E ux M) (wCons (wBin uIdx0 (wBin uIdx0 (wVar 0) (wC (.int 1))) (wVar 3)) (wCons (wSl (wVar 1) (some (wC (.int 1))) none) (wCons (wVar 2) wNil)))) wNil))) (wSl (wBin uIdx0 (wVar 0) (wC (.int 1))) (some (wBin uAdd (wVar 3) (wC (.int 1)))) none)) wNil))))
 wNext)))
theorem jj__law_put (t : Txt tx w K mg) {k__law_put : Nat} {sp__law_put : USp} (F__law_put : FnV P w K mg base k__law_put "_law_put" st__law_put ps__law_put sp__law_put) (hk__law_put : k__law_put ≤ k) (X : Cx) (g : Gd) (E : UXK) (D : DefX P w K mg base k N__law_put (defScope st__law_put) X) (tk : Takes X (Wof X g fun ux _ M => E ux M)) : JSs X g (defBody st__law_put) (w__law_put sp__law_put E) :=
 have W := D.wk sc__law_put.nd; have hc := D.calm
 (jss_cons (js_if (jt_cmp (uop_eq W.u64) (k_var W 1 (by decide +kernel)) (j_tup ja_nil) rfl) (jss_cons (js_ret (k_var W 2 (by decide +kernel)))
 jss_nil)
 jss_nil)
 (jss_cons (k_set W 3 (by decide +kernel) (j_idx (uix0 W.u65) (k_var W 1 (by decide +kernel)) j_int (fun _ _ => rfl)) rfl)
 (jss_cons (js_ret (j_tup (ja_cons (j_idx (uix0 W.u65) (k_var W 0 (by decide +kernel)) j_int (fun _ _ => rfl)) (ja_cons (j_bin uop_add (j_bin uop_add (j_slice (tl := none) (th := (some (wVar 3))) (j_idx (uix0 W.u65) (k_var W 0 (by decide +kernel)) j_int (fun _ _ => rfl)) trivial (k_var W 3 (by decide +kernel))) (j_tup (ja_cons (k_call W hc F__law_put hk__law_put tk (by decide +kernel) (ja_cons (j_idx (uix0 W.u65) (j_idx (uix0 W.u65) (k_var W 0 (by decide +kernel)) j_int (fun _ _ => rfl)) (k_var W 3 (by decide +kernel)) (fun _ _ => rfl)) (ja_cons (j_slice (tl := (some (wC (.int 1)))) (th := none) (k_var W 1 (by decide +kernel)) j_int trivial) (ja_cons (k_var W 2 (by decide +kernel)) ja_nil rfl) rfl) rfl) rfl rfl) ja_nil rfl))) (j_slice (tl := (some (wBin uAdd (wVar 3) (wC (.int 1))))) (th := none) (j_idx (uix0 W.u65) (k_var W 0 (by decide +kernel)) j_int (fun _ _ => rfl)) (j_bin uop_add (k_var W 3 (by decide +kernel)) j_int) trivial)) ja_nil rfl) rfl)))
 jss_nil)))
theorem bd__law_put (kV doc pm : Value) (an : Option Addr) (cdv ct : Value) (us : List Value) (hl : us.length = ps__law_put.length) : bindArgs (PySem.W.fnOf "_law_put" "_law_put" (defArgs st__law_put) (defBody st__law_put) (defScope st__law_put) .none kV doc pm an cdv ct) ⟨us, []⟩ = pure (ps__law_put.zip us) := match us, hl with | [_, _, _], _ => rfl
/-! ### _law_is_tag -/
def N__law_is_tag : List Str := ["value", "sign"]
def ps__law_is_tag : List Str := ["value"]
theorem sc__law_is_tag : FnScope N__law_is_tag ps__law_is_tag (defScope st__law_is_tag) := ⟨rfl, rfl, rfl, by decide +kernel, rfl, by decide +kernel, by decide +kernel⟩
def w__law_is_tag : UXK → WS := fun E =>
 (wSeq (wRet (wAnd (wCB uIsi (wCons (wVar 0) (wCons (wC (.ty "str")) wNil))) (wAnd (wChain uLe uLe (wC (.int 1)) (wCB uLen (wCons (wVar 0) wNil)) (wC (.int 8))) (wCB uAll (wCons (wComp false (wIt (wVar 0)) (wName 1) wYes (wChain uLe uLe (wC (.str "a")) (wVar 1) (wC (.str "z"))) [1]) wNil)))))
 wNext)
theorem jj__law_is_tag (t : Txt tx w K mg) (X : Cx) (g : Gd) (E : UXK) (D : DefX P w K mg base k N__law_is_tag (defScope st__law_is_tag) X) (tk : Takes X (Wof X g fun ux _ M => E ux M)) : JSs X g (defBody st__law_is_tag) (w__law_is_tag E) :=
 have W := D.wk sc__law_is_tag.nd; have hc := D.calm
 (jss_cons (js_ret (j_and (k_callB W ucal_isi (t.free "isinstance" (by decide +kernel)) (by decide +kernel) boot_fn_isinstance (by decide +kernel) (ja_cons (k_var W 0 (by decide +kernel)) (ja_cons (k_ty W (t.free "str" (by decide +kernel)) (by decide +kernel) boot_ty_str (by decide +kernel)) ja_nil rfl) rfl) rfl rfl) (j_and (j_chain uop_le uop_le j_int (k_callB W ucal_len (t.free "len" (by decide +kernel)) (by decide +kernel) boot_fn_len (by decide +kernel) (ja_cons (k_var W 0 (by decide +kernel)) ja_nil rfl) rfl rfl) j_int rfl) (j_one (k_callB W (ucal_all hc) (t.free "all" (by decide +kernel)) (by decide +kernel) boot_fn_all (by decide +kernel) (ja_cons (k_comp W hc false [("sign", 1)] (by decide +kernel) (ji_it (k_var W 0 (by decide +kernel))) (fun Y1 W1 hc1 => ⟨(k_nameo W1 [1] 1 (by decide +kernel) (by decide)), jts_nil, (j_chain uop_le uop_le j_str (k_var W1 1 (by decide +kernel)) j_str rfl)⟩) (fun _ => rfl)) ja_nil rfl) rfl rfl)))))
 jss_nil)
theorem bd__law_is_tag (kV doc pm : Value) (an : Option Addr) (cdv ct : Value) (us : List Value) (hl : us.length = ps__law_is_tag.length) : bindArgs (PySem.W.fnOf "_law_is_tag" "_law_is_tag" (defArgs st__law_is_tag) (defBody st__law_is_tag) (defScope st__law_is_tag) .none kV doc pm an cdv ct) ⟨us, []⟩ = pure (ps__law_is_tag.zip us) := match us, hl with | [_], _ => rfl
/-! ### _law_is_label -/
def N__law_is_label : List Str := ["value", "bare_v"]
def ps__law_is_label : List Str := ["value"]
theorem sc__law_is_label : FnScope N__law_is_label ps__law_is_label (defScope st__law_is_label) := ⟨rfl, rfl, rfl, by decide +kernel, rfl, by decide +kernel, by decide +kernel⟩
def w__law_is_label (sp__law_is_tag : USp) : UXK → WS := fun E =>
 (wSeq (wIfS (wNotT (wTr (wCB uIsi (wCons (wVar 0) (wCons (wC (.ty "str")) wNil))))) (wSeq (wRet (wC (.bl false)))
 wNext)
 wNext)
 (wSeq (wSet 1 (wIf (wB (wBin uEq (wSl (wVar 0) (some (wUn uNeg (wC (.int 1)))) none) (wC (.str "!")))) (wSl (wVar 0) none (some (wUn uNeg (wC (.int 1))))) (wVar 0)))
 (wSeq (wRet (wOr (wBin uEq (wVar 1) (wC (.str "$int"))) (wOr (wBin uEq (wVar 1) (wC (.str "$text"))) (wCall sp__law_is_tag (fun ux _ M => E ux M) (wCons (wVar 1) wNil)))))
 wNext)))
theorem jj__law_is_label (t : Txt tx w K mg) {k__law_is_tag : Nat} {sp__law_is_tag : USp} (F__law_is_tag : FnV P w K mg base k__law_is_tag "_law_is_tag" st__law_is_tag ps__law_is_tag sp__law_is_tag) (hk__law_is_tag : k__law_is_tag ≤ k) (X : Cx) (g : Gd) (E : UXK) (D : DefX P w K mg base k N__law_is_label (defScope st__law_is_label) X) (tk : Takes X (Wof X g fun ux _ M => E ux M)) : JSs X g (defBody st__law_is_label) (w__law_is_label sp__law_is_tag E) :=
 have W := D.wk sc__law_is_label.nd; have hc := D.calm
 (jss_cons (js_if (jt_not (jt_truth (k_callB W ucal_isi (t.free "isinstance" (by decide +kernel)) (by decide +kernel) boot_fn_isinstance (by decide +kernel) (ja_cons (k_var W 0 (by decide +kernel)) (ja_cons (k_ty W (t.free "str" (by decide +kernel)) (by decide +kernel) boot_ty_str (by decide +kernel)) ja_nil rfl) rfl) rfl rfl) (fun _ => rfl))) (jss_cons (js_ret j_bl)
 jss_nil)
 jss_nil)
 (jss_cons (k_set W 1 (by decide +kernel) (j_if (jt_cmp (uop_eq W.u64) (j_slice (tl := (some (wUn uNeg (wC (.int 1))))) (th := none) (k_var W 0 (by decide +kernel)) (j_un uun_neg j_int) trivial) j_str rfl) (j_slice (tl := none) (th := (some (wUn uNeg (wC (.int 1))))) (k_var W 0 (by decide +kernel)) trivial (j_un uun_neg j_int)) (k_var W 0 (by decide +kernel))) rfl)
 (jss_cons (js_ret (j_or (j_cmp (uop_eq W.u64) (k_var W 1 (by decide +kernel)) j_str rfl) (j_or (j_cmp (uop_eq W.u64) (k_var W 1 (by decide +kernel)) j_str rfl) (j_one (k_call W hc F__law_is_tag hk__law_is_tag tk (by decide +kernel) (ja_cons (k_var W 1 (by decide +kernel)) ja_nil rfl) rfl rfl)))))
 jss_nil)))
theorem bd__law_is_label (kV doc pm : Value) (an : Option Addr) (cdv ct : Value) (us : List Value) (hl : us.length = ps__law_is_label.length) : bindArgs (PySem.W.fnOf "_law_is_label" "_law_is_label" (defArgs st__law_is_label) (defBody st__law_is_label) (defScope st__law_is_label) .none kV doc pm an cdv ct) ⟨us, []⟩ = pure (ps__law_is_label.zip us) := match us, hl with | [_], _ => rfl
/-! ### _law_is_text -/
def N__law_is_text : List Str := ["kind", "value", "digits", "sign"]
def ps__law_is_text : List Str := ["kind", "value"]
theorem sc__law_is_text : FnScope N__law_is_text ps__law_is_text (defScope st__law_is_text) := ⟨rfl, rfl, rfl, by decide +kernel, rfl, by decide +kernel, by decide +kernel⟩
def w__law_is_text : UXK → WS := fun E =>
 (wSeq (wIfS (wNotT (wTr (wCB uIsi (wCons (wVar 1) (wCons (wC (.ty "str")) wNil))))) (wSeq (wRet (wC (.bl false)))
 wNext)
 wNext)
 (wSeq (wIfS (wB (wBin uNe (wSl (wVar 0) none (some (wC (.int 4)))) (wC (.str "$int")))) (wSeq (wRet (wCB uAll (wCons (wComp false (wIt (wVar 1)) (wName 3) wYes (wChain uLe uLe (wC (.str " ")) (wVar 3) (wC (.str "~"))) [3]) wNil)))
 wNext)
 wNext)
 (wSeq (wSet 2 (wIf (wB (wBin uEq (wSl (wVar 1) none (some (wC (.int 1)))) (wC (.str "-")))) (wSl (wVar 1) (some (wC (.int 1))) none) (wVar 1)))
 (wSeq (wRet (wOr (wBin uEq (wVar 1) (wC (.str "0"))) (wAnd (wBin uNe (wVar 2) (wC (.str ""))) (wAnd (wChain uLe uLe (wC (.str "1")) (wBin uIdx0 (wVar 2) (wC (.int 0))) (wC (.str "9"))) (wCB uAll (wCons (wComp false (wIt (wVar 2)) (wName 3) wYes (wChain uLe uLe (wC (.str "0")) (wVar 3) (wC (.str "9"))) [3]) wNil))))))
 wNext))))
theorem jj__law_is_text (t : Txt tx w K mg) (X : Cx) (g : Gd) (E : UXK) (D : DefX P w K mg base k N__law_is_text (defScope st__law_is_text) X) (tk : Takes X (Wof X g fun ux _ M => E ux M)) : JSs X g (defBody st__law_is_text) (w__law_is_text E) :=
 have W := D.wk sc__law_is_text.nd; have hc := D.calm
 (jss_cons (js_if (jt_not (jt_truth (k_callB W ucal_isi (t.free "isinstance" (by decide +kernel)) (by decide +kernel) boot_fn_isinstance (by decide +kernel) (ja_cons (k_var W 1 (by decide +kernel)) (ja_cons (k_ty W (t.free "str" (by decide +kernel)) (by decide +kernel) boot_ty_str (by decide +kernel)) ja_nil rfl) rfl) rfl rfl) (fun _ => rfl))) (jss_cons (js_ret j_bl)
 jss_nil)
 jss_nil)
 (jss_cons (js_if (jt_cmp (uop_ne W.u64) (j_slice (tl := none) (th := (some (wC (.int 4)))) (k_var W 0 (by decide +kernel)) trivial j_int) j_str rfl) (jss_cons (js_ret (k_callB W (ucal_all hc) (t.free "all" (by decide +kernel)) (by decide +kernel) boot_fn_all (by decide +kernel) (ja_cons (k_comp W hc false [("sign", 3)] (by decide +kernel) (ji_it (k_var W 1 (by decide +kernel))) (fun Y1 W1 hc1 => ⟨(k_nameo W1 [3] 3 (by decide +kernel) (by decide)), jts_nil, (j_chain uop_le uop_le j_str (k_var W1 3 (by decide +kernel)) j_str rfl)⟩) (fun _ => rfl)) ja_nil rfl) rfl rfl))
 jss_nil)
 jss_nil)
 (jss_cons (k_set W 2 (by decide +kernel) (j_if (jt_cmp (uop_eq W.u64) (j_slice (tl := none) (th := (some (wC (.int 1)))) (k_var W 1 (by decide +kernel)) trivial j_int) j_str rfl) (j_slice (tl := (some (wC (.int 1)))) (th := none) (k_var W 1 (by decide +kernel)) j_int trivial) (k_var W 1 (by decide +kernel))) rfl)
 (jss_cons (js_ret (j_or (j_cmp (uop_eq W.u64) (k_var W 1 (by decide +kernel)) j_str rfl) (j_one (j_and (j_cmp (uop_ne W.u64) (k_var W 2 (by decide +kernel)) j_str rfl) (j_and (j_chain uop_le uop_le j_str (j_idx (uix0 W.u65) (k_var W 2 (by decide +kernel)) j_int (fun _ _ => rfl)) j_str rfl) (j_one (k_callB W (ucal_all hc) (t.free "all" (by decide +kernel)) (by decide +kernel) boot_fn_all (by decide +kernel) (ja_cons (k_comp W hc false [("sign", 3)] (by decide +kernel) (ji_it (k_var W 2 (by decide +kernel))) (fun Y1 W1 hc1 => ⟨(k_nameo W1 [3] 3 (by decide +kernel) (by decide)), jts_nil, (j_chain uop_le uop_le j_str (k_var W1 3 (by decide +kernel)) j_str rfl)⟩) (fun _ => rfl)) ja_nil rfl) rfl rfl)))))))
 jss_nil))))
theorem bd__law_is_text (kV doc pm : Value) (an : Option Addr) (cdv ct : Value) (us : List Value) (hl : us.length = ps__law_is_text.length) : bindArgs (PySem.W.fnOf "_law_is_text" "_law_is_text" (defArgs st__law_is_text) (defBody st__law_is_text) (defScope st__law_is_text) .none kV doc pm an cdv ct) ⟨us, []⟩ = pure (ps__law_is_text.zip us) := match us, hl with | [_, _], _ => rfl
/-! ### _law_is_part -/
def N__law_is_part : List Str := ["value", "one"]
def ps__law_is_part : List Str := ["value"]
theorem sc__law_is_part : FnScope N__law_is_part ps__law_is_part (defScope st__law_is_part) := ⟨rfl, rfl, rfl, by decide +kernel, rfl, by decide +kernel, by decide +kernel⟩
def w__law_is_part (sp__law_is_row : USp) (sp__law_is_label : USp) (sp__law_is_text : USp) (sp__law_is_part : USp) : UXK → WS := fun E =>
 (wSeq (wIfS (wOrT (wNotT (wTr (wCall sp__law_is_row (fun ux _ M => E ux M) (wCons (wVar 0) (wCons (wC (.int 2)) wNil))))) (wNotT (wTr (wCall sp__law_is_label (fun ux _ M => E ux M) (wCons (wBin uIdx0 (wVar 0) (wC (.int 0))) wNil))))) (wSeq (wRet (wC (.bl false)))
 wNext)
 wNext)
 (wSeq (wIfS (wB (wBin uEq (wBin uIdx0 (wBin uIdx0 (wVar 0) (wC (.int 0))) (wC (.int 0))) (wC (.str "$")))) (wSeq (wRet (wCall sp__law_is_text (fun ux _ M => E ux M) (wCons (wBin uIdx0 (wVar 0) (wC (.int 0))) (wCons (wBin uIdx0 (wVar 0) (wC (.int 1))) wNil))))
 wNext)
 wNext)
 (wSeq (wRet (wAnd (wCB uIsi (wCons (wBin uIdx0 (wVar 0) (wC (.int 1))) (wCons (wC (.ty "tuple")) wNil))) (wCB uAll (wCons (wComp false (wIt (wBin uIdx0 (wVar 0) (wC (.int 1)))) (wName 1) wYes (wCall sp__law_is_part (fun _ _ _ => False) (wCons (wVar 1) wNil)) [1]) wNil))))
 wNext)))
theorem jj__law_is_part (t : Txt tx w K mg) {k__law_is_row : Nat} {sp__law_is_row : USp} (F__law_is_row : FnV P w K mg base k__law_is_row "_law_is_row" st__law_is_row ps__law_is_row sp__law_is_row) (hk__law_is_row : k__law_is_row ≤ k) {k__law_is_label : Nat} {sp__law_is_label : USp} (F__law_is_label : FnV P w K mg base k__law_is_label "_law_is_label" st__law_is_label ps__law_is_label sp__law_is_label) (hk__law_is_label : k__law_is_label ≤ k) {k__law_is_text : Nat} {sp__law_is_text : USp} (F__law_is_text : FnV P w K mg base k__law_is_text "_law_is_text" st__law_is_text ps__law_is_text sp__law_is_text) (hk__law_is_text : k__law_is_text ≤ k) {k__law_is_part : Nat} {sp__law_is_part : USp} (F__law_is_part : FnV P w K mg base k__law_is_part "_law_is_part" st__law_is_part ps__law_is_part sp__law_is_part) (hk__law_is_part : k__law_is_part ≤ k) (X : Cx) (g : Gd) (E : UXK) (D : DefX P w K mg base k N__law_is_part (defScope st__law_is_part) X) (tk : Takes X (Wof X g fun ux _ M => E ux M)) : JSs X g (defBody st__law_is_part) (w__law_is_part sp__law_is_row sp__law_is_label sp__law_is_text sp__law_is_part E) :=
 have W := D.wk sc__law_is_part.nd; have hc := D.calm
 (jss_cons (js_if (jt_of (jw_or (jt_not (jt_truth (k_call W hc F__law_is_row hk__law_is_row tk (by decide +kernel) (ja_cons (k_var W 0 (by decide +kernel)) (ja_cons j_int ja_nil rfl) rfl) rfl rfl) (fun _ => rfl))) (jw_or1 (jt_not (jt_truth (k_call W hc F__law_is_label hk__law_is_label tk (by decide +kernel) (ja_cons (j_idx (uix0 W.u65) (k_var W 0 (by decide +kernel)) j_int (fun _ _ => rfl)) ja_nil rfl) rfl rfl) (fun _ => rfl)))))) (jss_cons (js_ret j_bl)
 jss_nil)
 jss_nil)
 (jss_cons (js_if (jt_cmp (uop_eq W.u64) (j_idx (uix0 W.u65) (j_idx (uix0 W.u65) (k_var W 0 (by decide +kernel)) j_int (fun _ _ => rfl)) j_int (fun _ _ => rfl)) j_str rfl) (jss_cons (js_ret (k_call W hc F__law_is_text hk__law_is_text tk (by decide +kernel) (ja_cons (j_idx (uix0 W.u65) (k_var W 0 (by decide +kernel)) j_int (fun _ _ => rfl)) (ja_cons (j_idx (uix0 W.u65) (k_var W 0 (by decide +kernel)) j_int (fun _ _ => rfl)) ja_nil rfl) rfl) rfl rfl))
 jss_nil)
 jss_nil)
 (jss_cons (js_ret (j_and (k_callB W ucal_isi (t.free "isinstance" (by decide +kernel)) (by decide +kernel) boot_fn_isinstance (by decide +kernel) (ja_cons (j_idx (uix0 W.u65) (k_var W 0 (by decide +kernel)) j_int (fun _ _ => rfl)) (ja_cons (k_ty W (t.free "tuple" (by decide +kernel)) (by decide +kernel) boot_ty_tuple (by decide +kernel)) ja_nil rfl) rfl) rfl rfl) (j_one (k_callB W (ucal_all hc) (t.free "all" (by decide +kernel)) (by decide +kernel) boot_fn_all (by decide +kernel) (ja_cons (k_comp W hc false [("one", 1)] (by decide +kernel) (ji_it (j_idx (uix0 W.u65) (k_var W 0 (by decide +kernel)) j_int (fun _ _ => rfl))) (fun Y1 W1 hc1 => ⟨(k_nameo W1 [1] 1 (by decide +kernel) (by decide)), jts_nil, (k_call W1 hc1 F__law_is_part hk__law_is_part takes_no (by decide +kernel) (ja_cons (k_var W1 1 (by decide +kernel)) ja_nil rfl) rfl rfl)⟩) (fun _ => rfl)) ja_nil rfl) rfl rfl))))
 jss_nil)))
theorem bd__law_is_part (kV doc pm : Value) (an : Option Addr) (cdv ct : Value) (us : List Value) (hl : us.length = ps__law_is_part.length) : bindArgs (PySem.W.fnOf "_law_is_part" "_law_is_part" (defArgs st__law_is_part) (defBody st__law_is_part) (defScope st__law_is_part) .none kV doc pm an cdv ct) ⟨us, []⟩ = pure (ps__law_is_part.zip us) := match us, hl with | [_], _ => rfl
/-! ### _law_is_document -/
def N__law_is_document : List Str := ["value"]
def ps__law_is_document : List Str := ["value"]
theorem sc__law_is_document : FnScope N__law_is_document ps__law_is_document (defScope st__law_is_document) := ⟨rfl, rfl, rfl, by decide +kernel, rfl, by decide +kernel, by decide +kernel⟩
def w__law_is_document (sp__law_is_part : USp) : UXK → WS := fun E =>
 (wSeq (wRet (wAnd (wCall sp__law_is_part (fun ux _ M => E ux M) (wCons (wVar 0) wNil)) (wBin uNe (wBin uIdx0 (wBin uIdx0 (wVar 0) (wC (.int 0))) (wC (.int 0))) (wC (.str "$")))))
 wNext)
theorem jj__law_is_document (t : Txt tx w K mg) {k__law_is_part : Nat} {sp__law_is_part : USp} (F__law_is_part : FnV P w K mg base k__law_is_part "_law_is_part" st__law_is_part ps__law_is_part sp__law_is_part) (hk__law_is_part : k__law_is_part ≤ k) (X : Cx) (g : Gd) (E : UXK) (D : DefX P w K mg base k N__law_is_document (defScope st__law_is_document) X) (tk : Takes X (Wof X g fun ux _ M => E ux M)) : JSs X g (defBody st__law_is_document) (w__law_is_document sp__law_is_part E) :=
 have W := D.wk sc__law_is_document.nd; have hc := D.calm
 (jss_cons (js_ret (j_and (k_call W hc F__law_is_part hk__law_is_part tk (by decide +kernel) (ja_cons (k_var W 0 (by decide +kernel)) ja_nil rfl) rfl rfl) (j_one (j_cmp (uop_ne W.u64) (j_idx (uix0 W.u65) (j_idx (uix0 W.u65) (k_var W 0 (by decide +kernel)) j_int (fun _ _ => rfl)) j_int (fun _ _ => rfl)) j_str rfl))))
 jss_nil)
theorem bd__law_is_document (kV doc pm : Value) (an : Option Addr) (cdv ct : Value) (us : List Value) (hl : us.length = ps__law_is_document.length) : bindArgs (PySem.W.fnOf "_law_is_document" "_law_is_document" (defArgs st__law_is_document) (defBody st__law_is_document) (defScope st__law_is_document) .none kV doc pm an cdv ct) ⟨us, []⟩ = pure (ps__law_is_document.zip us) := match us, hl with | [_], _ => rfl
/-! ### _law_is_place -/
def N__law_is_place : List Str := ["document", "value", "k"]
def ps__law_is_place : List Str := ["document", "value"]
theorem sc__law_is_place : FnScope N__law_is_place ps__law_is_place (defScope st__law_is_place) := ⟨rfl, rfl, rfl, by decide +kernel, rfl, by decide +kernel, by decide +kernel⟩
def w__law_is_place (sp__law_is_leaf : USp) (sp__law_is_int : USp) : UXK → WS := fun E =>
 (wSeq (wIfS (wNotT (wTr (wCB uIsi (wCons (wVar 1) (wCons (wC (.ty "tuple")) wNil))))) (wSeq (wRet (wC (.bl false)))
 wNext)
 wNext)
 (wSeq (wFor (wIt (wVar 1)) (wName 2)
 (wSeq (wIfS (wOrT (wTr (wCall sp__law_is_leaf (fun ux _ M => E ux M) (wCons (wVar 0) wNil))) (wOrT (wNotT (wTr (wCall sp__law_is_int (fun ux _ M => E ux M) (wCons (wVar 2) wNil)))) (wNotT (wB (wChain uLe uLt (wC (.int 0)) (wVar 2) (wCB uLen (wCons (wBin uIdx0 (wVar 0) (wC (.int 1))) wNil))))))) (wSeq (wRet (wC (.bl false)))
 wNext)
 wNext)
 (wSeq (wSet 0 (wBin uIdx0 (wBin uIdx0 (wVar 0) (wC (.int 1))) (wVar 2)))
 wNext)))
 (wSeq (wRet (wC (.bl true)))
 wNext)))
theorem jj__law_is_place (t : Txt tx w K mg) {k__law_is_leaf : Nat} {sp__law_is_leaf : USp} (F__law_is_leaf : FnV P w K mg base k__law_is_leaf "_law_is_leaf" st__law_is_leaf ps__law_is_leaf sp__law_is_leaf) (hk__law_is_leaf : k__law_is_leaf ≤ k) {k__law_is_int : Nat} {sp__law_is_int : USp} (F__law_is_int : FnV P w K mg base k__law_is_int "_law_is_int" st__law_is_int ps__law_is_int sp__law_is_int) (hk__law_is_int : k__law_is_int ≤ k) (X : Cx) (g : Gd) (E : UXK) (D : DefX P w K mg base k N__law_is_place (defScope st__law_is_place) X) (tk : Takes X (Wof X g fun ux _ M => E ux M)) : JSs X g (defBody st__law_is_place) (w__law_is_place sp__law_is_leaf sp__law_is_int E) :=
 have W := D.wk sc__law_is_place.nd; have hc := D.calm
 (jss_cons (js_if (jt_not (jt_truth (k_callB W ucal_isi (t.free "isinstance" (by decide +kernel)) (by decide +kernel) boot_fn_isinstance (by decide +kernel) (ja_cons (k_var W 1 (by decide +kernel)) (ja_cons (k_ty W (t.free "tuple" (by decide +kernel)) (by decide +kernel) boot_ty_tuple (by decide +kernel)) ja_nil rfl) rfl) rfl rfl) (fun _ => rfl))) (jss_cons (js_ret j_bl)
 jss_nil)
 jss_nil)
 (jss_cons (js_for D.pass hc (ji_it (k_var W 1 (by decide +kernel))) (k_name W 2 (by decide +kernel)) (jss_cons (js_if (jt_of (jw_or (jt_truth (k_call W hc F__law_is_leaf hk__law_is_leaf tk (by decide +kernel) (ja_cons (k_var W 0 (by decide +kernel)) ja_nil rfl) rfl rfl) (fun _ => rfl)) (jw_or (jt_not (jt_truth (k_call W hc F__law_is_int hk__law_is_int tk (by decide +kernel) (ja_cons (k_var W 2 (by decide +kernel)) ja_nil rfl) rfl rfl) (fun _ => rfl))) (jw_or1 (jt_not (jt_chain uop_le (uop_lt W.u64) j_int (k_var W 2 (by decide +kernel)) (k_callB W ucal_len (t.free "len" (by decide +kernel)) (by decide +kernel) boot_fn_len (by decide +kernel) (ja_cons (j_idx (uix0 W.u65) (k_var W 0 (by decide +kernel)) j_int (fun _ _ => rfl)) ja_nil rfl) rfl rfl) rfl)))))) (jss_cons (js_ret j_bl)
 jss_nil)
 jss_nil)
 (jss_cons (k_set W 0 (by decide +kernel) (j_idx (uix0 W.u65) (j_idx (uix0 W.u65) (k_var W 0 (by decide +kernel)) j_int (fun _ _ => rfl)) (k_var W 2 (by decide +kernel)) (fun _ _ => rfl)) rfl)
 jss_nil)) (fun _ => rfl))
 (jss_cons (js_ret j_bl)
 jss_nil)))
theorem bd__law_is_place (kV doc pm : Value) (an : Option Addr) (cdv ct : Value) (us : List Value) (hl : us.length = ps__law_is_place.length) : bindArgs (PySem.W.fnOf "_law_is_place" "_law_is_place" (defArgs st__law_is_place) (defBody st__law_is_place) (defScope st__law_is_place) .none kV doc pm an cdv ct) ⟨us, []⟩ = pure (ps__law_is_place.zip us) := match us, hl with | [_, _], _ => rfl
/-! ### _law_guard -/
def N__law_guard : List Str := ["document", "place", "kind", "k", "found", "here", "row", "one"]
def ps__law_guard : List Str := ["document", "place", "kind"]
theorem sc__law_guard : FnScope N__law_guard ps__law_guard (defScope st__law_guard) := ⟨rfl, rfl, rfl, by decide +kernel, rfl, by decide +kernel, by decide +kernel⟩
def w__law_guard : UXK → WS := fun E =>
 (wSeq (wPar 4 5 (wCons (wLstH (wCons (wTup (wCons (wBin uIdx0 (wVar 0) (wC (.int 0))) wNil)) wNil)) (wCons (wVar 0) wNil)))
 (wSeq (wFor (wIt (wVar 1)) (wName 3)
 (wSeq (wDrop (wBM "list" uAppend (wVar 4) (wCons (wCB uTuple (wCons (wComp false (wIt (wSl (wBin uIdx0 (wVar 5) (wC (.int 1))) none (some (wBin uAdd (wVar 3) (wC (.int 1)))))) (wName 7) wYes (wBin uIdx0 (wVar 7) (wC (.int 0))) [7]) wNil)) wNil)))
 (wSeq (wSet 5 (wBin uIdx0 (wBin uIdx0 (wVar 5) (wC (.int 1))) (wVar 3)))
 wNext)))
 (wSeq (wIfS (wB (wBin uEq (wVar 2) (wC (.str "onward")))) (wSeq (wRet (wCB uTuple (wCons (wVar 4) wNil)))
 wNext)
 wNext)
 (wSeq (wRet (wIf (wB (wBin uEq (wVar 2) (wC (.str "one-way")))) (wCB uTuple (wCons (wComp false (wIt (wVar 4)) (wName 6) wYes (wBin uIdx0 (wVar 6) (wUn uNeg (wC (.int 1)))) [6]) wNil)) (wTup (wCons (wBin uIdx0 (wVar 5) (wC (.int 0))) wNil))))
 wNext))))
theorem jj__law_guard (t : Txt tx w K mg) (X : Cx) (g : Gd) (E : UXK) (D : DefX P w K mg base k N__law_guard (defScope st__law_guard) X) (tk : Takes X (Wof X g fun ux _ M => E ux M)) : JSs X g (defBody st__law_guard) (w__law_guard E) :=
 have W := D.wk sc__law_guard.nd; have hc := D.calm
 (jss_cons (k_par D sc__law_guard.nd 4 5 (by decide +kernel) (ja_cons (j_lstH (ja_cons (j_tup (ja_cons (j_idx (uix0 W.u65) (k_var W 0 (by decide +kernel)) j_int (fun _ _ => rfl)) ja_nil rfl)) ja_nil rfl)) (ja_cons (k_var W 0 (by decide +kernel)) ja_nil rfl) rfl) (by kernel_rfl) rfl)
 (jss_cons (js_for D.pass hc (ji_it (k_var W 1 (by decide +kernel))) (k_name W 3 (by decide +kernel)) (jss_cons (js_expr (j_bm PySem.F.plainAttrs_list PySem.F.slot_list_append PySem.F.type_list_append umt_append (k_var W 4 (by decide +kernel)) (ja_cons (k_callTy W ucal_tuple (t.free "tuple" (by decide +kernel)) (by decide +kernel) boot_ty_tuple (by decide +kernel) (ja_cons (k_comp W hc false [("one", 7)] (by decide +kernel) (ji_it (j_slice (tl := none) (th := (some (wBin uAdd (wVar 3) (wC (.int 1))))) (j_idx (uix0 W.u65) (k_var W 5 (by decide +kernel)) j_int (fun _ _ => rfl)) trivial (j_bin uop_add (k_var W 3 (by decide +kernel)) j_int))) (fun Y1 W1 hc1 => ⟨(k_nameo W1 [7] 7 (by decide +kernel) (by decide)), jts_nil, (j_idx (uix0 W1.u65) (k_var W1 7 (by decide +kernel)) j_int (fun _ _ => rfl))⟩) (fun _ => rfl)) ja_nil rfl) rfl rfl) ja_nil rfl) rfl rfl rfl rfl rfl) rfl)
 (jss_cons (k_set W 5 (by decide +kernel) (j_idx (uix0 W.u65) (j_idx (uix0 W.u65) (k_var W 5 (by decide +kernel)) j_int (fun _ _ => rfl)) (k_var W 3 (by decide +kernel)) (fun _ _ => rfl)) rfl)
 jss_nil)) (fun _ => rfl))
 (jss_cons (js_if (jt_cmp (uop_eq W.u64) (k_var W 2 (by decide +kernel)) j_str rfl) (jss_cons (js_ret (k_callTy W ucal_tuple (t.free "tuple" (by decide +kernel)) (by decide +kernel) boot_ty_tuple (by decide +kernel) (ja_cons (k_var W 4 (by decide +kernel)) ja_nil rfl) rfl rfl))
 jss_nil)
 jss_nil)
 (jss_cons (js_ret (j_if (jt_cmp (uop_eq W.u64) (k_var W 2 (by decide +kernel)) j_str rfl) (k_callTy W ucal_tuple (t.free "tuple" (by decide +kernel)) (by decide +kernel) boot_ty_tuple (by decide +kernel) (ja_cons (k_comp W hc false [("row", 6)] (by decide +kernel) (ji_it (k_var W 4 (by decide +kernel))) (fun Y1 W1 hc1 => ⟨(k_nameo W1 [6] 6 (by decide +kernel) (by decide)), jts_nil, (j_idx (uix0 W1.u65) (k_var W1 6 (by decide +kernel)) (j_un uun_neg j_int) (fun _ _ => rfl))⟩) (fun _ => rfl)) ja_nil rfl) rfl rfl) (j_tup (ja_cons (j_idx (uix0 W.u65) (k_var W 5 (by decide +kernel)) j_int (fun _ _ => rfl)) ja_nil rfl))))
 jss_nil))))
theorem bd__law_guard (kV doc pm : Value) (an : Option Addr) (cdv ct : Value) (us : List Value) (hl : us.length = ps__law_guard.length) : bindArgs (PySem.W.fnOf "_law_guard" "_law_guard" (defArgs st__law_guard) (defBody st__law_guard) (defScope st__law_guard) .none kV doc pm an cdv ct) ⟨us, []⟩ = pure (ps__law_guard.zip us) := match us, hl with | [_, _, _], _ => rfl
/-! ### _law_asked -/
def N__law_asked : List Str := ["which", "a", "b", "c", "d", "told"]
def ps__law_asked : List Str := ["which", "a", "b", "c", "d"]
theorem sc__law_asked : FnScope N__law_asked ps__law_asked (defScope st__law_asked) := ⟨rfl, rfl, rfl, by decide +kernel, rfl, by decide +kernel, by decide +kernel⟩
def w__law_asked (sp_guard_of : USp) (sp_exchanged : USp) : UXK → WS := fun E =>
 (wSeq (wSet 5 (wC (.str "")))
 (wSeq (wTryM (fun ex' => (wSeq (wSet 5 (wLst (wCons (wIf (wB (wBin uEq (wVar 0) (wC (.int 0)))) (wCallK 1 2 sp_guard_of ex' (wCons (wVar 1) wNil) (wCons (wVar 2) (wCons (wVar 3) wNil))) (wCallK 2 2 sp_exchanged ex' (wCons (wVar 1) (wCons (wVar 2) wNil)) (wCons (wVar 3) (wCons (wVar 4) wNil)))) wNil)))
 wNext))
 [((fun n => if n = "InvalidDocument" then some true else if n = "InvalidPlace" then some false else if n = "InvalidGuard" then some false else if n = "InvalidExchange" then some false else none), (wSeq (wSet 5 (wC (.str "document")))
 wNext)),
 ((fun n => if n = "InvalidPlace" then some true else if n = "InvalidGuard" then some false else if n = "InvalidExchange" then some false else none), (wSeq (wSet 5 (wC (.str "place")))
 wNext)),
 ((fun n => if n = "InvalidGuard" then some true else if n = "InvalidExchange" then some false else none), (wSeq (wSet 5 (wC (.str "guard")))
 wNext)),
 ((fun n => if n = "InvalidExchange" then some true else none), (wSeq (wSet 5 (wC (.str "exchange")))
 wNext))] (fun ux _ M => E ux M))
 (wSeq (wRet (wVar 5))
 wNext)))
theorem jj__law_asked (t : Txt tx w K mg) {k_guard_of : Nat} {sp_guard_of : USp} (F_guard_of : FnV P w K mg base k_guard_of "guard_of" st_guard_of ps_guard_of sp_guard_of) (hk_guard_of : k_guard_of ≤ k) {k_exchanged : Nat} {sp_exchanged : USp} (F_exchanged : FnV P w K mg base k_exchanged "exchanged" st_exchanged ps_exchanged sp_exchanged) (hk_exchanged : k_exchanged ≤ k) (X : Cx) (g : Gd) (E : UXK) (D : DefX P w K mg base k N__law_asked (defScope st__law_asked) X) (tk : Takes X (Wof X g fun ux _ M => E ux M)) : JSs X g (defBody st__law_asked) (w__law_asked sp_guard_of sp_exchanged E) :=
 have W := D.wk sc__law_asked.nd; have hc := D.calm
 (jss_cons (k_set W 5 (by decide +kernel) j_str rfl)
 (jss_cons (k_tryM D sc__law_asked.nd tk
 (fun Y g ex' D tk' => have W' := D.wk sc__law_asked.nd; have hc' := D.calm; (jss_cons (k_set W' 5 (by decide +kernel) (j_lst (ja_cons (j_if (jt_cmp (uop_eq W'.u64) (k_var W' 0 (by decide +kernel)) j_int rfl) (k_callK W' hc' (n := 1) (ks := ["place", "guard_kind"]) F_guard_of hk_guard_of (fun _ _ _ _ _ _ _ us ws h1 h2 => match us, ws, h1, h2 with | [_], [_, _], _, _ => rfl) tk' (by decide +kernel) (ja_cons (k_var W' 1 (by decide +kernel)) ja_nil rfl) (jk_cons (k_var W' 2 (by decide +kernel)) (jk_cons (k_var W' 3 (by decide +kernel)) jk_nil)) rfl rfl rfl rfl) (k_callK W' hc' (n := 2) (ks := ["other_document", "other_place"]) F_exchanged hk_exchanged (fun _ _ _ _ _ _ _ us ws h1 h2 => match us, ws, h1, h2 with | [_, _], [_, _], _, _ => rfl) tk' (by decide +kernel) (ja_cons (k_var W' 1 (by decide +kernel)) (ja_cons (k_var W' 2 (by decide +kernel)) ja_nil rfl) rfl) (jk_cons (k_var W' 3 (by decide +kernel)) (jk_cons (k_var W' 4 (by decide +kernel)) jk_nil)) rfl rfl rfl rfl)) ja_nil rfl)) rfl)
 jss_nil))
 (.cons (t.catch (x := "InvalidDocument") (by decide +kernel) (sub := (fun n => if n = "InvalidDocument" then some true else if n = "InvalidPlace" then some false else if n = "InvalidGuard" then some false else if n = "InvalidExchange" then some false else none)) (by intro n b h; split at h; (cases h; subst_vars; decide +kernel); split at h; (cases h; subst_vars; decide +kernel); split at h; (cases h; subst_vars; decide +kernel); split at h; (cases h; subst_vars; decide +kernel);  cases h)) (by decide +kernel) (fun Y W' hS => (jss_cons (k_set W' 5 (by decide +kernel) j_str rfl)
 jss_nil)) (.cons (t.catch (x := "InvalidPlace") (by decide +kernel) (sub := (fun n => if n = "InvalidPlace" then some true else if n = "InvalidGuard" then some false else if n = "InvalidExchange" then some false else none)) (by intro n b h; split at h; (cases h; subst_vars; decide +kernel); split at h; (cases h; subst_vars; decide +kernel); split at h; (cases h; subst_vars; decide +kernel);  cases h)) (by decide +kernel) (fun Y W' hS => (jss_cons (k_set W' 5 (by decide +kernel) j_str rfl)
 jss_nil)) (.cons (t.catch (x := "InvalidGuard") (by decide +kernel) (sub := (fun n => if n = "InvalidGuard" then some true else if n = "InvalidExchange" then some false else none)) (by intro n b h; split at h; (cases h; subst_vars; decide +kernel); split at h; (cases h; subst_vars; decide +kernel);  cases h)) (by decide +kernel) (fun Y W' hS => (jss_cons (k_set W' 5 (by decide +kernel) j_str rfl)
 jss_nil)) (.cons (t.catch (x := "InvalidExchange") (by decide +kernel) (sub := (fun n => if n = "InvalidExchange" then some true else none)) (by intro n b h; split at h; (cases h; subst_vars; decide +kernel);  cases h)) (by decide +kernel) (fun Y W' hS => (jss_cons (k_set W' 5 (by decide +kernel) j_str rfl)
 jss_nil)) .nil)))))
 (jss_cons (js_ret (k_var W 5 (by decide +kernel)))
 jss_nil)))
theorem bd__law_asked (kV doc pm : Value) (an : Option Addr) (cdv ct : Value) (us : List Value) (hl : us.length = ps__law_asked.length) : bindArgs (PySem.W.fnOf "_law_asked" "_law_asked" (defArgs st__law_asked) (defBody st__law_asked) (defScope st__law_asked) .none kV doc pm an cdv ct) ⟨us, []⟩ = pure (ps__law_asked.zip us) := match us, hl with | [_, _, _, _, _], _ => rfl
/-! ### _law_some_marks -/
def N__law_some_marks : List Str := ["well", "part", "odds", "label", "one"]
def ps__law_some_marks : List Str := ["well", "part", "odds"]
theorem sc__law_some_marks : FnScope N__law_some_marks ps__law_some_marks (defScope st__law_some_marks) := ⟨rfl, rfl, rfl, by decide +kernel, rfl, by decide +kernel, by decide +kernel⟩
def w__law_some_marks (sp__law_pick : USp) (sp__law_is_leaf : USp) (sp__law_some_marks : USp) : UXK → WS := fun E =>
 (wSeq (wSet 3 (wBin uAdd (wBin uIdx0 (wVar 1) (wC (.int 0))) (wIf (wB (wBin uEq (wCall sp__law_pick (fun ux _ M => E ux M) (wCons (wVar 0) (wCons (wVar 2) wNil))) (wC (.int 0)))) (wC (.str "!")) (wC (.str "")))))
 (wSeq (wRet (wTup (wCons (wVar 3) (wCons (wIf (wTr (wCall sp__law_is_leaf (fun ux _ M => E ux M) (wCons (wVar 1) wNil))) (wBin uIdx0 (wVar 1) (wC (.int 1))) (wCB uTuple (wCons (wComp false (wIt (wBin uIdx0 (wVar 1) (wC (.int 1)))) (wName 4) wYes (wCall sp__law_some_marks (fun _ _ _ => False) (wCons (wVar 0) (wCons (wVar 4) (wCons (wVar 2) wNil)))) [4]) wNil))) wNil))))
 wNext))
theorem jj__law_some_marks (t : Txt tx w K mg) {k__law_pick : Nat} {sp__law_pick : USp} (F__law_pick : FnV P w K mg base k__law_pick "_law_pick" st__law_pick ps__law_pick sp__law_pick) (hk__law_pick : k__law_pick ≤ k) {k__law_is_leaf : Nat} {sp__law_is_leaf : USp} (F__law_is_leaf : FnV P w K mg base k__law_is_leaf "_law_is_leaf" st__law_is_leaf ps__law_is_leaf sp__law_is_leaf) (hk__law_is_leaf : k__law_is_leaf ≤ k) {k__law_some_marks : Nat} {sp__law_some_marks : USp} (F__law_some_marks : FnV P w K mg base k__law_some_marks "_law_some_marks" st__law_some_marks ps__law_some_marks sp__law_some_marks) (hk__law_some_marks : k__law_some_marks ≤ k) (X : Cx) (g : Gd) (E : UXK) (D : DefX P w K mg base k N__law_some_marks (defScope st__law_some_marks) X) (tk : Takes X (Wof X g fun ux _ M => E ux M)) : JSs X g (defBody st__law_some_marks) (w__law_some_marks sp__law_pick sp__law_is_leaf sp__law_some_marks E) :=
 have W := D.wk sc__law_some_marks.nd; have hc := D.calm
 (jss_cons (k_set W 3 (by decide +kernel) (j_bin uop_add (j_idx (uix0 W.u65) (k_var W 1 (by decide +kernel)) j_int (fun _ _ => rfl)) (j_if (jt_cmp (uop_eq W.u64) (k_call W hc F__law_pick hk__law_pick tk (by decide +kernel) (ja_cons (k_var W 0 (by decide +kernel)) (ja_cons (k_var W 2 (by decide +kernel)) ja_nil rfl) rfl) rfl rfl) j_int rfl) j_str j_str)) rfl)
 (jss_cons (js_ret (j_tup (ja_cons (k_var W 3 (by decide +kernel)) (ja_cons (j_if (jt_truth (k_call W hc F__law_is_leaf hk__law_is_leaf tk (by decide +kernel) (ja_cons (k_var W 1 (by decide +kernel)) ja_nil rfl) rfl rfl) (fun _ => rfl)) (j_idx (uix0 W.u65) (k_var W 1 (by decide +kernel)) j_int (fun _ _ => rfl)) (k_callTy W ucal_tuple (t.free "tuple" (by decide +kernel)) (by decide +kernel) boot_ty_tuple (by decide +kernel) (ja_cons (k_comp W hc false [("one", 4)] (by decide +kernel) (ji_it (j_idx (uix0 W.u65) (k_var W 1 (by decide +kernel)) j_int (fun _ _ => rfl))) (fun Y1 W1 hc1 => ⟨(k_nameo W1 [4] 4 (by decide +kernel) (by decide)), jts_nil, (k_call W1 hc1 F__law_some_marks hk__law_some_marks takes_no (by decide +kernel) (ja_cons (k_var W1 0 (by decide +kernel)) (ja_cons (k_var W1 4 (by decide +kernel)) (ja_cons (k_var W1 2 (by decide +kernel)) ja_nil rfl) rfl) rfl) rfl rfl)⟩) (fun _ => rfl)) ja_nil rfl) rfl rfl)) ja_nil rfl) rfl)))
 jss_nil))
theorem bd__law_some_marks (kV doc pm : Value) (an : Option Addr) (cdv ct : Value) (us : List Value) (hl : us.length = ps__law_some_marks.length) : bindArgs (PySem.W.fnOf "_law_some_marks" "_law_some_marks" (defArgs st__law_some_marks) (defBody st__law_some_marks) (defScope st__law_some_marks) .none kV doc pm an cdv ct) ⟨us, []⟩ = pure (ps__law_some_marks.zip us) := match us, hl with | [_, _, _], _ => rfl
/-! ### _law_document_right -/
def N__law_document_right : List Str := ["well", "document", "other", "place", "places", "others", "kind", "turn", "there", "part", "due"]
def ps__law_document_right : List Str := ["well", "document", "other"]
theorem sc__law_document_right : FnScope N__law_document_right ps__law_document_right (defScope st__law_document_right) := ⟨rfl, rfl, rfl, by decide +kernel, rfl, by decide +kernel, by decide +kernel⟩
def w__law_document_right (sp__law_places : USp) (sp__law_same : USp) (sp__law_guard : USp) (sp_guard_of : USp) (sp__law_one : USp) (sp__law_at : USp) (sp__law_is_leaf : USp) (sp__law_put : USp) (sp__law_asked : USp) : UXK → WS := fun E =>
 (wSeq (wPar 4 5 (wCons (wCall sp__law_places (fun ux _ M => E ux M) (wCons (wVar 1) (wCons (wTup wNil) wNil))) (wCons (wCall sp__law_places (fun ux _ M => E ux M) (wCons (wVar 2) (wCons (wTup wNil) wNil))) wNil)))
 (wSeq (wFor (wIt (wVar 4)) (wName 3)
 (wSeq (wFor (wIt (wTup (wCons (wC (.str "flat")) (wCons (wC (.str "one-way")) (wCons (wC (.str "onward")) wNil))))) (wName 6)
 (wSeq (wIfS (wNotT (wTr (wCall sp__law_same (fun ux _ M => E ux M) (wCons (wCall sp_guard_of (fun ux _ M => E ux M) (wCons (wVar 1) (wCons (wVar 3) (wCons (wVar 6) wNil)))) (wCons (wCall sp__law_guard (fun ux _ M => E ux M) (wCons (wVar 1) (wCons (wVar 3) (wCons (wVar 6) wNil)))) wNil))))) (wSeq (wRet (wC (.bl false)))
 wNext)
 wNext)
 wNext))
 (wSeq (wFor (wRng1 (wCons (wC (.int 2)) wNil)) (wName 7)
 (wSeq (wSet 8 (wCall sp__law_one (fun ux _ M => E ux M) (wCons (wVar 0) (wCons (wVar 5) wNil))))
 (wSeq (wSet 9 (wCall sp__law_at (fun ux _ M => E ux M) (wCons (wVar 2) (wCons (wVar 8) wNil))))
 (wSeq (wSet 10 (wIf (wAndT (wB (wBin uEq (wVar 3) (wTup wNil))) (wTr (wCall sp__law_is_leaf (fun ux _ M => E ux M) (wCons (wVar 9) wNil)))) (wC (.str "exchange")) (wLst (wCons (wCall sp__law_put (fun ux _ M => E ux M) (wCons (wVar 1) (wCons (wVar 3) (wCons (wVar 9) wNil)))) wNil))))
 (wSeq (wIfS (wNotT (wTr (wCall sp__law_same (fun ux _ M => E ux M) (wCons (wCall sp__law_asked (fun ux _ M => E ux M) (wCons (wC (.int 1)) (wCons (wVar 1) (wCons (wVar 3) (wCons (wVar 2) (wCons (wVar 8) wNil)))))) (wCons (wVar 10) wNil))))) (wSeq (wRet (wC (.bl false)))
 wNext)
 wNext)
 wNext)))))
 wNext)))
 (wSeq (wRet (wC (.bl true)))
 wNext)))
theorem jj__law_document_right (t : Txt tx w K mg) {k__law_places : Nat} {sp__law_places : USp} (F__law_places : FnV P w K mg base k__law_places "_law_places" st__law_places ps__law_places sp__law_places) (hk__law_places : k__law_places ≤ k) {k__law_same : Nat} {sp__law_same : USp} (F__law_same : FnV P w K mg base k__law_same "_law_same" st__law_same ps__law_same sp__law_same) (hk__law_same : k__law_same ≤ k) {k__law_guard : Nat} {sp__law_guard : USp} (F__law_guard : FnV P w K mg base k__law_guard "_law_guard" st__law_guard ps__law_guard sp__law_guard) (hk__law_guard : k__law_guard ≤ k) {k_guard_of : Nat} {sp_guard_of : USp} (F_guard_of : FnV P w K mg base k_guard_of "guard_of" st_guard_of ps_guard_of sp_guard_of) (hk_guard_of : k_guard_of ≤ k) {k__law_one : Nat} {sp__law_one : USp} (F__law_one : FnV P w K mg base k__law_one "_law_one" st__law_one ps__law_one sp__law_one) (hk__law_one : k__law_one ≤ k) {k__law_at : Nat} {sp__law_at : USp} (F__law_at : FnV P w K mg base k__law_at "_law_at" st__law_at ps__law_at sp__law_at) (hk__law_at : k__law_at ≤ k) {k__law_is_leaf : Nat} {sp__law_is_leaf : USp} (F__law_is_leaf : FnV P w K mg base k__law_is_leaf "_law_is_leaf" st__law_is_leaf ps__law_is_leaf sp__law_is_leaf) (hk__law_is_leaf : k__law_is_leaf ≤ k) {k__law_put : Nat} {sp__law_put : USp} (F__law_put : FnV P w K mg base k__law_put "_law_put" st__law_put ps__law_put sp__law_put) (hk__law_put : k__law_put ≤ k) {k__law_asked : Nat} {sp__law_asked : USp} (F__law_asked : FnV P w K mg base k__law_asked "_law_asked" st__law_asked ps__law_asked sp__law_asked) (hk__law_asked : k__law_asked ≤ k) (X : Cx) (g : Gd) (E : UXK) (D : DefX P w K mg base k N__law_document_right (defScope st__law_document_right) X) (tk : Takes X (Wof X g fun ux _ M => E ux M)) : JSs X g (defBody st__law_document_right) (w__law_document_right sp__law_places sp__law_same sp__law_guard sp_guard_of sp__law_one sp__law_at sp__law_is_leaf sp__law_put sp__law_asked E) :=
 have W := D.wk sc__law_document_right.nd; have hc := D.calm
 (jss_cons (k_par D sc__law_document_right.nd 4 5 (by decide +kernel) (ja_cons (k_call W hc F__law_places hk__law_places tk (by decide +kernel) (ja_cons (k_var W 1 (by decide +kernel)) (ja_cons (j_tup ja_nil) ja_nil rfl) rfl) rfl rfl) (ja_cons (k_call W hc F__law_places hk__law_places tk (by decide +kernel) (ja_cons (k_var W 2 (by decide +kernel)) (ja_cons (j_tup ja_nil) ja_nil rfl) rfl) rfl rfl) ja_nil rfl) rfl) (by kernel_rfl) rfl)
 (jss_cons (js_for D.pass hc (ji_it (k_var W 4 (by decide +kernel))) (k_name W 3 (by decide +kernel)) (jss_cons (js_for D.pass hc (ji_it (j_tup (ja_cons j_str (ja_cons j_str (ja_cons j_str ja_nil rfl) rfl) rfl))) (k_name W 6 (by decide +kernel)) (jss_cons (js_if (jt_not (jt_truth (k_call W hc F__law_same hk__law_same tk (by decide +kernel) (ja_cons (k_call W hc F_guard_of hk_guard_of tk (by decide +kernel) (ja_cons (k_var W 1 (by decide +kernel)) (ja_cons (k_var W 3 (by decide +kernel)) (ja_cons (k_var W 6 (by decide +kernel)) ja_nil rfl) rfl) rfl) rfl rfl) (ja_cons (k_call W hc F__law_guard hk__law_guard tk (by decide +kernel) (ja_cons (k_var W 1 (by decide +kernel)) (ja_cons (k_var W 3 (by decide +kernel)) (ja_cons (k_var W 6 (by decide +kernel)) ja_nil rfl) rfl) rfl) rfl rfl) ja_nil rfl) rfl) rfl rfl) (fun _ => rfl))) (jss_cons (js_ret j_bl)
 jss_nil)
 jss_nil)
 jss_nil) (fun _ => rfl))
 (jss_cons (js_for D.pass hc (k_range1 W (t.free "range" (by decide +kernel)) (by decide +kernel) (ja_cons j_int ja_nil rfl) rfl) (k_name W 7 (by decide +kernel)) (jss_cons (k_set W 8 (by decide +kernel) (k_call W hc F__law_one hk__law_one tk (by decide +kernel) (ja_cons (k_var W 0 (by decide +kernel)) (ja_cons (k_var W 5 (by decide +kernel)) ja_nil rfl) rfl) rfl rfl) rfl)
 (jss_cons (k_set W 9 (by decide +kernel) (k_call W hc F__law_at hk__law_at tk (by decide +kernel) (ja_cons (k_var W 2 (by decide +kernel)) (ja_cons (k_var W 8 (by decide +kernel)) ja_nil rfl) rfl) rfl rfl) rfl)
 (jss_cons (k_set W 10 (by decide +kernel) (j_if (jt_of (jw_and (jt_cmp (uop_eq W.u64) (k_var W 3 (by decide +kernel)) (j_tup ja_nil) rfl) (jw_and1 (jt_truth (k_call W hc F__law_is_leaf hk__law_is_leaf tk (by decide +kernel) (ja_cons (k_var W 9 (by decide +kernel)) ja_nil rfl) rfl rfl) (fun _ => rfl))))) j_str (j_lst (ja_cons (k_call W hc F__law_put hk__law_put tk (by decide +kernel) (ja_cons (k_var W 1 (by decide +kernel)) (ja_cons (k_var W 3 (by decide +kernel)) (ja_cons (k_var W 9 (by decide +kernel)) ja_nil rfl) rfl) rfl) rfl rfl) ja_nil rfl))) rfl)
 (jss_cons (js_if (jt_not (jt_truth (k_call W hc F__law_same hk__law_same tk (by decide +kernel) (ja_cons (k_call W hc F__law_asked hk__law_asked tk (by decide +kernel) (ja_cons j_int (ja_cons (k_var W 1 (by decide +kernel)) (ja_cons (k_var W 3 (by decide +kernel)) (ja_cons (k_var W 2 (by decide +kernel)) (ja_cons (k_var W 8 (by decide +kernel)) ja_nil rfl) rfl) rfl) rfl) rfl) rfl rfl) (ja_cons (k_var W 10 (by decide +kernel)) ja_nil rfl) rfl) rfl rfl) (fun _ => rfl))) (jss_cons (js_ret j_bl)
 jss_nil)
 jss_nil)
 jss_nil)))) (fun _ => rfl))
 jss_nil)) (fun _ => rfl))
 (jss_cons (js_ret j_bl)
 jss_nil)))
theorem bd__law_document_right (kV doc pm : Value) (an : Option Addr) (cdv ct : Value) (us : List Value) (hl : us.length = ps__law_document_right.length) : bindArgs (PySem.W.fnOf "_law_document_right" "_law_document_right" (defArgs st__law_document_right) (defBody st__law_document_right) (defScope st__law_document_right) .none kV doc pm an cdv ct) ⟨us, []⟩ = pure (ps__law_document_right.zip us) := match us, hl with | [_, _, _], _ => rfl
/-! ### _law_errors_right -/
def N__law_errors_right : List Str := ["well", "document", "other", "bad", "wrong", "kind", "first", "place", "far"]
def ps__law_errors_right : List Str := ["well", "document", "other"]
theorem sc__law_errors_right : FnScope N__law_errors_right ps__law_errors_right (defScope st__law_errors_right) := ⟨rfl, rfl, rfl, by decide +kernel, rfl, by decide +kernel, by decide +kernel⟩
def w__law_errors_right (sp__law_one : USp) (sp__law_places : USp) (sp__law_bent : USp) (sp__law_pick : USp) (sp__law_is_document : USp) (sp__law_is_place : USp) (sp__law_asked : USp) (sp__law_same : USp) (sp__law_guard : USp) : UXK → WS := fun E =>
 (wSeq (wPar 7 8 (wCons (wCall sp__law_one (fun ux _ M => E ux M) (wCons (wVar 0) (wCons (wCall sp__law_places (fun ux _ M => E ux M) (wCons (wVar 1) (wCons (wTup wNil) wNil))) wNil))) (wCons (wCall sp__law_one (fun ux _ M => E ux M) (wCons (wVar 0) (wCons (wCall sp__law_places (fun ux _ M => E ux M) (wCons (wVar 2) (wCons (wTup wNil) wNil))) wNil))) wNil)))
 (wSeq (wSet 3 (wCall sp__law_bent (fun ux _ M => E ux M) (wCons (wVar 0) (wCons (wVar 1) wNil))))
 (wSeq (wSet 4 (wCall sp__law_bent (fun ux _ M => E ux M) (wCons (wVar 0) (wCons (wBin uAdd (wVar 7) (wTup (wCons (wCall sp__law_pick (fun ux _ M => E ux M) (wCons (wVar 0) (wCons (wC (.int 3)) wNil))) wNil))) wNil))))
 (wSeq (wSet 5 (wCall sp__law_one (fun ux _ M => E ux M) (wCons (wVar 0) (wCons (wC (.lst [(.str "onward"), (.str "flat!"), .non, (.int 0), (.tup [(.str "flat")]), (.str "Flat")])) wNil))))
 (wSeq (wSet 6 (wIf (wNotT (wTr (wCall sp__law_is_document (fun ux _ M => E ux M) (wCons (wVar 3) wNil)))) (wC (.str "document")) (wIf (wNotT (wTr (wCall sp__law_is_place (fun ux _ M => E ux M) (wCons (wVar 3) (wCons (wVar 7) wNil))))) (wC (.str "place")) (wC .non))))
 (wSeq (wIfS (wAndT (wB (wBin uIsNot (wVar 6) (wC .non))) (wOrT (wB (wBin uNe (wCall sp__law_asked (fun ux _ M => E ux M) (wCons (wC (.int 0)) (wCons (wVar 3) (wCons (wVar 7) (wCons (wC (.str "flat")) (wCons (wC .non) wNil)))))) (wVar 6))) (wB (wBin uNe (wCall sp__law_asked (fun ux _ M => E ux M) (wCons (wC (.int 1)) (wCons (wVar 3) (wCons (wVar 7) (wCons (wC .non) (wCons (wC .non) wNil)))))) (wVar 6))))) (wSeq (wRet (wC (.bl false)))
 wNext)
 wNext)
 (wSeq (wIfS (wAndT (wB (wBin uIs (wVar 6) (wC .non))) (wNotT (wTr (wCall sp__law_same (fun ux _ M => E ux M) (wCons (wCall sp__law_asked (fun ux _ M => E ux M) (wCons (wC (.int 0)) (wCons (wVar 3) (wCons (wVar 7) (wCons (wC (.str "onward")) (wCons (wC .non) wNil)))))) (wCons (wLst (wCons (wCall sp__law_guard (fun ux _ M => E ux M) (wCons (wVar 3) (wCons (wVar 7) (wCons (wC (.str "onward")) wNil)))) wNil)) wNil)))))) (wSeq (wRet (wC (.bl false)))
 wNext)
 wNext)
 (wSeq (wIfS (wAndT (wNotT (wTr (wCall sp__law_is_place (fun ux _ M => E ux M) (wCons (wVar 1) (wCons (wVar 4) wNil))))) (wOrT (wB (wBin uNe (wCall sp__law_asked (fun ux _ M => E ux M) (wCons (wC (.int 0)) (wCons (wVar 1) (wCons (wVar 4) (wCons (wC .non) (wCons (wC .non) wNil)))))) (wC (.str "place")))) (wB (wBin uNe (wCall sp__law_asked (fun ux _ M => E ux M) (wCons (wC (.int 1)) (wCons (wVar 2) (wCons (wVar 8) (wCons (wVar 1) (wCons (wVar 4) wNil)))))) (wC (.str "place")))))) (wSeq (wRet (wC (.bl false)))
 wNext)
 wNext)
 (wSeq (wIfS (wAndT (wB (wBin uNe (wVar 5) (wC (.str "onward")))) (wB (wBin uNe (wCall sp__law_asked (fun ux _ M => E ux M) (wCons (wC (.int 0)) (wCons (wVar 1) (wCons (wVar 7) (wCons (wVar 5) (wCons (wC .non) wNil)))))) (wC (.str "guard"))))) (wSeq (wRet (wC (.bl false)))
 wNext)
 wNext)
 (wSeq (wRet (wBin uEq (wCall sp__law_asked (fun ux _ M => E ux M) (wCons (wC (.int 1)) (wCons (wVar 1) (wCons (wVar 7) (wCons (wCall sp__law_one (fun ux _ M => E ux M) (wCons (wVar 0) (wCons (wC (.lst [.non, (.tup [(.str "$int"), (.str "0")]), (.tup [(.str "a")]), (.str "a"), (.tup [])])) wNil))) (wCons (wC .non) wNil)))))) (wC (.str "document"))))
 wNext))))))))))
theorem jj__law_errors_right (t : Txt tx w K mg) {k__law_one : Nat} {sp__law_one : USp} (F__law_one : FnV P w K mg base k__law_one "_law_one" st__law_one ps__law_one sp__law_one) (hk__law_one : k__law_one ≤ k) {k__law_places : Nat} {sp__law_places : USp} (F__law_places : FnV P w K mg base k__law_places "_law_places" st__law_places ps__law_places sp__law_places) (hk__law_places : k__law_places ≤ k) {k__law_bent : Nat} {sp__law_bent : USp} (F__law_bent : FnV P w K mg base k__law_bent "_law_bent" st__law_bent ps__law_bent sp__law_bent) (hk__law_bent : k__law_bent ≤ k) {k__law_pick : Nat} {sp__law_pick : USp} (F__law_pick : FnV P w K mg base k__law_pick "_law_pick" st__law_pick ps__law_pick sp__law_pick) (hk__law_pick : k__law_pick ≤ k) {k__law_is_document : Nat} {sp__law_is_document : USp} (F__law_is_document : FnV P w K mg base k__law_is_document "_law_is_document" st__law_is_document ps__law_is_document sp__law_is_document) (hk__law_is_document : k__law_is_document ≤ k) {k__law_is_place : Nat} {sp__law_is_place : USp} (F__law_is_place : FnV P w K mg base k__law_is_place "_law_is_place" st__law_is_place ps__law_is_place sp__law_is_place) (hk__law_is_place : k__law_is_place ≤ k) {k__law_asked : Nat} {sp__law_asked : USp} (F__law_asked : FnV P w K mg base k__law_asked "_law_asked" st__law_asked ps__law_asked sp__law_asked) (hk__law_asked : k__law_asked ≤ k) {k__law_same : Nat} {sp__law_same : USp} (F__law_same : FnV P w K mg base k__law_same "_law_same" st__law_same ps__law_same sp__law_same) (hk__law_same : k__law_same ≤ k) {k__law_guard : Nat} {sp__law_guard : USp} (F__law_guard : FnV P w K mg base k__law_guard "_law_guard" st__law_guard ps__law_guard sp__law_guard) (hk__law_guard : k__law_guard ≤ k) (X : Cx) (g : Gd) (E : UXK) (D : DefX P w K mg base k N__law_errors_right (defScope st__law_errors_right) X) (tk : Takes X (Wof X g fun ux _ M => E ux M)) : JSs X g (defBody st__law_errors_right) (w__law_errors_right sp__law_one sp__law_places sp__law_bent sp__law_pick sp__law_is_document sp__law_is_place sp__law_asked sp__law_same sp__law_guard E) :=
 have W := D.wk sc__law_errors_right.nd; have hc := D.calm
 (jss_cons (k_par D sc__law_errors_right.nd 7 8 (by decide +kernel) (ja_cons (k_call W hc F__law_one hk__law_one tk (by decide +kernel) (ja_cons (k_var W 0 (by decide +kernel)) (ja_cons (k_call W hc F__law_places hk__law_places tk (by decide +kernel) (ja_cons (k_var W 1 (by decide +kernel)) (ja_cons (j_tup ja_nil) ja_nil rfl) rfl) rfl rfl) ja_nil rfl) rfl) rfl rfl) (ja_cons (k_call W hc F__law_one hk__law_one tk (by decide +kernel) (ja_cons (k_var W 0 (by decide +kernel)) (ja_cons (k_call W hc F__law_places hk__law_places tk (by decide +kernel) (ja_cons (k_var W 2 (by decide +kernel)) (ja_cons (j_tup ja_nil) ja_nil rfl) rfl) rfl rfl) ja_nil rfl) rfl) rfl rfl) ja_nil rfl) rfl) (by kernel_rfl) rfl)
 (jss_cons (k_set W 3 (by decide +kernel) (k_call W hc F__law_bent hk__law_bent tk (by decide +kernel) (ja_cons (k_var W 0 (by decide +kernel)) (ja_cons (k_var W 1 (by decide +kernel)) ja_nil rfl) rfl) rfl rfl) rfl)
 (jss_cons (k_set W 4 (by decide +kernel) (k_call W hc F__law_bent hk__law_bent tk (by decide +kernel) (ja_cons (k_var W 0 (by decide +kernel)) (ja_cons (j_bin uop_add (k_var W 7 (by decide +kernel)) (j_tup (ja_cons (k_call W hc F__law_pick hk__law_pick tk (by decide +kernel) (ja_cons (k_var W 0 (by decide +kernel)) (ja_cons j_int ja_nil rfl) rfl) rfl rfl) ja_nil rfl))) ja_nil rfl) rfl) rfl rfl) rfl)
 (jss_cons (k_set W 5 (by decide +kernel) (k_call W hc F__law_one hk__law_one tk (by decide +kernel) (ja_cons (k_var W 0 (by decide +kernel)) (ja_cons (j_pur (j_lst (ja_cons j_str (ja_cons j_str (ja_cons j_non (ja_cons j_int (ja_cons (j_tup (ja_cons j_str ja_nil rfl)) (ja_cons j_str ja_nil rfl) rfl) rfl) rfl) rfl) rfl)) (pur_lst (purA_cons pur_c (purA_cons pur_c (purA_cons pur_c (purA_cons pur_c (purA_cons (pur_tup (purA_cons pur_c purA_nil) (by decide)) (purA_cons pur_c purA_nil)))))) (by decide))) ja_nil rfl) rfl) rfl rfl) rfl)
 (jss_cons (k_set W 6 (by decide +kernel) (j_if (jt_not (jt_truth (k_call W hc F__law_is_document hk__law_is_document tk (by decide +kernel) (ja_cons (k_var W 3 (by decide +kernel)) ja_nil rfl) rfl rfl) (fun _ => rfl))) j_str (j_if (jt_not (jt_truth (k_call W hc F__law_is_place hk__law_is_place tk (by decide +kernel) (ja_cons (k_var W 3 (by decide +kernel)) (ja_cons (k_var W 7 (by decide +kernel)) ja_nil rfl) rfl) rfl rfl) (fun _ => rfl))) j_str j_non)) rfl)
 (jss_cons (js_if (jt_of (jw_and (jt_cmp uop_isNot (k_var W 6 (by decide +kernel)) j_non rfl) (jw_and1 (jt_of (jw_or (jt_cmp (uop_ne W.u64) (k_call W hc F__law_asked hk__law_asked tk (by decide +kernel) (ja_cons j_int (ja_cons (k_var W 3 (by decide +kernel)) (ja_cons (k_var W 7 (by decide +kernel)) (ja_cons j_str (ja_cons j_non ja_nil rfl) rfl) rfl) rfl) rfl) rfl rfl) (k_var W 6 (by decide +kernel)) rfl) (jw_or1 (jt_cmp (uop_ne W.u64) (k_call W hc F__law_asked hk__law_asked tk (by decide +kernel) (ja_cons j_int (ja_cons (k_var W 3 (by decide +kernel)) (ja_cons (k_var W 7 (by decide +kernel)) (ja_cons j_non (ja_cons j_non ja_nil rfl) rfl) rfl) rfl) rfl) rfl rfl) (k_var W 6 (by decide +kernel)) rfl))))))) (jss_cons (js_ret j_bl)
 jss_nil)
 jss_nil)
 (jss_cons (js_if (jt_of (jw_and (jt_cmp uop_is (k_var W 6 (by decide +kernel)) j_non rfl) (jw_and1 (jt_not (jt_truth (k_call W hc F__law_same hk__law_same tk (by decide +kernel) (ja_cons (k_call W hc F__law_asked hk__law_asked tk (by decide +kernel) (ja_cons j_int (ja_cons (k_var W 3 (by decide +kernel)) (ja_cons (k_var W 7 (by decide +kernel)) (ja_cons j_str (ja_cons j_non ja_nil rfl) rfl) rfl) rfl) rfl) rfl rfl) (ja_cons (j_lst (ja_cons (k_call W hc F__law_guard hk__law_guard tk (by decide +kernel) (ja_cons (k_var W 3 (by decide +kernel)) (ja_cons (k_var W 7 (by decide +kernel)) (ja_cons j_str ja_nil rfl) rfl) rfl) rfl rfl) ja_nil rfl)) ja_nil rfl) rfl) rfl rfl) (fun _ => rfl)))))) (jss_cons (js_ret j_bl)
 jss_nil)
 jss_nil)
 (jss_cons (js_if (jt_of (jw_and (jt_not (jt_truth (k_call W hc F__law_is_place hk__law_is_place tk (by decide +kernel) (ja_cons (k_var W 1 (by decide +kernel)) (ja_cons (k_var W 4 (by decide +kernel)) ja_nil rfl) rfl) rfl rfl) (fun _ => rfl))) (jw_and1 (jt_of (jw_or (jt_cmp (uop_ne W.u64) (k_call W hc F__law_asked hk__law_asked tk (by decide +kernel) (ja_cons j_int (ja_cons (k_var W 1 (by decide +kernel)) (ja_cons (k_var W 4 (by decide +kernel)) (ja_cons j_non (ja_cons j_non ja_nil rfl) rfl) rfl) rfl) rfl) rfl rfl) j_str rfl) (jw_or1 (jt_cmp (uop_ne W.u64) (k_call W hc F__law_asked hk__law_asked tk (by decide +kernel) (ja_cons j_int (ja_cons (k_var W 2 (by decide +kernel)) (ja_cons (k_var W 8 (by decide +kernel)) (ja_cons (k_var W 1 (by decide +kernel)) (ja_cons (k_var W 4 (by decide +kernel)) ja_nil rfl) rfl) rfl) rfl) rfl) rfl rfl) j_str rfl))))))) (jss_cons (js_ret j_bl)
 jss_nil)
 jss_nil)
 (jss_cons (js_if (jt_of (jw_and (jt_cmp (uop_ne W.u64) (k_var W 5 (by decide +kernel)) j_str rfl) (jw_and1 (jt_cmp (uop_ne W.u64) (k_call W hc F__law_asked hk__law_asked tk (by decide +kernel) (ja_cons j_int (ja_cons (k_var W 1 (by decide +kernel)) (ja_cons (k_var W 7 (by decide +kernel)) (ja_cons (k_var W 5 (by decide +kernel)) (ja_cons j_non ja_nil rfl) rfl) rfl) rfl) rfl) rfl rfl) j_str rfl)))) (jss_cons (js_ret j_bl)
 jss_nil)
 jss_nil)
 (jss_cons (js_ret (j_cmp (uop_eq W.u64) (k_call W hc F__law_asked hk__law_asked tk (by decide +kernel) (ja_cons j_int (ja_cons (k_var W 1 (by decide +kernel)) (ja_cons (k_var W 7 (by decide +kernel)) (ja_cons (k_call W hc F__law_one hk__law_one tk (by decide +kernel) (ja_cons (k_var W 0 (by decide +kernel)) (ja_cons (j_pur (j_lst (ja_cons j_non (ja_cons (j_tup (ja_cons j_str (ja_cons j_str ja_nil rfl) rfl)) (ja_cons (j_tup (ja_cons j_str ja_nil rfl)) (ja_cons j_str (ja_cons (j_tup ja_nil) ja_nil rfl) rfl) rfl) rfl) rfl)) (pur_lst (purA_cons pur_c (purA_cons (pur_tup (purA_cons pur_c (purA_cons pur_c purA_nil)) (by decide)) (purA_cons (pur_tup (purA_cons pur_c purA_nil) (by decide)) (purA_cons pur_c (purA_cons (pur_tup purA_nil (by decide)) purA_nil))))) (by decide))) ja_nil rfl) rfl) rfl rfl) (ja_cons j_non ja_nil rfl) rfl) rfl) rfl) rfl) rfl rfl) j_str rfl))
 jss_nil))))))))))
theorem bd__law_errors_right (kV doc pm : Value) (an : Option Addr) (cdv ct : Value) (us : List Value) (hl : us.length = ps__law_errors_right.length) : bindArgs (PySem.W.fnOf "_law_errors_right" "_law_errors_right" (defArgs st__law_errors_right) (defBody st__law_errors_right) (defScope st__law_errors_right) .none kV doc pm an cdv ct) ⟨us, []⟩ = pure (ps__law_errors_right.zip us) := match us, hl with | [_, _, _], _ => rfl
/-! ### law -/
def N_law : List Str := ["script", "well", "turn", "labels", "odds", "again", "document", "other"]
def ps_law : List Str := ["script"]
theorem sc_law : FnScope N_law ps_law (defScope st_law) := ⟨rfl, rfl, rfl, by decide +kernel, rfl, by decide +kernel, by decide +kernel⟩
def w_law (sp__law_well : USp) (sp__law_labels : USp) (sp__law_one : USp) (sp__law_some_marks : USp) (sp__law_document : USp) (sp__law_document_right : USp) (sp__law_errors_right : USp) : UXK → WS := fun E =>
 (wSeq (wSet 1 (wCall sp__law_well (fun ux _ M => E ux M) (wCons (wVar 0) wNil)))
 (wSeq (wFor (wRng1 (wCons (wC (.int 3)) wNil)) (wName 2)
 (wSeq (wSet 3 (wCall sp__law_labels (fun ux _ M => E ux M) (wCons (wVar 1) (wCons (wC (.int 1)) (wCons (wC (.int 3)) (wCons (wC (.int 2)) wNil))))))
 (wSeq (wSet 4 (wCall sp__law_one (fun ux _ M => E ux M) (wCons (wVar 1) (wCons (wLst (wCons (wC (.int 2)) (wCons (wC (.int 5)) (wCons (wC (.int 100)) wNil)))) wNil))))
 (wSeq (wPar 6 7 (wCons (wCall sp__law_some_marks (fun ux _ M => E ux M) (wCons (wVar 1) (wCons (wCall sp__law_document (fun ux _ M => E ux M) (wCons (wVar 1) (wCons (wVar 3) (wCons (wC (.int 14)) (wCons (wC (.int 6)) wNil))))) (wCons (wVar 4) wNil)))) (wCons (wCall sp__law_some_marks (fun ux _ M => E ux M) (wCons (wVar 1) (wCons (wCall sp__law_document (fun ux _ M => E ux M) (wCons (wVar 1) (wCons (wVar 3) (wCons (wC (.int 14)) (wCons (wC (.int 6)) wNil))))) (wCons (wVar 4) wNil)))) wNil)))
 (wSeq (wIfS (wOrT (wNotT (wTr (wCall sp__law_document_right (fun ux _ M => E ux M) (wCons (wVar 1) (wCons (wVar 6) (wCons (wVar 7) wNil)))))) (wNotT (wTr (wCall sp__law_document_right (fun ux _ M => E ux M) (wCons (wVar 1) (wCons (wVar 6) (wCons (wVar 6) wNil))))))) (wSeq (wRet (wC (.bl false)))
 wNext)
 wNext)
 (wSeq (wFor (wRng1 (wCons (wC (.int 3)) wNil)) (wName 5)
 (wSeq (wIfS (wNotT (wTr (wCall sp__law_errors_right (fun ux _ M => E ux M) (wCons (wVar 1) (wCons (wVar 6) (wCons (wVar 7) wNil)))))) (wSeq (wRet (wC (.bl false)))
 wNext)
 wNext)
 wNext))
 wNext))))))
 (wSeq (wRet (wC (.bl true)))
 wNext)))
theorem jj_law (t : Txt tx w K mg) {k__law_well : Nat} {sp__law_well : USp} (F__law_well : FnV P w K mg base k__law_well "_law_well" st__law_well ps__law_well sp__law_well) (hk__law_well : k__law_well ≤ k) {k__law_labels : Nat} {sp__law_labels : USp} (F__law_labels : FnV P w K mg base k__law_labels "_law_labels" st__law_labels ps__law_labels sp__law_labels) (hk__law_labels : k__law_labels ≤ k) {k__law_one : Nat} {sp__law_one : USp} (F__law_one : FnV P w K mg base k__law_one "_law_one" st__law_one ps__law_one sp__law_one) (hk__law_one : k__law_one ≤ k) {k__law_some_marks : Nat} {sp__law_some_marks : USp} (F__law_some_marks : FnV P w K mg base k__law_some_marks "_law_some_marks" st__law_some_marks ps__law_some_marks sp__law_some_marks) (hk__law_some_marks : k__law_some_marks ≤ k) {k__law_document : Nat} {sp__law_document : USp} (F__law_document : FnV P w K mg base k__law_document "_law_document" st__law_document ps__law_document sp__law_document) (hk__law_document : k__law_document ≤ k) {k__law_document_right : Nat} {sp__law_document_right : USp} (F__law_document_right : FnV P w K mg base k__law_document_right "_law_document_right" st__law_document_right ps__law_document_right sp__law_document_right) (hk__law_document_right : k__law_document_right ≤ k) {k__law_errors_right : Nat} {sp__law_errors_right : USp} (F__law_errors_right : FnV P w K mg base k__law_errors_right "_law_errors_right" st__law_errors_right ps__law_errors_right sp__law_errors_right) (hk__law_errors_right : k__law_errors_right ≤ k) (X : Cx) (g : Gd) (E : UXK) (D : DefX P w K mg base k N_law (defScope st_law) X) (tk : Takes X (Wof X g fun ux _ M => E ux M)) : JSs X g (defBody st_law) (w_law sp__law_well sp__law_labels sp__law_one sp__law_some_marks sp__law_document sp__law_document_right sp__law_errors_right E) :=
 have W := D.wk sc_law.nd; have hc := D.calm
 (jss_cons (k_set W 1 (by decide +kernel) (k_call W hc F__law_well hk__law_well tk (by decide +kernel) (ja_cons (k_var W 0 (by decide +kernel)) ja_nil rfl) rfl rfl) rfl)
 (jss_cons (js_for D.pass hc (k_range1 W (t.free "range" (by decide +kernel)) (by decide +kernel) (ja_cons j_int ja_nil rfl) rfl) (k_name W 2 (by decide +kernel)) (jss_cons (k_set W 3 (by decide +kernel) (k_call W hc F__law_labels hk__law_labels tk (by decide +kernel) (ja_cons (k_var W 1 (by decide +kernel)) (ja_cons j_int (ja_cons j_int (ja_cons j_int ja_nil rfl) rfl) rfl) rfl) rfl rfl) rfl)
 (jss_cons (k_set W 4 (by decide +kernel) (k_call W hc F__law_one hk__law_one tk (by decide +kernel) (ja_cons (k_var W 1 (by decide +kernel)) (ja_cons (j_lst (ja_cons j_int (ja_cons j_int (ja_cons j_int ja_nil rfl) rfl) rfl)) ja_nil rfl) rfl) rfl rfl) rfl)
 (jss_cons (k_par D sc_law.nd 6 7 (by decide +kernel) (ja_cons (k_call W hc F__law_some_marks hk__law_some_marks tk (by decide +kernel) (ja_cons (k_var W 1 (by decide +kernel)) (ja_cons (k_call W hc F__law_document hk__law_document tk (by decide +kernel) (ja_cons (k_var W 1 (by decide +kernel)) (ja_cons (k_var W 3 (by decide +kernel)) (ja_cons j_int (ja_cons j_int ja_nil rfl) rfl) rfl) rfl) rfl rfl) (ja_cons (k_var W 4 (by decide +kernel)) ja_nil rfl) rfl) rfl) rfl rfl) (ja_cons (k_call W hc F__law_some_marks hk__law_some_marks tk (by decide +kernel) (ja_cons (k_var W 1 (by decide +kernel)) (ja_cons (k_call W hc F__law_document hk__law_document tk (by decide +kernel) (ja_cons (k_var W 1 (by decide +kernel)) (ja_cons (k_var W 3 (by decide +kernel)) (ja_cons j_int (ja_cons j_int ja_nil rfl) rfl) rfl) rfl) rfl rfl) (ja_cons (k_var W 4 (by decide +kernel)) ja_nil rfl) rfl) rfl) rfl rfl) ja_nil rfl) rfl) (by kernel_rfl) rfl)
 (jss_cons (js_if (jt_of (jw_or (jt_not (jt_truth (k_call W hc F__law_document_right hk__law_document_right tk (by decide +kernel) (ja_cons (k_var W 1 (by decide +kernel)) (ja_cons (k_var W 6 (by decide +kernel)) (ja_cons (k_var W 7 (by decide +kernel)) ja_nil rfl) rfl) rfl) rfl rfl) (fun _ => rfl))) (jw_or1 (jt_not (jt_truth (k_call W hc F__law_document_right hk__law_document_right tk (by decide +kernel) (ja_cons (k_var W 1 (by decide +kernel)) (ja_cons (k_var W 6 (by decide +kernel)) (ja_cons (k_var W 6 (by decide +kernel)) ja_nil rfl) rfl) rfl) rfl rfl) (fun _ => rfl)))))) (jss_cons (js_ret j_bl)
 jss_nil)
 jss_nil)
 (jss_cons (js_for D.pass hc (k_range1 W (t.free "range" (by decide +kernel)) (by decide +kernel) (ja_cons j_int ja_nil rfl) rfl) (k_name W 5 (by decide +kernel)) (jss_cons (js_if (jt_not (jt_truth (k_call W hc F__law_errors_right hk__law_errors_right tk (by decide +kernel) (ja_cons (k_var W 1 (by decide +kernel)) (ja_cons (k_var W 6 (by decide +kernel)) (ja_cons (k_var W 7 (by decide +kernel)) ja_nil rfl) rfl) rfl) rfl rfl) (fun _ => rfl))) (jss_cons (js_ret j_bl)
 jss_nil)
 jss_nil)
 jss_nil) (fun _ => rfl))
 jss_nil))))) (fun _ => rfl))
 (jss_cons (js_ret j_bl)
 jss_nil)))
theorem bd_law (kV doc pm : Value) (an : Option Addr) (cdv ct : Value) (us : List Value) (hl : us.length = ps_law.length) : bindArgs (PySem.W.fnOf "law" "law" (defArgs st_law) (defBody st_law) (defScope st_law) .none kV doc pm an cdv ct) ⟨us, []⟩ = pure (ps_law.zip us) := match us, hl with | [_], _ => rfl
end
end Law

namespace Law
open PySem PySem.Spec PyProof.Rows L2 Pu Sem
theorem ty6 {n : String} (h : n = "int" ∨ n = "bool" ∨ n = "str" ∨ n = "list" ∨ n = "tuple" ∨ n = "dict" := by simp) : n = "int" ∨ n = "bool" ∨ n = "str" ∨ n = "list" ∨ n = "tuple" ∨ n = "dict" := h
theorem Sm.no_ref {a : Addr} (h : Sm (.ref a)) : False := by have := h.1; simp [pvU] at this
theorem Sm.no_pr {a : List U} (h : Sm (.pr a)) : False := by have := h.1; simp [pvU] at this
def isRow : U → Int → Bool
  | .tup us, n => (us.length : Int) == n
  | _, _ => false
def sp_is_row : USp := sp2 fun u v M R _ => ∃ n, v = .int n ∧ Sm u ∧ R (.bl (isRow u n)) M
theorem pure_is_row (a b : U) (M : Mp) (R : UK) (E : UXK) (h : sp_is_row [a, b] M R E) : w_is_row E (endU R) [some a, some b] M := by
  obtain ⟨n, rfl, h1, q⟩ := h
  replace q := ret_of q
  have t := h1.noref M "tuple" ty6
  cases a <;> first | exact (Sm.no_ref h1).elim | exact (Sm.no_pr h1).elim | (simp [w_is_row, t, tyN, isA]; exact q _ rfl)
def sp_bare : USp := sp1 fun u M R _ => ∃ l, u = .str l ∧ Sm u ∧ R (.str (bareS l)) M
theorem pure_bare (a : U) (M : Mp) (R : UK) (E : UXK) (h : sp_bare [a] M R E) : w_bare E (endU R) [some a] M := by
  obtain ⟨l, rfl, h1, q⟩ := h
  replace q := ret_of q
  have z := h1.str
  simp [w_bare, z]
  split <;> refine q _ ?_ <;> simp_all [bareS]
theorem signs_len (z : Str) : (signsU z).length = z.length := by simp [signsU, Str.length]
theorem all_signs (p : Nat → Bool) (z : Str) : ((signsU z).all fun x => match x with | .str ⟨c⟩ => (match c.toList with | [k] => p k | _ => false) | _ => false) = z.cps.toList.all p := by
  unfold signsU
  rw [List.all_map]
  rfl
/-- the sign's test, of a one-sign text -/
def on1 (p : Nat → Bool) : U → Bool := fun x => match x with | .str ⟨c⟩ => (match c.toList with | [k] => p k | _ => false) | _ => false
theorem on1_ (p : Nat → Bool) (c : Nat) : on1 p (.str ⟨#[c]⟩) = p c := rfl
theorem mem_signs {z : Str} {x : U} (h : x ∈ signsU z) : ∃ c, x = .str ⟨#[c]⟩ := by
  obtain ⟨c, _, e⟩ := List.mem_map.mp h
  exact ⟨c, e.symm⟩
def sp_is_tag : USp := sp1 fun u M R _ => Sm u ∧ R (.bl (isTag u)) M
theorem pure_is_tag (a : U) (M : Mp) (R : UK) (E : UXK) (h : sp_is_tag [a] M R E) : w_is_tag sp_bare E (endU R) [some a, none, none] M := by
  obtain ⟨h1, q⟩ := h
  replace q := ret_of q
  have t := h1.noref M "str" ty6
  cases a <;> first | exact (Sm.no_ref h1).elim | exact (Sm.no_pr h1).elim | (simp [w_is_tag, t, tyN, isA]; try exact q _ rfl)
  rename_i l
  have z := h1.str
  have z2 := bare_len l
  refine ⟨l, rfl, h1, ?_⟩
  have z3 : (bareS l).length ≤ sizeLine := by omega
  simp [lenU, z3]
  split
  · split
    · refine all_map (on1 fun c => decide (c ∈ letters.cps.toList)) any_keep (by rw [signs_len]; exact z3) (fun x hx M' R q => ?_) ?_
      · obtain ⟨c, rfl⟩ := mem_signs hx
        simp
        simpa [on1_, letters] using q
      · refine q _ ?_
        rw [show (signsU (bareS l)).all (on1 fun c => decide (c ∈ letters.cps.toList)) = signsIn letters (bareS l) from all_signs _ _]
        have k1 : 1 ≤ (bareS l).length := by omega
        have k2 : (bareS l).length ≤ 8 := by omega
        simp [isTag, isTagS, k1, k2]
    · refine q _ ?_
      have k2 : ¬ (bareS l).length ≤ 8 := by omega
      have k3 : ¬ ((bareS l).length : Int) ≤ 8 := by omega
      simp [isTag, isTagS, k2, k3]
  · refine q _ ?_
    have k2 : ¬ 1 ≤ (bareS l).length := by omega
    simp [isTag, isTagS, k2]
def sp_is_kind : USp := sp1 fun u M R _ => Sm u ∧ R (.bl (isKind u)) M
theorem pure_is_kind (a : U) (M : Mp) (R : UK) (E : UXK) (h : sp_is_kind [a] M R E) : w_is_kind sp_bare E (endU R) [some a] M := by
  obtain ⟨h1, q⟩ := h
  replace q := ret_of q
  have t := h1.noref M "str" ty6
  cases a <;> first | exact (Sm.no_ref h1).elim | exact (Sm.no_pr h1).elim | (simp [w_is_kind, t, tyN, isA]; try exact q _ rfl)
  rename_i l
  exact ⟨l, rfl, h1, by simp; exact q _ rfl⟩
def sp_is_integer_text : USp := sp1 fun u M R _ => ∃ l, u = .str l ∧ Sm u ∧ R (.bl (isIntS l)) M
theorem first_at {z : Str} (h : ¬ z = ("" : Str)) : ∃ c, atI z.cps.toList 0 = some c ∧ firstS z = ⟨#[c]⟩ := by
  obtain ⟨⟨l⟩⟩ := z
  cases l with
  | nil => exact absurd rfl h
  | cons c r => exact ⟨c, by simp [atI, ixN], rfl⟩
theorem pure_is_integer_text (a : U) (M : Mp) (R : UK) (E : UXK) (h : sp_is_integer_text [a] M R E) : w_is_integer_text E (endU R) [some a, none, none] M := by
  obtain ⟨l, rfl, h1, q⟩ := h
  replace q := ret_of q
  have z := h1.str
  have z2 := idig_len l
  have z3 : (intDigits l).length ≤ sizeLine := by omega
  unfold w_is_integer_text
  rw [wSeq_, wSet_]
  refine wIf_pure (cutStr l none (some 1) == ("-" : Str)) (.str (cutStr l (some 1) none)) (.str l) (fun RT h => by simpa [z] using h) (fun R h => by simpa [z] using h) (fun R h => by simpa using h) (.str (intDigits l)) (by unfold intDigits; split <;> rfl) ?_
  simp
  split
  · rename_i e
    refine q _ ?_
    simp [isIntS, e]
  · rename_i e
    refine all_map (on1 fun c => decide (c ∈ digits.cps.toList)) any_keep (by rw [signs_len]; exact z3) (fun x hx M' R q => ?_) ?_
    · obtain ⟨c, rfl⟩ := mem_signs hx
      simp
      simpa [on1_, digits] using q
    · rw [show (signsU (intDigits l)).all (on1 fun c => decide (c ∈ digits.cps.toList)) = signsIn digits (intDigits l) from all_signs _ _]
      obtain ⟨c, k1, k2⟩ := first_at e
      cases e2 : signsIn digits (intDigits l)
      · simp
        refine q _ ?_
        simp [isIntS, e2]
      · simp
        split
        · rename_i e3
          refine q _ ?_
          have e4 : (intDigits l == ("" : Str)) = false := by simpa using e
          have e5 : (l == ("0" : Str)) = true := by simpa using e3
          simp [isIntS, e2, e4, e5]
        · rename_i e3
          refine ⟨z3, c, k1, q _ ?_⟩
          have e4 : (intDigits l == ("" : Str)) = false := by simpa using e
          have e5 : (l == ("0" : Str)) = false := by simpa using e3
          simp [isIntS, e2, e5, e4, k2, bne]
def sp_is_text_of : USp := sp2 fun k u M R _ => ∃ l, k = .str l ∧ Sm k ∧ Sm u ∧ R (.bl (isTextOf l u)) M
theorem pure_is_text_of (a b : U) (M : Mp) (R : UK) (E : UXK) (h : sp_is_text_of [a, b] M R E) : w_is_text_of sp_bare sp_is_integer_text E (endU R) [some a, some b, none] M := by
  obtain ⟨l, rfl, h0, h1, q⟩ := h
  replace q := ret_of q
  have t := h1.noref M "str" ty6
  cases b <;> first | exact (Sm.no_ref h1).elim | exact (Sm.no_pr h1).elim | (simp [w_is_text_of, t, tyN, isA]; try exact q _ rfl)
  rename_i x
  refine ⟨l, rfl, h0, ?_⟩
  simp
  split
  · rename_i e
    exact ⟨x, rfl, h1, q _ (by simp [isTextOf, isTextS, e])⟩
  · rename_i e
    have z := h1.str
    refine all_map (on1 okSign) any_keep (by rw [signs_len]; exact z) (fun y hy M' R q => ?_) ?_
    · obtain ⟨c, rfl⟩ := mem_signs hy
      simp
      rw [on1_] at q
      unfold okSign sign1 at q
      cases e1 : strLt ⟨#[c]⟩ " " <;> simp [e1] at q ⊢ <;> exact q
    · refine q _ ?_
      rw [show (signsU x).all (on1 okSign) = x.cps.toList.all okSign from all_signs _ _]
      simp [isTextOf, isTextS, e]
def sp_is_part (n : Nat) : USp := sp1 fun u M R _ => Sm u ∧ depU u < n ∧ R (.bl (isPart u)) M
theorem dep_in {us : List U} {u : U} (m : u ∈ us) : depU u < depU (.tup us) := by
  have := dep_mem m
  simp only [depU]
  omega
theorem pure_is_part (n : Nat) (a : U) (M : Mp) (R : UK) (E : UXK) (h : sp_is_part (n + 1) [a] M R E) : w_is_part sp_is_row sp_is_kind sp_is_text_of sp_is_tag (sp_is_part n) E (endU R) [some a, none] M := by
  obtain ⟨h1, hd, q⟩ := h
  replace q := ret_of q
  simp [w_is_part]
  refine ⟨2, rfl, h1, ?_⟩
  simp
  have no : isRow a 2 = false → isPart a = false := fun e => by
    cases a <;> try rfl
    rename_i us
    match us, e with
    | [], _ => rfl
    | [x], _ => cases x <;> rfl
    | [x, y], e => simp [isRow] at e
    | x :: y :: z :: r, _ => cases x <;> rfl
  cases e : isRow a 2 with
  | false => simp; exact q _ (by rw [no e])
  | true =>
    obtain ⟨x, y, rfl⟩ : ∃ x y, a = .tup [x, y] := by
      cases a <;> try (cases e; done)
      rename_i us
      match us, e with
      | [], e => simp [isRow] at e
      | [_], e => simp [isRow] at e
      | [x, y], _ => exact ⟨x, y, rfl⟩
      | _ :: _ :: _ :: r, e => simp [isRow] at e; omega
    have hx : Sm x := h1.mem (by simp)
    have hy : Sm y := h1.mem (by simp)
    have dy : depU y < depU (.tup [x, y]) := dep_in (by simp)
    have t := hy.noref M "tuple" ty6
    simp
    refine ⟨hx, ?_⟩
    simp
    cases e2 : isKind x with
    | true =>
      simp
      cases x <;> try (cases e2; done)
      rename_i l
      refine ⟨l, rfl, hx, hy, q _ ?_⟩
      have e2 : isKindS l = true := e2
      simp [isPart, e2]
    | false =>
      simp
      refine ⟨hx, ?_⟩
      simp
      have pp : isPart (.tup [x, y]) = (isTag x && isPartsT y) := by
        cases x <;> try rfl
        rename_i l
        have e2 : isKindS l = false := e2
        simp [isPart, e2, isTag]
      cases e3 : isTag x with
      | false => simp; exact q _ (by rw [pp, e3]; rfl)
      | true =>
        simp [t]
        cases y <;> first | exact (Sm.no_ref hy).elim | exact (Sm.no_pr hy).elim | (simp [tyN, isA]; try exact q _ (by rw [pp, e3]; rfl))
        rename_i ps
        refine all_map isPart any_keep hy.tup (fun p hp M' R q => ?_) (q _ ?_)
        · simp
          refine ⟨hy.mem hp, ?_, q⟩
          have := dep_in hp
          omega
        · rw [pp, e3, isPartsT, isParts_all]
          rfl
def sp_is_document : USp := sp1 fun u M R _ => Sm u ∧ depU u < 40 ∧ R (.bl (isDoc u)) M
theorem pure_is_document (a : U) (M : Mp) (R : UK) (E : UXK) (h : sp_is_document [a] M R E) : w_is_document (sp_is_part 40) sp_is_tag E (endU R) [some a] M := by
  obtain ⟨h1, hd, q⟩ := h
  replace q := ret_of q
  simp [w_is_document]
  refine ⟨h1, hd, ?_⟩
  simp
  cases e : isPart a with
  | false => simp; exact q _ (by simp [isDoc, e])
  | true =>
    simp
    cases a <;> try (simp [isPart] at e; done)
    rename_i us
    match us, e with
    | [], e => simp [isPart] at e
    | x :: r, e =>
      simp
      exact ⟨h1.mem (by simp), q _ (by simp [isDoc, e])⟩
end Law

namespace Law
open PySem PySem.Spec PyProof.Rows L2 Pu Sem
def sp_parts_of : USp := sp1 fun u M R _ => isPart u = true ∧ Sm u ∧ R (.tup (partsP u)) M
theorem pure_parts_of (a : U) (M : Mp) (R : UK) (E : UXK) (h : sp_parts_of [a] M R E) : w_parts_of sp_is_kind E (endU R) [some a] M := by
  obtain ⟨hp, h1, q⟩ := h
  replace q := ret_of q
  cases partC hp with
  | kind k t =>
    simp [w_parts_of]
    refine ⟨h1.mem (by simp), ?_⟩
    simp [isKind, k]
    exact q _ rfl
  | tag k t hh =>
    simp [w_parts_of]
    refine ⟨h1.mem (by simp), ?_⟩
    simp [isKind, k]
    exact q _ rfl
end Law

namespace Law
open PySem PySem.Spec PyProof.Rows L2 Pu Sem
@[simp] theorem uListH_ {M : Mp} {x : U} {R : UK} : uListH [x] M R ↔ ∃ ws, seqOf M x = some ws ∧ ∀ p, M p = none → R (.ref p) (put M p (.lst ws)) := by
  unfold uListH
  constructor
  · rintro ⟨u, n, e, h⟩; cases e; exact ⟨n, h⟩
  · rintro ⟨n, h⟩; exact ⟨_, n, rfl, h⟩
end Law

namespace Law
open PySem PySem.Spec PyProof.Rows L2 Pu Sem
@[simp] theorem wTry_ {sub : Str → Option Bool} {tb : UWX → WS} {ts : WS} {ex : UWX} {D : UEnds} {su : Sg} {M : Mp} : wTry sub tb ts ex D su M = tb (fun ux su1 M1 => match sub ux.cls with
  | some true => ts D su1 M1
  | some false => ex ux su1 M1
  | none => False) D su M := rfl
end Law

namespace Law
open PySem PySem.Spec PyProof.Rows L2 Pu Sem
theorem uIdx_at {M : Mp} {a : Addr} {us : List U} {i : Int} {u : U} {R : UK} (m : M a = some (.lst us)) (h : atI us i = some u) : uIdx0 (.ref a) (.int i) M R ↔ R u M := by
  unfold uIdx0 uIdx
  simp only [m]
  constructor
  · rintro ⟨i', u', e, h', q⟩
    cases e
    rw [h] at h'
    cases h'
    exact q
  · intro q; exact ⟨i, u, rfl, h, q⟩
theorem uSet_at {M : Mp} {a : Addr} {us : List U} {i : Int} {j : Nat} {v : U} {R : Mp → Prop} (m : M a = some (.lst us)) (h : ixN us.length i = some j) : uSetL (.ref a) (.int i) v M R ↔ R (put M a (.lst (us.set j v))) := by
  unfold uSetL
  constructor
  · rintro ⟨a', us', k', j', e1, e2, m', h', q⟩
    cases e1
    cases e2
    rw [m] at m'
    cases m'
    rw [h] at h'
    cases h'
    exact q
  · intro q; exact ⟨a, us, i, j, rfl, rfl, m, h, q⟩
theorem tyU_at {M : Mp} {p : Addr} {us : List U} (m : M p = some (.lst us)) : tyU "list" M (.ref p) := .inl ⟨rfl, us, m⟩
theorem lenU_at {M : Mp} {p : Addr} {us : List U} (m : M p = some (.lst us)) : lenU M (.ref p) = some us.length := by simp [lenU, m]
theorem fit_ints (cs : List Int) : Fit (.lst (cs.map .int)) := by
  refine ⟨?_, ?_⟩
  · simp only [okU]
    induction cs with
    | nil => rfl
    | cons c cs ih => simpa [okUs, okU] using ih
  · have : depUs (cs.map U.int) ≤ 1 := by
      induction cs with
      | nil => simp [depUs]
      | cons c cs ih => simp [depUs, depU]; omega
    simp only [depU]
    omega
theorem uNe_cells {M : Mp} {b : Addr} {cs : List Int} {R : UK} (m : M b = some (.lst (cs.map .int))) : uNe (.ref b) (.lst []) M R ↔ R (.bl (!cs.isEmpty)) M := by
  have e : Pu.eqU (.lst (cs.map .int)) (.lst []) = cs.isEmpty := by cases cs <;> simp [Pu.eqU, eqUs]
  unfold uNe
  have e1 : rs M (.ref b) = .lst (cs.map .int) := by simp [rs, m]
  have e2 : rs M (.lst []) = .lst [] := rfl
  rw [e1, e2, e]
  exact ⟨fun h => h.2, fun h => ⟨⟨fit_ints cs, by simpa using fit_ints []⟩, h⟩⟩
theorem pop_cells {M : Mp} {b : Addr} {c : Int} {cs : List Int} {R : UK} (m : M b = some (.lst ((c :: cs).map .int))) (h : R (.int c) (Pu.put M b (.lst (cs.map .int)))) : uPopAt (.ref b) [.int 0] M R :=
  ⟨b, _, 0, 0, .int c, rfl, rfl, m, by decide, by decide, by simp [seqIndex?], rfl, h⟩
def sp__law_pick0 : USp := sp2 fun d m M R _ => ∃ (a b : Addr) (k : Int), d = .ref a ∧ m = .int k ∧ 0 < k ∧ k < 1000000 ∧ Wl0 M a b ∧ ∀ (i : Int) M', 0 ≤ i → i < k → Ow a b M M' → Wl0 M' a b → R (.int i) M'
theorem pure__law_pick0 (u v : U) (M : Mp) (R : UK) (E : UXK) (h : sp__law_pick0 [u, v] M R E) : w__law_pick E (endU R) [some u, some v, none, none] M := by
  obtain ⟨a, b, k, rfl, rfl, k0, k1, wl, q⟩ := h
  have hab := wl.ne
  obtain ⟨cs, x, s, ma, mb, hl⟩ := wl
  have i0 : ∀ {x y z : U}, atI [x, y, z] 0 = some x := rfl
  have i1 : ∀ {x y z : U}, atI [x, y, z] 1 = some y := rfl
  have i2 : ∀ {x y z : U}, atI [x, y, z] 2 = some z := rfl
  have j1 : ∀ {x y z : U}, ixN [x, y, z].length 1 = some 1 := rfl
  have j2 : ∀ {x y z : U}, ixN [x, y, z].length 2 = some 2 := rfl
  have pw : CPow 10 18 := ⟨by decide, by decide, by decide⟩
  unfold w__law_pick
  rw [wSeq_]
  refine ⟨fun n su M1 => ∃ (cs : List Int) (x s : Int), su = [some (.ref a), some (.int k), none, none] ∧ M1 a = some (.lst [.ref b, .int x, .int s]) ∧ M1 b = some (.lst (cs.map .int)) ∧ cs.length ≤ 63 ∧ cs.length = n ∧ Ow a b M M1, ⟨_, cs, x, s, rfl, ma, mb, hl, rfl, Ow.refl a b M⟩, ?_⟩
  rintro n su M1 ⟨cs, x, s, rfl, ma, mb, hl, hn, ho⟩
  have fin : (wSeq (wIfS (wB (wBin uGt (wBin uIdx0 (wVar 0) (wC (.int 1))) (wC (.int 0)))) (wSeq (wSet 3 (wBin uMod (wCB uInt1 (wCons (wBin uIdx0 (wVar 0) (wC (.int 1))) wNil)) (wVar 1)))
 (wSeq (wAsg (wBin uFdiv (wCB uInt1 (wCons (wBin uIdx0 (wVar 0) (wC (.int 1))) wNil)) (wVar 1)) (wGsub (wVar 0) (wC (.int 1)) uSetL))
 (wSeq (wRet (wVar 3))
 wNext)))
 wNext)
 (wSeq (wSet 2 (wBin uAdd (wC (.int 65537)) (wIf (wB (wBin uNe (wBin uIdx0 (wVar 0) (wC (.int 0))) (wLst wNil))) (wBin uMod (wCB uInt1 (wCons (wBM "list" uPopAt (wBin uIdx0 (wVar 0) (wC (.int 0))) (wCons (wC (.int 0)) wNil)) wNil)) (wC (.int 2305843009213693921))) (wC (.int 0)))))
 (wSeq (wAsg (wBin uMod (wCB uInt1 (wCons (wBin uAdd (wBin uMul (wBin uIdx0 (wVar 0) (wC (.int 2))) (wC (.int 3935559000370003845))) (wVar 2)) wNil)) (wC (.int 2305843009213693921))) (wGsub (wVar 0) (wC (.int 2)) uSetL))
 (wSeq (wRet (wBin uMod (wBin uFdiv (wCB uInt1 (wCons (wBin uIdx0 (wVar 0) (wC (.int 2))) wNil)) (wC (.int 28657))) (wVar 1)))
 wNext))) (endU R) [some (.ref a), some (.int k), none, none] M1) := by
    have last : ∀ (cs : List Int) (t : Int) M2, M2 a = some (.lst [.ref b, .int x, .int s]) → M2 b = some (.lst (cs.map .int)) → cs.length ≤ 63 → Ow a b M M2 → ((wSeq (wAsg (wBin uMod (wCB uInt1 (wCons (wBin uAdd (wBin uMul (wBin uIdx0 (wVar 0) (wC (.int 2))) (wC (.int 3935559000370003845))) (wVar 2)) wNil)) (wC (.int 2305843009213693921))) (wGsub (wVar 0) (wC (.int 2)) uSetL))
 (wSeq (wRet (wBin uMod (wBin uFdiv (wCB uInt1 (wCons (wBin uIdx0 (wVar 0) (wC (.int 2))) wNil)) (wC (.int 28657))) (wVar 1)))
  wNext)) (endU R) [some (.ref a), some (.int k), some (.int t), none] M2) := by
      intro cs t M2 ma mb hl ho
      simp
      rw [uIdx_at ma i2]
      simp
      refine ⟨.inr (by decide), ?_⟩
      rw [uSet_at ma j2]
      simp only [List.set_cons_succ, List.set_cons_zero]
      rw [uIdx_at put_same i2]
      simp
      refine ⟨⟨by decide, by decide⟩, k0, ?_⟩
      exact .same (q _ _ (Int.emod_nonneg _ (by omega)) (Int.emod_lt_of_pos _ k0) (ho.trans .putA) ⟨cs, _, _, put_same, by rw [put_ne (Ne.symm hab)]; exact mb, hl⟩)
    simp only [wSeq_, wIfS_, wB_, wBin_, wVar_0]
    refine ⟨_, rfl, ?_⟩
    simp only [wC_]
    rw [uIdx_at ma i1]
    simp
    split
    · rw [uIdx_at ma i1]
      simp
      refine ⟨k0, ?_⟩
      rw [uIdx_at ma i1]
      simp
      refine ⟨⟨k0, by omega⟩, ?_⟩
      rw [uSet_at ma j1]
      exact .same (q _ _ (Int.emod_nonneg _ (by omega)) (Int.emod_lt_of_pos _ k0) (ho.trans .putA) ⟨cs, _, _, put_same, by rw [put_ne (Ne.symm hab)]; exact mb, hl⟩)
    · rw [uIdx_at ma i0, uNe_cells mb]
      cases cs with
      | nil =>
        simp
        have h := last [] 65537 M1 ma mb hl ho
        simp at h
        exact h
      | cons c cs =>
        simp
        rw [uIdx_at ma i0]
        refine ⟨tyU_at mb, pop_cells mb ?_⟩
        simp
        have h := last cs (65537 + c % 2305843009213693921) _ (by rw [put_ne hab]; exact ma) put_same (by simp at hl; omega) (ho.trans .putB)
        simp at h
        exact h
  simp at fin
  simp only [wAndT_, wB_, wBin_, wVar_0, wC_]
  refine ⟨_, rfl, ?_⟩
  rw [uIdx_at ma i1]
  simp
  split
  · rename_i hx
    rw [uIdx_at ma i0, uNe_cells mb]
    cases cs with
    | nil =>
      simp
      exact fin
    | cons c cs =>
      simp
      rw [uIdx_at ma i0, uIdx_at mb (u := .int c) (by simp [atI, ixN])]
      simp
      refine ⟨pw, ?_⟩
      split
      · rw [uIdx_at ma i0]
        refine ⟨tyU_at mb, pop_cells mb ?_⟩
        simp
        refine ⟨pw, ?_⟩
        have ma' : (Pu.put M1 b (.lst (cs.map .int))) a = some (.lst [.ref b, .int x, .int s]) := by rw [put_ne hab]; exact ma
        rw [uSet_at ma' j1]
        exact ⟨cs.length, by simp at hn; omega, ⟨_, _, put_same⟩, cs, by rw [put_ne (Ne.symm hab)]; exact put_same, by simp at hl; omega, rfl, (ho.trans .putB).trans .putA⟩
      · exact fin
  · exact fin
theorem comp_mapH {keep : Mp → Prop} {gt : WG} {te : WE} {su1 : Sg} {M : Mp} {us : List U} {R : UK} (f : U → U) (hk : ∀ D acc, M D = none → keep (put M D (.lst acc))) (hz : us.length ≤ sizeLine)
    (h : ∀ x ∈ us, ∀ M' (R : UK), R (f x) M' → gt x su1 M' fun su2 M1 => te su2 M1 R) (q : ∀ D, M D = none → R (.ref D) (Pu.put M D (.lst (us.map f)))) : CompG true keep gt wYes te su1 us M R := fun D hD =>
  ⟨hk D [] hD, compU_map hD f (fun acc => hk D acc hD) us [] _ (fun x hx a R r => h x hx _ R r) (by simpa using hz) (by
    unfold compEnd
    rw [if_pos rfl]
    simpa using q D hD)⟩
theorem cut_map {α β : Type} (f : α → β) (xs : List α) (lo hi : Option Int) : cutU (xs.map f) lo hi = (cutU xs lo hi).map f := by
  unfold cutU
  simp [List.map_drop, List.map_take]
def sp__law_well0 : USp := sp1 fun u M R _ => ∃ ns : List Int, u = .lst (ns.map .int) ∧ ns.length ≤ 63 ∧ ∀ a b M', M a = none → M b = none → Ow a b M M' → Wl0 M' a b → R (.ref a) M'
theorem pure__law_well0 (u : U) (M : Mp) (R : UK) (E : UXK) (h : sp__law_well0 [u] M R E) : w__law_well E (endU R) [some u, none, none, none] M := by
  obtain ⟨ns, rfl, hl, q⟩ := h
  have hc : cutU (ns.map U.int) none (some 63) = ns.map U.int := by
    rw [cut_map]
    congr 1
    have := cut_to ns 63
    rw [show ((63 : Nat) : Int) = 63 from rfl] at this
    rw [this, List.take_of_length_le hl]
  simp [w__law_well]
  rw [hc]
  refine comp_mapH (fun x => x) any_keep (by rw [sizeLine_eq]; simp; omega) (fun x hx M' R q => ?_) fun b hb => ?_
  · obtain ⟨i, _, rfl⟩ := List.mem_map.mp hx
    simp
    exact q
  · rw [show (ns.map U.int).map (fun x => x) = ns.map U.int from List.map_id' _]
    refine ⟨.inl ⟨by decide, by decide⟩, _, _, ⟨rfl, rfl⟩, _, put_same, ?_⟩
    refine loop_ind (fun rest s M' => ∃ (x1 : Option U) (sd : Int) (is : List Int), rest = is.map .int ∧ M' = Pu.put M b (.lst (ns.map .int)) ∧ s = [some (.lst (ns.map .int)), x1, some (.ref b), some (.int sd)]) _ _ _ ⟨none, _, ns, rfl, rfl, rfl⟩ ?_ ?_
    · rintro s M1 ⟨x1, sd, is, _, rfl, rfl⟩
      simp
      refine ⟨by rw [sizeLine_eq]; decide, fun a ha => ?_⟩
      have hab : a ≠ b := fun e => by rw [e, put_same] at ha; cases ha
      rw [put_ne hab] at ha
      refine .same (q a b _ ha hb (fun c h1 h2 => by rw [put_ne h1, put_ne h2]) ⟨ns, _, _, put_same, by rw [put_ne (Ne.symm hab)]; exact put_same, hl⟩)
    · rintro x rest s M1 ⟨x1, sd, is, e, rfl, rfl⟩ ih
      cases is with
      | nil => cases e
      | cons i is =>
        simp at e
        obtain ⟨rfl, rfl⟩ := e
        simp
        exact ⟨.inr (by decide), put_same, ih _ _ ⟨_, _, is, rfl, rfl, rfl⟩⟩
/-! the same promises, the well hidden -/
def sp__law_pick : USp := sp2 fun d m M R _ => ∃ (a b : Addr) (k : Int), d = .ref a ∧ m = .int k ∧ 0 < k ∧ k < 1000000 ∧ Wl M a b ∧ ∀ i : Int, 0 ≤ i → i < k → R (.int i) M
theorem abs__law_pick {K : PySem.W.Frag} : ∀ us M R (E : UXK) H, RepM K M H → sp__law_pick us M R E → ∃ M1 R1, RepM K M1 H ∧ Stp M H M1 H ∧ sp__law_pick0 us M1 R1 (fun _ _ => False) ∧ ∀ u M1' H', R1 u M1' → RepM K M1' H' → ∃ M', RepM K M' H' ∧ Stp M1' H' M' H' ∧ R u M' := by
  intro us M R E H r h
  match us, h with
  | [d, m], h =>
    obtain ⟨a, b, k, rfl, rfl, k0, k1, wl, q⟩ := h
    obtain ⟨M1, w0, r1, s1, ho⟩ := wl.open_ r
    refine ⟨M1, fun u M' => ∃ i : Int, u = .int i ∧ 0 ≤ i ∧ i < k ∧ Ow a b M1 M' ∧ Wl0 M' a b, r1, s1, ⟨a, b, k, rfl, rfl, k0, k1, w0, fun i M' i0 i1 ho w => ⟨i, rfl, i0, i1, ho, w⟩⟩, ?_⟩
    rintro u M2 H2 ⟨i, rfl, i0, i1, ho2, w2⟩ r2
    obtain ⟨r3, s3⟩ := w2.close r2
    rw [wl.back (ho.trans ho2)] at r3 s3
    exact ⟨M, r3, s3, q i i0 i1⟩
theorem pick_at {a b : Addr} {k : Int} {M : Mp} {R : UK} {E : UXK} (wl : Wl M a b) (k0 : 0 < k) (k1 : k < 1000000) (q : ∀ i : Int, 0 ≤ i → i < k → R (.int i) M) : sp__law_pick [.ref a, .int k] M R E := ⟨a, b, k, rfl, rfl, k0, k1, wl, q⟩
def sp__law_well : USp := sp1 fun u M R _ => ∃ ns : List Int, u = .lst (ns.map .int) ∧ ns.length ≤ 63 ∧ ∀ a b, M a = none → M b = none → Wl (put (put M b (.hid (cellsP 63))) a (.hid (wellP b))) a b → R (.ref a) (put (put M b (.hid (cellsP 63))) a (.hid (wellP b)))
theorem abs__law_well {K : PySem.W.Frag} : ∀ us M R (E : UXK) H, RepM K M H → sp__law_well us M R E → ∃ M1 R1, RepM K M1 H ∧ Stp M H M1 H ∧ sp__law_well0 us M1 R1 (fun _ _ => False) ∧ ∀ u M1' H', R1 u M1' → RepM K M1' H' → ∃ M', RepM K M' H' ∧ Stp M1' H' M' H' ∧ R u M' := by
  intro us M R E H r h
  match us, h with
  | [u], h =>
    obtain ⟨ns, rfl, hl, q⟩ := h
    refine ⟨M, fun u M' => ∃ a b, u = .ref a ∧ M a = none ∧ M b = none ∧ Ow a b M M' ∧ Wl0 M' a b, r, Stp.refl _ _, ⟨ns, rfl, hl, fun a b M' fa fb ho w => ⟨a, b, rfl, fa, fb, ho, w⟩⟩, ?_⟩
    rintro u M2 H2 ⟨a, b, rfl, fa, fb, ho2, w2⟩ r2
    obtain ⟨r3, s3⟩ := w2.close r2
    have hab := w2.ne
    have e : Pu.put (Pu.put M2 a (.hid (wellP b))) b (.hid (cellsP 63)) = Pu.put (Pu.put M b (.hid (cellsP 63))) a (.hid (wellP b)) := by
      funext c
      by_cases hb : c = b
      · subst hb; rw [put_same, put_ne (Ne.symm hab), put_same]
      · by_cases ha : c = a
        · subst ha; rw [put_same, put_ne hb, put_same]
        · rw [put_ne hb, put_ne ha, put_ne ha, put_ne hb]; exact ho2 c ha hb
    rw [e] at r3 s3
    exact ⟨_, r3, s3, q a b fa fb ⟨put_same, by rw [put_ne (Ne.symm hab), put_same]⟩⟩
def sp__law_one : USp := sp2 fun d r M R _ => ∃ (a b : Addr), d = .ref a ∧ Wl M a b ∧ (∃ us, r = .lst us ∨ r = .tup us ∨ ∃ z, r = .str z) ∧ rowItems r ≠ [] ∧ (rowItems r).length < 1000000 ∧ ∀ x, x ∈ rowItems r → R x M
theorem pure__law_one (u v : U) (M : Mp) (R : UK) (E : UXK) (h : sp__law_one [u, v] M R E) : w__law_one sp__law_pick E (endU R) [some u, some v] M := by
  obtain ⟨a, b, rfl, wl, ⟨us, hr⟩, hne, hl, q⟩ := h
  have hp : 0 < (rowItems v).length := List.length_pos_iff.mpr hne
  rcases hr with e | e | ⟨z, e⟩ <;> subst e
  · simp only [rowItems] at hp hl q
    simp [w__law_one]
    refine pick_at wl (by omega) (by omega) fun i h0 h1 => ?_
    obtain ⟨x, e, m⟩ := at_row h0 h1
    simp
    exact ⟨x, e, .same (q x m)⟩
  · simp only [rowItems] at hp hl q
    simp [w__law_one]
    refine pick_at wl (by omega) (by omega) fun i h0 h1 => ?_
    obtain ⟨x, e, m⟩ := at_row h0 h1
    simp
    exact ⟨x, e, .same (q x m)⟩
  · simp only [rowItems] at hp hl q
    rw [signsU_len] at hp hl
    have hz : z.length ≤ sizeLine := by rw [sizeLine_eq]; omega
    simp [w__law_one, lenU, hz]
    refine pick_at wl (by omega) (by omega) fun i h0 h1 => ?_
    have h2 : i < z.cps.toList.length := by simpa [Str.length] using h1
    obtain ⟨c, e, m⟩ := at_row h0 h2
    simp [hz]
    exact ⟨c, e, .same (q _ (List.mem_map.mpr ⟨c, m, rfl⟩))⟩
/-- from a written row -/
theorem one_l {a b : Addr} {us : List U} {M : Mp} {R : UK} {E : UXK} (wl : Wl M a b) (hne : us ≠ []) (hl : us.length < 1000000) (q : ∀ x ∈ us, R x M) : sp__law_one [.ref a, .lst us] M R E := ⟨a, b, rfl, wl, ⟨us, .inl rfl⟩, hne, hl, q⟩
theorem one_t {a b : Addr} {us : List U} {M : Mp} {R : UK} {E : UXK} (wl : Wl M a b) (hne : us ≠ []) (hl : us.length < 1000000) (q : ∀ x ∈ us, R x M) : sp__law_one [.ref a, .tup us] M R E := ⟨a, b, rfl, wl, ⟨us, .inr (.inl rfl)⟩, hne, hl, q⟩
theorem one_s {a b : Addr} {z : Str} {M : Mp} {R : UK} {E : UXK} (wl : Wl M a b) (hz : 0 < z.length ∧ z.length < 1000000) (q : ∀ c ∈ z.cps.toList, R (.str ⟨#[c]⟩) M) : sp__law_one [.ref a, .str z] M R E :=
  ⟨a, b, rfl, wl, ⟨[], .inr (.inr ⟨_, rfl⟩)⟩, fun e => by have := signsU_len z; simp only [rowItems] at e; rw [e] at this; simp at this; omega, by simp only [rowItems]; rw [signsU_len]; omega, fun x hx => by obtain ⟨c, hc, rfl⟩ := List.mem_map.mp hx; exact q c hc⟩
/-- the row is a list that is being made -/
def sp__law_one_r : USp := sp2 fun d r M R _ => ∃ (a b p : Addr) (us : List U), d = .ref a ∧ r = .ref p ∧ M p = some (.lst us) ∧ Wl M a b ∧ us ≠ [] ∧ us.length < 1000000 ∧ ∀ x, x ∈ us → R x M
theorem pure__law_one_r (u v : U) (M : Mp) (R : UK) (E : UXK) (h : sp__law_one_r [u, v] M R E) : w__law_one sp__law_pick E (endU R) [some u, some v] M := by
  obtain ⟨a, b, p, us, rfl, rfl, mp, wl, hne, hl, q⟩ := h
  have hp : 0 < us.length := List.length_pos_iff.mpr hne
  simp [w__law_one]
  refine ⟨_, lenU_at mp, pick_at wl (by omega) (by omega) fun i h0 h1 => ?_⟩
  obtain ⟨x, e, m⟩ := at_row h0 h1
  rw [uIdx_at mp e]
  exact .same (q x m)
end Law

namespace Law
open PySem PySem.Spec PyProof.Rows L2 Pu Sem
theorem seqIx {i : Int} {n : Nat} (h0 : 0 ≤ i) (h1 : i < n) : seqIndex? i n = some i.toNat := by
  unfold seqIndex?
  simp
  omega
theorem erase_perm {α : Type} : ∀ {xs : List α} {j : Nat} (h : j < xs.length), ([xs[j]] ++ xs.eraseIdx j).Perm xs
  | x :: r, 0, h => List.Perm.refl _
  | x :: r, j + 1, h => by
    have ih := erase_perm (xs := r) (j := j) (by simpa using h)
    simp only [List.getElem_cons_succ, List.eraseIdx_cons_succ, List.singleton_append] at ih ⊢
    exact (List.Perm.swap x _ _).trans (ih.cons x)
def sp__law_some : USp := sp4 fun d r f m M R _ => ∃ (a b : Addr) (us : List U) (k0 k1 : Nat), d = .ref a ∧ r = .lst us ∧ f = .int k0 ∧ m = .int k1 ∧ k0 ≤ k1 ∧ k1 < 1000 ∧ us.length < 1000 ∧ Wl M a b ∧
  ∀ vs, (∀ v ∈ vs, v ∈ us) → vs.length ≤ k1 → (k0 ≤ us.length → k0 ≤ vs.length) → (∃ rest, (vs ++ rest).Perm us) → R (.lst vs) M
theorem pure__law_some (u v w x : U) (M : Mp) (R : UK) (E : UXK) (h : sp__law_some [u, v, w, x] M R E) : w__law_some sp__law_pick E (endU R) [some u, some v, some w, some x, none, none, none] M := by
  obtain ⟨a, b, us, k0, k1, rfl, rfl, rfl, rfl, hk, hk1, hl, wl, q⟩ := h
  simp [w__law_some]
  intro p1 f1 p2 f2
  have h12 : p1 ≠ p2 := fun e => by rw [← e, put_same] at f2; cases f2
  have f2' : M p2 = none := by rw [put_ne (Ne.symm h12)] at f2; exact f2
  have m1 : put (put M p1 (.lst us)) p2 (.lst []) p1 = some (.lst us) := by rw [put_ne h12, put_same]
  refine ⟨_, _, ⟨rfl, rfl⟩, _, lenU_at m1, ?_⟩
  have wl1 : Wl (put (put M p1 (.lst us)) p2 (.lst [])) a b := (wl.put f1).put f2
  refine pick_at wl1 (by omega) (by omega) fun i i0 i1 => ?_
  simp
  refine ⟨by omega, by omega, ?_⟩
  refine loop_ind (fun rest s M' => ∃ (x4 : Option U) (left found : List U), s = [some (.ref a), some (.lst us), some (.int k0), some (.int k1), x4, some (.ref p1), some (.ref p2)] ∧ M' = put (put M p1 (.lst left)) p2 (.lst found) ∧ rest.length ≤ left.length ∧ found.length + rest.length ≤ k1 ∧ (k0 ≤ us.length → k0 ≤ found.length + rest.length) ∧ (found ++ left).Perm us) _ _ _ ⟨none, us, [], rfl, rfl, by simp; omega, by simp; omega, by simp; omega, by simp⟩ ?_ ?_
  · rintro s M3 ⟨x4, left, found, rfl, rfl, _, hf, hf0, hpm⟩
    simp
    refine Fin.lst (M' := M) (.put2 f1 f2') put_same f2' (q found (fun v hv => hpm.mem_iff.mp (List.mem_append_left _ hv)) (by simpa using hf) (by simpa using hf0) ⟨left, hpm⟩)
  · rintro y rest s M3 ⟨x4, left, found, rfl, rfl, hr, hf, hf0, hpm⟩ ih
    simp only [List.length_cons] at hr hf hf0
    have hlen := hpm.length_eq
    simp only [List.length_append] at hlen
    have m1 : put (put M p1 (.lst left)) p2 (.lst found) p1 = some (.lst left) := by rw [put_ne h12, put_same]
    simp
    refine ⟨tyU_at put_same, tyU_at m1, _, lenU_at m1, pick_at ((wl.put f1).put (by rw [put_ne (Ne.symm h12)]; exact f2')) (by omega) (by omega) fun j j0 j1 => ?_⟩
    have hj : j.toNat < left.length := by omega
    refine ⟨p1, left, j, j.toNat, left[j.toNat], rfl, rfl, m1, by omega, by omega, seqIx j0 j1, List.getElem?_eq_getElem hj, ?_⟩
    have hle : (left.eraseIdx j.toNat).length = left.length - 1 := List.length_eraseIdx_of_lt hj
    refine ⟨p2, found, _, rfl, rfl, by rw [put_ne (Ne.symm h12), put_same], by rw [sizeLine_eq]; omega, ?_⟩
    refine ih _ _ ⟨_, left.eraseIdx j.toNat, found ++ [left[j.toNat]], rfl, ?_, by omega, by simp; omega, by simp; omega, ?_⟩
    · funext c
      by_cases c2 : c = p2
      · subst c2; rw [put_same, put_same]
      · rw [put_ne c2, put_ne c2]
        by_cases c1 : c = p1
        · subst c1; rw [put_same, put_same]
        · rw [put_ne c1, put_ne c2, put_ne c1, put_ne c1]
    · refine List.Perm.trans ?_ hpm
      rw [List.append_assoc]
      exact List.Perm.append_left _ (erase_perm hj)
end Law

namespace Law
open PySem PySem.Spec PyProof.Rows L2 Pu Sem
theorem one_line : 1 ≤ sizeLine := by rw [sizeLine_eq]; decide
theorem two_line : 2 ≤ sizeLine := by rw [sizeLine_eq]; decide
theorem parts_sm {a p : U} (h1 : Sm a) (hp : isPart a = true) (h : p ∈ partsP a) : Sm p ∧ isPart p = true ∧ depU p < depU a := by
  cases partC hp with
  | kind k t => simp [partsP] at h
  | @tag l ps k t hh =>
    simp only [partsP] at h
    have h2 := h1.mem (u := .tup ps) (by simp)
    refine ⟨h2.mem h, hh _ h, ?_⟩
    have := dep_in h
    have := dep_in (us := [.str l, .tup ps]) (u := .tup ps) (by simp)
    omega
theorem parts_len {a : U} (h1 : Sm a) (hp : isPart a = true) : (partsP a).length ≤ sizeLine := by
  cases partC hp with
  | kind k t => simp [partsP]
  | @tag l ps k t hh => exact (h1.mem (u := .tup ps) (by simp)).tup
def isIntU : U → Bool
  | .int _ => true
  | _ => false
def sp_is_int : USp := sp1 fun u M R _ => Sm u ∧ R (.bl (isIntU u)) M
theorem pure_is_int (a : U) (M : Mp) (R : UK) (E : UXK) (h : sp_is_int [a] M R E) : w_is_int E (endU R) [some a] M := by
  obtain ⟨h1, q⟩ := h
  replace q := ret_of q
  have t1 := h1.noref M "int" ty6
  have t2 := h1.noref M "bool" ty6
  cases a <;> first | exact (Sm.no_ref h1).elim | exact (Sm.no_pr h1).elim | (simp [w_is_int, t1, t2, tyN, isA]; exact q _ rfl)
def sp__law_is_int : USp := sp1 fun u M R _ => Sm u ∧ R (.bl (isIntU u)) M
theorem pure__law_is_int (a : U) (M : Mp) (R : UK) (E : UXK) (h : sp__law_is_int [a] M R E) : w__law_is_int E (endU R) [some a] M := pure_is_int a M R E h
def idxB : U → Nat → Bool
  | .int i, n => decide (0 ≤ i) && decide (i < (n : Int))
  | _, _ => false
def sp_is_index_below : USp := sp2 fun u v M R _ => ∃ n : Nat, v = .int n ∧ Sm u ∧ R (.bl (idxB u n)) M
theorem pure_is_index_below (a b : U) (M : Mp) (R : UK) (E : UXK) (h : sp_is_index_below [a, b] M R E) : w_is_index_below sp_is_int E (endU R) [some a, some b] M := by
  obtain ⟨n, rfl, h1, q⟩ := h
  replace q := ret_of q
  simp [w_is_index_below]
  refine ⟨h1, ?_⟩
  cases a <;> simp [isIntU] <;> try exact q _ rfl
  rename_i i
  by_cases h0 : 0 ≤ i
  · simp [h0]; exact q _ (by simp [idxB, h0])
  · simp [h0]; exact q _ (by simp [idxB, h0])
def sp_check_document : USp := sp1 fun u M R E => Sm u ∧ depU u < 40 ∧ if isDoc u = true then R .non M else E ⟨"InvalidDocument", []⟩ M
theorem pure_check_document (a : U) (M : Mp) (R : UK) (E : UXK) (h : sp_check_document [a] M R E) : w_check_document sp_is_document E (endU R) [some a] M := by
  obtain ⟨h1, hd, q⟩ := h
  simp [w_check_document]
  refine ⟨h1, hd, ?_⟩
  simp
  cases e : isDoc a with
  | false => simp [e] at q ⊢; exact q
  | true => simp [e] at q ⊢; exact .same q
/-! places -/
def hasP : U → List U → Bool
  | _, [] => true
  | u, v :: r => match v with
    | .int i => if 0 ≤ i then (match (partsP u)[i.toNat]? with | some p => hasP p r | none => false) else false
    | _ => false
def hasPl (u : U) : U → Bool
  | .tup us => hasP u us
  | _ => false
def sp_has_place : USp := sp2 fun u v M R _ => isPart u = true ∧ Sm u ∧ Sm v ∧ R (.bl (hasPl u v)) M
theorem atI_of {us : List U} {i : Int} {p : U} (h0 : 0 ≤ i) (h : us[i.toNat]? = some p) : atI us i = some p := by
  have := atI_nat h
  rwa [show ((i.toNat : Nat) : Int) = i by omega] at this
theorem pure_has_place (a b : U) (M : Mp) (R : UK) (E : UXK) (h : sp_has_place [a, b] M R E) : w_has_place sp_parts_of sp_is_index_below E (endU R) [some a, some b, none, none] M := by
  obtain ⟨hp, h1, h2, q⟩ := h
  replace q := ret_of q
  have t := h2.noref M "tuple" ty6
  cases b <;> first | exact (Sm.no_ref h2).elim | exact (Sm.no_pr h2).elim | (simp [w_has_place, t, tyN, isA]; try exact q _ rfl)
  rename_i us
  refine loop_ind (fun rest s M' => ∃ (d : U) (x2 x3 : Option U), s = [some d, some (.tup us), x2, x3] ∧ M' = M ∧ isPart d = true ∧ Sm d ∧ (∀ w ∈ rest, Sm w) ∧ hasP d rest = hasP a us) _ _ _ ⟨a, none, none, rfl, rfl, hp, h1, fun w hw => h2.mem hw, rfl⟩ ?_ ?_
  · rintro s M1 ⟨d, x2, x3, rfl, rfl, _, _, _, e⟩
    simp
    exact q _ (by simp [hasPl, ← e, hasP])
  · rintro w rest s M1 ⟨d, x2, x3, rfl, rfl, hpd, hsd, hw, e⟩ ih
    simp
    refine ⟨hpd, hsd, ?_⟩
    simp
    refine ⟨(partsP d).length, rfl, hw w List.mem_cons_self, ?_⟩
    simp
    cases ei : idxB w (partsP d).length with
    | false =>
      simp
      refine q _ ?_
      simp only [hasPl, ← e]
      cases w <;> simp [hasP]
      rename_i i
      intro i0
      have : (partsP d)[i.toNat]? = none := by
        simp [idxB, i0] at ei
        simp
        omega
      rw [this]
    | true =>
      simp
      cases w <;> simp [idxB] at ei
      rename_i i
      obtain ⟨i0, i1⟩ := ei
      have hj : i.toNat < (partsP d).length := by omega
      have ej : (partsP d)[i.toNat]? = some (partsP d)[i.toNat] := List.getElem?_eq_getElem hj
      obtain ⟨k1, k2, k3⟩ := parts_sm hsd hpd (List.getElem_mem hj)
      simp
      refine ⟨_, atI_of i0 ej, ih _ _ ⟨_, _, _, rfl, rfl, k2, k1, fun w hw' => hw w (List.mem_cons_of_mem _ hw'), ?_⟩⟩
      rw [← e]
      simp [hasP, i0, ej]
def sp_is_place : USp := sp2 fun u v M R E => Sm u ∧ depU u < 40 ∧ Sm v ∧ if isDoc u = true then R (.bl (hasPl u v)) M else E ⟨"InvalidDocument", []⟩ M
theorem doc_part {u : U} (h : isDoc u = true) : isPart u = true := by
  simp [isDoc] at h
  exact h.1
theorem pure_is_place (a b : U) (M : Mp) (R : UK) (E : UXK) (h : sp_is_place [a, b] M R E) : w_is_place sp_check_document sp_has_place E (endU R) [some a, some b] M := by
  obtain ⟨h1, hd, h2, q⟩ := h
  simp [w_is_place]
  refine ⟨h1, hd, ?_⟩
  cases e : isDoc a with
  | false => simp [e] at q ⊢; exact q
  | true =>
    simp [e] at q ⊢
    exact ⟨doc_part e, h1, h2, .same q⟩
def sp_check_at : USp := sp2 fun u v M R E => Sm u ∧ depU u < 40 ∧ Sm v ∧ if isDoc u = true then (if hasPl u v = true then R .non M else E ⟨"InvalidPlace", []⟩ M) else E ⟨"InvalidDocument", []⟩ M
theorem pure_check_at (a b : U) (M : Mp) (R : UK) (E : UXK) (h : sp_check_at [a, b] M R E) : w_check_at sp_is_document sp_is_place E (endU R) [some a, some b] M := by
  obtain ⟨h1, hd, h2, q⟩ := h
  simp [w_check_at]
  refine ⟨h1, hd, ?_⟩
  simp
  cases e : isDoc a with
  | false => simp [e] at q ⊢; exact q
  | true =>
    simp [e] at q ⊢
    refine ⟨h1, hd, h2, ?_⟩
    simp [e]
    cases e2 : hasPl a b with
    | false => simp [e2] at q ⊢; exact q
    | true => simp [e2] at q ⊢; exact .same q
end Law

namespace Law
open PySem PySem.Spec PyProof.Rows L2 Pu Sem
def atN : U → List Nat → Option U
  | u, [] => some u
  | u, k :: r => match (partsP u)[k]? with
    | some p => atN p r
    | none => none
def plU (pl : List Nat) : U := .tup (pl.map fun (k : Nat) => .int (k : Int))
theorem hasP_at : ∀ {us : List U} {u : U}, hasP u us = true → ∃ pl q, us = pl.map (fun (k : Nat) => U.int (k : Int)) ∧ atN u pl = some q
  | [], u, _ => ⟨[], u, rfl, rfl⟩
  | v :: us, u, h => by
    cases v <;> simp [hasP] at h
    rename_i i
    obtain ⟨i0, h⟩ := h
    cases e : (partsP u)[i.toNat]? with
    | none => rw [e] at h; cases h
    | some p =>
      rw [e] at h
      obtain ⟨pl, q, rfl, h2⟩ := hasP_at h
      refine ⟨i.toNat :: pl, q, ?_, ?_⟩
      · rw [List.map_cons, show ((i.toNat : Nat) : Int) = i by omega]
      · simp [atN, e, h2]
theorem hasPl_at {u v : U} (h : hasPl u v = true) : ∃ pl q, v = plU pl ∧ atN u pl = some q := by
  cases v <;> simp [hasPl] at h
  obtain ⟨pl, q, rfl, h2⟩ := hasP_at h
  exact ⟨pl, q, rfl, h2⟩
theorem at_hasP : ∀ {pl : List Nat} {u q : U}, atN u pl = some q → hasP u (pl.map fun (k : Nat) => U.int (k : Int)) = true
  | [], _, _, _ => rfl
  | k :: pl, u, q, h => by
    simp only [atN] at h
    cases e : (partsP u)[k]? with
    | none => rw [e] at h; cases h
    | some p =>
      rw [e] at h
      simp [hasP, e]
      exact at_hasP h
theorem at_hasPl {pl : List Nat} {u q : U} (h : atN u pl = some q) : hasPl u (plU pl) = true := at_hasP h
/-- a step down -/
theorem step_of {u p : U} {k : Nat} (hp : isPart u = true) (h : (partsP u)[k]? = some p) : ∃ (l : Str) (ps : List U), u = .tup [.str l, .tup ps] ∧ partsP u = ps ∧ atI ps (k : Int) = some p ∧ isPart p = true ∧ isKindS l = false ∧ isTagS l = true := by
  cases partC hp with
  | kind k t => simp [partsP] at h
  | @tag l ps kk t hh => exact ⟨l, ps, rfl, rfl, atI_nat h, hh p (List.mem_of_getElem? h), kk, t⟩
theorem at_part : ∀ {pl : List Nat} {u q : U}, isPart u = true → atN u pl = some q → isPart q = true
  | [], _, _, hp, h => by cases h; exact hp
  | k :: pl, u, q, hp, h => by
    simp only [atN] at h
    cases e : (partsP u)[k]? with
    | none => rw [e] at h; cases h
    | some p =>
      rw [e] at h
      obtain ⟨_, _, _, _, _, h2, _⟩ := step_of hp e
      exact at_part h2 h
theorem at_sm : ∀ {pl : List Nat} {u q : U}, isPart u = true → Sm u → atN u pl = some q → Sm q ∧ depU q + pl.length ≤ depU u ∧ nd q ≤ nd u
  | [], _, _, hp, hs, h => by cases h; exact ⟨hs, by simp, Nat.le_refl _⟩
  | k :: pl, u, q, hp, hs, h => by
    simp only [atN] at h
    cases e : (partsP u)[k]? with
    | none => rw [e] at h; cases h
    | some p =>
      rw [e] at h
      have m := List.mem_of_getElem? e
      obtain ⟨k1, k2, k3⟩ := parts_sm hs hp m
      obtain ⟨a1, a2, a3⟩ := at_sm k2 k1 h
      refine ⟨a1, by simp; omega, ?_⟩
      obtain ⟨l, ps, rfl, e2, _⟩ := step_of hp e
      rw [e2] at m
      have := nd_mem m
      simp only [nd, nds]
      omega
def sp_at_place : USp := sp2 fun u w M R _ => ∃ pl q, w = plU pl ∧ isPart u = true ∧ atN u pl = some q ∧ R q M
theorem at_walk {su0 : Option U} {q' : U} {D : UEnds} {M : Mp} : ∀ (pl : List Nat) (u : U) (x : Option U), isPart u = true → atN u pl = some q' → (∀ x, D.nx [some q', su0, x] M) →
    loopU Any (wName 2) (wSeq (wSet 0 (wBin uIdx0 (wBin uIdx0 (wVar 0) (wC (.int 1))) (wVar 2))) wNext) (pl.map fun (k : Nat) => U.int (k : Int)) D [some u, su0, x] M
  | [], u, x, hp, h, q => by
    cases h
    simp
    exact q x
  | k :: pl, u, x, hp, h, q => by
    simp only [atN] at h
    cases e : (partsP u)[k]? with
    | none => rw [e] at h; cases h
    | some p =>
      rw [e] at h
      obtain ⟨l, ps, rfl, e2, e3, hp', _⟩ := step_of hp e
      rw [List.map_cons, loopU_cons]
      simp
      exact ⟨p, e3, at_walk pl p _ hp' h q⟩
theorem pure_at_place (a b : U) (M : Mp) (R : UK) (E : UXK) (h : sp_at_place [a, b] M R E) : w_at_place E (endU R) [some a, some b, none] M := by
  obtain ⟨pl, q', rfl, hp, hat, q⟩ := h
  simp [w_at_place, plU]
  refine at_walk pl a none hp hat fun x => ?_
  simp
  exact .same q
def sp__law_at : USp := sp2 fun u w M R _ => ∃ pl q, w = plU pl ∧ isPart u = true ∧ atN u pl = some q ∧ R q M
theorem pure__law_at (a b : U) (M : Mp) (R : UK) (E : UXK) (h : sp__law_at [a, b] M R E) : w__law_at E (endU R) [some a, some b, none] M := by
  obtain ⟨pl, q', rfl, hp, hat, q⟩ := h
  simp [w__law_at, plU]
  refine at_walk pl a none hp hat fun x => ?_
  simp
  exact .same q
def labU : U → U
  | .tup (l :: _) => l
  | u => u
theorem labU_part {u : U} (h : isPart u = true) : ∃ (l : Str) (y : U), u = .tup [.str l, y] ∧ labU u = .str l := by
  cases partC h with
  | @kind l x k t => exact ⟨l, _, rfl, rfl⟩
  | @tag l ps k t hh => exact ⟨l, _, rfl, rfl⟩
def sp_labels_of : USp := sp1 fun u M R _ => ∃ ps : List U, u = .tup ps ∧ ps.length ≤ sizeLine ∧ (∀ p ∈ ps, isPart p = true) ∧ R (.tup (ps.map labU)) M
theorem pure_labels_of (a : U) (M : Mp) (R : UK) (E : UXK) (h : sp_labels_of [a] M R E) : w_labels_of E (endU R) [some a, none] M := by
  obtain ⟨ps, rfl, hl, hp, q⟩ := h
  simp [w_labels_of]
  refine comp_map labU any_keep hl (fun p hm M' R q => ?_) ?_
  · obtain ⟨l, y, rfl, e⟩ := labU_part (hp p hm)
    simp
    rw [e] at q
    exact q
  · simp
    exact .same q
def isGK : U → Bool
  | .str s => s == ("flat" : Str) || (s == ("one-way" : Str) || s == ("onward" : Str))
  | _ => false
def sp_is_guard_kind : USp := sp1 fun u M R _ => Sm u ∧ R (.bl (isGK u)) M
theorem pure_is_guard_kind (a : U) (M : Mp) (R : UK) (E : UXK) (h : sp_is_guard_kind [a] M R E) : w_is_guard_kind E (endU R) [some a] M := by
  obtain ⟨h1, q⟩ := h
  replace q := ret_of q
  have t := h1.noref M "str" ty6
  cases a <;> first | exact (Sm.no_ref h1).elim | exact (Sm.no_pr h1).elim | (simp [w_is_guard_kind, t, tyN, isA]; try exact q _ rfl)
  rename_i s
  refine uIn_t (.inl ⟨rfl, rfl⟩) (q _ ?_)
  simp only [List.any_cons, List.any_nil, Pu.eqU, Bool.or_false, isGK]
  have c : ∀ x : Str, (x == s) = (s == x) := fun x => by rw [Bool.eq_iff_iff, beq_iff_eq, beq_iff_eq]; exact ⟨Eq.symm, Eq.symm⟩
  rw [c, c, c]
def sp_check_guard_kind : USp := sp1 fun u M R E => Sm u ∧ if isGK u = true then R .non M else E ⟨"InvalidGuard", []⟩ M
theorem pure_check_guard_kind (a : U) (M : Mp) (R : UK) (E : UXK) (h : sp_check_guard_kind [a] M R E) : w_check_guard_kind sp_is_guard_kind E (endU R) [some a] M := by
  obtain ⟨h1, q⟩ := h
  simp [w_check_guard_kind]
  refine ⟨h1, ?_⟩
  simp
  cases e : isGK a with
  | false => simp [e] at q ⊢; exact q
  | true => simp [e] at q ⊢; exact .same q
end Law

namespace Law
open PySem PySem.Spec PyProof.Rows L2 Pu Sem
theorem atI_last {α : Type} {xs : List α} {x : α} (h : xs.getLast? = some x) : atI xs (-1) = some x := by
  have hne : xs ≠ [] := by intro e; subst e; simp at h
  have hl : 0 < xs.length := List.length_pos_iff.mpr hne
  unfold atI ixN
  rw [if_neg (by decide), if_pos (by omega)]
  rw [List.getLast?_eq_getElem?] at h
  simp only [Option.bind_some]
  rw [show (-1 + (xs.length : Int)).toNat = xs.length - 1 by omega]
  exact h
def lastU (r : List U) : U := (r.getLast?).getD .non
theorem atI_lastU {r : List U} (h : r ≠ []) : atI r (-1) = some (lastU r) := by
  refine atI_last ?_
  unfold lastU
  rw [List.getLast?_eq_some_getLast h]
  rfl
/-- the rows on the way down -/
def rowsG : U → List Nat → List (List U)
  | _, [] => []
  | u, k :: r => ((partsP u).take (k + 1)).map labU :: (match (partsP u)[k]? with
    | some p => rowsG p r
    | none => [])
theorem rowsG_len : ∀ {pl : List Nat} {u : U}, (rowsG u pl).length ≤ pl.length
  | [], _ => by simp [rowsG]
  | k :: r, u => by
    simp only [rowsG, List.length_cons]
    cases (partsP u)[k]? with
    | none => simp
    | some p => have := rowsG_len (pl := r) (u := p); simp; omega
def stepG (ow : Bool) (r : List U) : U := if ow = true then lastU r else .tup r
def guardS (g : Str) (u : U) (pl : List Nat) (q : U) : U := if g = ("flat" : Str) then .tup [labU q] else .tup (stepG (g == ("one-way" : Str)) [labU u] :: (rowsG u pl).map (stepG (g == ("one-way" : Str))))
theorem plU_sm {pl : List Nat} (h : Sm (plU pl)) : pl.length ≤ 1000000 := by
  have := h.2
  have h2 := len_nds (pl.map fun (k : Nat) => U.int (k : Int))
  simp only [plU, nd] at this
  simp at h2
  omega
def sp_guard_at : USp := sp3 fun u w g M R _ => ∃ pl q s, w = plU pl ∧ g = .str s ∧ isPart u = true ∧ Sm u ∧ pl.length ≤ 1000000 ∧ atN u pl = some q ∧ R (guardS s u pl q) M
theorem pure_guard_at (a b c : U) (M : Mp) (R : UK) (E : UXK) (h : sp_guard_at [a, b, c] M R E) : w_guard_at sp_at_place sp_labels_of E (endU R) [some a, some b, some c, none, none, none] M := by
  obtain ⟨pl, q', g, rfl, rfl, hp, hs, hl, hat, q⟩ := h
  simp [w_guard_at]
  split
  · rename_i hg
    have hg : g = ("flat" : Str) := by simpa using hg
    subst hg
    refine ⟨pl, q', rfl, hp, hat, ?_⟩
    have hq := at_part hp hat
    obtain ⟨l, y, e, e2⟩ := labU_part hq
    subst e
    simp
    refine ⟨one_line, .same ?_⟩
    simpa [guardS, e2] using q
  · rename_i hg
    have hg : ¬ g = ("flat" : Str) := by simpa using hg
    rw [show guardS g a pl q' = .tup (stepG (g == ("one-way" : Str)) [labU a] :: (rowsG a pl).map (stepG (g == ("one-way" : Str)))) from if_neg hg] at q
    have main : ∀ (p : Addr) (D : UEnds), M p = none → (∀ d x4 x5, D.nx [some d, some (plU pl), some (.str g), some (.ref p), x4, x5] (Pu.put M p (.lst (stepG (g == ("one-way" : Str)) [labU a] :: (rowsG a pl).map (stepG (g == ("one-way" : Str))))))) → (loopU Any (wName 4)
 (wSeq (wSet 5 (wCall sp_labels_of (fun ux _ M => E ux M) (wCons (wSl (wBin uIdx0 (wVar 0) (wC (.int 1))) none (some (wBin uAdd (wVar 4) (wC (.int 1))))) wNil)))
 (wSeq (wDrop (wBM "list" uAppend (wVar 3) (wCons (wIf (wB (wBin uEq (wVar 2) (wC (.str "one-way")))) (wBin uIdx0 (wVar 5) (wUn uNeg (wC (.int 1)))) (wVar 5)) wNil)))
 (wSeq (wSet 0 (wBin uIdx0 (wBin uIdx0 (wVar 0) (wC (.int 1))) (wVar 4)))
 wNext))) (pl.map fun (k : Nat) => U.int (k : Int)) D [some a, some (plU pl), some (.str g), some (.ref p), none, none] (Pu.put M p (.lst [stepG (g == ("one-way" : Str)) [labU a]]))) := by
      intro p D fp hfin
      refine loop_ind (fun rest s M' => ∃ (d : U) (x4 x5 : Option U) (r : List Nat) (acc : List U), rest = r.map (fun (k : Nat) => U.int (k : Int)) ∧ s = [some d, some (plU pl), some (.str g), some (.ref p), x4, x5] ∧ M' = Pu.put M p (.lst acc) ∧ isPart d = true ∧ Sm d ∧ atN d r = some q' ∧ acc.length + r.length = 1 + pl.length ∧ acc ++ (rowsG d r).map (stepG (g == ("one-way" : Str))) = stepG (g == ("one-way" : Str)) [labU a] :: (rowsG a pl).map (stepG (g == ("one-way" : Str)))) _ _ _ ⟨a, none, none, pl, _, rfl, rfl, rfl, hp, hs, hat, by simp [Nat.add_comm], rfl⟩ ?_ ?_
      · rintro s M1 ⟨d, x4, x5, r, acc, er, rfl, rfl, hpd, hsd, had, hlen, eq⟩
        have : r = [] := by cases r <;> simp at er ⊢
        subst this
        simp [rowsG] at eq
        subst eq
        exact hfin d x4 x5
      · rintro x rest s M1 ⟨d, x4, x5, r, acc, er, rfl, rfl, hpd, hsd, had, hlen, eq⟩ ih
        cases r with
        | nil => cases er
        | cons k r =>
          simp at er
          obtain ⟨rfl, rfl⟩ := er
          simp only [atN] at had
          cases e : (partsP d)[k]? with
          | none => rw [e] at had; cases had
          | some p' =>
            rw [e] at had
            obtain ⟨l, ps, rfl, e2, e3, hp', _⟩ := step_of hpd e
            have hm := List.mem_of_getElem? e
            obtain ⟨k1, k2, k3⟩ := parts_sm hsd hpd hm
            have hk : k < ps.length := by rw [e2] at e; exact (List.getElem?_eq_some_iff.mp e).1
            have hps : ps.length ≤ sizeLine := by have := parts_len hsd hpd; rwa [e2] at this
            have ecut : cutU ps none (some ((k : Int) + 1)) = ps.take (k + 1) := by
              have := cut_to ps (k + 1)
              rwa [show ((k + 1 : Nat) : Int) = (k : Int) + 1 by omega] at this
            have hne : (ps.take (k + 1)).map labU ≠ [] := by
              cases ps with
              | nil => simp at hk
              | cons _ _ => simp
            have hz : acc.length < sizeLine := by
              simp at hlen
              rw [sizeLine_eq]; omega
            have eq' : (acc ++ [stepG (g == ("one-way" : Str)) ((ps.take (k + 1)).map labU)]) ++ (rowsG p' r).map (stepG (g == ("one-way" : Str))) = stepG (g == ("one-way" : Str)) [labU a] :: (rowsG a pl).map (stepG (g == ("one-way" : Str))) := by
              rw [← eq]
              simp only [rowsG, e2]
              rw [e2] at e
              simp [e]
            simp
            rw [ecut]
            refine ⟨ps.take (k + 1), rfl, by simp; omega, fun p hp => ?_, ?_⟩
            · have : p ∈ partsP (.tup [.str l, .tup ps]) := by rw [e2]; exact List.mem_of_mem_take hp
              exact (parts_sm hsd hpd this).2.1
            · simp
              refine ⟨tyU_at put_same, ?_⟩
              rw [List.map_take] at hne eq'
              by_cases ho : g = ("one-way" : Str)
              · rw [if_pos ho]
                refine ⟨_, atI_lastU hne, ?_⟩
                refine ⟨p, acc, _, rfl, rfl, put_same, hz, p', e3, ?_⟩
                rw [put_put]
                refine ih _ _ ⟨p', _, _, r, _, rfl, rfl, rfl, hp', k1, had, by simp at hlen ⊢; omega, ?_⟩
                rw [← eq']
                simp [ho, stepG]
              · rw [if_neg ho]
                refine ⟨p, acc, _, rfl, rfl, put_same, hz, p', e3, ?_⟩
                rw [put_put]
                refine ih _ _ ⟨p', _, _, r, _, rfl, rfl, rfl, hp', k1, had, by simp at hlen ⊢; omega, ?_⟩
                rw [← eq']
                simp [ho, stepG]
    obtain ⟨l, y, e, e2⟩ := labU_part hp
    subst e
    have lst : ∀ (p : Addr), M p = none → ∀ d x4 x5, (wSeq (wRet (wCB uTuple (wCons (wVar 3) wNil))) wNext (endU R)) [some d, some (plU pl), some (.str g), some (.ref p), x4, x5] (Pu.put M p (.lst (stepG (g == ("one-way" : Str)) [labU (.tup [.str l, y])] :: (rowsG (.tup [.str l, y]) pl).map (stepG (g == ("one-way" : Str)))))) := fun p fp d x4 x5 => by
      simp
      exact ⟨_, by simp [seqOf, lstOf, put_same], .less (fun b o eb => by
          by_cases e : b = p
          · subst e; rw [fp] at eb; cases eb
          · rw [put_ne e]; exact eb) q⟩
    by_cases ho : g = ("one-way" : Str)
    · simp [ho]
      subst ho
      refine ⟨one_line, fun p fp => ?_⟩
      have m := main p { nx := wSeq (wRet (wCB uTuple (wCons (wVar 3) wNil))) wNext (endU R), rt := Pu.Fin R } fp (lst p fp)
      rw [show stepG (("one-way" : Str) == ("one-way" : Str)) [labU (.tup [.str l, y])] = .str l by simp [stepG, lastU, labU]] at m
      exact m
    · simp [ho]
      refine ⟨one_line, fun p fp => ?_⟩
      have m := main p { nx := wSeq (wRet (wCB uTuple (wCons (wVar 3) wNil))) wNext (endU R), rt := Pu.Fin R } fp (lst p fp)
      rw [show stepG (g == ("one-way" : Str)) [labU (.tup [.str l, y])] = .tup [.str l] by simp [ho, stepG, labU]] at m
      exact m
end Law

namespace Law
open PySem PySem.Spec PyProof.Rows L2 Pu Sem
def sp_guard_of : USp := sp3 fun u w g M R E => Sm u ∧ depU u < 40 ∧ Sm w ∧ (isDoc u = true → hasPl u w = true → Sm g) ∧ if isDoc u = true then (if hasPl u w = true then (if isGK g = true then ∀ pl q s, w = plU pl → g = .str s → atN u pl = some q → R (guardS s u pl q) M else E ⟨"InvalidGuard", []⟩ M) else E ⟨"InvalidPlace", []⟩ M) else E ⟨"InvalidDocument", []⟩ M
theorem pure_guard_of (a b c : U) (M : Mp) (R : UK) (E : UXK) (h : sp_guard_of [a, b, c] M R E) : w_guard_of sp_check_at sp_check_guard_kind sp_guard_at E (endU R) [some a, some b, some c] M := by
  obtain ⟨h1, hd, h2, h3, q⟩ := h
  simp [w_guard_of]
  refine ⟨h1, hd, h2, ?_⟩
  cases e : isDoc a with
  | false => simp [e] at q ⊢; exact q
  | true =>
    cases e2 : hasPl a b with
    | false => simp [e, e2] at q ⊢; exact q
    | true =>
      simp [e, e2] at q ⊢
      refine ⟨h3 e e2, ?_⟩
      cases e3 : isGK c with
      | false => simp [e3] at q ⊢; exact q
      | true =>
        simp [e3] at q ⊢
        obtain ⟨pl, q', rfl, hat⟩ := hasPl_at e2
        have hc : ∃ s, c = .str s := by cases c <;> simp [isGK] at e3; exact ⟨_, rfl⟩
        obtain ⟨s, rfl⟩ := hc
        exact ⟨pl, q', s, rfl, rfl, doc_part e, h1, plU_sm h2, hat, .same (q pl q' s rfl rfl hat)⟩
/-! a part put in -/
def putP : U → List Nat → U → U
  | _, [], x => x
  | u, k :: r, x => match (partsP u)[k]? with
    | some p => .tup [labU u, .tup ((partsP u).take k ++ [putP p r x] ++ (partsP u).drop (k + 1))]
    | none => u
theorem put_walk {n : Nat} {sp : Nat → USp} {f : List Nat → U} : True := trivial
def sp_with_part (n : Nat) : USp := sp3 fun u w x M R _ => ∃ pl q, w = plU pl ∧ isPart u = true ∧ Sm u ∧ pl.length < n ∧ n ≤ 100 ∧ atN u pl = some q ∧ R (putP u pl x) M
theorem cut_ft {ps : List U} (k : Nat) : cutU ps none (some (k : Int)) = ps.take k ∧ cutU ps (some ((k : Int) + 1)) none = ps.drop (k + 1) := by
  refine ⟨cut_to ps k, ?_⟩
  have := cut_from ps (k + 1)
  rwa [show ((k + 1 : Nat) : Int) = (k : Int) + 1 by omega] at this
theorem pure_with_part (n : Nat) (a b c : U) (M : Mp) (R : UK) (E : UXK) (h : sp_with_part (n + 1) [a, b, c] M R E) : w_with_part (sp_with_part n) E (endU R) [some a, some b, some c, none, none] M := by
  obtain ⟨pl, q', rfl, hp, hs, hn, h100, hat, q⟩ := h
  replace q := ret_of q
  cases pl with
  | nil =>
    simp [w_with_part, plU]
    exact q _ (by simp [putP])
  | cons k r =>
    simp only [atN] at hat
    cases e : (partsP a)[k]? with
    | none => rw [e] at hat; cases hat
    | some p =>
      rw [e] at hat
      obtain ⟨l, ps, rfl, e2, e3, hp', _⟩ := step_of hp e
      have hm := List.mem_of_getElem? e
      obtain ⟨k1, k2, k3⟩ := parts_sm hs hp hm
      have hps : ps.length ≤ sizeLine := by have := parts_len hs hp; rwa [e2] at this
      rw [e2] at e
      have hk : k < ps.length := (List.getElem?_eq_some_iff.mp e).1
      obtain ⟨c1, c2⟩ := cut_ft (ps := ps) k
      have c3 : cutU (plU (k :: r) |> fun | .tup us => us | _ => []) (some 1) none = r.map fun (k : Nat) => U.int (k : Int) := by
        have := cut_from ((k :: r).map fun (k : Nat) => U.int (k : Int)) 1
        simpa [plU] using this
      simp [w_with_part, plU, one_line, two_line]
      simp [plU] at c3
      rw [c1, c2, c3]
      refine ⟨p, e3, r, q', rfl, hp', k1, by simp at hn; omega, by omega, hat, ?_⟩
      refine ⟨by simp; omega, by simp; omega, q _ ?_⟩
      simp [putP, e2, e, labU]
def sp__law_put (n : Nat) : USp := sp3 fun u w x M R _ => ∃ pl q, w = plU pl ∧ isPart u = true ∧ Sm u ∧ pl.length < n ∧ n ≤ 100 ∧ atN u pl = some q ∧ R (putP u pl x) M
theorem pure__law_put (n : Nat) (a b c : U) (M : Mp) (R : UK) (E : UXK) (h : sp__law_put (n + 1) [a, b, c] M R E) : w__law_put (sp__law_put n) E (endU R) [some a, some b, some c, none] M := by
  obtain ⟨pl, q', rfl, hp, hs, hn, h100, hat, q⟩ := h
  replace q := ret_of q
  cases pl with
  | nil =>
    simp [w__law_put, plU]
    exact q _ (by simp [putP])
  | cons k r =>
    simp only [atN] at hat
    cases e : (partsP a)[k]? with
    | none => rw [e] at hat; cases hat
    | some p =>
      rw [e] at hat
      obtain ⟨l, ps, rfl, e2, e3, hp', _⟩ := step_of hp e
      have hm := List.mem_of_getElem? e
      obtain ⟨k1, k2, k3⟩ := parts_sm hs hp hm
      have hps : ps.length ≤ sizeLine := by have := parts_len hs hp; rwa [e2] at this
      rw [e2] at e
      have hk : k < ps.length := (List.getElem?_eq_some_iff.mp e).1
      obtain ⟨c1, c2⟩ := cut_ft (ps := ps) k
      have c3 : cutU (plU (k :: r) |> fun | .tup us => us | _ => []) (some 1) none = r.map fun (k : Nat) => U.int (k : Int) := by
        have := cut_from ((k :: r).map fun (k : Nat) => U.int (k : Int)) 1
        simpa [plU] using this
      simp [w__law_put, plU, one_line, two_line]
      simp [plU] at c3
      rw [c1, c2, c3]
      refine ⟨p, e3, r, q', rfl, hp', k1, by simp at hn; omega, by omega, hat, ?_⟩
      refine ⟨by simp; omega, by simp; omega, q _ ?_⟩
      simp [putP, e2, e, labU]
end Law

namespace Law
open PySem PySem.Spec PyProof.Rows L2 Pu Sem
theorem label_first {l : Str} (h : isLabelS l = true) : ∃ c r, l.cps.toList = c :: r ∧ ((⟨#[c]⟩ : Str) == ("$" : Str)) = isKindS l := by
  have k := lawKind_eq h
  cases e : l.cps.toList with
  | nil =>
    exfalso
    unfold isLabelS at h
    rw [Bool.or_eq_true] at h
    rcases h with h | h
    · rcases kind_four h with e2 | e2 | e2 | e2 <;> subst e2 <;> revert e <;> decide +kernel
    · obtain ⟨c, r, e2, _⟩ := tag_first h
      rw [e2] at e
      cases e
  | cons c r =>
    refine ⟨c, r, rfl, ?_⟩
    unfold lawKind at k
    rw [cut1 e] at k
    exact k
def sp_is_kind_shape_work : USp := sp1 fun u M R _ => ∃ l, u = .str l ∧ Sm u ∧ isLabelS l = true ∧ R (.bl (isKindS l)) M
theorem pure_is_kind_shape_work (a : U) (M : Mp) (R : UK) (E : UXK) (h : sp_is_kind_shape_work [a] M R E) : w_is_kind_shape_work E (endU R) [some a] M := by
  obtain ⟨l, rfl, h1, hl, q⟩ := h
  obtain ⟨c, r, e, ek⟩ := label_first hl
  have z := h1.str
  simp [w_is_kind_shape_work, z]
  refine ⟨c, by rw [e]; simp [atI, ixN], .same ?_⟩
  rw [← ek] at q
  exact q
def leafU : U → Bool
  | .tup (.str l :: _) => isKindS l
  | _ => false
theorem part_lab {u : U} (h : isPart u = true) : ∃ (l : Str) (y : U), u = .tup [.str l, y] ∧ isLabelS l = true ∧ leafU u = isKindS l ∧ labU u = .str l := by
  cases partC h with
  | @kind l x k t => exact ⟨l, _, rfl, by simp [isLabelS, k], rfl, rfl⟩
  | @tag l ps k t hh => exact ⟨l, _, rfl, by simp [isLabelS, t], rfl, rfl⟩
def sp__law_is_leaf : USp := sp1 fun u M R _ => isPart u = true ∧ Sm u ∧ R (.bl (leafU u)) M
theorem pure__law_is_leaf (a : U) (M : Mp) (R : UK) (E : UXK) (h : sp__law_is_leaf [a] M R E) : w__law_is_leaf E (endU R) [some a] M := by
  obtain ⟨hp, h1, q⟩ := h
  replace q := ret_of q
  obtain ⟨l, y, rfl, hl, e, _⟩ := part_lab hp
  have z := (h1.mem (u := .str l) (by simp)).str
  have k := lawKind_eq hl
  unfold lawKind at k
  simp [w__law_is_leaf, z]
  exact q _ (by rw [e, ← k])
def sp_exchanged : USp := sp4 fun u w c d M R E => Sm u ∧ depU u < 40 ∧ Sm w ∧ (isDoc u = true → hasPl u w = true → Sm c ∧ depU c < 40 ∧ Sm d) ∧
  if isDoc u = true then (if hasPl u w = true then (if isDoc c = true then (if hasPl c d = true then ∀ pl q pl' q', w = plU pl → d = plU pl' → atN u pl = some q → atN c pl' = some q' → (if pl = [] ∧ leafU q' = true then E ⟨"InvalidExchange", []⟩ M else R (putP u pl q') M) else E ⟨"InvalidPlace", []⟩ M) else E ⟨"InvalidDocument", []⟩ M) else E ⟨"InvalidPlace", []⟩ M) else E ⟨"InvalidDocument", []⟩ M
theorem pure_exchanged (a b c d : U) (M : Mp) (R : UK) (E : UXK) (h : sp_exchanged [a, b, c, d] M R E) : w_exchanged sp_check_at sp_at_place sp_is_kind_shape_work (sp_with_part 60) E (endU R) [some a, some b, some c, some d, none] M := by
  obtain ⟨h1, hd, h2, h3, q⟩ := h
  simp [w_exchanged]
  refine ⟨h1, hd, h2, ?_⟩
  cases e : isDoc a with
  | false => simp [e] at q ⊢; exact q
  | true =>
    cases e2 : hasPl a b with
    | false => simp [e, e2] at q ⊢; exact q
    | true =>
      simp [e, e2] at q ⊢
      obtain ⟨g1, g2, g3⟩ := h3 e e2
      refine ⟨g1, g2, g3, ?_⟩
      cases e3 : isDoc c with
      | false => simp [e3] at q ⊢; exact q
      | true =>
        cases e4 : hasPl c d with
        | false => simp [e3, e4] at q ⊢; exact q
        | true =>
          simp [e3, e4] at q ⊢
          obtain ⟨pl, q1, rfl, hat⟩ := hasPl_at e2
          obtain ⟨pl', q2, rfl, hat'⟩ := hasPl_at e4
          have q := q pl q1 pl' q2 rfl rfl hat hat'
          refine ⟨pl', q2, rfl, doc_part e3, hat', ?_⟩
          obtain ⟨s1, s2, s3⟩ := at_sm (doc_part e3) g1 hat'
          have hq2 := at_part (doc_part e3) hat'
          obtain ⟨l, y, e5, hl, e6, _⟩ := part_lab hq2
          have hlen : pl.length < 60 := by have := (at_sm (doc_part e) h1 hat).2.1; omega
          have rest : R (putP a pl q2) M → sp_with_part 60 [a, plU pl, q2] M (Pu.Fin R) fun ux M => E ux M := fun q => ⟨pl, q1, rfl, doc_part e, h1, hlen, by decide, hat, .same q⟩
          cases pl with
          | nil =>
            simp [plU] at rest ⊢
            rw [e5]
            simp
            refine ⟨l, rfl, (e5 ▸ s1).mem (by simp), hl, ?_⟩
            simp
            rw [e6] at q
            cases ek : isKindS l with
            | false => simp [ek] at q ⊢; rw [← e5]; exact rest q
            | true => simp [ek] at q ⊢; exact q
          | cons k r =>
            simp at q
            simp [plU] at rest ⊢
            exact rest q
/-! places listed -/
def sp__law_places (n : Nat) : USp := sp2 fun u w M R _ => ∃ pl : List Nat, w = plU pl ∧ isPart u = true ∧ Sm u ∧ depU u < n ∧ n ≤ 60 ∧ pl.length + depU u ≤ 100 ∧ ∀ ws : List (List Nat), ws ≠ [] → ws.length ≤ nd u → (∀ w ∈ ws, ∃ r q, w = pl ++ r ∧ atN u r = some q) → R (.lst (ws.map plU)) M
theorem pure__law_places (n : Nat) (a b : U) (M : Mp) (R : UK) (E : UXK) (h : sp__law_places (n + 1) [a, b] M R E) : w__law_places sp__law_is_leaf (sp__law_places n) E (endU R) [some a, some b, none, none] M := by
  obtain ⟨pl, rfl, hp, hs, hd, h60, hpl, q⟩ := h
  have hz := hs.2
  simp [w__law_places, one_line]
  refine ⟨hp, hs, ?_⟩
  simp
  cases partC hp with
  | @kind l x k t =>
    simp [leafU, k]
    exact .same (q [pl] (by simp) (by simp [nd]) fun w hw => ⟨[], _, by simp at hw; simp [hw], rfl⟩)
  | @tag l ps k t hh =>
    simp [leafU, k]
    have hnd : 1 + nds ps ≤ nd (.tup [.str l, .tup ps]) := by simp [nds, nd]; omega
    have hps := parts_len hs hp
    simp only [partsP] at hps
    have hlen := len_nds ps
    refine ⟨by rw [sizeLine_eq] at hps; omega, ?_⟩
    refine loop_ind (fun rest s M' => ∃ (x3 : Option U) (k m : Nat) (ws : List (List Nat)), rest = (List.range' k m).map (fun (i : Nat) => U.int (i : Int)) ∧ k + m = ps.length ∧ s = [some (.tup [.str l, .tup ps]), some (plU pl), some (.lst (ws.map plU)), x3] ∧ M' = M ∧ ws ≠ [] ∧ ws.length + nds (ps.drop k) ≤ nd (.tup [.str l, .tup ps]) ∧ ∀ w ∈ ws, ∃ r q, w = pl ++ r ∧ atN (.tup [.str l, .tup ps]) r = some q) _ _ _ ⟨none, 0, ps.length, [pl], by rw [List.range_eq_range'], by simp, rfl, rfl, by simp, by simp; omega, fun w hw => ⟨[], _, by simp at hw; simp [hw], rfl⟩⟩ ?_ ?_
    · rintro s M1 ⟨x3, k, m, ws, er, hk, rfl, rfl, hne, hwl, hw⟩
      simp
      exact .same (q ws hne (by omega) hw)
    · rintro x rest s M1 ⟨x3, k, m, ws, er, hk, rfl, rfl, hne, hwl, hw⟩ ih
      cases m with
      | zero => simp at er
      | succ m =>
        rw [List.range'_succ] at er
        simp at er
        obtain ⟨rfl, rfl⟩ := er
        have hkl : k < ps.length := by omega
        have e : ps[k]? = some ps[k] := List.getElem?_eq_getElem hkl
        have m1 : ps[k] ∈ partsP (.tup [.str l, .tup ps]) := List.getElem_mem hkl
        obtain ⟨k1, k2, k3⟩ := parts_sm hs hp m1
        rw [List.drop_eq_getElem_cons hkl] at hwl
        simp only [nds] at hwl
        simp
        refine ⟨_, atI_nat e, ?_⟩
        simp [plU, one_line]
        refine ⟨by rw [sizeLine_eq]; omega, pl ++ [k], by simp [plU], k2, k1, by omega, by omega, by simp; omega, fun ws' hne' hwl' hw' => ?_⟩
        simp
        refine ⟨by rw [sizeLine_eq]; omega, ?_⟩
        have := ih [some (.tup [.str l, .tup ps]), some (plU pl), some (.lst ((ws ++ ws').map plU)), some (.int (k : Int))] M1 ⟨_, k + 1, m, ws ++ ws', rfl, by omega, rfl, rfl, by simp [hne], by simp; omega, fun w hw2 => ?_⟩
        · simpa [plU] using this
        · rcases List.mem_append.mp hw2 with hw2 | hw2
          · exact hw w hw2
          · obtain ⟨r, q1, rfl, hat⟩ := hw' w hw2
            refine ⟨k :: r, q1, by simp, ?_⟩
            simp [atN, partsP, e, hat]
end Law

namespace Law
open PySem PySem.Spec PyProof.Rows L2 Pu Sem
def sp__law_guard : USp := sp3 fun u w g M R _ => ∃ pl q s, w = plU pl ∧ g = .str s ∧ isGK g = true ∧ isPart u = true ∧ Sm u ∧ pl.length ≤ 100000 ∧ atN u pl = some q ∧ R (guardS s u pl q) M
theorem rows_ne : ∀ {pl : List Nat} {u q : U}, isPart u = true → atN u pl = some q → ∀ r ∈ rowsG u pl, r ≠ []
  | [], _, _, _, _, r, h => by simp [rowsG] at h
  | k :: pl, u, q, hp, hat, r, h => by
    simp only [atN] at hat
    cases e : (partsP u)[k]? with
    | none => rw [e] at hat; cases hat
    | some p =>
      rw [e] at hat
      obtain ⟨_, _, _, _, _, hp', _⟩ := step_of hp e
      simp only [rowsG, e] at h
      rcases List.mem_cons.mp h with h | h
      · subst h
        have hk := (List.getElem?_eq_some_iff.mp e).1
        cases h2 : partsP u with
        | nil => rw [h2] at hk; simp at hk
        | cons _ _ => simp
      · exact rows_ne hp' hat r h
theorem pure__law_guard (a b c : U) (M : Mp) (R : UK) (E : UXK) (h : sp__law_guard [a, b, c] M R E) : w__law_guard E (endU R) [some a, some b, some c, none, none, none, none, none] M := by
  obtain ⟨pl, q', g, rfl, rfl, hg, hp, hs, hl, hat, q⟩ := h
  have main : ∀ (p : Addr) (D : UEnds), M p = none → (∀ x3, D.nx [some a, some (plU pl), some (.str g), x3, some (.ref p), some q', none, none] (Pu.put M p (.lst (.tup [labU a] :: (rowsG a pl).map .tup)))) → (loopU Any (wName 3)
 (wSeq (wDrop (wBM "list" uAppend (wVar 4) (wCons (wCB uTuple (wCons (wComp false (wIt (wSl (wBin uIdx0 (wVar 5) (wC (.int 1))) none (some (wBin uAdd (wVar 3) (wC (.int 1)))))) (wName 7) wYes (wBin uIdx0 (wVar 7) (wC (.int 0))) [7]) wNil)) wNil)))
 (wSeq (wSet 5 (wBin uIdx0 (wBin uIdx0 (wVar 5) (wC (.int 1))) (wVar 3)))
 wNext)) (pl.map fun (k : Nat) => U.int (k : Int)) D [some a, some (plU pl), some (.str g), none, some (.ref p), some a, none, none] (Pu.put M p (.lst [.tup [labU a]]))) := by
    intro p D fp hfin
    refine loop_ind (fun rest s M' => ∃ (d : U) (x3 : Option U) (r : List Nat) (acc : List U), rest = r.map (fun (k : Nat) => U.int (k : Int)) ∧ s = [some a, some (plU pl), some (.str g), x3, some (.ref p), some d, none, none] ∧ M' = Pu.put M p (.lst acc) ∧ isPart d = true ∧ Sm d ∧ atN d r = some q' ∧ acc.length + r.length = 1 + pl.length ∧ acc ++ (rowsG d r).map .tup = .tup [labU a] :: (rowsG a pl).map .tup) _ _ _ ⟨a, none, pl, _, rfl, rfl, rfl, hp, hs, hat, by simp [Nat.add_comm], rfl⟩ ?_ ?_
    · rintro s M1 ⟨d, x3, r, acc, er, rfl, rfl, hpd, hsd, had, hlen, eq⟩
      have : r = [] := by cases r <;> simp at er ⊢
      subst this
      simp [rowsG] at eq
      subst eq
      cases had
      exact hfin x3
    · rintro x rest s M1 ⟨d, x3, r, acc, er, rfl, rfl, hpd, hsd, had, hlen, eq⟩ ih
      cases r with
      | nil => cases er
      | cons k r =>
        simp at er
        obtain ⟨rfl, rfl⟩ := er
        simp only [atN] at had
        cases e : (partsP d)[k]? with
        | none => rw [e] at had; cases had
        | some p' =>
          rw [e] at had
          obtain ⟨l, ps, rfl, e2, e3, hp', _⟩ := step_of hpd e
          have hm := List.mem_of_getElem? e
          obtain ⟨k1, k2, k3⟩ := parts_sm hsd hpd hm
          have hps : ps.length ≤ sizeLine := by have := parts_len hsd hpd; rwa [e2] at this
          have ecut : cutU ps none (some ((k : Int) + 1)) = ps.take (k + 1) := by
            have := cut_to ps (k + 1)
            rwa [show ((k + 1 : Nat) : Int) = (k : Int) + 1 by omega] at this
          have hz : acc.length < sizeLine := by
            simp at hlen
            rw [sizeLine_eq]; omega
          have eq' : (acc ++ [.tup ((ps.take (k + 1)).map labU)]) ++ (rowsG p' r).map .tup = .tup [labU a] :: (rowsG a pl).map .tup := by
            rw [← eq]
            simp only [rowsG, e2]
            rw [e2] at e
            simp [e]
          simp
          refine ⟨tyU_at put_same, ?_⟩
          rw [ecut]
          refine comp_map labU any_keep (by simp; omega) (fun p hp M' R q => ?_) ?_
          · have hm : p ∈ partsP (.tup [.str l, .tup ps]) := by rw [e2]; exact List.mem_of_mem_take hp
            obtain ⟨l', y, rfl, e'⟩ := labU_part (parts_sm hsd hpd hm).2.1
            simp
            rw [e'] at q
            exact q
          · simp
            refine ⟨p, acc, _, rfl, rfl, put_same, hz, p', e3, ?_⟩
            rw [put_put]
            rw [List.map_take] at eq'
            exact ih _ _ ⟨p', _, r, _, rfl, rfl, rfl, hp', k1, had, by simp at hlen ⊢; omega, eq'⟩
  obtain ⟨l, y, e, e2⟩ := labU_part hp
  have less : ∀ {p : Addr} {o : MO}, M p = none → Fewer M (Pu.put M p o) := fun {p o} fp b o' eb => by
    by_cases e : b = p
    · subst e; rw [fp] at eb; cases eb
    · rw [put_ne e]; exact eb
  have fin : ∀ (p : Addr), M p = none → ∀ x3, wSeq (wIfS (wB (wBin uEq (wVar 2) (wC (.str "onward")))) (wSeq (wRet (wCB uTuple (wCons (wVar 4) wNil))) wNext) wNext) (wSeq (wRet (wIf (wB (wBin uEq (wVar 2) (wC (.str "one-way")))) (wCB uTuple (wCons (wComp false (wIt (wVar 4)) (wName 6) wYes (wBin uIdx0 (wVar 6) (wUn uNeg (wC (.int 1)))) [6]) wNil)) (wTup (wCons (wBin uIdx0 (wVar 5) (wC (.int 0))) wNil)))) wNext) (endU R) [some a, some (plU pl), some (.str g), x3, some (.ref p), some q', none, none] (Pu.put M p (.lst (.tup [labU a] :: (rowsG a pl).map .tup))) := fun p fp x3 => by
    have n1 : ("onward" : Str) ≠ ("flat" : Str) := by decide +kernel
    have n2 : ("onward" : Str) ≠ ("one-way" : Str) := by decide +kernel
    have n3 : ("one-way" : Str) ≠ ("flat" : Str) := by decide +kernel
    simp [isGK] at hg
    simp
    split
    · rename_i ho
      have ho : g = ("onward" : Str) := by simpa using ho
      subst ho
      refine ⟨.tup [labU a] :: (rowsG a pl).map .tup, by simp [seqOf, lstOf, put_same], .less (less fp) ?_⟩
      have e1 : stepG false = U.tup := by funext r; simp [stepG]
      have e3 : (("onward" : Str) == ("one-way" : Str)) = false := by simpa using n2
      rw [show guardS "onward" a pl q' = .tup (stepG (("onward" : Str) == ("one-way" : Str)) [labU a] :: (rowsG a pl).map (stepG (("onward" : Str) == ("one-way" : Str)))) from if_neg n1, e3, e1] at q
      exact q
    · rename_i ho
      have ho : ¬ g = ("onward" : Str) := by simpa using ho
      split
      · rename_i h1
        have h1 : g = ("one-way" : Str) := by simpa using h1
        subst h1
        refine ⟨_, put_same, ?_⟩
        refine comp_map (fun | .tup r => lastU r | x => x) (fun D acc hD => ?_) (by have := rowsG_len (pl := pl) (u := a); simp; rw [sizeLine_eq]; omega) (fun w hw M' R q => ?_) ?_
        · have : p ≠ D := fun z => by rw [← z, put_same] at hD; cases hD
          rw [put_ne this]
          exact put_same
        · have : ∃ r, w = .tup r ∧ r ≠ [] := by
            rcases List.mem_cons.mp hw with hw | hw
            · exact ⟨_, hw, by simp⟩
            · obtain ⟨r, hr, rfl⟩ := List.mem_map.mp hw
              exact ⟨r, rfl, rows_ne hp hat r hr⟩
          obtain ⟨r, rfl, hr⟩ := this
          simp
          exact ⟨_, atI_lastU hr, q⟩
        · simp
          refine .less (less fp) ?_
          have e1 : stepG true = lastU := by funext r; simp [stepG]
          have e3 : (("one-way" : Str) == ("one-way" : Str)) = true := by simp
          rw [show guardS "one-way" a pl q' = .tup (stepG (("one-way" : Str) == ("one-way" : Str)) [labU a] :: (rowsG a pl).map (stepG (("one-way" : Str) == ("one-way" : Str)))) from if_neg n3, e3, e1] at q
          exact q
      · rename_i h1
        have h1 : ¬ g = ("one-way" : Str) := by simpa using h1
        have h2 : g = ("flat" : Str) := by
          rcases hg with h | h | h
          · exact h
          · exact absurd h h1
          · exact absurd h ho
        subst h2
        obtain ⟨l2, y2, e4, e5⟩ := labU_part (at_part hp hat)
        subst e4
        simp
        refine ⟨one_line, .less (less fp) ?_⟩
        simpa [guardS, e5] using q
  have m := fun p fp => main p { nx := wSeq (wIfS (wB (wBin uEq (wVar 2) (wC (.str "onward")))) (wSeq (wRet (wCB uTuple (wCons (wVar 4) wNil))) wNext) wNext) (wSeq (wRet (wIf (wB (wBin uEq (wVar 2) (wC (.str "one-way")))) (wCB uTuple (wCons (wComp false (wIt (wVar 4)) (wName 6) wYes (wBin uIdx0 (wVar 6) (wUn uNeg (wC (.int 1)))) [6]) wNil)) (wTup (wCons (wBin uIdx0 (wVar 5) (wC (.int 0))) wNil)))) wNext) (endU R), rt := Pu.Fin R } fp (fin p fp)
  clear main fin
  unfold w__law_guard
  rw [wSeq_]
  subst e
  simp
  rw [e2] at m
  refine ⟨one_line, fun p fp => ?_⟩
  exact ⟨_, _, ⟨rfl, rfl⟩, m p fp⟩
end Law

namespace Law
open PySem PySem.Spec PyProof.Rows L2 Pu Sem
/-! ### sameness of values -/
mutual
def sameB : U → U → Bool
  | u, .non => isNonU u
  | .bl a, .bl b => a == b
  | .int a, .int b => a == b
  | .str a, .str b => a == b
  | .tup us, .tup vs => sameBs us vs
  | .lst us, .lst vs => sameBs us vs
  | _, _ => false
def sameBs : List U → List U → Bool
  | [], [] => true
  | u :: us, v :: vs => sameB u v && sameBs us vs
  | _, _ => false
end
theorem sameBs_len : ∀ {us vs : List U}, us.length ≠ vs.length → sameBs us vs = false
  | [], [], h => absurd rfl h
  | [], _ :: _, _ => by simp [sameBs]
  | _ :: _, [], _ => by simp [sameBs]
  | u :: us, v :: vs, h => by
    simp only [sameBs]
    rw [sameBs_len (by simpa using h), Bool.and_false]
theorem sameBs_range : ∀ (us vs : List U), us.length = vs.length → ((List.range vs.length).all fun i => sameB (us.getD i .non) (vs.getD i .non)) = sameBs us vs
  | [], [], _ => by simp [sameBs]
  | [], _ :: _, h => by simp at h
  | _ :: _, [], h => by simp at h
  | u :: us, v :: vs, h => by
    rw [List.length_cons, List.range_succ_eq_map, List.all_cons, List.all_map, sameBs]
    congr 1
    exact sameBs_range us vs (by simpa using h)
mutual
theorem same_refl : ∀ u : U, okU u = true → sameB u u = true
  | .non, _ => by simp [sameB, isNonU]
  | .bl _, _ => by simp [sameB]
  | .int _, _ => by simp [sameB]
  | .str _, _ => by simp [sameB]
  | .tup us, h => by simp only [sameB]; exact sames_refl us (by simpa [okU] using h)
  | .lst us, h => by simp only [sameB]; exact sames_refl us (by simpa [okU] using h)
  | .ty _, h => by simp [okU] at h
  | .ref _, h => by simp [okU] at h
  | .dct _ _, h => by simp [okU] at h
  | .pr _, h => by simp [okU] at h
theorem sames_refl : ∀ us : List U, okUs us = true → sameBs us us = true
  | [], _ => by simp [sameBs]
  | u :: us, h => by
    simp only [okUs, Bool.and_eq_true] at h
    simp only [sameBs, same_refl u h.1, sames_refl us h.2, Bool.true_and]
end
def onInt (f : Int → Bool) : U → Bool
  | .int i => f i
  | _ => false
theorem okU_mem' {us : List U} (h : okUs us = true) {u : U} (m : u ∈ us) : okU u = true := by
  induction us with
  | nil => cases m
  | cons v us ih =>
    simp only [okUs, Bool.and_eq_true] at h
    rcases List.mem_cons.mp m with e | m
    · subst e; exact h.1
    · exact ih h.2 m
def sp__law_same (n : Nat) : USp := sp2 fun u v M R _ => Sm u ∧ Sm v ∧ okU v = true ∧ depU v < n ∧ R (.bl (sameB u v)) M
theorem same_all {n : Nat} {us vs : List U} {x y : U} {M : Mp} {R : UK} (hx : (x = .tup us ∧ y = .tup vs) ∨ (x = .lst us ∧ y = .lst vs)) (h1 : Sm x) (h2 : Sm y) (ho : okUs vs = true) (hd : depU y < n + 1) (hl : us.length = vs.length) (q : R (.bl (sameBs us vs)) M) :
    CompG false Any (wName 2) wYes (wCall (sp__law_same n) (fun _ _ _ => False) (wCons (wBin uIdx0 (wVar 0) (wVar 2)) (wCons (wBin uIdx0 (wVar 1) (wVar 2)) wNil))) [some x, some y, none] ((List.range vs.length).map fun i => U.int ((i : Nat) : Int)) M fun x M1 => uAll [x] M1 R := by
  have hz : vs.length ≤ sizeLine := by
    rcases hx with ⟨_, e⟩ | ⟨_, e⟩ <;> subst e
    · exact h2.tup
    · exact h2.lst
  refine all_map (onInt fun i => sameB (us.getD i.toNat .non) (vs.getD i.toNat .non)) any_keep (by simpa using hz) (fun w hw M' R q => ?_) ?_
  · obtain ⟨i, hi, rfl⟩ := List.mem_map.mp hw
    have hi : i < vs.length := by simpa using hi
    have hi' : i < us.length := by omega
    have e : us[i]? = some us[i] := List.getElem?_eq_getElem hi'
    have e' : vs[i]? = some vs[i] := List.getElem?_eq_getElem hi
    have m : us[i] ∈ us := List.getElem_mem hi'
    have m' : vs[i] ∈ vs := List.getElem_mem hi
    have eq1 : us.getD i .non = us[i] := by simp [List.getD_eq_getElem?_getD, e]
    have eq2 : vs.getD i .non = vs[i] := by simp [List.getD_eq_getElem?_getD, e']
    simp only [onInt, Int.toNat_natCast, eq1, eq2] at q
    have hd2 : depU vs[i] < depU y := by
      rcases hx with ⟨_, e⟩ | ⟨_, e⟩ <;> subst e
      · exact dep_in m'
      · have := dep_mem m'; simp only [depU]; omega
    have s1 : Sm us[i] := by
      rcases hx with ⟨e, _⟩ | ⟨e, _⟩ <;> subst e
      · exact h1.mem m
      · exact h1.meml m
    have s2 : Sm vs[i] := by
      rcases hx with ⟨_, e⟩ | ⟨_, e⟩ <;> subst e
      · exact h2.mem m'
      · exact h2.meml m'
    rcases hx with ⟨ex, ey⟩ | ⟨ex, ey⟩ <;> subst ex ey <;> simp <;> exact ⟨us[i], atI_nat e, vs[i], atI_nat e', s1, s2, okU_mem' ho m', by omega, q⟩
  · rw [List.all_map]
    have e : ((onInt fun i => sameB (us.getD i.toNat .non) (vs.getD i.toNat .non)) ∘ fun i : Nat => U.int ((i : Nat) : Int)) = fun i : Nat => sameB (us.getD i .non) (vs.getD i .non) := by
      funext i
      simp [onInt]
    rw [e, sameBs_range us vs hl]
    exact q
theorem pure__law_same (n : Nat) (a b : U) (M : Mp) (R : UK) (E : UXK) (h : sp__law_same (n + 1) [a, b] M R E) : w__law_same (sp__law_same n) E (endU R) [some a, some b, none] M := by
  obtain ⟨h1, h2, ho, hd, q⟩ := h
  replace q := ret_of q
  have t1 : ∀ n, (n = "int" ∨ n = "bool" ∨ n = "str" ∨ n = "list" ∨ n = "tuple" ∨ n = "dict") → tyOk M a n := h1.noref M
  have t2 : ∀ n, (n = "int" ∨ n = "bool" ∨ n = "str" ∨ n = "list" ∨ n = "tuple" ∨ n = "dict") → tyOk M b n := h2.noref M
  have a1 := t1 "tuple" ty6; have a2 := t1 "list" ty6; have a3 := t1 "bool" ty6; have a4 := t1 "int" ty6; have a5 := t1 "str" ty6
  have b1 := t2 "tuple" ty6; have b2 := t2 "list" ty6; have b3 := t2 "bool" ty6; have b4 := t2 "int" ty6; have b5 := t2 "str" ty6
  have z := two_line
  cases b <;> first | exact (Sm.no_ref h2).elim | exact (Sm.no_ty h2).elim | exact (Sm.no_pr h2).elim | (simp [okU] at ho; done) | skip
  · cases a <;> first | exact (Sm.no_ref h1).elim | exact (Sm.no_ty h1).elim | exact (Sm.no_pr h1).elim | (simp [w__law_same, a1, a2, a3, a4, a5, b1, b2, b3, b4, b5, tyN, isA, tysOf, isNonU, z]; exact q _ rfl)
  · cases a <;> first | exact (Sm.no_ref h1).elim | exact (Sm.no_ty h1).elim | exact (Sm.no_pr h1).elim | (simp [w__law_same, a1, a2, a3, a4, a5, b1, b2, b3, b4, b5, tyN, isA, tysOf, isNonU, z]; exact q _ rfl)
  · cases a <;> first | exact (Sm.no_ref h1).elim | exact (Sm.no_ty h1).elim | exact (Sm.no_pr h1).elim | (simp [w__law_same, a1, a2, a3, a4, a5, b1, b2, b3, b4, b5, tyN, isA, tysOf, isNonU, z]; exact q _ rfl)
  · cases a <;> first | exact (Sm.no_ref h1).elim | exact (Sm.no_ty h1).elim | exact (Sm.no_pr h1).elim | (simp [w__law_same, a1, a2, a3, a4, a5, b1, b2, b3, b4, b5, tyN, isA, tysOf, isNonU, z]; exact q _ rfl)
  · rename_i vs
    cases a <;> first | exact (Sm.no_ref h1).elim | exact (Sm.no_ty h1).elim | exact (Sm.no_pr h1).elim | (simp [w__law_same, a1, a2, a3, a4, a5, b1, b2, b3, b4, b5, tyN, isA, tysOf, isNonU, z]; try exact q _ rfl)
    rename_i us
    split
    · rename_i hl
      have hz := h2.tup
      rw [sizeLine_eq] at hz
      refine ⟨by omega, same_all (.inl ⟨rfl, rfl⟩) h1 h2 (by simpa [okU] using ho) hd (by omega) (q _ (by simp [sameB]))⟩
    · rename_i hl
      exact q _ (by simp only [sameB]; rw [sameBs_len (by omega)]; simp [hl])
  · rename_i vs
    cases a <;> first | exact (Sm.no_ref h1).elim | exact (Sm.no_ty h1).elim | exact (Sm.no_pr h1).elim | (simp [w__law_same, a1, a2, a3, a4, a5, b1, b2, b3, b4, b5, tyN, isA, tysOf, isNonU, z]; try exact q _ rfl)
    rename_i us
    split
    · rename_i hl
      have hz := h2.lst
      rw [sizeLine_eq] at hz
      refine ⟨by omega, same_all (.inr ⟨rfl, rfl⟩) h1 h2 (by simpa [okU] using ho) hd (by omega) (q _ (by simp [sameB]))⟩
    · rename_i hl
      exact q _ (by simp only [sameB]; rw [sameBs_len (by omega)]; simp [hl])
end Law

namespace Law
open PySem PySem.Spec PyProof.Rows L2 Pu Sem
def sp5 (f : U → U → U → U → U → Mp → UK → UXK → Prop) : USp := fun us M R E => match us with | [a, b, c, d, e] => f a b c d e M R E | _ => False
def sp__law_asked : USp := sp5 fun w a b c d M R _ => ∃ i : Int, w = .int i ∧ Sm a ∧ depU a < 40 ∧ Sm b ∧ (isDoc a = true → hasPl a b = true → (i = 0 → Sm c) ∧ (i ≠ 0 → Sm c ∧ depU c < 40 ∧ Sm d)) ∧
  if isDoc a = true then (if hasPl a b = true then
    (if i = 0 then (if isGK c = true then ∀ pl q s, b = plU pl → c = .str s → atN a pl = some q → R (.lst [guardS s a pl q]) M else R (.str "guard") M)
     else (if isDoc c = true then (if hasPl c d = true then ∀ pl q pl' q', b = plU pl → d = plU pl' → atN a pl = some q → atN c pl' = some q' → (if pl = [] ∧ leafU q' = true then R (.str "exchange") M else R (.lst [putP a pl q']) M) else R (.str "place") M) else R (.str "document") M))
    else R (.str "place") M) else R (.str "document") M
theorem pure__law_asked (w a b c d : U) (M : Mp) (R : UK) (E : UXK) (h : sp__law_asked [w, a, b, c, d] M R E) : w__law_asked sp_guard_of sp_exchanged E (endU R) [some w, some a, some b, some c, some d, none] M := by
  obtain ⟨i, rfl, h1, hd, h2, h3, q⟩ := h
  have p1 : ¬ (("InvalidPlace" : Str) = ("InvalidDocument" : Str)) := by decide +kernel
  have p2 : ¬ (("InvalidGuard" : Str) = ("InvalidDocument" : Str)) := by decide +kernel
  have p3 : ¬ (("InvalidExchange" : Str) = ("InvalidDocument" : Str)) := by decide +kernel
  have p4 : ¬ (("InvalidGuard" : Str) = ("InvalidPlace" : Str)) := by decide +kernel
  have p5 : ¬ (("InvalidExchange" : Str) = ("InvalidPlace" : Str)) := by decide +kernel
  have p6 : ¬ (("InvalidExchange" : Str) = ("InvalidGuard" : Str)) := by decide +kernel
  have fin : ∀ (w : U) (M : Mp), R w M → Fin R w M := fun w M h => .same h
  cases e : isDoc a with
  | false =>
    simp [e] at q
    by_cases i0 : i = 0
    · subst i0
      simp [w__law_asked, sp_guard_of, h1, hd, h2, e, one_line]
      exact fin _ _ q
    · simp [w__law_asked, sp_exchanged, h1, hd, h2, e, i0, one_line]
      exact fin _ _ q
  | true =>
    cases e2 : hasPl a b with
    | false =>
      simp [e, e2] at q
      by_cases i0 : i = 0
      · subst i0
        simp [w__law_asked, sp_guard_of, h1, hd, h2, e, e2, one_line, p1]
        exact fin _ _ q
      · simp [w__law_asked, sp_exchanged, h1, hd, h2, e, e2, i0, one_line, p1]
        exact fin _ _ q
    | true =>
      obtain ⟨g1, g2⟩ := h3 e e2
      simp [e, e2] at q
      by_cases i0 : i = 0
      · subst i0
        have g1 := g1 rfl
        simp at q
        cases e3 : isGK c with
        | false =>
          simp [e3] at q
          simp [w__law_asked, sp_guard_of, h1, hd, h2, e, e2, e3, g1, one_line, p1, p2, p4]
          exact fin _ _ q
        | true =>
          simp [e3] at q
          simp [w__law_asked, sp_guard_of, h1, hd, h2, e, e2, e3, g1, one_line]
          intro pl q' s f1 f2 f3
          exact fin _ _ (q pl q' s f1 f2 f3)
      · obtain ⟨g3, g4, g5⟩ := g2 i0
        simp [i0] at q
        cases e3 : isDoc c with
        | false =>
          simp [e3] at q
          simp [w__law_asked, sp_exchanged, h1, hd, h2, e, e2, e3, g3, g4, g5, i0, one_line]
          exact fin _ _ q
        | true =>
          cases e4 : hasPl c d with
          | false =>
            simp [e3, e4] at q
            simp [w__law_asked, sp_exchanged, h1, hd, h2, e, e2, e3, e4, g3, g4, g5, i0, one_line, p1]
            exact fin _ _ q
          | true =>
            simp [e3, e4] at q
            simp [w__law_asked, sp_exchanged, h1, hd, h2, e, e2, e3, e4, g3, g4, g5, i0, one_line, p3, p5, p6]
            intro pl q' pl' q2 f1 f2 f3 f4
            have q := q pl q' pl' q2 f1 f2 f3 f4
            split
            · rename_i z
              rw [if_pos z] at q
              exact fin _ _ q
            · rename_i z
              rw [if_neg z] at q
              exact fin _ _ q
end Law

namespace Law
open PySem PySem.Spec PyProof.Rows L2 Pu Sem
theorem strLt1 (c k : Nat) : strLt ⟨#[c]⟩ ⟨#[k]⟩ = decide (c < k) := by
  unfold strLt
  rw [decide_eq_decide]
  show ([c] : List Nat) < [k] ↔ c < k
  rw [List.cons_lt_cons_iff]
  simp
def rng (a b : Nat) (c : Nat) : Bool := !decide (c < a) && !decide (b < c)
theorem letters_l : letters.cps.toList = [97, 98, 99, 100, 101, 102, 103, 104, 105, 106, 107, 108, 109, 110, 111, 112, 113, 114, 115, 116, 117, 118, 119, 120, 121, 122] := by decide +kernel
theorem digits_l : digits.cps.toList = [48, 49, 50, 51, 52, 53, 54, 55, 56, 57] := by decide +kernel
theorem ones_l : ones.cps.toList = [49, 50, 51, 52, 53, 54, 55, 56, 57] := by decide +kernel
theorem rng_letters (c : Nat) : rng 97 122 c = decide (c ∈ letters.cps.toList) := by
  rw [letters_l, Bool.eq_iff_iff]
  simp [rng]
  omega
theorem rng_digits (c : Nat) : rng 48 57 c = decide (c ∈ digits.cps.toList) := by
  rw [digits_l, Bool.eq_iff_iff]
  simp [rng]
  omega
theorem rng_ones (c : Nat) : rng 49 57 c = decide (c ∈ ones.cps.toList) := by
  rw [ones_l, Bool.eq_iff_iff]
  simp [rng]
  omega
def lowTag (l : Str) : Bool := (decide (1 ≤ l.length) && decide (l.length ≤ 8)) && signsIn letters l
theorem isTag_low (l : Str) : isTagS l = lowTag (bareS l) := by
  unfold isTagS lowTag
  simp [Bool.and_assoc]
def sp__law_is_row : USp := sp2 fun u v M R _ => ∃ n, v = .int n ∧ Sm u ∧ R (.bl (isRow u n)) M
theorem pure__law_is_row (a b : U) (M : Mp) (R : UK) (E : UXK) (h : sp__law_is_row [a, b] M R E) : w__law_is_row E (endU R) [some a, some b] M := pure_is_row a b M R E h
theorem rng_step {a b : Nat} {c : Nat} {A B : Str} (hA : A = ⟨#[a]⟩) (hB : B = ⟨#[b]⟩) {M : Mp} {R : UK} (q : R (.bl (rng a b c)) M) : if (!strLt ⟨#[c]⟩ A) = true then R (.bl (!strLt B ⟨#[c]⟩)) M else R (.bl false) M := by
  subst hA hB
  rw [strLt1, strLt1]
  unfold rng at q
  cases h : decide (c < a) <;> simp [h] at q ⊢ <;> exact q
def sp__law_is_tag : USp := sp1 fun u M R _ => ∃ l, u = .str l ∧ l.length ≤ sizeLine ∧ R (.bl (lowTag l)) M
theorem pure__law_is_tag (a : U) (M : Mp) (R : UK) (E : UXK) (h : sp__law_is_tag [a] M R E) : w__law_is_tag E (endU R) [some a, none] M := by
  obtain ⟨l, rfl, z, q⟩ := h
  replace q := ret_of q
  simp [w__law_is_tag, tyOk, tyN, isA, lenU, z]
  split
  · split
    · refine all_map (on1 fun c => rng 97 122 c) any_keep (by rw [signs_len]; exact z) (fun x hx M' R q => ?_) ?_
      · obtain ⟨c, rfl⟩ := mem_signs hx
        simp
        rw [on1_] at q
        have := rng_step (A := "a") (B := "z") rfl rfl q
        simpa using this
      · have e : (fun c => rng 97 122 c) = fun c => decide (c ∈ letters.cps.toList) := funext rng_letters
        rw [show (signsU l).all (on1 fun c => rng 97 122 c) = l.cps.toList.all (fun c => rng 97 122 c) from all_signs _ _, e]
        refine q _ ?_
        have k1 : 1 ≤ l.length := by omega
        have k2 : l.length ≤ 8 := by omega
        simp [lowTag, signsIn, k1, k2]
    · refine q _ ?_
      have k2 : ¬ l.length ≤ 8 := by omega
      simp [lowTag, k2]
      omega
  · refine q _ ?_
    have k2 : ¬ 1 ≤ l.length := by omega
    simp [lowTag, k2]
def sp__law_is_label : USp := sp1 fun u M R _ => Sm u ∧ R (.bl (isLabel u)) M
theorem pure__law_is_label (a : U) (M : Mp) (R : UK) (E : UXK) (h : sp__law_is_label [a] M R E) : w__law_is_label sp__law_is_tag E (endU R) [some a, none] M := by
  obtain ⟨h1, q⟩ := h
  replace q := ret_of q
  have t := h1.noref M "str" ty6
  cases a <;> first | exact (Sm.no_ref h1).elim | exact (Sm.no_pr h1).elim | (simp [w__law_is_label, t, tyN, isA, -wIf_, -wSet_]; try exact q _ rfl)
  rename_i l
  have z := h1.str
  have z2 := bare_len l
  have z3 : (bareS l).length ≤ sizeLine := by omega
  rw [wSet_]
  refine wIf_pure (cutStr l (some (-1)) none == ("!" : Str)) (.str (cutStr l none (some (-1)))) (.str l) (fun RT h => by simpa [z] using h) (fun R h => by simpa [z] using h) (fun R h => by simpa using h) (.str (bareS l)) (by unfold bareS; split <;> rfl) ?_
  have ek : isLabelS l = (bareS l == ("$int" : Str) || (bareS l == ("$text" : Str) || lowTag (bareS l))) := by
    unfold isLabelS isKindS kvPlain
    rw [isTag_low]
    simp only [List.lookup_cons, Bool.or_false]
    cases bareS l == ("$int" : Str) <;> cases bareS l == ("$text" : Str) <;> rfl
  simp
  cases k1 : bareS l == ("$int" : Str) with
  | true =>
    have k1' : bareS l = ("$int" : Str) := by simpa using k1
    simp [k1']
    exact q _ (by simp [isLabel, ek, k1])
  | false =>
    have k1' : ¬ bareS l = ("$int" : Str) := by simpa using k1
    simp [k1']
    cases k2 : bareS l == ("$text" : Str) with
    | true =>
      have k2' : bareS l = ("$text" : Str) := by simpa using k2
      simp [k2']
      exact q _ (by simp [isLabel, ek, k2])
    | false =>
      have k2' : ¬ bareS l = ("$text" : Str) := by simpa using k2
      simp [k2']
      exact ⟨_, rfl, z3, q _ (by simp [isLabel, ek, k1, k2])⟩
end Law

namespace Law
open PySem PySem.Spec PyProof.Rows L2 Pu Sem
theorem plain_law {l : Str} (h : isKindS l = true) : (cutStr l none (some 4) == ("$int" : Str)) = (bareS l == ("$int" : Str)) := by
  rcases kind_four h with e | e | e | e <;> subst e <;> decide +kernel
def sp__law_is_text : USp := sp2 fun k u M R _ => ∃ l, k = .str l ∧ Sm k ∧ Sm u ∧ isKindS l = true ∧ R (.bl (isTextOf l u)) M
theorem pure__law_is_text (a b : U) (M : Mp) (R : UK) (E : UXK) (h : sp__law_is_text [a, b] M R E) : w__law_is_text E (endU R) [some a, some b, none, none] M := by
  obtain ⟨l, rfl, h0, h1, hk, q⟩ := h
  replace q := ret_of q
  have t := h1.noref M "str" ty6
  cases b <;> first | exact (Sm.no_ref h1).elim | exact (Sm.no_pr h1).elim | (simp [w__law_is_text, t, tyN, isA, -wIf_, -wSet_]; try exact q _ rfl)
  rename_i x
  have zk := h0.str
  have z := h1.str
  have pk := plain_law hk
  simp [zk, -wIf_, -wSet_]
  split
  · rename_i e
    have e0 : (bareS l == ("$int" : Str)) = true := by rw [← pk]; simpa using e
    have el : isTextOf l (.str x) = lawInt x := by
      rw [lawInt_eq]
      simp only [isTextOf, isTextS, e0]
      rfl
    rw [el] at q
    have z3 : (intDigits x).length ≤ sizeLine := by have := idig_len x; omega
    rw [wSet_]
    refine wIf_pure (cutStr x none (some 1) == ("-" : Str)) (.str (cutStr x (some 1) none)) (.str x) (fun RT h => by simpa [z] using h) (fun R h => by simpa [z] using h) (fun R h => by simpa using h) (.str (intDigits x)) (by unfold intDigits; split <;> rfl) ?_
    simp
    split
    · rename_i e0
      have e0 : (x == ("0" : Str)) = true := by simpa using e0
      exact q _ (by simp [lawInt, e0])
    · rename_i e0
      have e0 : (x == ("0" : Str)) = false := by simpa using e0
      split
      · rename_i e1
        exact q _ (by simp [lawInt, e0, e1])
      · rename_i e1
        have e1' : (intDigits x == ("" : Str)) = false := by simpa using e1
        refine ⟨z3, ?_⟩
        cases el : (intDigits x).cps.toList with
        | nil => exact absurd (str_ext (by rw [el]; rfl)) e1
        | cons c r =>
          simp
          have d1 : strLt ⟨#[c]⟩ ("1" : Str) = decide (c < 49) := strLt1 c 49
          have d9 : strLt ("9" : Str) ⟨#[c]⟩ = decide (57 < c) := strLt1 57 c
          cases e3 : rng 49 57 c with
          | false =>
            have e4 : decide (c ∈ ones.cps.toList) = false := by rw [← rng_ones]; exact e3
            have ql : Pu.Fin R (.bl false) M := q _ (by simp only [lawInt, e0, e1', el, e4]; rfl)
            split
            · exact ql
            · rename_i h1
              split
              · rename_i h9
                rw [h9]
                exact ql
              · rename_i h9
                exfalso
                rw [d1] at h1
                rw [d9] at h9
                simp at h1 h9
                simp [rng] at e3
                omega
          | true =>
            have e4 : decide (c ∈ ones.cps.toList) = true := by rw [← rng_ones]; exact e3
            simp [rng] at e3
            have n1 : ¬ strLt ⟨#[c]⟩ ("1" : Str) = true := by rw [d1]; simp; omega
            have n9 : ¬ strLt ("9" : Str) ⟨#[c]⟩ = true := by rw [d9]; simp; omega
            rw [if_neg n1, if_neg n9]
            refine all_map (on1 fun c => rng 48 57 c) any_keep (by rw [signs_len]; exact z3) (fun y hy M' R q => ?_) ?_
            · obtain ⟨c, rfl⟩ := mem_signs hy
              simp
              rw [on1_] at q
              have := rng_step (A := "0") (B := "9") rfl rfl q
              simpa using this
            · have e5 : (fun c => rng 48 57 c) = fun c => decide (c ∈ digits.cps.toList) := funext rng_digits
              rw [show (signsU (intDigits x)).all (on1 fun c => rng 48 57 c) = (intDigits x).cps.toList.all (fun c => rng 48 57 c) from all_signs _ _, e5]
              refine q _ ?_
              simp only [lawInt, e0, e1', el, e4, signsIn]
              rfl
  · rename_i e
    have e0 : (bareS l == ("$int" : Str)) = false := by rw [← pk]; simpa using e
    refine all_map (on1 okSign) any_keep (by rw [signs_len]; exact z) (fun y hy M' R q => ?_) ?_
    · obtain ⟨c, rfl⟩ := mem_signs hy
      simp
      rw [on1_] at q
      unfold okSign sign1 at q
      cases e1 : strLt ⟨#[c]⟩ " " <;> simp [e1] at q ⊢ <;> exact q
    · refine q _ ?_
      rw [show (signsU x).all (on1 okSign) = x.cps.toList.all okSign from all_signs _ _]
      simp only [isTextOf, isTextS, e0]
      rfl
theorem nolabel {x y : U} (h : isLabel x = false) : isPart (.tup [x, y]) = false := by
  cases e : isPart (.tup [x, y]) with
  | false => rfl
  | true =>
    obtain ⟨s, rfl, k⟩ := part_label e
    have h : isLabelS s = false := h
    rw [h] at k
    cases k
def sp__law_is_part (n : Nat) : USp := sp1 fun u M R _ => Sm u ∧ depU u < n ∧ R (.bl (isPart u)) M
theorem dollar_first {l : Str} (h : isLabelS l = true) {M : Mp} {R : UK} (z : l.length ≤ sizeLine) (q : R (.bl (isKindS l)) M) : uIdx0 (.str l) (.int 0) M fun x M1 => uEq x (.str "$") M1 R := by
  obtain ⟨c, r, e, ek⟩ := label_first h
  simp [z]
  refine ⟨c, by rw [e]; simp [atI, ixN], ?_⟩
  rw [← ek] at q
  exact q
theorem pure__law_is_part (n : Nat) (a : U) (M : Mp) (R : UK) (E : UXK) (h : sp__law_is_part (n + 1) [a] M R E) : w__law_is_part sp__law_is_row sp__law_is_label sp__law_is_text (sp__law_is_part n) E (endU R) [some a, none] M := by
  obtain ⟨h1, hd, q⟩ := h
  replace q := ret_of q
  have t := h1.noref M "tuple" ty6
  simp [w__law_is_part]
  refine ⟨2, rfl, h1, ?_⟩
  simp
  have no : isRow a 2 = false → isPart a = false := fun e => by
    cases a <;> try rfl
    rename_i us
    match us, e with
    | [], _ => rfl
    | [x], _ => cases x <;> rfl
    | [x, y], e => simp [isRow] at e
    | x :: y :: z :: r, _ => cases x <;> rfl
  cases e : isRow a 2 with
  | false => simp; exact q _ (by rw [no e])
  | true =>
    obtain ⟨x, y, rfl⟩ : ∃ x y, a = .tup [x, y] := by
      cases a <;> try (cases e; done)
      rename_i us
      match us, e with
      | [], e => simp [isRow] at e
      | [_], e => simp [isRow] at e
      | [x, y], _ => exact ⟨x, y, rfl⟩
      | _ :: _ :: _ :: r, e => simp [isRow] at e; omega
    have hx : Sm x := h1.mem (by simp)
    have hy : Sm y := h1.mem (by simp)
    have dy : depU y < depU (.tup [x, y]) := dep_in (by simp)
    have ty := hy.noref M "tuple" ty6
    simp
    refine ⟨hx, ?_⟩
    simp
    cases e : isLabel x with
    | false => simp; exact q _ (by rw [nolabel e])
    | true =>
      simp
      cases x <;> try (cases e; done)
      rename_i l he
      have e : isLabelS l = true := e
      have zl := hx.str
      refine dollar_first e zl ?_
      simp
      cases k : isKindS l with
      | true =>
        simp
        exact ⟨l, rfl, hx, hy, k, q _ (by simp [isPart, k])⟩
      | false =>
        have kt : isTagS l = true := by simpa [isLabelS, k] using e
        have pp : isPart (.tup [.str l, y]) = isPartsT y := by simp [isPart, k, kt]
        rw [pp] at q
        simp [ty]
        cases y <;> first | exact (Sm.no_ref hy).elim | exact (Sm.no_pr hy).elim | (simp [tyN, isA]; try exact q _ rfl)
        rename_i ps
        refine all_map isPart any_keep hy.tup (fun p hp M' R q => ?_) (q _ ?_)
        · simp
          refine ⟨hy.mem hp, ?_, q⟩
          have := dep_in hp
          omega
        · simp [isPartsT, isParts_all]
end Law

namespace Law
open PySem PySem.Spec PyProof.Rows L2 Pu Sem
theorem kind_not_tag {l : Str} (k : isKindS l = true) : isTagS l = false := by
  rcases kind_four k with e | e | e | e <;> subst e <;> decide +kernel
theorem doc_eq {u : U} (h : isPart u = true) : isDoc u = !leafU u := by
  cases partC h with
  | @kind l x k t => simp [isDoc, h, isTag, kind_not_tag k, leafU, k]
  | @tag l ps k t hh => simp [isDoc, h, isTag, t, leafU, k]
theorem dollar_ne {l : Str} (h : isLabelS l = true) {M : Mp} {R : UK} (z : l.length ≤ sizeLine) (q : R (.bl (!isKindS l)) M) : uIdx0 (.str l) (.int 0) M fun x M1 => uNe x (.str "$") M1 R := by
  obtain ⟨c, r, e, ek⟩ := label_first h
  simp [z]
  refine ⟨c, by rw [e]; simp [atI, ixN], ?_⟩
  rw [← ek] at q
  exact q
def sp__law_is_document : USp := sp1 fun u M R _ => Sm u ∧ depU u < 40 ∧ R (.bl (isDoc u)) M
theorem pure__law_is_document (a : U) (M : Mp) (R : UK) (E : UXK) (h : sp__law_is_document [a] M R E) : w__law_is_document (sp__law_is_part 40) E (endU R) [some a] M := by
  obtain ⟨h1, hd, q⟩ := h
  replace q := ret_of q
  simp [w__law_is_document]
  refine ⟨h1, hd, ?_⟩
  simp
  cases e : isPart a with
  | false => simp; exact q _ (by simp [isDoc, e])
  | true =>
    simp
    obtain ⟨l, y, rfl, hl, e6, _⟩ := part_lab e
    simp
    have hh := dollar_ne (M := M) (R := Pu.Fin R) hl (h1.mem (u := .str l) (by simp)).str (q _ (by rw [doc_eq e, e6]))
    simp at hh
    exact hh
def sp__law_is_place : USp := sp2 fun u v M R _ => isPart u = true ∧ Sm u ∧ Sm v ∧ R (.bl (hasPl u v)) M
theorem pure__law_is_place (a b : U) (M : Mp) (R : UK) (E : UXK) (h : sp__law_is_place [a, b] M R E) : w__law_is_place sp__law_is_leaf sp__law_is_int E (endU R) [some a, some b, none] M := by
  obtain ⟨hp, h1, h2, q⟩ := h
  replace q := ret_of q
  have t := h2.noref M "tuple" ty6
  cases b <;> first | exact (Sm.no_ref h2).elim | exact (Sm.no_pr h2).elim | (simp [w__law_is_place, t, tyN, isA]; try exact q _ rfl)
  rename_i us
  refine loop_ind (fun rest s M' => ∃ (d : U) (x2 : Option U), s = [some d, some (.tup us), x2] ∧ M' = M ∧ isPart d = true ∧ Sm d ∧ (∀ w ∈ rest, Sm w) ∧ hasP d rest = hasP a us) _ _ _ ⟨a, none, rfl, rfl, hp, h1, fun w hw => h2.mem hw, rfl⟩ ?_ ?_
  · rintro s M1 ⟨d, x2, rfl, rfl, _, _, _, e⟩
    simp
    exact q _ (by simp [hasPl, ← e, hasP])
  · rintro w rest s M1 ⟨d, x2, rfl, rfl, hpd, hsd, hw, e⟩ ih
    have no : hasP d (w :: rest) = false → Pu.Fin R (.bl false) M1 := fun h => q _ (by simp only [hasPl, ← e, h])
    simp
    refine ⟨hpd, hsd, ?_⟩
    simp
    cases partC hpd with
    | @kind l x k t =>
      simp [leafU, k]
      refine no ?_
      cases w <;> simp [hasP, partsP]
    | @tag l ps k t hh =>
      simp [leafU, k]
      refine ⟨hw w List.mem_cons_self, ?_⟩
      cases w <;> simp [isIntU] <;> try exact no (by simp [hasP])
      rename_i i
      have hps := parts_len hsd hpd
      simp only [partsP] at hps
      by_cases i0 : 0 ≤ i
      · simp [i0]
        by_cases i1 : i < (ps.length : Int)
        · simp [i1]
          have hj : i.toNat < ps.length := by omega
          have ej : ps[i.toNat]? = some ps[i.toNat] := List.getElem?_eq_getElem hj
          have m1 : ps[i.toNat] ∈ partsP (.tup [.str l, .tup ps]) := List.getElem_mem hj
          obtain ⟨k1, k2, k3⟩ := parts_sm hsd hpd m1
          refine ⟨_, atI_of i0 ej, ih _ _ ⟨_, _, rfl, rfl, k2, k1, fun w hw' => hw w (List.mem_cons_of_mem _ hw'), ?_⟩⟩
          rw [← e]
          simp [hasP, i0, partsP, ej]
        · simp [i1]
          refine no ?_
          have : ps[i.toNat]? = none := by simp; omega
          simp [hasP, partsP, this]
      · simp [i0]
        exact no (by simp [hasP, i0])
end Law

namespace Law
open PySem PySem.Spec PyProof.Rows L2 Pu Sem
/-! leaves, bent values -/
def intRow : List Str := ["0", "7", "-3", "12", "400", "-10"]
def textRow : List Str := ["", "x", "a b", "\"", "\\", "0", "(", "~!"]
theorem intRow_ok : ∀ x ∈ intRow, isIntS x = true ∧ okStr x = true ∧ x.length ≤ 4 := by decide +kernel
theorem textRow_ok : ∀ x ∈ textRow, x.cps.toList.all okSign = true ∧ okStr x = true ∧ x.length ≤ 4 := by decide +kernel
def sp__law_leaf : USp := sp2 fun d k M R _ => ∃ (a b : Addr) (l : Str), d = .ref a ∧ k = .str l ∧ isKindS l = true ∧ l.length ≤ 20 ∧ Wl M a b ∧ ∀ x, isTextS l x = true → okStr x = true → x.length ≤ 4 → R (.tup [.str l, .str x]) M
theorem pure__law_leaf (u v : U) (M : Mp) (R : UK) (E : UXK) (h : sp__law_leaf [u, v] M R E) : w__law_leaf sp__law_one E (endU R) [some u, some v] M := by
  obtain ⟨a, b, l, rfl, rfl, hk, hl, wl, q⟩ := h
  have hl' : l.length ≤ sizeLine := by rw [sizeLine_eq]; omega
  have pk := plain_law hk
  have z6 : 6 ≤ sizeLine := by rw [sizeLine_eq]; decide
  have z8 : 8 ≤ sizeLine := by rw [sizeLine_eq]; decide
  simp [w__law_leaf, hl', z6, z8, two_line]
  split
  · rename_i hi
    have e0 : (bareS l == ("$int" : Str)) = true := by rw [← pk]; simpa using hi
    refine ⟨a, b, rfl, wl, ⟨_, .inl rfl⟩, by simp [rowItems], by simp [rowItems], fun x hx => ?_⟩
    have hx' : x ∈ intRow.map U.str := hx
    obtain ⟨z, hz, rfl⟩ := List.mem_map.mp hx'
    obtain ⟨g1, g2, g3⟩ := intRow_ok z hz
    exact .same (q z (by unfold isTextS; rw [if_pos e0]; exact g1) g2 g3)
  · rename_i hi
    have e0 : (bareS l == ("$int" : Str)) = false := by rw [← pk]; simpa using hi
    refine ⟨a, b, rfl, wl, ⟨_, .inl rfl⟩, by simp [rowItems], by simp [rowItems], fun x hx => ?_⟩
    have hx' : x ∈ textRow.map U.str := hx
    obtain ⟨z, hz, rfl⟩ := List.mem_map.mp hx'
    obtain ⟨g1, g2, g3⟩ := textRow_ok z hz
    exact .same (q z (by unfold isTextS; rw [if_neg (by rw [e0]; decide)]; exact g1) g2 g3)
end Law

namespace Law
open PySem PySem.Spec PyProof.Rows L2 Pu Sem
/-- a bent value is not much greater -/
structure Bt (u v : U) : Prop where
  pv : pvU v = true
  sz : nd v ≤ 2 * nd u + 60
  dep : depU v ≤ depU u + 3
theorem nds_rev : ∀ us : List U, nds us.reverse = nds us
  | [] => rfl
  | x :: us => by rw [List.reverse_cons, nds_append, nds_rev us]; simp [nds]; omega
theorem pvUs_rev : ∀ us : List U, pvUs us.reverse = pvUs us
  | [] => rfl
  | x :: us => by rw [List.reverse_cons, pvUs_append, pvUs_rev us]; simp [pvUs, Bool.and_comm]
theorem depUs_rev : ∀ us : List U, depUs us.reverse = depUs us
  | [] => rfl
  | x :: us => by rw [List.reverse_cons, depUs_append, depUs_rev us]; simp [depUs]; omega
theorem split_k {us : List U} {i : Int} (h0 : 0 ≤ i) (h1 : i < us.length) : ∃ p x r, us = p ++ x :: r ∧ cutU us none (some i) = p ∧ cutU us (some (i + 1)) none = r ∧ cutU us (some i) none = x :: r ∧ atI us i = some x := by
  have hk : i.toNat < us.length := by omega
  refine ⟨us.take i.toNat, us[i.toNat], us.drop (i.toNat + 1), ?_, ?_, ?_, ?_, ?_⟩
  · rw [← List.drop_eq_getElem_cons hk, List.take_append_drop]
  · have := cut_to us i.toNat
    rwa [show ((i.toNat : Nat) : Int) = i by omega] at this
  · have := cut_from us (i.toNat + 1)
    rwa [show ((i.toNat + 1 : Nat) : Int) = i + 1 by omega] at this
  · have := cut_from us i.toNat
    rw [show ((i.toNat : Nat) : Int) = i by omega] at this
    rw [this, List.drop_eq_getElem_cons hk]
  · have := atI_nat (List.getElem?_eq_getElem hk)
    rwa [show ((i.toNat : Nat) : Int) = i by omega] at this
theorem okStr_app {a b : Str} (ha : okStr a = true) (hb : okStr b = true) : okStr (a ++ b) = true := by
  have e : (a ++ b).cps.toList = a.cps.toList ++ b.cps.toList := TL.tl_append a b
  unfold okStr at *
  rw [← Array.all_toList] at *
  rw [e, List.all_append, ha, hb]
  rfl
theorem okStr_cut {a : Str} (ha : okStr a = true) (lo hi : Option Int) : okStr (cutStr a lo hi) = true := by
  unfold okStr at *
  rw [← Array.all_toList] at *
  rw [cutStr_list]
  exact List.all_eq_true.mpr fun c hc => List.all_eq_true.mp ha c (cut_mem hc)
theorem len_app (a b : Str) : (a ++ b).length = a.length + b.length := by
  have e : (a ++ b).cps.toList = a.cps.toList ++ b.cps.toList := TL.tl_append a b
  show (a ++ b).cps.size = a.cps.size + b.cps.size
  rw [← Array.length_toList, ← Array.length_toList, ← Array.length_toList, e, List.length_append]
theorem box_lst {u : U} (hu : pvU u = true) : Bt u (.lst [u]) := ⟨by simp [pvU, pvUs, hu], by simp only [nd, nds]; omega, by simp [depU, depUs] <;> omega⟩
theorem box_tup {us : List U} (hu : pvU (.tup us) = true) : Bt (.tup us) (.lst us) := ⟨by simpa [pvU] using hu, by simp only [nd]; omega, by simp [depU] <;> omega⟩
theorem tup_bt {p r q : List U} {x : U} (h : pvU (.tup (p ++ x :: r)) = true) (hp : pvUs q = true) (hs : nds q ≤ nds p + (2 * nd x + 60) + nds r) (hd : depUs q ≤ max (max (depUs p) (depU x + 3)) (depUs r)) : Bt (.tup (p ++ x :: r)) (.tup q) := by
  refine ⟨by simpa [pvU] using hp, ?_, ?_⟩
  · simp only [nd, nds_append, nds]; omega
  · simp only [depU, depUs_append, depUs]; omega
end Law

namespace Law
open PySem PySem.Spec PyProof.Rows L2 Pu Sem
theorem Sm.no_ty' {a : String} (h : Sm (.ty a)) : False := by have := h.1; simp [pvU] at this
def sp__law_bent (k : Nat) : USp := sp2 fun d u M R _ => ∃ (a b : Addr), d = .ref a ∧ Wl M a b ∧ pvU u = true ∧ nd u ≤ 100000 ∧ depU u < k ∧ k ≤ 60 ∧ ∀ v, Bt u v → R v M
/-- the last row: b the box -/
def oddRow (u b : U) : List U := [.non, .tup [], b, .bl true, .bl false, .tup [u], .int 0, .int 1, .dct [] [], .str "a", .str "$int", .int (-1), .tup [.str "a", .tup []]]
theorem oddRow_ok {u b : U} (hu : pvU u = true) (hb : Bt u b) : ∀ v ∈ oddRow u b, Bt u v := by
  have k : ∀ v : U, pvU v = true → nd v ≤ 60 → depU v ≤ 3 → Bt u v := fun v h1 h2 h3 => ⟨h1, by omega, by omega⟩
  have e1 : Bt u (.tup [u]) := ⟨by simp [pvU, pvUs, hu], by simp only [nd, nds]; omega, by simp [depU, depUs] <;> omega⟩
  intro v hv
  simp only [oddRow, List.mem_cons, List.not_mem_nil, or_false] at hv
  rcases hv with e | e | e | e | e | e | e | e | e | e | e | e | e <;> subst e
  · exact k _ (by decide +kernel) (by decide +kernel) (by decide +kernel)
  · exact k _ (by decide +kernel) (by decide +kernel) (by decide +kernel)
  · exact hb
  · exact k _ (by decide +kernel) (by decide +kernel) (by decide +kernel)
  · exact k _ (by decide +kernel) (by decide +kernel) (by decide +kernel)
  · exact e1
  · exact k _ (by decide +kernel) (by decide +kernel) (by decide +kernel)
  · exact k _ (by decide +kernel) (by decide +kernel) (by decide +kernel)
  · exact k _ (by decide +kernel) (by decide +kernel) (by decide +kernel)
  · exact k _ (by decide +kernel) (by decide +kernel) (by decide +kernel)
  · exact k _ (by decide +kernel) (by decide +kernel) (by decide +kernel)
  · exact k _ (by decide +kernel) (by decide +kernel) (by decide +kernel)
  · exact k _ (by decide +kernel) (by decide +kernel) (by decide +kernel)
theorem pure__law_bent (k : Nat) (u v : U) (M : Mp) (R : UK) (E : UXK) (h : sp__law_bent (k + 1) [u, v] M R E) : w__law_bent sp__law_pick (sp__law_bent k) sp__law_is_int sp__law_one E (endU R) [some u, some v, none, none, none, none, none] M := by
  obtain ⟨a, b, rfl, wl, hp, hz, hd, hk, q⟩ := h
  have zz : 1000000 ≤ sizeLine := by rw [sizeLine_eq]; decide
  have z13 : 13 ≤ sizeLine := by omega
  have z7 : 7 ≤ sizeLine := by omega
  have z6 : 6 ≤ sizeLine := by omega
  have z3 : 3 ≤ sizeLine := by omega
  have z2 : 2 ≤ sizeLine := by omega
  have z1 : 1 ≤ sizeLine := by omega
  have sm : Sm v := ⟨hp, by omega⟩
  have last : ∀ (bx : U), Bt v bx → sp__law_one [.ref a, .lst (oddRow v bx)] M (Pu.Fin R) fun ux M2 => E ux M2 := fun bx hb =>
    one_l wl (by simp [oddRow]) (by simp [oddRow]) fun x hx => .same (q x (oddRow_ok hp hb x hx))
  cases v with
  | ref _ => exact absurd sm Sm.no_ref
  | ty _ => exact absurd sm Sm.no_ty'
  | pr _ => exact absurd sm Sm.no_pr
  | non =>
    have ty0 : ∀ M, tyOk M (.non) "tuple" ∧ tyOk M (.non) "int" ∧ tyOk M (.non) "str" ∧ tyOk M (.non) "bool" := fun M => ⟨sm.noref M _ ty6, sm.noref M _ ty6, sm.noref M _ ty6, sm.noref M _ ty6⟩
    have i1 : ∀ M, isA (tyN M (.non)) "bool" = false := fun _ => rfl
    have i2 : ∀ M, isA (tyN M (.non)) "int" = false := fun _ => rfl
    have i3 : ∀ M, isA (tyN M (.non)) "str" = false := fun _ => rfl
    have i4 : ∀ M, isA (tyN M (.non)) "tuple" = false := fun _ => rfl
    simp [w__law_bent, ty0, i1, i2, i3, i4, z13, z6, z2, z1]
    refine ⟨sm, ?_⟩
    simp [isIntU]
    exact last _ (box_lst hp)
  | lst us =>
    have ty0 : ∀ M, tyOk M (.lst us) "tuple" ∧ tyOk M (.lst us) "int" ∧ tyOk M (.lst us) "str" ∧ tyOk M (.lst us) "bool" := fun M => ⟨sm.noref M _ ty6, sm.noref M _ ty6, sm.noref M _ ty6, sm.noref M _ ty6⟩
    have i1 : ∀ M, isA (tyN M (.lst us)) "bool" = false := fun _ => rfl
    have i2 : ∀ M, isA (tyN M (.lst us)) "int" = false := fun _ => rfl
    have i3 : ∀ M, isA (tyN M (.lst us)) "str" = false := fun _ => rfl
    have i4 : ∀ M, isA (tyN M (.lst us)) "tuple" = false := fun _ => rfl
    simp [w__law_bent, ty0, i1, i2, i3, i4, z13, z6, z2, z1]
    refine ⟨sm, ?_⟩
    simp [isIntU]
    exact last _ (box_lst hp)
  | dct ks us =>
    have ty0 : ∀ M, tyOk M (.dct ks us) "tuple" ∧ tyOk M (.dct ks us) "int" ∧ tyOk M (.dct ks us) "str" ∧ tyOk M (.dct ks us) "bool" := fun M => ⟨sm.noref M _ ty6, sm.noref M _ ty6, sm.noref M _ ty6, sm.noref M _ ty6⟩
    have i1 : ∀ M, isA (tyN M (.dct ks us)) "bool" = false := fun _ => rfl
    have i2 : ∀ M, isA (tyN M (.dct ks us)) "int" = false := fun _ => rfl
    have i3 : ∀ M, isA (tyN M (.dct ks us)) "str" = false := fun _ => rfl
    have i4 : ∀ M, isA (tyN M (.dct ks us)) "tuple" = false := fun _ => rfl
    simp [w__law_bent, ty0, i1, i2, i3, i4, z13, z6, z2, z1]
    refine ⟨sm, ?_⟩
    simp [isIntU]
    exact last _ (box_lst hp)
  | bl w =>
    have ty0 : ∀ M, tyOk M (.bl w) "tuple" ∧ tyOk M (.bl w) "int" ∧ tyOk M (.bl w) "str" ∧ tyOk M (.bl w) "bool" := fun M => ⟨sm.noref M _ ty6, sm.noref M _ ty6, sm.noref M _ ty6, sm.noref M _ ty6⟩
    have i1 : ∀ M, isA (tyN M (.bl w)) "bool" = true := fun _ => rfl
    have i2 : ∀ M, isA (tyN M (.bl w)) "int" = true := fun _ => rfl
    have i3 : ∀ M, isA (tyN M (.bl w)) "str" = false := fun _ => rfl
    have i4 : ∀ M, isA (tyN M (.bl w)) "tuple" = false := fun _ => rfl
    simp [w__law_bent, ty0, i1, i2, i3, i4, z13, z6, z2, z1]
    refine ⟨sm, ?_⟩
    simp [isIntU]
    refine pick_at wl (by decide) (by decide) fun i i0 i1 => ?_
    simp
    split
    · exact .same (q _ ⟨rfl, by simp [nd], by simp [depU]⟩)
    · exact last _ (box_lst hp)
  | int w =>
    have ty0 : ∀ M, tyOk M (.int w) "tuple" ∧ tyOk M (.int w) "int" ∧ tyOk M (.int w) "str" ∧ tyOk M (.int w) "bool" := fun M => ⟨sm.noref M _ ty6, sm.noref M _ ty6, sm.noref M _ ty6, sm.noref M _ ty6⟩
    have i1 : ∀ M, isA (tyN M (.int w)) "bool" = false := fun _ => rfl
    have i2 : ∀ M, isA (tyN M (.int w)) "int" = true := fun _ => rfl
    have i3 : ∀ M, isA (tyN M (.int w)) "str" = false := fun _ => rfl
    have i4 : ∀ M, isA (tyN M (.int w)) "tuple" = false := fun _ => rfl
    simp [w__law_bent, ty0, i1, i2, i3, i4, z13, z6, z2, z1]
    refine ⟨sm, ?_⟩
    simp [isIntU]
    refine pick_at wl (by decide) (by decide) fun i i0 i1 => ?_
    simp
    split
    · refine one_l wl (by simp) (by simp) fun x hx => ?_
      have : ∃ y : Int, x = .int y := by
        simp at hx
        rcases hx with e | e | e | e | e | e <;> exact ⟨_, e⟩
      obtain ⟨y, rfl⟩ := this
      simp
      exact .same (q _ ⟨rfl, by simp [nd], by simp [depU]⟩)
    · exact last _ (box_lst hp)
  | str z =>
    have ty0 : ∀ M, tyOk M (.str z) "tuple" ∧ tyOk M (.str z) "int" ∧ tyOk M (.str z) "str" ∧ tyOk M (.str z) "bool" := fun M => ⟨sm.noref M _ ty6, sm.noref M _ ty6, sm.noref M _ ty6, sm.noref M _ ty6⟩
    have i1 : ∀ M, isA (tyN M (.str z)) "bool" = false := fun _ => rfl
    have i2 : ∀ M, isA (tyN M (.str z)) "int" = false := fun _ => rfl
    have i3 : ∀ M, isA (tyN M (.str z)) "str" = true := fun _ => rfl
    have i4 : ∀ M, isA (tyN M (.str z)) "tuple" = false := fun _ => rfl
    have hl : z.length ≤ sizeLine := sm.str
    have hok : okStr z = true := by simpa [pvU] using hp
    have hzl : z.length ≤ 100000 := by simp only [nd] at hz; omega
    simp [w__law_bent, ty0, i1, i2, i3, i4, z13, z6, z3, z2, z1, hl]
    refine ⟨sm, ?_⟩
    simp [isIntU]
    refine pick_at wl (by decide) (by decide) fun i i0 i1 => ?_
    simp
    split
    · refine ⟨z.length, by simp [lenU, hl], pick_at wl (by omega) (by omega) fun j j0 j1 => ?_⟩
      refine one_s wl ⟨by decide +kernel, by decide +kernel⟩ fun c hc => ?_
      have sg : ∀ c ∈ (("ab$!*0-" : Str)).cps.toList, okStr ⟨#[c]⟩ = true := by decide +kernel
      have hs := sg c hc
      have ls : (⟨#[c]⟩ : Str).length = 1 := rfl
      have c1 := fun lo hi => cutStr_len z lo hi
      refine ⟨_, _, ⟨rfl, rfl⟩, ?_⟩
      have bt : ∀ s : Str, okStr s = true → s.length ≤ 2 * z.length + 40 → Bt (.str z) (.str s) := fun s h1 h2 => ⟨by simpa [pvU] using h1, by simp only [nd]; omega, by simp only [depU]; omega⟩
      have o1 := fun lo hi => okStr_cut hok lo hi
      simp [ls, len_app]
      have k1 := c1 none (some j); have k2 := c1 (some (j + 1)) none; have k3 := c1 (some j) none
      refine ⟨by omega, by omega, by omega, by omega, by omega, ?_⟩
      refine pick_at wl (by decide) (by decide) fun w w0 w1 => ?_
      obtain ⟨x, e, m⟩ := at_row (us := [U.str (cutStr z none (some j) ++ cutStr z (some (j + 1)) none), .str (cutStr z none (some j) ++ ⟨#[c]⟩ ++ cutStr z (some j) none), .str (cutStr z none (some j) ++ ⟨#[c]⟩ ++ cutStr z (some (j + 1)) none)]) w0 w1
      simp
      refine ⟨x, e, .same (q x ?_)⟩
      simp only [List.mem_cons, List.not_mem_nil, or_false] at m
      rcases m with e | e | e <;> subst e
      · exact bt _ (okStr_app (o1 _ _) (o1 _ _)) (by rw [len_app]; omega)
      · exact bt _ (okStr_app (okStr_app (o1 _ _) hs) (o1 _ _)) (by rw [len_app, len_app, ls]; omega)
      · exact bt _ (okStr_app (okStr_app (o1 _ _) hs) (o1 _ _)) (by rw [len_app, len_app, ls]; omega)
    · exact last _ (box_lst hp)
  | tup us =>
    have hl : us.length ≤ sizeLine := sm.tup
    have ty0 : ∀ M, tyOk M (.tup us) "tuple" ∧ tyOk M (.tup us) "int" ∧ tyOk M (.tup us) "str" ∧ tyOk M (.tup us) "bool" := fun M => ⟨sm.noref M _ ty6, sm.noref M _ ty6, sm.noref M _ ty6, sm.noref M _ ty6⟩
    have i1 : ∀ M, isA (tyN M (.tup us)) "bool" = false := fun _ => rfl
    have i2 : ∀ M, isA (tyN M (.tup us)) "int" = false := fun _ => rfl
    have i3 : ∀ M, isA (tyN M (.tup us)) "str" = false := fun _ => rfl
    have i4 : ∀ M, isA (tyN M (.tup us)) "tuple" = true := fun _ => rfl
    have pu := hp
    simp [pvU] at pu
    have hlen : us.length < 100000 := by have := len_nds us; simp only [nd] at hz; omega
    simp [w__law_bent, ty0, i1, i2, i3, i4, z13, z6, z3, z2, z1]
    split
    · refine ⟨sm, ?_⟩
      simp [isIntU]
      exact last _ (box_tup hp)
    · rename_i hne
      have hl0 : 0 < us.length := List.length_pos_iff.mpr (by simpa using hne)
      refine pick_at wl (by decide) (by decide) fun i i0 i1 => ?_
      simp
      split
      · refine pick_at wl (by omega) (by omega) fun j j0 j1 => ?_
        refine pick_at wl (by decide) (by decide) fun w w0 w1 => ?_
        have ex := cut_to us (j.toNat + 1)
        rw [show ((j.toNat + 1 : Nat) : Int) = j + 1 by omega] at ex
        have hjl : j.toNat < us.length := by omega
        obtain ⟨p, x, r, eu, e1, e2, e3, e4⟩ := split_k j0 j1
        have ex2 : cutU us none (some (j + 1)) = p ++ [x] := by
          have hp1 := cut_to us j.toNat
          rw [show ((j.toNat : Nat) : Int) = j by omega, e1] at hp1
          have hx := atI_of j0 (List.getElem?_eq_getElem hjl)
          rw [e4] at hx
          cases hx
          rw [ex, hp1, List.take_succ, List.getElem?_eq_getElem hjl]
          rfl
        clear ex
        have pu0 := pu
        rw [eu] at pu
        have hx : pvU x = true := pvU_mem pu (by simp)
        rw [pvUs_append] at pu
        simp [pvUs] at pu
        obtain ⟨pp, px, pr⟩ := pu
        have hlen2 := hlen
        rw [eu] at hlen2
        simp only [List.length_append, List.length_cons] at hlen2
        have ret : ∀ q', pvUs q' = true → nds q' ≤ nds p + (2 * nd x + 60) + nds r → depUs q' ≤ max (max (depUs p) (depU x + 3)) (depUs r) → Bt (.tup us) (.tup q') := fun q' h1 h2 h3 => by
          rw [eu]
          exact tup_bt (by rw [← eu]; exact hp) h1 h2 h3
        refine ⟨_, _, ⟨rfl, rfl⟩, ?_⟩
        simp [e1, e2, e3, e4, ex2]
        split
        · refine ⟨by omega, by omega, by omega, ?_⟩
          obtain ⟨y, e, m⟩ := at_row (us := [U.tup (p ++ r), .tup (p ++ x :: x :: r), .tup (p ++ (r.reverse ++ [x]))]) w0 (show w < 3 by omega)
          refine ⟨y, by simpa using e, .same (q y ?_)⟩
          simp only [List.mem_cons, List.not_mem_nil, or_false] at m
          rcases m with e | e | e <;> subst e
          · exact ret _ (by rw [pvUs_append, pp, pr]; rfl) (by rw [nds_append]; omega) (by rw [depUs_append]; omega)
          · exact ret _ (by rw [pvUs_append]; simp [pvUs, pp, pr, px]) (by rw [nds_append]; simp only [nds]; omega) (by rw [depUs_append]; simp only [depUs]; omega)
          · refine ret _ ?_ ?_ ?_
            · rw [pvUs_append, pvUs_append, pvUs_rev]; simp [pvUs, pp, pr, px]
            · rw [nds_append, nds_append, nds_rev]; simp only [nds]; omega
            · rw [depUs_append, depUs_append, depUs_rev]; simp only [depUs]; omega
        · have hz' := hz
          rw [eu] at hz'
          simp only [nd, nds_append, nds] at hz'
          have hd' := hd
          rw [eu] at hd'
          simp only [depU, depUs_append, depUs] at hd'
          refine ⟨a, b, rfl, wl, px, by omega, by omega, by omega, fun v bt => ?_⟩
          have := bt.sz; have := bt.dep; have := bt.pv
          refine ⟨by omega, by omega, .same (q _ (ret _ ?_ ?_ ?_))⟩
          · rw [pvUs_append]; simp [pvUs, pp, pr, bt.pv]
          · rw [nds_append]; simp only [nds]; omega
          · rw [depUs_append]; simp only [depUs]; omega
      · refine ⟨sm, ?_⟩
        simp [isIntU]
        exact last _ (box_tup hp)
end Law

namespace Law
open PySem PySem.Spec PyProof.Rows L2 Pu Sem
/-! tags, labels -/
theorem letter_at {i : Int} (h0 : 0 ≤ i) (h1 : i < 26) : ∃ c, atI letters.cps.toList i = some c ∧ c ∈ letters.cps.toList := at_row h0 (by rw [show letters.cps.toList.length = 26 by decide +kernel]; omega)
theorem near_nodup (c : Nat) : (letters.cps.toList.map fun l => (sgn l ++ ("q" : Str)) ++ sgn c).Nodup := by
  have inj : ∀ x y : Nat, (sgn x ++ ("q" : Str)) ++ sgn c = (sgn y ++ ("q" : Str)) ++ sgn c → x = y := fun x y e => by
    have e := congrArg (fun s : Str => s.cps.toList) e
    simp only [app_list, show ∀ z, (sgn z).cps.toList = [z] from fun _ => rfl] at e
    simpa using e
  have nd : letters.cps.toList.Nodup := by decide +kernel
  exact (List.pairwise_map).mpr (nd.imp fun {x y} h e => h (inj x y e))
theorem near_tag {l c : Nat} (hl : l ∈ letters.cps.toList) (hc : c ∈ letters.cps.toList) : TagW ((sgn l ++ ("q" : Str)) ++ sgn c) ∧ ((sgn l ++ ("q" : Str)) ++ sgn c).length ≤ 4 := by
  have e : ((sgn l ++ ("q" : Str)) ++ sgn c).cps.toList = [l, 113, c] := by rw [app_list, app_list]; rfl
  refine ⟨tagw_list (by rw [e]; simp) (by rw [e]; simp) fun x hx => ?_, by rw [slen_list, e]; simp⟩
  rw [e] at hx
  simp at hx
  rcases hx with h | h | h <;> subst h
  · exact hl
  · decide +kernel
  · exact hc
def sp__law_tags : USp := sp2 fun d m M R _ => ∃ (a b : Addr) (n : Nat), d = .ref a ∧ m = .int n ∧ n ≤ 26 ∧ Wl M a b ∧ ∀ ts : List Str, (∀ t ∈ ts, TagW t ∧ t.length ≤ 4) → ts.Nodup → ts.length = n → R (.lst (ts.map .str)) M
def Lt1 (u : U) : Prop := ∃ c, u = .str (sgn c) ∧ c ∈ letters.cps.toList
theorem lt1_list : ∀ {us : List U}, (∀ u ∈ us, Lt1 u) → ∃ cs : List Nat, us = cs.map (fun c => U.str (sgn c)) ∧ ∀ c ∈ cs, c ∈ letters.cps.toList
  | [], _ => ⟨[], rfl, by simp⟩
  | u :: us, h => by
    obtain ⟨c, rfl, hc⟩ := h u List.mem_cons_self
    obtain ⟨cs, rfl, hcs⟩ := lt1_list fun x hx => h x (List.mem_cons_of_mem _ hx)
    exact ⟨c :: cs, rfl, fun x hx => by rcases List.mem_cons.mp hx with e | hx; · subst e; exact hc
                                        · exact hcs x hx⟩
theorem join_lt1 {cs : List Nat} (h1 : 1 ≤ cs.length) (h2 : cs.length ≤ 4) (h : ∀ c ∈ cs, c ∈ letters.cps.toList) : TagW (Txt.join ("" : Str) (cs.map sgn)) ∧ (Txt.join ("" : Str) (cs.map sgn)).length ≤ 4 :=
  ⟨tagw_list (by rw [joinS_signs]; exact h1) (by rw [joinS_signs]; omega) (by rw [joinS_signs]; exact h), by rw [slen_list, joinS_signs]; exact h2⟩
theorem pure__law_tags (u v : U) (M : Mp) (R : UK) (E : UXK) (h : sp__law_tags [u, v] M R E) : w__law_tags sp__law_pick sp__law_one E (endU R) [some u, some v, none, none, none, none, none, none, none, none, none, none, none] M := by
  obtain ⟨a, b, n, rfl, rfl, hn, wl, q⟩ := h
  have zz : 1000000 ≤ sizeLine := by rw [sizeLine_eq]; decide
  have z1 : 1 ≤ sizeLine := by omega
  have z2 : 2 ≤ sizeLine := by omega
  have hlet : ("abcdefghijklmnopqrstuvwxyz" : Str) = letters := rfl
  have hl26 : letters.cps.toList.length = 26 := by decide +kernel
  have hls : letters.length = 26 := by decide +kernel
  simp [w__law_tags, z1, z2]
  intro p fp
  have wl1 := wl.put (o := .lst []) fp
  have s1 : Fewer M (Pu.put M p (.lst [])) := .ofPut fp
  have mp1 : Pu.put M p (.lst []) p = some (.lst (([] : List Str).map .str)) := put_same
  generalize Pu.put M p (.lst []) = M1 at wl1 s1 mp1
  refine pick_at wl1 (by decide) (by decide) fun nr _ _ => ?_
  refine pick_at wl1 (by decide) (by decide) fun i i0 i1 => ?_
  simp
  refine ⟨by omega, by omega, ?_⟩
  refine comp_any (Q := Lt1) (by simp; omega) (fun x hx D acc R fD qR => ?_) fun vs hvs hvl => ?_
  · simp
    exact one_s (wl1.put fD) (by constructor <;> decide +kernel) fun c hc => qR _ ⟨c, rfl, hc⟩
  obtain ⟨cs, rfl, hcs⟩ := lt1_list hvs
  simp only [List.length_map, List.length_range] at hvl
  refine ⟨_, _, ⟨rfl, rfl⟩, cs.length, by simp [lenU], ?_⟩
  refine pick_at wl1 (by omega) (by omega) fun at_ at0 at1 => ?_
  refine ⟨by omega, ?_⟩
  refine loop_K (fun rest s M' => ∃ (k w sm : Option U) (ts : List Str) (j : Nat), s = [some (.ref a), some (.int (n : Nat)), some (.int at_), k, some (.str "abcdefghijklmnopqrstuvwxyz"), some (.ref p), some (.int nr), some (.lst (cs.map fun c => U.str (sgn c))), w, sm, none, none, none] ∧
      rest = (List.range' j rest.length).map (fun i => U.int ((i : Nat) : Int)) ∧ j + rest.length = n ∧ ts.length = j ∧ ts.Nodup ∧ (∀ t ∈ ts, TagW t ∧ t.length ≤ 4) ∧ Fewer M M' ∧ M' p = some (.lst (ts.map .str))) _ _ _ ⟨none, none, none, [], 0, rfl, by simp [List.range_eq_range'], by simp, rfl, by simp, by simp, s1, mp1⟩ ?_ ?_
  · rintro s M2 ⟨k, w, sm, ts, j, rfl, _, hj, hl, hnd, htag, s2, m2⟩
    simp
    exact Fin.lst s2 m2 fp (q ts htag hnd (by simp at hj; omega))
  · rintro x rest s M2 K ⟨k, w, sm, ts, j, rfl, hr, hj, hl, hnd, htag, s2, m2⟩ ih
    rw [List.length_cons] at hr hj
    rw [List.range'_succ, List.map_cons] at hr
    obtain ⟨rfl, hr2⟩ := List.cons.inj hr
    have wl2 := wl.less s2
    simp
    intro p8 f8
    have f8M : M p8 = none := s2.non f8
    have h8p : p8 ≠ p := fun e => by rw [e, m2] at f8; cases f8
    -- behind the word
    have rest_ok : ∀ (D : UEnds) (M3 : Mp) (p9 : Addr) (ws : List Nat), (∀ s' m', (∃ (k w sm : Option U) (ts : List Str), s' = [some (.ref a), some (.int (n : Nat)), some (.int at_), k, some (.str "abcdefghijklmnopqrstuvwxyz"), some (.ref p), some (.int nr), some (.lst (cs.map fun c => U.str (sgn c))), w, sm, none, none, none] ∧
          ts.length = j + 1 ∧ ts.Nodup ∧ (∀ t ∈ ts, TagW t ∧ t.length ≤ 4) ∧ Fewer M m' ∧ m' p = some (.lst (ts.map .str))) → D.nx s' m') →
        Fewer M M3 → M3 p = some (.lst (ts.map .str)) → M3 p9 = some (.lst (ws.map fun c => U.str (sgn c))) → 1 ≤ ws.length → ws.length ≤ 4 → (∀ c ∈ ws, c ∈ letters.cps.toList) →
        (wSeq (wSet 9 (wBin uAdd (wLst (wCons (wBM "str" uJoin (wC (.str "")) (wCons (wVar 8) wNil)) wNil)) (wComp false (wIt (wVar 4)) (wName 11) wYes (wBin uAdd (wBin uAdd (wVar 11) (wC (.str "q"))) (wBin uIdx0 (wVar 4) (wVar 3))) [11])))
         (wSeq (wDrop (wBM "list" uAppend (wVar 5) (wCons (wBin uIdx0 (wComp false (wIt (wVar 9)) (wName 12) (wB (wBin uNotIn0 (wVar 12) (wVar 5))) (wVar 12) [12]) (wC (.int 0))) wNil))) wNext))
         D [some (.ref a), some (.int (n : Nat)), some (.int at_), some (.int (j : Nat)), some (.str "abcdefghijklmnopqrstuvwxyz"), some (.ref p), some (.int nr), some (.lst (cs.map fun c => U.str (sgn c))), some (.ref p9), sm, none, none, none] M3 := by
      intro D M3 p9 ws hD s3 m3 m9 w1 w4 hws
      have jn := join_lt1 w1 w4 hws
      have hws9 : ws.map (fun c => U.str (sgn c)) = (ws.map sgn).map .str := by rw [List.map_map]; rfl
      simp
      refine ⟨rfl, ("" : Str), .ref p9, ws.map sgn, rfl, rfl, by simp [seqOf, lstOf, m9], ?_, ?_⟩
      · rw [List.map_map, show (Str.length ∘ sgn) = fun _ => 1 from rfl, show ("" : Str).length = 0 from rfl]
        have : ∀ l : List Nat, (l.map fun _ => (1 : Nat)).sum = l.length := fun l => by
          induction l with
          | nil => rfl
          | cons x l ih => rw [List.map_cons, List.sum_cons, ih, List.length_cons]; omega
        rw [this]
        omega
      refine ⟨z1, ?_⟩
      obtain ⟨ck, ek, mk⟩ := letter_at (i := (j : Int)) (by omega) (by omega)
      refine comp_mapM (M := M3) (fun x => match x with | .str l => .str ((l ++ ("q" : Str)) ++ sgn ck) | _ => .non) ?_ (fun x hx D acc R fD qR => ?_) ?_
      · rw [signsU_len, hlet, hls]; omega
      · obtain ⟨c, hc, rfl⟩ := List.mem_map.mp hx
        have e1 : (⟨#[c]⟩ : Str).length = 1 := rfl
        have e2 : ("q" : Str).length = 1 := rfl
        have e3 : ("abcdefghijklmnopqrstuvwxyz" : Str).length = 26 := hls
        simp [e1, e2, e3]
        refine ⟨z2, by omega, ck, ek, ?_, qR⟩
        rw [len_app, e1, e2]
        show 1 + 1 + 1 ≤ sizeLine
        omega
      · have hnear : (signsU ("abcdefghijklmnopqrstuvwxyz" : Str)).map (fun x => match x with | .str l => .str ((l ++ ("q" : Str)) ++ sgn ck) | _ => .non) = (letters.cps.toList.map fun l => (sgn l ++ ("q" : Str)) ++ sgn ck).map U.str := by
          unfold signsU
          rw [List.map_map, List.map_map]
          rfl
        have hnt : ∀ t ∈ (letters.cps.toList.map fun l => (sgn l ++ ("q" : Str)) ++ sgn ck), TagW t ∧ t.length ≤ 4 := fun t ht => by
          obtain ⟨l, hl, rfl⟩ := List.mem_map.mp ht
          exact near_tag hl mk
        have hnl : (letters.cps.toList.map fun l => (sgn l ++ ("q" : Str)) ++ sgn ck).length = 26 := by rw [List.length_map, hl26]
        have hnn := near_nodup ck
        rw [hnear]
        generalize (letters.cps.toList.map fun l => (sgn l ++ ("q" : Str)) ++ sgn ck) = ns at hnt hnl hnn
        generalize Txt.join ("" : Str) (ws.map sgn) = w at jn
        refine ⟨by simp [hnl]; omega, ?_⟩
        refine ⟨.inl ⟨rfl, _, m3⟩, ?_⟩
        show wItU (.lst ((w :: ns).map U.str)) _ _
        have hall : ∀ t ∈ w :: ns, TagW t ∧ t.length ≤ 4 := fun t ht => by
          rcases List.mem_cons.mp ht with e | ht
          · subst e; exact jn
          · exact hnt t ht
        refine comp_filterM (fun x => match x with | .str s => !decide (s ∈ ts) | _ => false) id (by simp [hnl]; omega) (fun x hx D acc R fD qR => ?_) ?_
        · obtain ⟨t, ht, rfl⟩ := List.mem_map.mp hx
          simp
          refine uNotIn_strs (xs := ts) (by rw [put_ne (fun e => by rw [← e, m3] at fD; cases fD)]; exact m3) ?_
          simp
          by_cases hts : t ∈ ts
          · simpa [hts] using qR
          · simpa [hts] using qR
        · have hf : ((((w :: ns).map U.str).filter (fun x => match x with | .str s => !decide (s ∈ ts) | _ => false)).map id) = ((w :: ns).filter fun s => !decide (s ∈ ts)).map U.str := by
            rw [List.map_id, List.filter_map]; rfl
          rw [hf]
          cases hfe : (w :: ns).filter (fun s => !decide (s ∈ ts)) with
          | nil =>
            exfalso
            have : ∀ x ∈ ns, x ∈ ts := fun x hx => by
              have := List.filter_eq_nil_iff.mp hfe x (List.mem_cons_of_mem _ hx)
              simpa using this
            have := nodup_len hnn this
            omega
          | cons t r =>
            have ht : t ∈ (w :: ns).filter (fun s => !decide (s ∈ ts)) := by rw [hfe]; exact List.mem_cons_self
            obtain ⟨ht1, ht2⟩ := List.mem_filter.mp ht
            simp
            refine ⟨p, ts.map .str, .str t, rfl, rfl, m3, by simp; omega, ?_⟩
            refine hD _ _ ⟨_, _, _, ts ++ [t], rfl, by simp [hl], ?_, ?_, s3.own fp, by rw [put_same]; simp⟩
            · rw [List.nodup_append]
              refine ⟨hnd, by simp, fun x hx y hy e => ?_⟩
              simp at hy
              subst hy e
              simp [hx] at ht2
            · intro x hx
              rcases List.mem_append.mp hx with hx | hx
              · exact htag x hx
              · simp at hx; subst hx; exact hall _ ht1
    have fin_ok : ∀ s' m', (∃ (k w sm : Option U) (ts : List Str), s' = [some (.ref a), some (.int (n : Nat)), some (.int at_), k, some (.str "abcdefghijklmnopqrstuvwxyz"), some (.ref p), some (.int nr), some (.lst (cs.map fun c => U.str (sgn c))), w, sm, none, none, none] ∧
          ts.length = j + 1 ∧ ts.Nodup ∧ (∀ t ∈ ts, TagW t ∧ t.length ≤ 4) ∧ Fewer M m' ∧ m' p = some (.lst (ts.map .str))) → K s' m' := fun s' m' ⟨k, w, sm, ts, e1, e2, e3, e4, e5, e6⟩ => ih s' m' trivial ⟨k, w, sm, ts, j + 1, e1, hr2, by omega, e2, e3, e4, e5, e6⟩
    split
    · refine pick_at (wl2.put f8) (by decide) (by decide) fun r r0 r1 => ?_
      simp
      refine ⟨by omega, by omega, ?_⟩
      refine comp_anyH (Q := Lt1) (by simp; omega) (fun x hx D acc R fD qR => ?_) fun D vs fD hvs hvl => ?_
      · simp
        exact one_s ((wl2.put f8).put fD) (by constructor <;> decide +kernel) fun c hc => qR _ ⟨c, rfl, hc⟩
      · obtain ⟨ws, rfl, hws⟩ := lt1_list hvs
        simp only [List.length_map, List.length_range] at hvl
        have fDM : M2 D = none := by
          by_cases e : D = p8
          · subst e; rw [put_same] at fD; cases fD
          · rw [put_ne e] at fD; exact fD
        have hDp : D ≠ p := fun e => by rw [e, m2] at fDM; cases fDM
        have h := rest_ok { nx := K, rt := Pu.Fin R, ct := K, bk := wSeq (wRet (wVar 5)) wNext (endU R) } (Pu.put (Pu.put M2 p8 (.lst (cs.map fun c => U.str (sgn c)))) D (.lst (ws.map fun c => U.str (sgn c)))) D ws fin_ok ((s2.own f8M).own (s2.non fDM)) (by rw [put_ne (Ne.symm hDp), put_ne (Ne.symm h8p)]; exact m2) put_same (by omega) (by omega) hws
        simp at h
        exact h
    · refine one_s (wl2.put f8) (by constructor <;> decide +kernel) fun c hc => ?_
      have h8 : Pu.put M2 p8 (.lst (cs.map fun c => U.str (sgn c))) p8 = some (.lst (cs.map fun c => U.str (sgn c))) := put_same
      have hk : at_.toNat < cs.length := by omega
      rw [uSet_at (j := at_.toNat) h8 (by unfold ixN; rw [List.length_map, if_pos at0, if_pos (by omega)])]
      obtain ⟨c2, hset, hl2, hm2⟩ : ∃ c2 : List Nat, (cs.map fun c => U.str (sgn c)).set at_.toNat (.str ⟨#[c]⟩) = c2.map (fun c => U.str (sgn c)) ∧ c2.length = cs.length ∧ ∀ x ∈ c2, x ∈ letters.cps.toList :=
        ⟨cs.set at_.toNat c, by rw [List.map_set]; rfl, by simp, fun x hx => by
          rcases List.mem_or_eq_of_mem_set hx with h | h
          · exact hcs x h
          · subst h; exact hc⟩
      rw [hset, put_put]
      have h := rest_ok { nx := K, rt := Pu.Fin R, ct := K, bk := wSeq (wRet (wVar 5)) wNext (endU R) } (Pu.put M2 p8 (.lst (c2.map fun c => U.str (sgn c)))) p8 c2 fin_ok (s2.own f8M) (by rw [put_ne (Ne.symm h8p)]; exact m2) put_same (by omega) (by omega) hm2
      simp at h
      exact h
end Law

namespace Law
open PySem PySem.Spec PyProof.Rows L2 Pu Sem
def kindsU : List Str := ["$int", "$text"]
theorem sub_strs : ∀ {vs : List U} {xs : List Str}, (∀ v ∈ vs, v ∈ xs.map U.str) → ∃ ys : List Str, vs = ys.map U.str ∧ ∀ y ∈ ys, y ∈ xs
  | [], _, _ => ⟨[], rfl, by simp⟩
  | v :: vs, xs, h => by
    obtain ⟨y, hy, rfl⟩ := List.mem_map.mp (h v List.mem_cons_self)
    obtain ⟨ys, rfl, hys⟩ := sub_strs (vs := vs) (xs := xs) fun x hx => h x (List.mem_cons_of_mem _ hx)
    exact ⟨y :: ys, rfl, fun x hx => by rcases List.mem_cons.mp hx with e | hx; · subst e; exact hy
                                        · exact hys x hx⟩
theorem strs_inj : ∀ {xs ys : List Str}, xs.map U.str = ys.map U.str → xs = ys
  | [], [], _ => rfl
  | x :: xs, y :: ys, h => by
    simp only [List.map_cons, List.cons.injEq, U.str.injEq] at h
    rw [h.1, strs_inj h.2]
theorem nodup_strs {xs : List Str} (h : xs.Nodup) : (xs.map U.str).Nodup := List.pairwise_map.mpr (h.imp fun {a b} n e => n (by cases e; rfl))
theorem nodup_of_strs {xs : List Str} (h : (xs.map U.str).Nodup) : xs.Nodup := (List.pairwise_map.mp h).imp fun {a b} n e => n (by rw [e])
def sp__law_labels : USp := sp4 fun d f m k M R _ => ∃ (a b : Addr) (f' m' k' : Nat), d = .ref a ∧ f = .int f' ∧ m = .int m' ∧ k = .int k' ∧ 1 ≤ f' ∧ f' ≤ m' ∧ m' ≤ 26 ∧ k' ≤ 2 ∧ Wl M a b ∧ ∀ ls : List Str, LabL ls → ls.length ≤ m' + k' → R (.tup (ls.map .str)) M
theorem pure__law_labels (u v w x : U) (M : Mp) (R : UK) (E : UXK) (h : sp__law_labels [u, v, w, x] M R E) : w__law_labels sp__law_tags sp__law_pick sp__law_some E (endU R) [some u, some v, some w, some x] M := by
  obtain ⟨a, b, f, m, k, rfl, rfl, rfl, rfl, h1, h2, h3, h4, wl, q⟩ := h
  simp [w__law_labels, two_line]
  refine pick_at wl (by omega) (by omega) fun i i0 i1 => ?_
  refine ⟨a, b, f + i.toNat, rfl, by simp; omega, by omega, wl, fun ts ht hnd hl => ?_⟩
  refine ⟨a, b, kindsU.map .str, 0, k, rfl, rfl, rfl, rfl, by omega, by omega, by decide +kernel, wl, fun vs hv hvl _ ⟨rest, hp⟩ => ?_⟩
  obtain ⟨ks, rfl, hks⟩ := sub_strs hv
  have hkn : ks.Nodup := by
    have : (kindsU.map U.str).Nodup := nodup_strs (by decide +kernel)
    have := hp.nodup_iff.mpr this
    exact nodup_of_strs (List.nodup_append.mp this).1
  have hkk : ∀ l ∈ ks, isKindS l = true ∧ LabW l := fun l hl => by
    have := hks l hl
    simp [kindsU] at this
    rcases this with e | e <;> subst e
    · exact ⟨by decide +kernel, .inr (.inl rfl)⟩
    · exact ⟨by decide +kernel, .inr (.inr rfl)⟩
  simp only [List.length_map] at hvl
  simp
  refine ⟨by rw [sizeLine_eq]; omega, ?_⟩
  refine ⟨_, ts ++ ks, rfl, by simp [lstOf], by simp; omega, fun ys hy hs => ?_⟩
  simp
  have mem : ∀ l, l ∈ ys ↔ l ∈ ts ∨ l ∈ ks := fun l => by rw [hy.mem_iff, List.mem_append]
  refine .same (q ys ⟨fun l hl => ?_, hy.nodup_iff.mpr ?_, hs, ?_⟩ (by rw [hy.length_eq, List.length_append]; omega))
  · rcases (mem l).mp hl with h | h
    · exact .inl (ht l h).1
    · exact (hkk l h).2
  · rw [List.nodup_append]
    refine ⟨hnd, hkn, fun x hx y hy e => ?_⟩
    subst e
    have := (ht x hx).1.nokind
    rw [(hkk x hy).1] at this
    cases this
  · cases ts with
    | nil => simp at hl; omega
    | cons t ts => exact ⟨t, (mem t).mpr (.inl List.mem_cons_self), (ht t List.mem_cons_self).1.nokind⟩
end Law

namespace Law
open PySem PySem.Spec PyProof.Rows L2 Pu Sem
/-! drawn parts and documents -/
def sp__law_part (k : Nat) : USp := sp4 fun de la ro dp M R _ => ∃ (a b r : Addr) (d : Nat) (ls : List Str) (m : Int), de = .ref a ∧ la = .tup (ls.map .str) ∧ ro = .ref r ∧ dp = .int d ∧ (∀ l ∈ ls, LabW l) ∧ ls ≠ [] ∧ ls.length ≤ 40 ∧ d < k ∧ Wl M a b ∧ M r = some (.lst [.int m]) ∧ 1 ≤ m ∧ m ≤ 1000 ∧
  ∀ p m', Gp ls p d → 0 ≤ m' → m = m' + ((labelsP p).length : Int) → R p (put M r (.lst [.int m']))
theorem pure__law_part (k : Nat) (u v w x : U) (M : Mp) (R : UK) (E : UXK) (h : sp__law_part (k + 1) [u, v, w, x] M R E) : w__law_part sp__law_one sp__law_leaf sp__law_pick (sp__law_part k) E (endU R) [some u, some v, some w, some x, none, none, none] M := by
  obtain ⟨a, b, r, d, ls, m, rfl, rfl, rfl, rfl, hls, hne, hl20, hd, wl, rm, hm, hmm, q⟩ := h
  have zz : 1000000 ≤ sizeLine := by rw [sizeLine_eq]; decide
  simp [w__law_part]
  refine one_t wl (by simpa using hne) (by simp; omega) fun y hy => ?_
  obtain ⟨l, hl, rfl⟩ := List.mem_map.mp hy
  have hla := hls l hl
  have hlen := hla.len
  rw [uIdx_at rm atI_0]
  simp
  rw [uSet_at rm (j := 0) (by rfl)]
  simp only [List.set_cons_zero]
  have wl2 : Wl (put M r (.lst [.int (m - 1)])) a b := wl.putL rm
  refine ⟨by omega, ?_⟩
  simp only [hla.kindP]
  split
  · rename_i hk
    refine ⟨a, b, l, rfl, rfl, hk, by omega, wl2, fun x hx h2 h3 => ?_⟩
    have g : Gp ls (.tup [.str l, .str x]) d := Gp.leaf hl hla hk hx h2 (by omega)
    have e1 : (labelsP (.tup [.str l, .str x])).length = 1 := by rw [labelsP_kind]; simp
    exact .same (q _ (m - 1) g (by omega) (by rw [e1]; omega))
  · rename_i hk
    replace hk : isKindS l = false := by simpa using hk
    intro p5 f5
    have h5r : r ≠ p5 := fun e => by rw [← e, put_same] at f5; cases f5
    have f5M : M p5 = none := by rw [put_ne (Ne.symm h5r)] at f5; exact f5
    have fini : ∀ (acc : List U) (m3 : Int), 0 ≤ m3 → m = m3 + 1 + ((labelsPs acc).length : Int) → Gps ls acc d → Pu.Fin R (.tup [.str l, .tup acc]) (put (put M r (.lst [.int m3])) p5 (.lst acc)) := fun acc m3 hm3 hsum g =>
      Fin.back (by rw [put_ne (Ne.symm h5r)]; exact f5M) (q _ m3 (Gp.tag hl hla hk g) hm3 (by rw [labelsP_tag, List.length_cons]; omega))
    have loop : ∀ (n : Int), 0 ≤ n → n < 4 → (n = 0 ∨ 0 < d) → loopU Any (wName 6) (wSeq (wIfS (wB (wBin uGt (wBin uIdx0 (wVar 2) (wC (.int 0))) (wC (.int 0)))) (wSeq (wDrop (wBM "list" uAppend (wVar 5) (wCons (wCall (sp__law_part k) (fun ux _ M => E ux M) (wCons (wVar 0) (wCons (wVar 1) (wCons (wVar 2) (wCons (wBin uSub (wVar 3) (wC (.int 1))) wNil))))) wNil)))
         wNext) wNext) wNext) ((List.range n.toNat).map fun i => U.int ((i : Nat) : Int)) { nx := wSeq (wRet (wTup (wCons (wVar 4) (wCons (wCB uTuple (wCons (wVar 5) wNil)) wNil)))) wNext (endU R), rt := Pu.Fin R } [some (.ref a), some (.tup (ls.map .str)), some (.ref r), some (.int (d : Nat)), some (.str l), some (.ref p5), none] (put (put M r (.lst [.int (m - 1)])) p5 (.lst [])) := by
      intro n hn0 hn4 hnd
      refine loop_K (fun rest s M' => ∃ (acc : List U) (y : Option U) (m3 : Int), s = [some (.ref a), some (.tup (ls.map .str)), some (.ref r), some (.int (d : Nat)), some (.str l), some (.ref p5), y] ∧ M' = put (put M r (.lst [.int m3])) p5 (.lst acc) ∧ 0 ≤ m3 ∧ m = m3 + 1 + ((labelsPs acc).length : Int) ∧ Gps ls acc d ∧ acc.length + rest.length ≤ 10 ∧ (rest = [] ∨ 0 < d)) _ _ _
        ⟨[], none, m - 1, rfl, rfl, by omega, by simp [labelsPs], .nil, by simp; omega, ?_⟩ ?_ ?_
      · rcases hnd with e | e
        · subst e; exact .inl rfl
        · exact .inr e
      · rintro s M' ⟨acc, y, m3, rfl, rfl, hm3, hsum, g, _, _⟩
        simp
        exact ⟨acc, by simp [seqOf, lstOf, put_same], by omega, fini acc m3 hm3 hsum g⟩
      · rintro i rest s M' K ⟨acc, y, m3, rfl, rfl, hm3, hsum, g, hlen, hd0⟩ ih
        have hd1 : 0 < d := by
          rcases hd0 with h | h
          · cases h
          · exact h
        simp only [List.length_cons] at hlen
        have mr : put (put M r (.lst [.int m3])) p5 (.lst acc) r = some (.lst [.int m3]) := by rw [put_ne h5r, put_same]
        have wl3 : Wl (put (put M r (.lst [.int m3])) p5 (.lst acc)) a b := (wl.putL rm).put (by rw [put_ne (Ne.symm h5r)]; exact f5M)
        simp
        rw [uIdx_at mr atI_0]
        simp
        split
        · rename_i hpos
          refine ⟨tyU_at put_same, ?_⟩
          refine ⟨a, b, r, d - 1, ls, m3, rfl, rfl, rfl, by rw [show ((d : Int) - 1) = ((d - 1 : Nat) : Int) by omega], hls, hne, hl20, by omega, wl3, mr, by omega, by omega, fun p m4 gp hm4 hs4 => ?_⟩
          rw [put_swap h5r]
          refine ⟨p5, acc, p, rfl, rfl, put_same, by omega, ?_⟩
          rw [put_put]
          refine ih _ _ trivial ⟨acc ++ [p], some i, m4, rfl, rfl, hm4, by rw [labelsPs_append, labelsPs_single, List.length_append]; omega, ?_, by simp; omega, .inr hd1⟩
          obtain ⟨d', rfl⟩ : ∃ d', d = d' + 1 := ⟨d - 1, by omega⟩
          exact g.snoc gp
        · exact ih _ _ trivial ⟨acc, some i, m3, rfl, rfl, hm3, hsum, g, by omega, .inr hd1⟩
    split
    · rename_i hd0
      refine pick_at (wl2.put f5) (by decide) (by decide) fun i i0 i1 => ?_
      simp
      refine ⟨by omega, by omega, ?_⟩
      exact loop i i0 i1 (.inr (by omega))
    · exact ⟨[], by simp [seqOf, lstOf, put_same], by omega, fini [] (m - 1) (by omega) (by simp [labelsPs]) .nil⟩
def sp__law_document : USp := sp4 fun de la mo dp M R _ => ∃ (a b : Addr) (m : Int) (ls : List Str) (d : Nat), de = .ref a ∧ la = .tup (ls.map .str) ∧ mo = .int m ∧ dp = .int d ∧ d < 30 ∧ (∀ l ∈ ls, LabW l) ∧ (∃ l ∈ ls, isKindS l = false) ∧ ls.length ≤ 40 ∧ Wl M a b ∧ 1 ≤ m ∧ m ≤ 1000 ∧
  ∀ p, Gp ls p (d - 1) → isDoc p = true → ((labelsP p).length : Int) ≤ m → R p M
theorem pure__law_document (u v w x : U) (M : Mp) (R : UK) (E : UXK) (h : sp__law_document [u, v, w, x] M R E) : w__law_document sp__law_one sp__law_pick (sp__law_part 40) E (endU R) [some u, some v, some w, some x, none, none, none, none, none] M := by
  obtain ⟨a, b, m, ls, d, rfl, rfl, rfl, rfl, hd, hls, ⟨l0, hl0, hk0⟩, hl20, wl, hm1, hm2, q⟩ := h
  have zz : 1000000 ≤ sizeLine := by rw [sizeLine_eq]; decide
  have z1 : 1 ≤ sizeLine := by omega
  simp [w__law_document, z1]
  intro r fr p5 f5
  have h5r : r ≠ p5 := fun e => by rw [← e, put_same] at f5; cases f5
  have f5M : M p5 = none := by rw [put_ne (Ne.symm h5r)] at f5; exact f5
  have wl2 : Wl (put (put M r (.lst [.int (m - 1)])) p5 (.lst [])) a b := (wl.put fr).put f5
  refine ⟨_, _, ⟨rfl, rfl⟩, ?_⟩
  have hlen8 : ∀ l ∈ ls, l.length ≤ sizeLine := fun l hl => by have := (hls l hl).len; omega
  refine comp_filterM (fun x => match x with | .str l => !isKindS l | _ => false) id (by simp; omega) (fun x hx D acc R' fD qR => ?_) ?_
  · obtain ⟨l, hl, rfl⟩ := List.mem_map.mp hx
    simp
    refine ⟨hlen8 l hl, ?_⟩
    simp only [(hls l hl).kindP]
    cases e : isKindS l
    · simpa [e] using qR
    · simpa [e] using qR
  · have hf : ((ls.map U.str).filter (fun x => match x with | .str l => !isKindS l | _ => false)).map id = (ls.filter fun l => !isKindS l).map U.str := by
      rw [List.map_id, List.filter_map]; rfl
    rw [hf]
    have hsub : ∀ l ∈ ls.filter (fun l => !isKindS l), l ∈ ls ∧ isKindS l = false := fun l hl => by
      have := List.mem_filter.mp hl
      exact ⟨this.1, by simpa using this.2⟩
    have hne : ls.filter (fun l => !isKindS l) ≠ [] := fun e => by
      have : l0 ∈ ls.filter (fun l => !isKindS l) := List.mem_filter.mpr ⟨hl0, by simp [hk0]⟩
      rw [e] at this
      cases this
    have hlen : (ls.filter (fun l => !isKindS l)).length ≤ 40 := Nat.le_trans (List.length_filter_le _ _) hl20
    generalize ls.filter (fun l => !isKindS l) = ts at hsub hne hlen
    refine one_l wl2 (by simpa using hne) (by simp; omega) fun y hy => ?_
    obtain ⟨l, hl, rfl⟩ := List.mem_map.mp hy
    obtain ⟨hlm, hk⟩ := hsub l hl
    have hla := hls l hlm
    have fini : ∀ (acc : List U) (m3 : Int), 0 ≤ m3 → m = m3 + 1 + ((labelsPs acc).length : Int) → Gps ls acc (d - 1) → Pu.Fin R (.tup [.str l, .tup acc]) (put (put M r (.lst [.int m3])) p5 (.lst acc)) := fun acc m3 hm3 hsum g => by
      have gp := Gp.tag hlm hla hk g
      exact Fin.less (.put2 fr f5M) (q _ gp (by simp [isDoc, gp.part, isTag, hla.tag hk]) (by rw [labelsP_tag, List.length_cons]; omega))
    have loop : ∀ (n : Int), 0 ≤ n → n < 5 → (n = 0 ∨ 1 < d) → loopU Any (wName 5) (wSeq (wIfS (wB (wBin uGt (wBin uIdx0 (wVar 6) (wC (.int 0))) (wC (.int 0)))) (wSeq (wDrop (wBM "list" uAppend (wVar 7) (wCons (wCall (sp__law_part 40) (fun ux _ M => E ux M) (wCons (wVar 0) (wCons (wVar 1) (wCons (wVar 6) (wCons (wBin uSub (wVar 3) (wC (.int 2))) wNil))))) wNil)))
         wNext) wNext) wNext) ((List.range n.toNat).map fun i => U.int ((i : Nat) : Int)) { nx := wSeq (wRet (wTup (wCons (wVar 4) (wCons (wCB uTuple (wCons (wVar 7) wNil)) wNil)))) wNext (endU R), rt := Pu.Fin R } [some (.ref a), some (.tup (ls.map .str)), some (.int m), some (.int (d : Nat)), some (.str l), none, some (.ref r), some (.ref p5), none] (put (put M r (.lst [.int (m - 1)])) p5 (.lst [])) := by
      intro n hn0 hn4 hnd
      refine loop_K (fun rest s M' => ∃ (acc : List U) (y : Option U) (m3 : Int), s = [some (.ref a), some (.tup (ls.map .str)), some (.int m), some (.int (d : Nat)), some (.str l), y, some (.ref r), some (.ref p5), none] ∧ M' = put (put M r (.lst [.int m3])) p5 (.lst acc) ∧ 0 ≤ m3 ∧ m = m3 + 1 + ((labelsPs acc).length : Int) ∧ Gps ls acc (d - 1) ∧ acc.length + rest.length ≤ 10 ∧ (rest = [] ∨ 1 < d)) _ _ _
        ⟨[], none, m - 1, rfl, rfl, by omega, by simp [labelsPs], .nil, by simp; omega, ?_⟩ ?_ ?_
      · rcases hnd with e | e
        · subst e; exact .inl rfl
        · exact .inr e
      · rintro s M' ⟨acc, y, m3, rfl, rfl, hm3, hsum, g, _, _⟩
        simp
        exact ⟨acc, by simp [seqOf, lstOf, put_same], by omega, fini acc m3 hm3 hsum g⟩
      · rintro i rest s M' K ⟨acc, y, m3, rfl, rfl, hm3, hsum, g, hlen, hd0⟩ ih
        have hd1 : 1 < d := by
          rcases hd0 with h | h
          · cases h
          · exact h
        simp only [List.length_cons] at hlen
        have mr : put (put M r (.lst [.int m3])) p5 (.lst acc) r = some (.lst [.int m3]) := by rw [put_ne h5r, put_same]
        have wl3 : Wl (put (put M r (.lst [.int m3])) p5 (.lst acc)) a b := (wl.put fr).put (by rw [put_ne (Ne.symm h5r)]; exact f5M)
        simp
        rw [uIdx_at mr atI_0]
        simp
        split
        · rename_i hpos
          refine ⟨tyU_at put_same, ?_⟩
          refine ⟨a, b, r, d - 2, ls, m3, rfl, rfl, rfl, by rw [show ((d : Int) - 2) = ((d - 2 : Nat) : Int) by omega], hls, List.ne_nil_of_mem hl0, hl20, by omega, wl3, mr, by omega, by omega, fun p m4 gp hm4 hs4 => ?_⟩
          rw [put_swap h5r]
          refine ⟨p5, acc, p, rfl, rfl, put_same, by omega, ?_⟩
          rw [put_put]
          refine ih _ _ trivial ⟨acc ++ [p], some i, m4, rfl, rfl, hm4, by rw [labelsPs_append, labelsPs_single, List.length_append]; omega, ?_, by simp; omega, .inr hd1⟩
          obtain ⟨d', rfl⟩ : ∃ d', d = d' + 2 := ⟨d - 2, by omega⟩
          exact g.snoc gp
        · exact ih _ _ trivial ⟨acc, some i, m3, rfl, rfl, hm3, hsum, g, by omega, .inr hd1⟩
    split
    · rename_i hd0
      refine pick_at wl2 (by decide) (by decide) fun i i0 i1 => ?_
      simp
      refine ⟨by omega, by omega, ?_⟩
      exact loop i i0 i1 (.inr (by omega))
    · exact ⟨[], by simp [seqOf, lstOf, put_same], by omega, fini [] (m - 1) (by omega) (by simp [labelsPs]) .nil⟩
end Law

namespace Law
open PySem PySem.Spec PyProof.Rows L2 Pu Sem
/-! marked parts -/
def sp__law_some_marks (k : Nat) : USp := sp3 fun d p o M R _ => ∃ (a b : Addr) (ls : List Str) (e : Nat) (i : Int), d = .ref a ∧ o = .int i ∧ 0 < i ∧ i < 1000000 ∧ Wl M a b ∧ isPart p = true ∧ pvU p = true ∧ nd p ≤ 10000 ∧ (∀ l ∈ labelsP p, LabW l) ∧ depU p < k ∧ ∀ q, Mkd p q → R q M
theorem pure__law_some_marks (k : Nat) (u v w : U) (M : Mp) (R : UK) (E : UXK) (h : sp__law_some_marks (k + 1) [u, v, w] M R E) : w__law_some_marks sp__law_pick sp__law_is_leaf (sp__law_some_marks k) E (endU R) [some u, some v, some w, none, none] M := by
  obtain ⟨a, b, ls, e, i, rfl, rfl, i0, i1, wl, hp, hpv, hsz, hlab, hd, q⟩ := h
  have zz : 1000000 ≤ sizeLine := by rw [sizeLine_eq]; decide
  have z2 : 2 ≤ sizeLine := by omega
  have sm : Sm v := ⟨hpv, by omega⟩
  have leaf := part_lab hp
  cases partC hp with
  | @kind l x hk ht =>
    have hl := hlab l (by rw [labelsP_kind]; simp)
    have hlf : leafU (.tup [.str l, .str x]) = true := hk
    have fin : ∀ m : Str, m = ("!" : Str) ∨ m = ("" : Str) → (l ++ m).length ≤ sizeLine ∧ Pu.Fin R (.tup [.str (l ++ m), .str x]) M := fun m hm => by
      obtain ⟨b1, b2, b3⟩ := mark_bare hl hm
      have := hl.len
      obtain ⟨c1, c2, c3⟩ := mark_same (l := l) (m := l ++ m) (by rw [b1, hl.bare])
      have hpx : okStr x = true := by simp [pvU, pvUs] at hpv; exact hpv.2
      refine ⟨by omega, .same (q _ ⟨?_, by simp [pvU, pvUs, b2, hpx], by rw [labelsP_kind]; simp only [nd, nds, List.length_singleton]; omega, by simp [depU, depUs], ?_⟩)⟩
      · unfold isPart
        rw [if_pos (by rw [c1]; exact hk), isTextOf, c3]
        exact ht
      · simp [isDoc, isPart, isTag, c1, c2, c3, hk, ht, isTextOf]
    have lens : ∀ m : Str, m = ("!" : Str) ∨ m = ("" : Str) → l.length + m.length ≤ sizeLine := fun m hm => by
      have := (fin m hm).1
      rwa [slen_list, app_list, List.length_append, ← slen_list, ← slen_list] at this
    simp [w__law_some_marks]
    refine pick_at wl i0 i1 fun j j0 j1 => ?_
    simp
    split
    · simp [z2]
      exact ⟨lens _ (.inl rfl), hp, sm, by rw [hlf]; simpa using (fin _ (.inl rfl)).2⟩
    · simp [z2]
      exact ⟨lens _ (.inr rfl), hp, sm, by rw [hlf]; simpa using (fin _ (.inr rfl)).2⟩
  | @tag l ps hk ht hh =>
    have hl := hlab l (by rw [labelsP_tag]; simp)
    have hlf : leafU (.tup [.str l, .tup ps]) = false := hk
    have hlen : ps.length ≤ sizeLine := by have := len_nds ps; simp only [nd, nds] at hsz; omega
    simp [pvU, pvUs] at hpv
    have fin : ∀ m : Str, m = ("!" : Str) ∨ m = ("" : Str) → (l ++ m).length ≤ sizeLine ∧ ∀ qs, Rel2 Mkd ps qs → Pu.Fin R (.tup [.str (l ++ m), .tup qs]) M := fun m hm => by
      obtain ⟨b1, b2, b3⟩ := mark_bare hl hm
      have := hl.len
      obtain ⟨c1, c2, c3⟩ := mark_same (l := l) (m := l ++ m) (by rw [b1, hl.bare])
      refine ⟨by omega, fun qs hqs => ?_⟩
      obtain ⟨m1, m2, m3, m4⟩ := mkds hqs
      have hpart : isPart (.tup [.str (l ++ m), .tup qs]) = true := by
        unfold isPart
        rw [if_neg (by rw [c1, hk]; decide), c2, ht]
        unfold isPartsT
        rw [isParts_all]
        simpa using m1
      refine .same (q _ ⟨hpart, by simp [pvU, pvUs, b2, m2], by rw [labelsP_tag]; simp only [nd, nds, List.length_cons]; omega, by simp only [depU, depUs, m4], ?_⟩)
      simp [isDoc, hpart, hp, isTag, c2]
    have lens : ∀ m : Str, m = ("!" : Str) ∨ m = ("" : Str) → l.length + m.length ≤ sizeLine := fun m hm => by
      have := (fin m hm).1
      rwa [slen_list, app_list, List.length_append, ← slen_list, ← slen_list] at this
    have comp : ∀ (m : Str) (j : Int) (x3 : Option U), m = ("!" : Str) ∨ m = ("" : Str) → CompG false Any (wName 4) wYes (wCall (sp__law_some_marks k) (fun _ _ _ => False) (wCons (wVar 0) (wCons (wVar 4) (wCons (wVar 2) wNil)))) [some (.ref a), some (.tup [.str l, .tup ps]), some (.int i), x3, none] ps M fun x M1 => ∃ ws, seqOf M1 x = some ws ∧ Pu.Fin R (.tup [.str (l ++ m), .tup ws]) M1 := fun m j x3 hm => by
      refine comp_rel (Q := Mkd) hlen (fun p hpm D acc R' fD qR => ?_) fun qs hqs => ⟨qs, rfl, (fin m hm).2 qs hqs⟩
      simp
      have h1 := nd_mem hpm
      have h2 := dep_mem hpm
      simp only [nd, nds] at hsz
      simp only [depU, depUs] at hd
      refine ⟨a, b, ls, e, i, rfl, rfl, i0, i1, wl.put fD, hh p hpm, pvU_mem hpv.2 hpm, by omega, fun l' hl' => hlab l' ?_, by omega, qR⟩
      rw [labelsP_tag]
      exact List.mem_cons_of_mem _ (labels_mem hpm hl')
    simp [w__law_some_marks]
    refine pick_at wl i0 i1 fun j j0 j1 => ?_
    simp
    split
    · simp [z2]
      refine ⟨lens _ (.inl rfl), hp, sm, ?_⟩
      rw [hlf]
      simp
      exact comp _ j _ (.inl rfl)
    · simp [z2]
      refine ⟨lens _ (.inr rfl), hp, sm, ?_⟩
      rw [hlf]
      simp
      exact comp _ j _ (.inr rfl)
end Law

namespace Law
open PySem PySem.Spec PyProof.Rows L2 Pu Sem
/-! good documents; what guards and exchanged parts are like -/
structure GD (u : U) : Prop where
  doc : isDoc u = true
  pv : pvU u = true
  sz : nd u ≤ 3000
  dep : depU u ≤ 20
theorem GD.part {u : U} (h : GD u) : isPart u = true := doc_part h.doc
theorem GD.sm {u : U} (h : GD u) : Sm u := ⟨h.pv, by have := h.sz; omega⟩
theorem GD.d40 {u : U} (h : GD u) : depU u < 40 := by have := h.dep; omega
theorem GD.ok {u : U} (h : GD u) : okU u = true := part_ok u h.part h.pv
def StrR (n : Nat) (r : List U) : Prop := (∀ x ∈ r, ∃ l : Str, x = .str l ∧ okStr l = true) ∧ nds r ≤ n
theorem lab_str {u : U} (hp : isPart u = true) (hv : pvU u = true) : ∃ l : Str, labU u = .str l ∧ okStr l = true ∧ nd (labU u) ≤ nd u := by
  obtain ⟨l, y, rfl, e⟩ := labU_part hp
  refine ⟨l, e, ?_, ?_⟩
  · simp [pvU, pvUs] at hv; exact hv.1
  · rw [e]; simp only [nd, nds]; omega
theorem labs_str : ∀ {ps : List U}, (∀ p ∈ ps, isPart p = true) → pvUs ps = true → StrR (nds ps) (ps.map labU)
  | [], _, _ => ⟨by simp, by simp [nds]⟩
  | p :: ps, h, hv => by
    simp [pvUs] at hv
    obtain ⟨l, e, ho, hn⟩ := lab_str (h p List.mem_cons_self) hv.1
    obtain ⟨h1, h2⟩ := labs_str (fun x hx => h x (List.mem_cons_of_mem _ hx)) hv.2
    refine ⟨fun x hx => ?_, ?_⟩
    · rw [List.map_cons] at hx
      rcases List.mem_cons.mp hx with e' | hx
      · subst e'; exact ⟨l, e, ho⟩
      · exact h1 x hx
    · rw [List.map_cons]; simp only [nds]; omega
theorem nds_take (n : Nat) : ∀ us : List U, nds (us.take n) ≤ nds us := by
  induction n with
  | zero => intro us; simp [nds]
  | succ n ih =>
    intro us
    cases us with
    | nil => simp [nds]
    | cons u us => have := ih us; simp only [List.take_succ_cons, nds]; omega
theorem pvUs_of {us : List U} (h : ∀ u ∈ us, pvU u = true) : pvUs us = true := by
  induction us with
  | nil => rfl
  | cons u us ih => simp only [pvUs, h u List.mem_cons_self, ih fun x hx => h x (List.mem_cons_of_mem _ hx), Bool.and_self]
theorem rows_str : ∀ {pl : List Nat} {u q : U}, isPart u = true → pvU u = true → atN u pl = some q → ∀ r ∈ rowsG u pl, StrR (nd u) r
  | [], _, _, _, _, _, r, hr => by simp [rowsG] at hr
  | k :: pl, u, q, hp, hv, hat, r, hr => by
    simp only [atN] at hat
    cases e : (partsP u)[k]? with
    | none => rw [e] at hat; cases hat
    | some p =>
      rw [e] at hat
      obtain ⟨l, ps, rfl, e2, _, hpp, _, _⟩ := step_of hp e
      have hps : ∀ p ∈ ps, isPart p = true := by
        cases partC hp with
        | tag _ _ h => exact h
      simp [pvU, pvUs] at hv
      rw [e2] at e
      have hm := List.mem_of_getElem? e
      have hn : nds ps ≤ nd (.tup [.str l, .tup ps]) := by simp only [nd, nds]; omega
      simp only [rowsG, e2, e, List.mem_cons] at hr
      rcases hr with hr | hr
      · subst hr
        obtain ⟨h1, h2⟩ := labs_str (ps := ps.take (k + 1)) (fun p h => hps p (List.mem_of_mem_take h)) (pvUs_of fun x hx => pvU_mem hv.2 (List.mem_of_mem_take hx))
        exact ⟨h1, Nat.le_trans h2 (Nat.le_trans (nds_take _ _) hn)⟩
      · obtain ⟨h1, h2⟩ := rows_str hpp (pvU_mem hv.2 hm) hat r hr
        have := nd_mem hm
        exact ⟨h1, by omega⟩
theorem strR_ok {n : Nat} {r : List U} (h : StrR n r) : pvUs r = true ∧ okUs r = true ∧ depUs r = 0 := by
  replace h := h.1
  induction r with
  | nil => simp [pvUs, okUs, depUs]
  | cons x r ih =>
    obtain ⟨l, rfl, ho⟩ := h x List.mem_cons_self
    obtain ⟨a, b, c⟩ := ih fun y hy => h y (List.mem_cons_of_mem _ hy)
    simp [pvUs, okUs, depUs, pvU, okU, depU, ho, a, b, c]
/-- a guard's part: a label, or a row of labels -/
structure GPt (n : Nat) (x : U) : Prop where
  pv : pvU x = true
  ok : okU x = true
  dep : depU x ≤ 1
  sz : nd x ≤ n + 1
theorem step_pt {n : Nat} {r : List U} (ow : Bool) (hne : r ≠ []) (h : StrR n r) : GPt n (stepG ow r) := by
  unfold stepG
  split
  · have hm : lastU r ∈ r := by
      unfold lastU
      rw [List.getLast?_eq_some_getLast hne]
      exact List.getLast_mem hne
    obtain ⟨l, e, ho⟩ := h.1 _ hm
    have h1 := nd_mem hm
    have h2 := h.2
    rw [e] at h1 ⊢
    exact ⟨by simpa [pvU] using ho, by simpa [okU] using ho, by simp [depU], by omega⟩
  · obtain ⟨a, b, c⟩ := strR_ok h
    exact ⟨by simpa [pvU] using a, by simpa [okU] using b, by simp [depU, c], by have := h.2; simp only [nd]; omega⟩
theorem pts_ok {n : Nat} : ∀ {xs : List U}, (∀ x ∈ xs, GPt n x) → pvUs xs = true ∧ okUs xs = true ∧ depUs xs ≤ 1 ∧ nds xs ≤ (n + 1) * xs.length
  | [], _ => by simp [pvUs, okUs, depUs, nds]
  | x :: xs, h => by
    have g := h x List.mem_cons_self
    obtain ⟨a, b, c, d⟩ := pts_ok fun y hy => h y (List.mem_cons_of_mem _ hy)
    have := g.dep; have := g.sz
    refine ⟨by simp [pvUs, g.pv, a], by simp [okUs, g.ok, b], by simp only [depUs]; omega, ?_⟩
    simp only [nds, List.length_cons, Nat.mul_succ]
    omega
theorem guard_ok {u q : U} {pl : List Nat} (s : Str) (hp : isPart u = true) (hv : pvU u = true) (hsz : nd u ≤ 7000) (hdep : depU u ≤ 39) (hs : Sm u) (hat : atN u pl = some q) : Sm (guardS s u pl q) ∧ okU (guardS s u pl q) = true ∧ depU (guardS s u pl q) ≤ 2 := by
  obtain ⟨sq, dq, nq⟩ := at_sm hp hs hat
  have hq := at_part hp hat
  obtain ⟨l1, e1, o1, n1⟩ := lab_str hq sq.1
  obtain ⟨l2, e2, o2, n2⟩ := lab_str hp hv
  unfold guardS
  split
  · rw [e1] at n1 ⊢
    simp only [nd] at n1
    refine ⟨⟨by simp [pvU, pvUs, o1], by simp only [nd, nds]; omega⟩, by simp [okU, okUs, o1], by simp [depU, depUs]⟩
  · have h0 : GPt 7000 (stepG (s == ("one-way" : Str)) [labU u]) := step_pt _ (by simp) ⟨fun x hx => ⟨l2, by simp at hx; rw [hx, e2], o2⟩, by simp only [nds]; omega⟩
    have h1 : ∀ x ∈ (rowsG u pl).map (stepG (s == ("one-way" : Str))), GPt 7000 x := fun x hx => by
      obtain ⟨r, hr, rfl⟩ := List.mem_map.mp hx
      obtain ⟨a, b⟩ := rows_str hp hv hat r hr
      exact step_pt _ (rows_ne hp hat r hr) ⟨a, by omega⟩
    obtain ⟨a, b, c, d⟩ := pts_ok (n := 7000) (xs := stepG (s == ("one-way" : Str)) [labU u] :: (rowsG u pl).map (stepG (s == ("one-way" : Str)))) fun x hx => by
      rcases List.mem_cons.mp hx with e | hx
      · subst e; exact h0
      · exact h1 x hx
    have hl := rowsG_len (pl := pl) (u := u)
    simp only [List.length_cons, List.length_map] at d
    refine ⟨⟨by simpa [pvU] using a, ?_⟩, by simpa [okU] using b, by simp only [depU]; omega⟩
    simp only [nd]
    have : (7000 + 1) * ((rowsG u pl).length + 1) ≤ (7000 + 1) * 41 := Nat.mul_le_mul_left _ (by omega)
    omega
theorem guard_sz {u q : U} {pl : List Nat} (s : Str) (hp : isPart u = true) (hv : pvU u = true) (hsz : nd u ≤ 7000) (hdep : depU u ≤ 39) (hs : Sm u) (hat : atN u pl = some q) : nd (guardS s u pl q) ≤ 900000 := by
  obtain ⟨sq, dq, nq⟩ := at_sm hp hs hat
  have hq := at_part hp hat
  obtain ⟨l1, e1, o1, n1⟩ := lab_str hq sq.1
  obtain ⟨l2, e2, o2, n2⟩ := lab_str hp hv
  unfold guardS
  split
  · simp only [nd, nds]; omega
  · have h0 : GPt 7000 (stepG (s == ("one-way" : Str)) [labU u]) := step_pt _ (by simp) ⟨fun x hx => ⟨l2, by simp at hx; rw [hx, e2], o2⟩, by simp only [nds]; omega⟩
    have h1 : ∀ x ∈ (rowsG u pl).map (stepG (s == ("one-way" : Str))), GPt 7000 x := fun x hx => by
      obtain ⟨r, hr, rfl⟩ := List.mem_map.mp hx
      obtain ⟨a, b⟩ := rows_str hp hv hat r hr
      exact step_pt _ (rows_ne hp hat r hr) ⟨a, by omega⟩
    obtain ⟨a, b, c, d⟩ := pts_ok (n := 7000) (xs := stepG (s == ("one-way" : Str)) [labU u] :: (rowsG u pl).map (stepG (s == ("one-way" : Str)))) fun x hx => by
      rcases List.mem_cons.mp hx with e | hx
      · subst e; exact h0
      · exact h1 x hx
    have hl := rowsG_len (pl := pl) (u := u)
    simp only [List.length_cons, List.length_map] at d
    simp only [nd]
    have : (7000 + 1) * ((rowsG u pl).length + 1) ≤ (7000 + 1) * 41 := Nat.mul_le_mul_left _ (by omega)
    omega
theorem putP_ok : ∀ {pl : List Nat} {u q x : U}, isPart u = true → pvU u = true → atN u pl = some q → isPart x = true → pvU x = true → isPart (putP u pl x) = true ∧ pvU (putP u pl x) = true ∧ nd (putP u pl x) ≤ nd u + nd x ∧ depU (putP u pl x) ≤ depU u + depU x
  | [], u, q, x, _, _, _, h1, h2 => ⟨h1, h2, by simp only [putP]; omega, by simp only [putP]; omega⟩
  | k :: pl, u, q, x, hp, hv, hat, h1, h2 => by
    simp only [atN] at hat
    cases e : (partsP u)[k]? with
    | none => rw [e] at hat; cases hat
    | some p =>
      rw [e] at hat
      obtain ⟨l, ps, rfl, e2, _, hpp, hk, ht⟩ := step_of hp e
      have hps : ∀ p ∈ ps, isPart p = true := by
        cases partC hp with
        | tag _ _ h => exact h
      simp [pvU, pvUs] at hv
      rw [e2] at e
      have hm := List.mem_of_getElem? e
      obtain ⟨g1, g2, g3, g4⟩ := putP_ok (x := x) hpp (pvU_mem hv.2 hm) hat h1 h2
      have hkl : k < ps.length := (List.getElem?_eq_some_iff.mp e).1
      have hsplit : ps = ps.take k ++ (p :: ps.drop (k + 1)) := by
        have := List.drop_eq_getElem_cons hkl
        rw [(List.getElem?_eq_some_iff.mp e).2] at this
        rw [← this, List.take_append_drop]
      have elb : labU (.tup [.str l, .tup ps]) = .str l := rfl
      simp only [putP, e2, e, elb]
      generalize ps.take k = A at hsplit
      generalize ps.drop (k + 1) = B at hsplit
      subst hsplit
      rw [pvUs_append] at hv
      simp [pvUs] at hv
      refine ⟨?_, ?_, ?_, ?_⟩
      · unfold isPart
        rw [if_neg (by rw [hk]; decide), ht]
        unfold isPartsT
        rw [isParts_all]
        simp only [Bool.true_and, List.all_append, Bool.and_eq_true, List.all_eq_true]
        exact ⟨⟨fun y hy => hps y (by simp [hy]), fun y hy => by simp at hy; subst hy; exact g1⟩, fun y hy => hps y (by simp [hy])⟩
      · simp only [pvU, pvUs, pvUs_append, g2, hv, Bool.and_self]
      · simp only [nd, nds, nds_append]; omega
      · simp only [depU, depUs, depUs_append]; omega
end Law

namespace Law
open PySem PySem.Spec PyProof.Rows L2 Pu Sem
theorem GD.at_ {u q : U} {pl : List Nat} (h : GD u) (hat : atN u pl = some q) : isPart q = true ∧ pvU q = true ∧ Sm q ∧ depU q ≤ 20 ∧ pl.length ≤ 20 ∧ nd q ≤ 3000 := by
  obtain ⟨a, b, c⟩ := at_sm h.part h.sm hat
  have := h.dep; have := h.sz
  exact ⟨at_part h.part hat, a.1, a, by omega, by omega, by omega⟩
theorem GD.guard {u q : U} {pl : List Nat} (h : GD u) (s : Str) (hat : atN u pl = some q) : Sm (guardS s u pl q) ∧ okU (guardS s u pl q) = true ∧ depU (guardS s u pl q) ≤ 2 :=
  guard_ok s h.part h.pv (by have := h.sz; omega) (by have := h.dep; omega) h.sm hat
theorem plU_ok {pl : List Nat} (h : pl.length ≤ 1000) : Sm (plU pl) ∧ depU (plU pl) ≤ 1 ∧ nd (plU pl) ≤ 1001 ∧ okU (plU pl) = true := by
  have key : ∀ pl : List Nat, pvUs (pl.map fun (k : Nat) => U.int (k : Int)) = true ∧ nds (pl.map fun (k : Nat) => U.int (k : Int)) = pl.length ∧ depUs (pl.map fun (k : Nat) => U.int (k : Int)) = 0 ∧ okUs (pl.map fun (k : Nat) => U.int (k : Int)) = true := fun pl => by
    induction pl with
    | nil => simp [pvUs, nds, depUs, okUs]
    | cons k pl ih => obtain ⟨a, b, c, d⟩ := ih; simp [pvUs, nds, depUs, okUs, pvU, nd, depU, okU, a, b, c, d]; omega
  obtain ⟨a, b, c, d⟩ := key pl
  unfold plU
  refine ⟨⟨by simpa [pvU] using a, by simp only [nd]; omega⟩, by simp only [depU]; omega, by simp only [nd]; omega, by simpa [okU] using d⟩
theorem sm_one {u : U} (h : Sm u) (h2 : nd u ≤ 900000) : Sm (.lst [u]) := ⟨by simp [pvU, pvUs, h.1], by simp only [nd, nds]; omega⟩
theorem plU_inj {a b : List Nat} (h : plU a = plU b) : a = b := by
  have h2 : a.map (fun (k : Nat) => U.int (k : Int)) = b.map (fun (k : Nat) => U.int (k : Int)) := by simpa [plU] using h
  exact List.map_inj_right (by intro x y e; simp at e; omega) |>.mp h2
theorem gk_sm {g : Str} (h : isGK (.str g) = true) : Sm (.str g) := by
  simp [isGK] at h
  rcases h with e | e | e <;> subst e <;> exact ⟨by decide +kernel, by decide +kernel⟩
def sp__law_document_right : USp := sp3 fun d u v M R _ => ∃ a b : Addr, d = .ref a ∧ Wl M a b ∧ GD u ∧ GD v ∧ R (.bl true) M
theorem pure__law_document_right (u v w : U) (M : Mp) (R : UK) (E : UXK) (h : sp__law_document_right [u, v, w] M R E) : w__law_document_right (sp__law_places 40) (sp__law_same 50) sp__law_guard sp_guard_of sp__law_one sp__law_at sp__law_is_leaf (sp__law_put 60) sp__law_asked E (endU R) [some u, some v, some w, none, none, none, none, none, none, none, none] M := by
  obtain ⟨a, b, rfl, wl, gv, gw, q⟩ := h
  have zz : 1000000 ≤ sizeLine := by rw [sizeLine_eq]; decide
  have z1 : 1 ≤ sizeLine := by omega
  have z0 : 0 ≤ sizeLine := by omega
  have z3 : 3 ≤ sizeLine := by omega
  have dv := gv.dep; have dw := gw.dep
  have sv := gv.sz; have sw := gw.sz
  simp [w__law_document_right, z0]
  refine ⟨[], rfl, gv.part, gv.sm, by omega, by omega, by simp; omega, fun ws hne hl hws => ?_⟩
  refine ⟨[], rfl, gw.part, gw.sm, by omega, by omega, by simp; omega, fun xs xne xl hxs => ?_⟩
  refine ⟨_, _, ⟨rfl, rfl⟩, ?_⟩
  refine loop_K (fun rest s m => ∃ x3 x6 x7 x8 x9 x10 : Option U, s = [some (.ref a), some v, some w, x3, some (.lst (ws.map plU)), some (.lst (xs.map plU)), x6, x7, x8, x9, x10] ∧ M = m ∧ ∀ r ∈ rest, r ∈ ws.map plU) _ _ _ ⟨none, none, none, none, none, none, rfl, rfl, fun _ h => h⟩ ?_ ?_
  · rintro s m ⟨x3, x6, x7, x8, x9, x10, rfl, rfl, _⟩
    simp
    exact .same q
  · rintro pl rest s m K ⟨x3, x6, x7, x8, x9, x10, rfl, rfl, hr⟩ ih
    obtain ⟨pl, hpl, rfl⟩ := List.mem_map.mp (hr pl List.mem_cons_self)
    obtain ⟨r, q', e, hat⟩ := hws pl hpl
    simp at e
    subst e
    obtain ⟨hq1, hq2, hq3, hq4, hq5, hq6⟩ := gv.at_ hat
    obtain ⟨t1, t2, t3, t4⟩ := plU_ok (pl := pl) (by omega)
    have hpl2 := at_hasPl hat
    simp only [wName_, wSeq_, wFor_, wIt_, wTup_, wCons_, wC_, wNil_, wItU_t]
    refine ⟨z3, ?_⟩
    refine loop_K (fun rest s m => ∃ x6 : Option U, s = [some (.ref a), some v, some w, some (plU pl), some (.lst (ws.map plU)), some (.lst (xs.map plU)), x6, x7, x8, x9, x10] ∧ M = m ∧ ∀ r ∈ rest, ∃ g : Str, r = .str g ∧ isGK (.str g) = true) _ _ _ ⟨x6, rfl, rfl, ?_⟩ ?_ ?_
    · intro r hr
      simp at hr
      rcases hr with e | e | e <;> subst e
      · exact ⟨"flat", rfl, by decide +kernel⟩
      · exact ⟨"one-way", rfl, by decide +kernel⟩
      · exact ⟨"onward", rfl, by decide +kernel⟩
    · rintro s m ⟨x6, rfl, rfl, _⟩
      simp only [wName_, wSeq_, wFor_, wRng1_, wCons_, wC_, wNil_]
      refine ⟨2, rfl, by decide, by decide, ?_⟩
      refine loop_K (fun rest s m => ∃ x7 x8 x9 x10 : Option U, s = [some (.ref a), some v, some w, some (plU pl), some (.lst (ws.map plU)), some (.lst (xs.map plU)), x6, x7, x8, x9, x10] ∧ M = m) _ _ _ ⟨x7, x8, x9, x10, rfl, rfl⟩ ?_ ?_
      · rintro s m ⟨x7, x8, x9, x10, rfl, rfl⟩
        exact ih _ _ trivial ⟨_, _, _, _, _, _, rfl, rfl, fun r h => hr r (List.mem_cons_of_mem _ h)⟩
      · rintro x7' rest' s m K' ⟨x7, x8, x9, x10, rfl, rfl⟩ ih'
        simp [z0, z1]
        refine one_l wl (by simpa using xne) (by simp; omega) fun x hx => ?_
        obtain ⟨pl', hpl', rfl⟩ := List.mem_map.mp hx
        obtain ⟨r, qw, e, hat'⟩ := hxs pl' hpl'
        simp at e
        subst e
        obtain ⟨hw1, hw2, hw3, hw4, hw5, hw6⟩ := gw.at_ hat'
        obtain ⟨w1, w2, w3, w4⟩ := plU_ok (pl := pl') (by omega)
        have hpl3 := at_hasPl hat'
        refine ⟨pl', qw, rfl, gw.part, hat', ?_⟩
        obtain ⟨p1, p2, p3, p4⟩ := putP_ok (x := qw) gv.part gv.pv hat hw1 hw2
        have hok := part_ok _ p1 p2
        have ask : ∀ (R' : UK) (E' : UXK), (if pl = [] ∧ leafU qw = true then R' (.str "exchange") M else R' (.lst [putP v pl qw]) M) → sp__law_asked [.int 1, v, plU pl, w, plU pl'] M R' E' := fun R' E' hq => by
          refine ⟨1, rfl, gv.sm, gv.d40, t1, fun _ _ => ⟨fun z => by omega, fun _ => ⟨gw.sm, gw.d40, w1⟩⟩, ?_⟩
          rw [if_pos gv.doc, if_pos hpl2, if_neg (by decide), if_pos gw.doc, if_pos hpl3]
          intro a1 b1 a2 b2 e1 e2 e3 e4
          rw [← plU_inj e1] at e3 ⊢
          rw [← plU_inj e2] at e4
          rw [hat] at e3
          rw [hat'] at e4
          cases e3
          cases e4
          exact hq
        have nx := fun x9 x10 => ih' [some (.ref a), some v, some w, some (plU pl), some (.lst (ws.map plU)), some (.lst (xs.map plU)), x6, some x7', some (plU pl'), x9, x10] M trivial ⟨_, _, _, _, rfl, rfl⟩
        have exch : pl = [] ∧ leafU qw = true → sp__law_asked [.int 1, v, plU pl, w, plU pl'] M (fun x_1 M1 =>
                        sp__law_same 50 [x_1, U.str (Str.ofString "exchange")] M1
                          (fun u M1 =>
                            truK M1 u fun k =>
                              if k = true then
                                K'
                                  [some (U.ref a), some v, some w, some (plU pl), some (U.lst (List.map plU ws)),
                                    some (U.lst (List.map plU xs)), x6, some x7', some (plU pl'), some qw,
                                    some (U.str (Str.ofString "exchange"))]
                                  M1
                              else Pu.Fin R (U.bl false) M1)
                          fun ux M2 => E ux M2) fun ux M2 => E ux M2 := fun hc => ask _ _ (by
          rw [if_pos hc]
          refine ⟨⟨by decide +kernel, by decide +kernel⟩, ⟨by decide +kernel, by decide +kernel⟩, by decide +kernel, by decide +kernel, ?_⟩
          rw [same_refl _ (by decide +kernel)]
          simp
          exact nx _ _)
        have put_ok : ¬ (pl = [] ∧ leafU qw = true) → sp__law_put 60 [v, plU pl, qw] M
                      (fun x_1 M1 =>
                        sp__law_asked [U.int 1, v, plU pl, w, plU pl'] M1
                          (fun x_2 M1 =>
                            sp__law_same 50 [x_2, U.lst [x_1]] M1
                              (fun u M1 =>
                                truK M1 u fun k =>
                                  if k = true then
                                    K'
                                      [some (U.ref a), some v, some w, some (plU pl), some (U.lst (List.map plU ws)),
                                        some (U.lst (List.map plU xs)), x6, some x7', some (plU pl'), some qw,
                                        some (U.lst [x_1])]
                                      M1
                                  else Pu.Fin R (U.bl false) M1)
                              fun ux M2 => E ux M2)
                          fun ux M2 => E ux M2)
                      fun ux M2 => E ux M2 := fun hc => by
          refine ⟨pl, q', rfl, gv.part, gv.sm, by omega, by omega, hat, ?_⟩
          refine ask _ _ ?_
          rw [if_neg hc]
          have hsm : Sm (.lst [putP v pl qw]) := sm_one ⟨p2, by omega⟩ (by omega)
          have ho : okU (.lst [putP v pl qw]) = true := by simp [okU, okUs, hok]
          refine ⟨hsm, hsm, ho, by simp only [depU, depUs]; omega, ?_⟩
          rw [same_refl _ ho]
          simp
          exact nx _ _
        show uEq (.tup _) (U.tup []) M _
        rw [uEq_t0]
        cases pl with
        | nil =>
          simp
          refine ⟨hw1, hw3, ?_⟩
          cases hlf : leafU qw with
          | true => simp; exact exch ⟨rfl, hlf⟩
          | false => simp; exact put_ok (by simp [hlf])
        | cons k pl =>
          simp
          exact put_ok (by simp)
    · rintro x6' rest' s m K' ⟨x6, rfl, rfl, hk⟩ ih'
      obtain ⟨g, rfl, hg⟩ := hk x6' List.mem_cons_self
      simp
      refine ⟨gv.sm, gv.d40, t1, fun _ _ => gk_sm hg, ?_⟩
      rw [if_pos gv.doc, if_pos hpl2, if_pos hg]
      intro pl2 q2 s2 e1 e2 e3
      obtain ⟨g1, g2, g3⟩ := gv.guard s2 e3
      refine ⟨pl2, q2, s2, e1, e2, hg, gv.part, gv.sm, by have := (gv.at_ e3).2.2.2.2.1; omega, e3, ?_⟩
      refine ⟨g1, g1, g2, by omega, ?_⟩
      rw [same_refl _ g2]
      simp
      exact ih' _ _ trivial ⟨_, rfl, rfl, fun r h => hk r (List.mem_cons_of_mem _ h)⟩
end Law

namespace Law
open PySem PySem.Spec PyProof.Rows L2 Pu Sem
def sp__law_errors_right : USp := sp3 fun d u v M R _ => ∃ a b : Addr, d = .ref a ∧ Wl M a b ∧ GD u ∧ GD v ∧ R (.bl true) M
theorem pure__law_errors_right (u v w : U) (M : Mp) (R : UK) (E : UXK) (h : sp__law_errors_right [u, v, w] M R E) : w__law_errors_right sp__law_one (sp__law_places 40) (sp__law_bent 50) sp__law_pick sp__law_is_document sp__law_is_place sp__law_asked (sp__law_same 50) sp__law_guard E (endU R) [some u, some v, some w, none, none, none, none, none, none] M := by
  obtain ⟨a, b, rfl, wl, gv, gw, q⟩ := h
  have zz : 1000000 ≤ sizeLine := by rw [sizeLine_eq]; decide
  have z1 : 1 ≤ sizeLine := by omega
  have z0 : 0 ≤ sizeLine := by omega
  have z3 : 3 ≤ sizeLine := by omega
  have dv := gv.dep; have dw := gw.dep
  have sv := gv.sz; have sw := gw.sz
  unfold w__law_errors_right
  refine seq_gen fun D1 nx1 _ _ _ => ?_
  simp [z0]
  refine ⟨[], rfl, gv.part, gv.sm, by omega, by omega, by simp; omega, fun ws hne hl hws => ?_⟩
  refine one_l wl (by simpa using hne) (by simp; omega) fun x hx => ?_
  obtain ⟨pl, hpl, rfl⟩ := List.mem_map.mp hx
  obtain ⟨r, q1, e, hat⟩ := hws pl hpl
  simp at e
  subst e
  obtain ⟨hq1, hq2, hq3, hq4, hq5, hq6⟩ := gv.at_ hat
  obtain ⟨t1, t2, t3, t4⟩ := plU_ok (pl := pl) (by omega)
  have hpv := at_hasPl hat
  refine ⟨[], rfl, gw.part, gw.sm, by omega, by omega, by simp; omega, fun xs xne xl hxs => ?_⟩
  refine one_l wl (by simpa using xne) (by simp; omega) fun x hx => ?_
  obtain ⟨pl', hpl', rfl⟩ := List.mem_map.mp hx
  obtain ⟨r, q2, e, hat'⟩ := hxs pl' hpl'
  simp at e
  subst e
  obtain ⟨hw1, hw2, hw3, hw4, hw5, hw6⟩ := gw.at_ hat'
  obtain ⟨w1, w2, w3, w4⟩ := plU_ok (pl := pl') (by omega)
  have hpw := at_hasPl hat'
  refine ⟨_, _, ⟨rfl, rfl⟩, nx1 _ _ ?_⟩
  refine seq_gen fun D2 nx2 _ _ _ => ?_
  simp
  refine ⟨a, b, rfl, wl, gv.pv, by omega, by omega, by omega, fun bad hb => nx2 _ _ ?_⟩
  have hbs := hb.sz
  have hbd := hb.dep
  have sb : Sm bad := ⟨hb.pv, by omega⟩
  refine seq_gen fun D3 nx3 _ _ _ => ?_
  simp [z1]
  refine pick_at wl (by decide) (by decide) fun i i0 i1 => ?_
  rw [show plU pl = .tup (pl.map fun (k : Nat) => U.int (k : Int)) from rfl]
  refine ⟨by simp; omega, ?_⟩
  have e3 : U.tup (pl.map (fun (k : Nat) => U.int (k : Int)) ++ [.int i]) = plU (pl ++ [i.toNat]) := by
    unfold plU
    rw [List.map_append]
    simp
    omega
  obtain ⟨y1, y2, y3, y4⟩ := plU_ok (pl := pl ++ [i.toNat]) (by simp; omega)
  rw [e3]
  refine ⟨a, b, rfl, wl, y1.1, by omega, by omega, by omega, fun wrong hw => nx3 _ _ ?_⟩
  have hws' := hw.sz
  have hwd := hw.dep
  have sw' : Sm wrong := ⟨hw.pv, by omega⟩
  rw [← show plU pl = .tup (pl.map fun (k : Nat) => U.int (k : Int)) from rfl]
  refine seq_gen fun D4 nx4 _ _ _ => ?_
  simp
  refine one_l wl (by simp) (by simp) fun kd hkd => nx4 _ _ ?_
  refine seq_gen fun D5 nx5 _ _ _ => ?_
  have tail : ∀ f, (f = .str "document" ∧ isDoc bad = false) ∨ (f = .str "place" ∧ isDoc bad = true ∧ hasPl bad (plU pl) = false) ∨ (f = .non ∧ isDoc bad = true ∧ hasPl bad (plU pl) = true) →
      D5.nx [some (U.ref a), some v, some w, some bad, some wrong, some kd, some f, some (plU pl), some (plU pl')] M := fun f hf => by
    refine nx5 _ _ ?_
    refine seq_gen fun D6 nx6 rt6 _ _ => ?_
    have go6 : D6.nx [some (U.ref a), some v, some w, some bad, some wrong, some kd, some f, some (plU pl), some (plU pl')] M := by
      refine nx6 _ _ ?_
      refine seq_gen fun D7 nx7 rt7 _ _ => ?_
      have go7 : D7.nx [some (U.ref a), some v, some w, some bad, some wrong, some kd, some f, some (plU pl), some (plU pl')] M := by
        refine nx7 _ _ ?_
        refine seq_gen fun D8 nx8 rt8 _ _ => ?_
        have go8 : D8.nx [some (U.ref a), some v, some w, some bad, some wrong, some kd, some f, some (plU pl), some (plU pl')] M := by
          refine nx8 _ _ ?_
          refine seq_gen fun D9 nx9 rt9 _ _ => ?_
          have go9 : D9.nx [some (U.ref a), some v, some w, some bad, some wrong, some kd, some f, some (plU pl), some (plU pl')] M := by
            refine nx9 _ _ ?_
            simp
            refine one_l wl (by simp) (by simp) fun c hc => ?_
            have odd : Sm c ∧ depU c < 40 ∧ isDoc c = false := by
              simp only [List.mem_cons, List.not_mem_nil, or_false] at hc
              rcases hc with e | e | e | e | e <;> subst e <;> exact ⟨⟨by decide +kernel, by decide +kernel⟩, by decide +kernel, by decide +kernel⟩
            obtain ⟨c1, c2, c3⟩ := odd
            refine ⟨1, rfl, gv.sm, gv.d40, t1, fun _ _ => ⟨fun z => by omega, fun _ => ⟨c1, c2, by decide +kernel, by decide +kernel⟩⟩, ?_⟩
            rw [if_pos gv.doc, if_pos hpv, if_neg (by decide), if_neg (by rw [c3]; decide)]
            simp
            exact .same q
          simp
          have gd : ∀ (k : U) (R' : UK) (E' : UXK), Sm k → isGK k = false → R' (.str "guard") M → sp__law_asked [U.int 0, v, plU pl, k, U.non] M R' E' := fun k R' E' hk1 hk2 hq => by
            refine ⟨0, rfl, gv.sm, gv.d40, t1, fun _ _ => ⟨fun _ => hk1, fun z => absurd rfl z⟩, ?_⟩
            rw [if_pos gv.doc, if_pos hpv, if_pos rfl, if_neg (by rw [hk2]; decide)]
            exact hq
          simp only [List.mem_cons, List.not_mem_nil, or_false] at hkd
          rcases hkd with e | e | e | e | e | e <;> subst e
          · simp; exact go9
          · simp; exact gd _ _ _ ⟨by decide +kernel, by decide +kernel⟩ (by decide +kernel) (by simp; exact go9)
          · simp [uNe, rs, EqOk, Pu.eqU]; exact gd _ _ _ ⟨by decide +kernel, by decide +kernel⟩ (by decide +kernel) (by simp; exact go9)
          · simp [uNe, rs, EqOk, Pu.eqU]; exact gd _ _ _ ⟨by decide +kernel, by decide +kernel⟩ (by decide +kernel) (by simp; exact go9)
          · refine ⟨(⟨⟨by decide +kernel, by decide +kernel⟩, ⟨by decide +kernel, by decide +kernel⟩⟩ : Fit (.tup [.str "flat"]) ∧ Fit (.str "onward")), ?_⟩
            simp [rs, Pu.eqU]
            exact gd _ _ _ ⟨by decide +kernel, by decide +kernel⟩ (by decide +kernel) (by simp; exact go9)
          · simp; exact gd _ _ _ ⟨by decide +kernel, by decide +kernel⟩ (by decide +kernel) (by simp; exact go9)
        simp
        refine ⟨gv.part, gv.sm, sw', ?_⟩
        cases hpw' : hasPl v wrong with
        | true => simp; exact go8
        | false =>
          simp
          refine ⟨0, rfl, gv.sm, gv.d40, sw', fun _ z => (by rw [hpw'] at z; cases z), ?_⟩
          rw [if_pos gv.doc, if_neg (by rw [hpw']; decide)]
          simp
          refine ⟨1, rfl, gw.sm, gw.d40, w1, fun _ _ => ⟨fun z => by omega, fun _ => ⟨gv.sm, gv.d40, sw'⟩⟩, ?_⟩
          rw [if_pos gw.doc, if_pos hpw, if_neg (by decide), if_pos gv.doc, if_neg (by rw [hpw']; decide)]
          simp
          exact go8
      simp
      rcases hf with ⟨e, hd⟩ | ⟨e, hd, hp⟩ | ⟨e, hd, hp⟩ <;> subst e
      · simp [isNonU]; exact go7
      · simp [isNonU]; exact go7
      · simp [isNonU]
        refine ⟨0, rfl, sb, by omega, t1, fun _ _ => ⟨fun _ => ⟨by decide +kernel, by decide +kernel⟩, fun z => absurd rfl z⟩, ?_⟩
        rw [if_pos hd, if_pos hp, if_pos rfl, if_pos (by decide +kernel)]
        intro a1 b1 s1 e1 e2 e3
        have hb2 := hasPl_at hp
        obtain ⟨g1, g2, g3⟩ := guard_ok s1 (doc_part hd) hb.pv (by omega) (by omega) sb e3
        refine ⟨a1, b1, s1, e1, e2, by decide +kernel, doc_part hd, sb, by have := (at_sm (doc_part hd) sb e3).2.1; omega, e3, z1, ?_⟩
        have nsz := g1.2
        have ho : okU (.lst [guardS s1 bad a1 b1]) = true := by simp [okU, okUs, g2]
        have hsm : Sm (.lst [guardS s1 bad a1 b1]) := sm_one g1 (guard_sz s1 (doc_part hd) hb.pv (by omega) (by omega) sb e3)
        refine ⟨hsm, hsm, ho, by simp only [depU, depUs]; omega, ?_⟩
        rw [same_refl _ ho]
        simp
        exact go7
    simp
    rcases hf with ⟨e, hd⟩ | ⟨e, hd, hp⟩ | ⟨e, hd, hp⟩ <;> subst e
    · simp [isNonU]
      have ask : ∀ (i : Int) (c : U) (R' : UK) (E' : UXK), R' (.str "document") M → sp__law_asked [.int i, bad, plU pl, c, .non] M R' E' := fun i c R' E' hq => by
        refine ⟨i, rfl, sb, by omega, t1, fun z _ => (by rw [hd] at z; cases z), ?_⟩
        rw [if_neg (by rw [hd]; decide)]
        exact hq
      refine ask _ _ _ _ ?_
      simp
      refine ask _ _ _ _ ?_
      simp
      exact go6
    · simp [isNonU]
      have ask : ∀ (i : Int) (c : U) (R' : UK) (E' : UXK), R' (.str "place") M → sp__law_asked [.int i, bad, plU pl, c, .non] M R' E' := fun i c R' E' hq => by
        refine ⟨i, rfl, sb, by omega, t1, fun _ z => (by rw [hp] at z; cases z), ?_⟩
        rw [if_pos hd, if_neg (by rw [hp]; decide)]
        exact hq
      refine ask _ _ _ _ ?_
      simp
      refine ask _ _ _ _ ?_
      simp
      exact go6
    · simp [isNonU]; exact go6
  simp
  refine ⟨sb, by omega, ?_⟩
  cases hd : isDoc bad with
  | false => simp; exact tail _ (.inl ⟨rfl, hd⟩)
  | true =>
    simp
    refine ⟨doc_part hd, sb, t1, ?_⟩
    cases hp : hasPl bad (plU pl) with
    | false => simp; exact tail _ (.inr (.inl ⟨rfl, hd, hp⟩))
    | true => simp; exact tail _ (.inr (.inr ⟨rfl, hd, hp⟩))
end Law

namespace Law
open PySem PySem.Spec PyProof.Rows L2 Pu Sem
theorem pure_law (u : U) (M : Mp) (R : UK) (E : UXK) (h : spLaw [u] M R E) : w_law sp__law_well sp__law_labels sp__law_one (sp__law_some_marks 40) sp__law_document sp__law_document_right sp__law_errors_right E (endU R) [some u, none, none, none, none, none, none, none] M := by
  obtain ⟨ns, e, hl, q⟩ := h
  cases e
  have zz : 1000000 ≤ sizeLine := by rw [sizeLine_eq]; decide
  have z3 : 3 ≤ sizeLine := by omega
  unfold w_law
  refine seq_gen fun D1 nx1 _ _ _ => ?_
  simp
  refine ⟨ns, rfl, hl, fun a b fa fb wl => nx1 _ _ ?_⟩
  have hab := wl.ne
  have fw : Fewer M (put (put M b (.hid (cellsP 63))) a (.hid (wellP b))) := .put2 fb fa
  generalize put (put M b (.hid (cellsP 63))) a (.hid (wellP b)) = M1 at wl fw
  refine seq_gen fun D2 nx2 _ _ _ => ?_
  simp only [wFor_, wRng1_, wCons_, wC_, wNil_]
  refine ⟨3, rfl, by decide, by decide, ?_⟩
  refine loop_K (fun rest s m => ∃ x2 x3 x4 x5 x6 x7 : Option U, s = [some (.lst (ns.map .int)), some (.ref a), x2, x3, x4, x5, x6, x7] ∧ M1 = m) _ _ _ ⟨_, _, _, _, _, _, rfl, rfl⟩ ?_ ?_
  · rintro s m ⟨x2, x3, x4, x5, x6, x7, rfl, rfl⟩
    refine nx2 _ _ ?_
    simp
    exact .less fw q
  · rintro t rest s m K ⟨x2, x3, x4, x5, x6, x7, rfl, rfl⟩ ih
    simp only [wName_]
    refine seq_gen fun D3 nx3 _ _ _ => ?_
    simp
    refine ⟨a, b, 1, 3, 2, rfl, rfl, rfl, rfl, by decide, by decide, by decide, by decide, wl, fun ls L hll => nx3 _ _ ?_⟩
    refine seq_gen fun D4 nx4 _ _ _ => ?_
    simp [z3]
    refine one_l wl (by simp) (by simp) fun od hod => nx4 _ _ ?_
    obtain ⟨o, rfl, o0, o1⟩ : ∃ o : Int, od = .int o ∧ 0 < o ∧ o < 1000000 := by
      simp at hod
      rcases hod with e | e | e <;> subst e <;> exact ⟨_, rfl, by decide, by decide⟩
    have doc : ∀ (R' : UK) (E' : UXK), (∀ p, GD p → R' p M1) → ∀ p, Gp ls p 5 → isDoc p = true → ((labelsP p).length : Int) ≤ 14 → sp__law_some_marks 40 [.ref a, p, .int o] M1 R' E' := fun R' E' hq p g hd hn => by
      have := g.sz; have := g.dep
      refine ⟨a, b, ls, 5, o, rfl, rfl, o0, o1, wl, g.part, g.pv, by omega, fun l hl => L.all l (g.lab l hl), by omega, fun p' m => hq p' ⟨by rw [m.doc]; exact hd, m.pv, by have := m.sz; omega, by rw [m.dep]; omega⟩⟩
    refine seq_gen fun D5 nx5 _ _ _ => ?_
    simp
    have hl40 : ls.length ≤ 40 := by omega
    refine ⟨a, b, 14, ls, 6, rfl, rfl, rfl, rfl, by decide, L.all, L.tag, hl40, wl, by decide, by decide, fun p g hd hn => ?_⟩
    refine doc _ _ (fun p gp => ?_) p g hd hn
    refine ⟨a, b, 14, ls, 6, rfl, rfl, rfl, rfl, by decide, L.all, L.tag, hl40, wl, by decide, by decide, fun p2 g2 hd2 hn2 => ?_⟩
    refine doc _ _ (fun p2 gp2 => ?_) p2 g2 hd2 hn2
    refine ⟨_, _, ⟨rfl, rfl⟩, nx5 _ _ ?_⟩
    refine seq_gen fun D6 nx6 _ _ _ => ?_
    simp
    refine ⟨a, b, rfl, wl, gp, gp2, ?_⟩
    simp
    refine ⟨a, b, rfl, wl, gp, gp, ?_⟩
    simp
    refine nx6 _ _ ?_
    refine seq_gen fun D7 nx7 _ _ _ => ?_
    simp only [wFor_, wRng1_, wCons_, wC_, wNil_]
    refine ⟨3, rfl, by decide, by decide, ?_⟩
    refine loop_K (fun rest s m => ∃ x5 : Option U, s = [some (.lst (ns.map .int)), some (.ref a), some t, some (.tup (ls.map .str)), some (.int o), x5, some p, some p2] ∧ M1 = m) _ _ _ ⟨_, rfl, rfl⟩ ?_ ?_
    · rintro s m ⟨x5, rfl, rfl⟩
      refine nx7 _ _ ?_
      simp
      exact ih _ _ trivial ⟨_, _, _, _, _, _, rfl, rfl⟩
    · rintro t' rest' s m K' ⟨x5, rfl, rfl⟩ ih'
      simp
      refine ⟨a, b, rfl, wl, gp, gp2, ?_⟩
      simp
      exact ih' _ _ trivial ⟨_, rfl, rfl⟩
end Law

namespace Law
open PySem PySem.Spec PyProof.Rows L2 Pu Sem
theorem sp1_us {f} {us : List U} {M : Mp} {R : UK} {E : UXK} (h : sp1 f us M R E) : ∃ a, us = [a] := match us, h with
  | [a], _ => ⟨a, rfl⟩
theorem sp2_us {f} {us : List U} {M : Mp} {R : UK} {E : UXK} (h : sp2 f us M R E) : ∃ a b, us = [a, b] := match us, h with
  | [a, b], _ => ⟨a, b, rfl⟩
theorem sp3_us {f} {us : List U} {M : Mp} {R : UK} {E : UXK} (h : sp3 f us M R E) : ∃ a b c, us = [a, b, c] := match us, h with
  | [a, b, c], _ => ⟨a, b, c, rfl⟩
theorem sp4_us {f} {us : List U} {M : Mp} {R : UK} {E : UXK} (h : sp4 f us M R E) : ∃ a b c d, us = [a, b, c, d] := match us, h with
  | [a, b, c, d], _ => ⟨a, b, c, d, rfl⟩
theorem sp5_us {f} {us : List U} {M : Mp} {R : UK} {E : UXK} (h : sp5 f us M R E) : ∃ a b c d e, us = [a, b, c, d, e] := match us, h with
  | [a, b, c, d, e], _ => ⟨a, b, c, d, e, rfl⟩
section
variable {P : Program} {w : World} {K : PySem.W.Frag} {mg : Str → Option Value} {base : Heap}
theorem ok_is_int (t : Txt tx w K mg) : FnV P w K mg base 1 "is_int" st_is_int ps_is_int sp_is_int :=
  fn_okV (k := 0) (t.def_ _ mem_is_int) sc_is_int (fun us M R E h => by obtain ⟨a, rfl⟩ := sp1_us h; rfl) bd_is_int (w_is_int ) (fun X g E D tk => jj_is_int t  X g E D tk) (fun us M R E h => by obtain ⟨a, rfl⟩ := sp1_us h; exact pure_is_int a M R E h)
theorem ok_is_row (t : Txt tx w K mg) : FnV P w K mg base 1 "is_row" st_is_row ps_is_row sp_is_row :=
  fn_okV (k := 0) (t.def_ _ mem_is_row) sc_is_row (fun us M R E h => by obtain ⟨a, b, rfl⟩ := sp2_us h; rfl) bd_is_row (w_is_row ) (fun X g E D tk => jj_is_row t  X g E D tk) (fun us M R E h => by obtain ⟨a, b, rfl⟩ := sp2_us h; exact pure_is_row a b M R E h)
theorem ok_is_index_below (t : Txt tx w K mg) : FnV P w K mg base 2 "is_index_below" st_is_index_below ps_is_index_below sp_is_index_below :=
  fn_okV (k := 1) (t.def_ _ mem_is_index_below) sc_is_index_below (fun us M R E h => by obtain ⟨a, b, rfl⟩ := sp2_us h; rfl) bd_is_index_below (w_is_index_below sp_is_int) (fun X g E D tk => jj_is_index_below t (ok_is_int t) (by omega) X g E D tk) (fun us M R E h => by obtain ⟨a, b, rfl⟩ := sp2_us h; exact pure_is_index_below a b M R E h)
theorem ok_bare (t : Txt tx w K mg) : FnV P w K mg base 1 "bare" st_bare ps_bare sp_bare :=
  fn_okV (k := 0) (t.def_ _ mem_bare) sc_bare (fun us M R E h => by obtain ⟨a, rfl⟩ := sp1_us h; rfl) bd_bare (w_bare ) (fun X g E D tk => jj_bare t  X g E D tk) (fun us M R E h => by obtain ⟨a, rfl⟩ := sp1_us h; exact pure_bare a M R E h)
theorem ok_is_tag (t : Txt tx w K mg) : FnV P w K mg base 2 "is_tag" st_is_tag ps_is_tag sp_is_tag :=
  fn_okV (k := 1) (t.def_ _ mem_is_tag) sc_is_tag (fun us M R E h => by obtain ⟨a, rfl⟩ := sp1_us h; rfl) bd_is_tag (w_is_tag sp_bare) (fun X g E D tk => jj_is_tag t (ok_bare t) (by omega) X g E D tk) (fun us M R E h => by obtain ⟨a, rfl⟩ := sp1_us h; exact pure_is_tag a M R E h)
theorem ok_is_kind (t : Txt tx w K mg) : FnV P w K mg base 2 "is_kind_labels" st_is_kind ps_is_kind sp_is_kind :=
  fn_okV (k := 1) (t.def_ _ mem_is_kind) sc_is_kind (fun us M R E h => by obtain ⟨a, rfl⟩ := sp1_us h; rfl) bd_is_kind (w_is_kind sp_bare) (fun X g E D tk => jj_is_kind t (ok_bare t) (by omega) X g E D tk) (fun us M R E h => by obtain ⟨a, rfl⟩ := sp1_us h; exact pure_is_kind a M R E h)
theorem ok_is_integer_text (t : Txt tx w K mg) : FnV P w K mg base 1 "is_integer_text" st_is_integer_text ps_is_integer_text sp_is_integer_text :=
  fn_okV (k := 0) (t.def_ _ mem_is_integer_text) sc_is_integer_text (fun us M R E h => by obtain ⟨a, rfl⟩ := sp1_us h; rfl) bd_is_integer_text (w_is_integer_text ) (fun X g E D tk => jj_is_integer_text t  X g E D tk) (fun us M R E h => by obtain ⟨a, rfl⟩ := sp1_us h; exact pure_is_integer_text a M R E h)
theorem ok_is_text_of (t : Txt tx w K mg) : FnV P w K mg base 2 "is_text_of" st_is_text_of ps_is_text_of sp_is_text_of :=
  fn_okV (k := 1) (t.def_ _ mem_is_text_of) sc_is_text_of (fun us M R E h => by obtain ⟨a, b, rfl⟩ := sp2_us h; rfl) bd_is_text_of (w_is_text_of sp_bare sp_is_integer_text) (fun X g E D tk => jj_is_text_of t (ok_bare t) (by omega) (ok_is_integer_text t) (by omega) X g E D tk) (fun us M R E h => by obtain ⟨a, b, rfl⟩ := sp2_us h; exact pure_is_text_of a b M R E h)
theorem ok_is_part (t : Txt tx w K mg) : ∀ n : Nat, FnV P w K mg base (2 + n) "is_part" st_is_part ps_is_part (sp_is_part n)
  | 0 => fn_none (t.def_ _ mem_is_part) bd_is_part (fun us M R E h => by obtain ⟨a, rfl⟩ := sp1_us h; simp [sp_is_part] at h)
  | n + 1 => fn_okV (k := 2 + n) (t.def_ _ mem_is_part) sc_is_part (fun us M R E h => by obtain ⟨a, rfl⟩ := sp1_us h; rfl) bd_is_part (w_is_part sp_is_row sp_is_kind sp_is_text_of sp_is_tag (sp_is_part n)) (fun X g E D tk => jj_is_part t (ok_is_row t) (by omega) (ok_is_kind t) (by omega) (ok_is_text_of t) (by omega) (ok_is_tag t) (by omega) (ok_is_part t n) (by omega) X g E D tk) (fun us M R E h => by obtain ⟨a, rfl⟩ := sp1_us h; exact pure_is_part n a M R E h)
theorem ok_is_document (t : Txt tx w K mg) : FnV P w K mg base 43 "is_document" st_is_document ps_is_document sp_is_document :=
  fn_okV (k := 42) (t.def_ _ mem_is_document) sc_is_document (fun us M R E h => by obtain ⟨a, rfl⟩ := sp1_us h; rfl) bd_is_document (w_is_document (sp_is_part 40) sp_is_tag) (fun X g E D tk => jj_is_document t (ok_is_part t 40) (by omega) (ok_is_tag t) (by omega) X g E D tk) (fun us M R E h => by obtain ⟨a, rfl⟩ := sp1_us h; exact pure_is_document a M R E h)
theorem ok_check_document (t : Txt tx w K mg) : FnV P w K mg base 44 "check_document" st_check_document ps_check_document sp_check_document :=
  fn_okV (k := 43) (t.def_ _ mem_check_document) sc_check_document (fun us M R E h => by obtain ⟨a, rfl⟩ := sp1_us h; rfl) bd_check_document (w_check_document sp_is_document) (fun X g E D tk => jj_check_document t (ok_is_document t) (by omega) X g E D tk) (fun us M R E h => by obtain ⟨a, rfl⟩ := sp1_us h; exact pure_check_document a M R E h)
theorem ok_parts_of (t : Txt tx w K mg) : FnV P w K mg base 3 "parts_of" st_parts_of ps_parts_of sp_parts_of :=
  fn_okV (k := 2) (t.def_ _ mem_parts_of) sc_parts_of (fun us M R E h => by obtain ⟨a, rfl⟩ := sp1_us h; rfl) bd_parts_of (w_parts_of sp_is_kind) (fun X g E D tk => jj_parts_of t (ok_is_kind t) (by omega) X g E D tk) (fun us M R E h => by obtain ⟨a, rfl⟩ := sp1_us h; exact pure_parts_of a M R E h)
theorem ok_has_place (t : Txt tx w K mg) : FnV P w K mg base 4 "has_place" st_has_place ps_has_place sp_has_place :=
  fn_okV (k := 3) (t.def_ _ mem_has_place) sc_has_place (fun us M R E h => by obtain ⟨a, b, rfl⟩ := sp2_us h; rfl) bd_has_place (w_has_place sp_parts_of sp_is_index_below) (fun X g E D tk => jj_has_place t (ok_parts_of t) (by omega) (ok_is_index_below t) (by omega) X g E D tk) (fun us M R E h => by obtain ⟨a, b, rfl⟩ := sp2_us h; exact pure_has_place a b M R E h)
theorem ok_is_place (t : Txt tx w K mg) : FnV P w K mg base 45 "is_place" st_is_place ps_is_place sp_is_place :=
  fn_okV (k := 44) (t.def_ _ mem_is_place) sc_is_place (fun us M R E h => by obtain ⟨a, b, rfl⟩ := sp2_us h; rfl) bd_is_place (w_is_place sp_check_document sp_has_place) (fun X g E D tk => jj_is_place t (ok_check_document t) (by omega) (ok_has_place t) (by omega) X g E D tk) (fun us M R E h => by obtain ⟨a, b, rfl⟩ := sp2_us h; exact pure_is_place a b M R E h)
theorem ok_is_kind_shape_work (t : Txt tx w K mg) : FnV P w K mg base 1 "is_kind_shape_work" st_is_kind_shape_work ps_is_kind_shape_work sp_is_kind_shape_work :=
  fn_okV (k := 0) (t.def_ _ mem_is_kind_shape_work) sc_is_kind_shape_work (fun us M R E h => by obtain ⟨a, rfl⟩ := sp1_us h; rfl) bd_is_kind_shape_work (w_is_kind_shape_work ) (fun X g E D tk => jj_is_kind_shape_work t  X g E D tk) (fun us M R E h => by obtain ⟨a, rfl⟩ := sp1_us h; exact pure_is_kind_shape_work a M R E h)
theorem ok_at_place (t : Txt tx w K mg) : FnV P w K mg base 1 "at_place" st_at_place ps_at_place sp_at_place :=
  fn_okV (k := 0) (t.def_ _ mem_at_place) sc_at_place (fun us M R E h => by obtain ⟨a, b, rfl⟩ := sp2_us h; rfl) bd_at_place (w_at_place ) (fun X g E D tk => jj_at_place t  X g E D tk) (fun us M R E h => by obtain ⟨a, b, rfl⟩ := sp2_us h; exact pure_at_place a b M R E h)
theorem ok_with_part (t : Txt tx w K mg) : ∀ n : Nat, FnV P w K mg base (0 + n) "with_part" st_with_part ps_with_part (sp_with_part n)
  | 0 => fn_none (t.def_ _ mem_with_part) bd_with_part (fun us M R E h => by obtain ⟨a, b, c, rfl⟩ := sp3_us h; simp [sp_with_part] at h)
  | n + 1 => fn_okV (k := 0 + n) (t.def_ _ mem_with_part) sc_with_part (fun us M R E h => by obtain ⟨a, b, c, rfl⟩ := sp3_us h; rfl) bd_with_part (w_with_part (sp_with_part n)) (fun X g E D tk => jj_with_part t (ok_with_part t n) (by omega) X g E D tk) (fun us M R E h => by obtain ⟨a, b, c, rfl⟩ := sp3_us h; exact pure_with_part n a b c M R E h)
theorem ok_labels_of (t : Txt tx w K mg) : FnV P w K mg base 1 "labels_of" st_labels_of ps_labels_of sp_labels_of :=
  fn_okV (k := 0) (t.def_ _ mem_labels_of) sc_labels_of (fun us M R E h => by obtain ⟨a, rfl⟩ := sp1_us h; rfl) bd_labels_of (w_labels_of ) (fun X g E D tk => jj_labels_of t  X g E D tk) (fun us M R E h => by obtain ⟨a, rfl⟩ := sp1_us h; exact pure_labels_of a M R E h)
theorem ok_is_guard_kind (t : Txt tx w K mg) : FnV P w K mg base 1 "is_guard_kind" st_is_guard_kind ps_is_guard_kind sp_is_guard_kind :=
  fn_okV (k := 0) (t.def_ _ mem_is_guard_kind) sc_is_guard_kind (fun us M R E h => by obtain ⟨a, rfl⟩ := sp1_us h; rfl) bd_is_guard_kind (w_is_guard_kind ) (fun X g E D tk => jj_is_guard_kind t  X g E D tk) (fun us M R E h => by obtain ⟨a, rfl⟩ := sp1_us h; exact pure_is_guard_kind a M R E h)
theorem ok_check_guard_kind (t : Txt tx w K mg) : FnV P w K mg base 2 "check_guard_kind" st_check_guard_kind ps_check_guard_kind sp_check_guard_kind :=
  fn_okV (k := 1) (t.def_ _ mem_check_guard_kind) sc_check_guard_kind (fun us M R E h => by obtain ⟨a, rfl⟩ := sp1_us h; rfl) bd_check_guard_kind (w_check_guard_kind sp_is_guard_kind) (fun X g E D tk => jj_check_guard_kind t (ok_is_guard_kind t) (by omega) X g E D tk) (fun us M R E h => by obtain ⟨a, rfl⟩ := sp1_us h; exact pure_check_guard_kind a M R E h)
theorem ok_check_at (t : Txt tx w K mg) : FnV P w K mg base 46 "check_at" st_check_at ps_check_at sp_check_at :=
  fn_okV (k := 45) (t.def_ _ mem_check_at) sc_check_at (fun us M R E h => by obtain ⟨a, b, rfl⟩ := sp2_us h; rfl) bd_check_at (w_check_at sp_is_document sp_is_place) (fun X g E D tk => jj_check_at t (ok_is_document t) (by omega) (ok_is_place t) (by omega) X g E D tk) (fun us M R E h => by obtain ⟨a, b, rfl⟩ := sp2_us h; exact pure_check_at a b M R E h)
theorem ok_guard_at (t : Txt tx w K mg) : FnV P w K mg base 2 "guard_at" st_guard_at ps_guard_at sp_guard_at :=
  fn_okV (k := 1) (t.def_ _ mem_guard_at) sc_guard_at (fun us M R E h => by obtain ⟨a, b, c, rfl⟩ := sp3_us h; rfl) bd_guard_at (w_guard_at sp_at_place sp_labels_of) (fun X g E D tk => jj_guard_at t (ok_at_place t) (by omega) (ok_labels_of t) (by omega) X g E D tk) (fun us M R E h => by obtain ⟨a, b, c, rfl⟩ := sp3_us h; exact pure_guard_at a b c M R E h)
theorem ok_guard_of (t : Txt tx w K mg) : FnV P w K mg base 47 "guard_of" st_guard_of ps_guard_of sp_guard_of :=
  fn_okV (k := 46) (t.def_ _ mem_guard_of) sc_guard_of (fun us M R E h => by obtain ⟨a, b, c, rfl⟩ := sp3_us h; rfl) bd_guard_of (w_guard_of sp_check_at sp_check_guard_kind sp_guard_at) (fun X g E D tk => jj_guard_of t (ok_check_at t) (by omega) (ok_check_guard_kind t) (by omega) (ok_guard_at t) (by omega) X g E D tk) (fun us M R E h => by obtain ⟨a, b, c, rfl⟩ := sp3_us h; exact pure_guard_of a b c M R E h)
theorem ok_exchanged (t : Txt tx w K mg) : FnV P w K mg base 61 "exchanged" st_exchanged ps_exchanged sp_exchanged :=
  fn_okV (k := 60) (t.def_ _ mem_exchanged) sc_exchanged (fun us M R E h => by obtain ⟨a, b, c, d, rfl⟩ := sp4_us h; rfl) bd_exchanged (w_exchanged sp_check_at sp_at_place sp_is_kind_shape_work (sp_with_part 60)) (fun X g E D tk => jj_exchanged t (ok_check_at t) (by omega) (ok_at_place t) (by omega) (ok_is_kind_shape_work t) (by omega) (ok_with_part t 60) (by omega) X g E D tk) (fun us M R E h => by obtain ⟨a, b, c, d, rfl⟩ := sp4_us h; exact pure_exchanged a b c d M R E h)
theorem ok__law_well0 (t : Txt tx w K mg) : FnV P w K mg base 1 "_law_well" st__law_well ps__law_well sp__law_well0 :=
  fn_okV (k := 0) (t.def_ _ mem__law_well) sc__law_well (fun us M R E h => by obtain ⟨a, rfl⟩ := sp1_us h; rfl) bd__law_well (w__law_well ) (fun X g E D tk => jj__law_well t  X g E D tk) (fun us M R E h => by obtain ⟨a, rfl⟩ := sp1_us h; exact pure__law_well0 a M R E h)
theorem ok__law_well (t : Txt tx w K mg) : FnV P w K mg base 1 "_law_well" st__law_well ps__law_well sp__law_well := (ok__law_well0 t).abs abs__law_well
theorem ok__law_pick0 (t : Txt tx w K mg) : FnV P w K mg base 1 "_law_pick" st__law_pick ps__law_pick sp__law_pick0 :=
  fn_okV (k := 0) (t.def_ _ mem__law_pick) sc__law_pick (fun us M R E h => by obtain ⟨a, b, rfl⟩ := sp2_us h; rfl) bd__law_pick (w__law_pick ) (fun X g E D tk => jj__law_pick t  X g E D tk) (fun us M R E h => by obtain ⟨a, b, rfl⟩ := sp2_us h; exact pure__law_pick0 a b M R E h)
theorem ok__law_pick (t : Txt tx w K mg) : FnV P w K mg base 1 "_law_pick" st__law_pick ps__law_pick sp__law_pick := (ok__law_pick0 t).abs abs__law_pick
theorem ok__law_one (t : Txt tx w K mg) : FnV P w K mg base 2 "_law_one" st__law_one ps__law_one sp__law_one :=
  fn_okV (k := 1) (t.def_ _ mem__law_one) sc__law_one (fun us M R E h => by obtain ⟨a, b, rfl⟩ := sp2_us h; rfl) bd__law_one (w__law_one sp__law_pick) (fun X g E D tk => jj__law_one t (ok__law_pick t) (by omega) X g E D tk) (fun us M R E h => by obtain ⟨a, b, rfl⟩ := sp2_us h; exact pure__law_one a b M R E h)
theorem ok__law_some (t : Txt tx w K mg) : FnV P w K mg base 2 "_law_some" st__law_some ps__law_some sp__law_some :=
  fn_okV (k := 1) (t.def_ _ mem__law_some) sc__law_some (fun us M R E h => by obtain ⟨a, b, c, d, rfl⟩ := sp4_us h; rfl) bd__law_some (w__law_some sp__law_pick) (fun X g E D tk => jj__law_some t (ok__law_pick t) (by omega) X g E D tk) (fun us M R E h => by obtain ⟨a, b, c, d, rfl⟩ := sp4_us h; exact pure__law_some a b c d M R E h)
theorem ok__law_same (t : Txt tx w K mg) : ∀ n : Nat, FnV P w K mg base (0 + n) "_law_same" st__law_same ps__law_same (sp__law_same n)
  | 0 => fn_none (t.def_ _ mem__law_same) bd__law_same (fun us M R E h => by obtain ⟨a, b, rfl⟩ := sp2_us h; simp [sp__law_same] at h)
  | n + 1 => fn_okV (k := 0 + n) (t.def_ _ mem__law_same) sc__law_same (fun us M R E h => by obtain ⟨a, b, rfl⟩ := sp2_us h; rfl) bd__law_same (w__law_same (sp__law_same n)) (fun X g E D tk => jj__law_same t (ok__law_same t n) (by omega) X g E D tk) (fun us M R E h => by obtain ⟨a, b, rfl⟩ := sp2_us h; exact pure__law_same n a b M R E h)
theorem ok__law_is_int (t : Txt tx w K mg) : FnV P w K mg base 1 "_law_is_int" st__law_is_int ps__law_is_int sp__law_is_int :=
  fn_okV (k := 0) (t.def_ _ mem__law_is_int) sc__law_is_int (fun us M R E h => by obtain ⟨a, rfl⟩ := sp1_us h; rfl) bd__law_is_int (w__law_is_int ) (fun X g E D tk => jj__law_is_int t  X g E D tk) (fun us M R E h => by obtain ⟨a, rfl⟩ := sp1_us h; exact pure__law_is_int a M R E h)
theorem ok__law_is_row (t : Txt tx w K mg) : FnV P w K mg base 1 "_law_is_row" st__law_is_row ps__law_is_row sp__law_is_row :=
  fn_okV (k := 0) (t.def_ _ mem__law_is_row) sc__law_is_row (fun us M R E h => by obtain ⟨a, b, rfl⟩ := sp2_us h; rfl) bd__law_is_row (w__law_is_row ) (fun X g E D tk => jj__law_is_row t  X g E D tk) (fun us M R E h => by obtain ⟨a, b, rfl⟩ := sp2_us h; exact pure__law_is_row a b M R E h)
theorem ok__law_bent (t : Txt tx w K mg) : ∀ n : Nat, FnV P w K mg base (2 + n) "_law_bent" st__law_bent ps__law_bent (sp__law_bent n)
  | 0 => fn_none (t.def_ _ mem__law_bent) bd__law_bent (fun us M R E h => by obtain ⟨a, b, rfl⟩ := sp2_us h; simp [sp__law_bent] at h)
  | n + 1 => fn_okV (k := 2 + n) (t.def_ _ mem__law_bent) sc__law_bent (fun us M R E h => by obtain ⟨a, b, rfl⟩ := sp2_us h; rfl) bd__law_bent (w__law_bent sp__law_pick (sp__law_bent n) sp__law_is_int sp__law_one) (fun X g E D tk => jj__law_bent t (ok__law_pick t) (by omega) (ok__law_bent t n) (by omega) (ok__law_is_int t) (by omega) (ok__law_one t) (by omega) X g E D tk) (fun us M R E h => by obtain ⟨a, b, rfl⟩ := sp2_us h; exact pure__law_bent n a b M R E h)
theorem ok__law_tags (t : Txt tx w K mg) : FnV P w K mg base 3 "_law_tags" st__law_tags ps__law_tags sp__law_tags :=
  fn_okV (k := 2) (t.def_ _ mem__law_tags) sc__law_tags (fun us M R E h => by obtain ⟨a, b, rfl⟩ := sp2_us h; rfl) bd__law_tags (w__law_tags sp__law_pick sp__law_one) (fun X g E D tk => jj__law_tags t (ok__law_pick t) (by omega) (ok__law_one t) (by omega) X g E D tk) (fun us M R E h => by obtain ⟨a, b, rfl⟩ := sp2_us h; exact pure__law_tags a b M R E h)
theorem ok__law_labels (t : Txt tx w K mg) : FnV P w K mg base 4 "_law_labels" st__law_labels ps__law_labels sp__law_labels :=
  fn_okV (k := 3) (t.def_ _ mem__law_labels) sc__law_labels (fun us M R E h => by obtain ⟨a, b, c, d, rfl⟩ := sp4_us h; rfl) bd__law_labels (w__law_labels sp__law_tags sp__law_pick sp__law_some) (fun X g E D tk => jj__law_labels t (ok__law_tags t) (by omega) (ok__law_pick t) (by omega) (ok__law_some t) (by omega) X g E D tk) (fun us M R E h => by obtain ⟨a, b, c, d, rfl⟩ := sp4_us h; exact pure__law_labels a b c d M R E h)
theorem ok__law_is_leaf (t : Txt tx w K mg) : FnV P w K mg base 1 "_law_is_leaf" st__law_is_leaf ps__law_is_leaf sp__law_is_leaf :=
  fn_okV (k := 0) (t.def_ _ mem__law_is_leaf) sc__law_is_leaf (fun us M R E h => by obtain ⟨a, rfl⟩ := sp1_us h; rfl) bd__law_is_leaf (w__law_is_leaf ) (fun X g E D tk => jj__law_is_leaf t  X g E D tk) (fun us M R E h => by obtain ⟨a, rfl⟩ := sp1_us h; exact pure__law_is_leaf a M R E h)
theorem ok__law_leaf (t : Txt tx w K mg) : FnV P w K mg base 3 "_law_leaf" st__law_leaf ps__law_leaf sp__law_leaf :=
  fn_okV (k := 2) (t.def_ _ mem__law_leaf) sc__law_leaf (fun us M R E h => by obtain ⟨a, b, rfl⟩ := sp2_us h; rfl) bd__law_leaf (w__law_leaf sp__law_one) (fun X g E D tk => jj__law_leaf t (ok__law_one t) (by omega) X g E D tk) (fun us M R E h => by obtain ⟨a, b, rfl⟩ := sp2_us h; exact pure__law_leaf a b M R E h)
theorem ok__law_part (t : Txt tx w K mg) : ∀ n : Nat, FnV P w K mg base (3 + n) "_law_part" st__law_part ps__law_part (sp__law_part n)
  | 0 => fn_none (t.def_ _ mem__law_part) bd__law_part (fun us M R E h => by obtain ⟨a, b, c, d, rfl⟩ := sp4_us h; simp [sp__law_part] at h)
  | n + 1 => fn_okV (k := 3 + n) (t.def_ _ mem__law_part) sc__law_part (fun us M R E h => by obtain ⟨a, b, c, d, rfl⟩ := sp4_us h; rfl) bd__law_part (w__law_part sp__law_one sp__law_leaf sp__law_pick (sp__law_part n)) (fun X g E D tk => jj__law_part t (ok__law_one t) (by omega) (ok__law_leaf t) (by omega) (ok__law_pick t) (by omega) (ok__law_part t n) (by omega) X g E D tk) (fun us M R E h => by obtain ⟨a, b, c, d, rfl⟩ := sp4_us h; exact pure__law_part n a b c d M R E h)
theorem ok__law_document (t : Txt tx w K mg) : FnV P w K mg base 44 "_law_document" st__law_document ps__law_document sp__law_document :=
  fn_okV (k := 43) (t.def_ _ mem__law_document) sc__law_document (fun us M R E h => by obtain ⟨a, b, c, d, rfl⟩ := sp4_us h; rfl) bd__law_document (w__law_document sp__law_one sp__law_pick (sp__law_part 40)) (fun X g E D tk => jj__law_document t (ok__law_one t) (by omega) (ok__law_pick t) (by omega) (ok__law_part t 40) (by omega) X g E D tk) (fun us M R E h => by obtain ⟨a, b, c, d, rfl⟩ := sp4_us h; exact pure__law_document a b c d M R E h)
theorem ok__law_places (t : Txt tx w K mg) : ∀ n : Nat, FnV P w K mg base (1 + n) "_law_places" st__law_places ps__law_places (sp__law_places n)
  | 0 => fn_none (t.def_ _ mem__law_places) bd__law_places (fun us M R E h => by obtain ⟨a, b, rfl⟩ := sp2_us h; simp [sp__law_places] at h)
  | n + 1 => fn_okV (k := 1 + n) (t.def_ _ mem__law_places) sc__law_places (fun us M R E h => by obtain ⟨a, b, rfl⟩ := sp2_us h; rfl) bd__law_places (w__law_places sp__law_is_leaf (sp__law_places n)) (fun X g E D tk => jj__law_places t (ok__law_is_leaf t) (by omega) (ok__law_places t n) (by omega) X g E D tk) (fun us M R E h => by obtain ⟨a, b, rfl⟩ := sp2_us h; exact pure__law_places n a b M R E h)
theorem ok__law_at (t : Txt tx w K mg) : FnV P w K mg base 1 "_law_at" st__law_at ps__law_at sp__law_at :=
  fn_okV (k := 0) (t.def_ _ mem__law_at) sc__law_at (fun us M R E h => by obtain ⟨a, b, rfl⟩ := sp2_us h; rfl) bd__law_at (w__law_at ) (fun X g E D tk => jj__law_at t  X g E D tk) (fun us M R E h => by obtain ⟨a, b, rfl⟩ := sp2_us h; exact pure__law_at a b M R E h)
theorem ok__law_put (t : Txt tx w K mg) : ∀ n : Nat, FnV P w K mg base (0 + n) "_law_put" st__law_put ps__law_put (sp__law_put n)
  | 0 => fn_none (t.def_ _ mem__law_put) bd__law_put (fun us M R E h => by obtain ⟨a, b, c, rfl⟩ := sp3_us h; simp [sp__law_put] at h)
  | n + 1 => fn_okV (k := 0 + n) (t.def_ _ mem__law_put) sc__law_put (fun us M R E h => by obtain ⟨a, b, c, rfl⟩ := sp3_us h; rfl) bd__law_put (w__law_put (sp__law_put n)) (fun X g E D tk => jj__law_put t (ok__law_put t n) (by omega) X g E D tk) (fun us M R E h => by obtain ⟨a, b, c, rfl⟩ := sp3_us h; exact pure__law_put n a b c M R E h)
theorem ok__law_is_tag (t : Txt tx w K mg) : FnV P w K mg base 1 "_law_is_tag" st__law_is_tag ps__law_is_tag sp__law_is_tag :=
  fn_okV (k := 0) (t.def_ _ mem__law_is_tag) sc__law_is_tag (fun us M R E h => by obtain ⟨a, rfl⟩ := sp1_us h; rfl) bd__law_is_tag (w__law_is_tag ) (fun X g E D tk => jj__law_is_tag t  X g E D tk) (fun us M R E h => by obtain ⟨a, rfl⟩ := sp1_us h; exact pure__law_is_tag a M R E h)
theorem ok__law_is_label (t : Txt tx w K mg) : FnV P w K mg base 2 "_law_is_label" st__law_is_label ps__law_is_label sp__law_is_label :=
  fn_okV (k := 1) (t.def_ _ mem__law_is_label) sc__law_is_label (fun us M R E h => by obtain ⟨a, rfl⟩ := sp1_us h; rfl) bd__law_is_label (w__law_is_label sp__law_is_tag) (fun X g E D tk => jj__law_is_label t (ok__law_is_tag t) (by omega) X g E D tk) (fun us M R E h => by obtain ⟨a, rfl⟩ := sp1_us h; exact pure__law_is_label a M R E h)
theorem ok__law_is_text (t : Txt tx w K mg) : FnV P w K mg base 1 "_law_is_text" st__law_is_text ps__law_is_text sp__law_is_text :=
  fn_okV (k := 0) (t.def_ _ mem__law_is_text) sc__law_is_text (fun us M R E h => by obtain ⟨a, b, rfl⟩ := sp2_us h; rfl) bd__law_is_text (w__law_is_text ) (fun X g E D tk => jj__law_is_text t  X g E D tk) (fun us M R E h => by obtain ⟨a, b, rfl⟩ := sp2_us h; exact pure__law_is_text a b M R E h)
theorem ok__law_is_part (t : Txt tx w K mg) : ∀ n : Nat, FnV P w K mg base (2 + n) "_law_is_part" st__law_is_part ps__law_is_part (sp__law_is_part n)
  | 0 => fn_none (t.def_ _ mem__law_is_part) bd__law_is_part (fun us M R E h => by obtain ⟨a, rfl⟩ := sp1_us h; simp [sp__law_is_part] at h)
  | n + 1 => fn_okV (k := 2 + n) (t.def_ _ mem__law_is_part) sc__law_is_part (fun us M R E h => by obtain ⟨a, rfl⟩ := sp1_us h; rfl) bd__law_is_part (w__law_is_part sp__law_is_row sp__law_is_label sp__law_is_text (sp__law_is_part n)) (fun X g E D tk => jj__law_is_part t (ok__law_is_row t) (by omega) (ok__law_is_label t) (by omega) (ok__law_is_text t) (by omega) (ok__law_is_part t n) (by omega) X g E D tk) (fun us M R E h => by obtain ⟨a, rfl⟩ := sp1_us h; exact pure__law_is_part n a M R E h)
theorem ok__law_is_document (t : Txt tx w K mg) : FnV P w K mg base 43 "_law_is_document" st__law_is_document ps__law_is_document sp__law_is_document :=
  fn_okV (k := 42) (t.def_ _ mem__law_is_document) sc__law_is_document (fun us M R E h => by obtain ⟨a, rfl⟩ := sp1_us h; rfl) bd__law_is_document (w__law_is_document (sp__law_is_part 40)) (fun X g E D tk => jj__law_is_document t (ok__law_is_part t 40) (by omega) X g E D tk) (fun us M R E h => by obtain ⟨a, rfl⟩ := sp1_us h; exact pure__law_is_document a M R E h)
theorem ok__law_is_place (t : Txt tx w K mg) : FnV P w K mg base 2 "_law_is_place" st__law_is_place ps__law_is_place sp__law_is_place :=
  fn_okV (k := 1) (t.def_ _ mem__law_is_place) sc__law_is_place (fun us M R E h => by obtain ⟨a, b, rfl⟩ := sp2_us h; rfl) bd__law_is_place (w__law_is_place sp__law_is_leaf sp__law_is_int) (fun X g E D tk => jj__law_is_place t (ok__law_is_leaf t) (by omega) (ok__law_is_int t) (by omega) X g E D tk) (fun us M R E h => by obtain ⟨a, b, rfl⟩ := sp2_us h; exact pure__law_is_place a b M R E h)
theorem ok__law_guard (t : Txt tx w K mg) : FnV P w K mg base 1 "_law_guard" st__law_guard ps__law_guard sp__law_guard :=
  fn_okV (k := 0) (t.def_ _ mem__law_guard) sc__law_guard (fun us M R E h => by obtain ⟨a, b, c, rfl⟩ := sp3_us h; rfl) bd__law_guard (w__law_guard ) (fun X g E D tk => jj__law_guard t  X g E D tk) (fun us M R E h => by obtain ⟨a, b, c, rfl⟩ := sp3_us h; exact pure__law_guard a b c M R E h)
theorem ok__law_asked (t : Txt tx w K mg) : FnV P w K mg base 62 "_law_asked" st__law_asked ps__law_asked sp__law_asked :=
  fn_okV (k := 61) (t.def_ _ mem__law_asked) sc__law_asked (fun us M R E h => by obtain ⟨a, b, c, d, e, rfl⟩ := sp5_us h; rfl) bd__law_asked (w__law_asked sp_guard_of sp_exchanged) (fun X g E D tk => jj__law_asked t (ok_guard_of t) (by omega) (ok_exchanged t) (by omega) X g E D tk) (fun us M R E h => by obtain ⟨a, b, c, d, e, rfl⟩ := sp5_us h; exact pure__law_asked a b c d e M R E h)
theorem ok__law_some_marks (t : Txt tx w K mg) : ∀ n : Nat, FnV P w K mg base (1 + n) "_law_some_marks" st__law_some_marks ps__law_some_marks (sp__law_some_marks n)
  | 0 => fn_none (t.def_ _ mem__law_some_marks) bd__law_some_marks (fun us M R E h => by obtain ⟨a, b, c, rfl⟩ := sp3_us h; simp [sp__law_some_marks] at h)
  | n + 1 => fn_okV (k := 1 + n) (t.def_ _ mem__law_some_marks) sc__law_some_marks (fun us M R E h => by obtain ⟨a, b, c, rfl⟩ := sp3_us h; rfl) bd__law_some_marks (w__law_some_marks sp__law_pick sp__law_is_leaf (sp__law_some_marks n)) (fun X g E D tk => jj__law_some_marks t (ok__law_pick t) (by omega) (ok__law_is_leaf t) (by omega) (ok__law_some_marks t n) (by omega) X g E D tk) (fun us M R E h => by obtain ⟨a, b, c, rfl⟩ := sp3_us h; exact pure__law_some_marks n a b c M R E h)
theorem ok__law_document_right (t : Txt tx w K mg) : FnV P w K mg base 63 "_law_document_right" st__law_document_right ps__law_document_right sp__law_document_right :=
  fn_okV (k := 62) (t.def_ _ mem__law_document_right) sc__law_document_right (fun us M R E h => by obtain ⟨a, b, c, rfl⟩ := sp3_us h; rfl) bd__law_document_right (w__law_document_right (sp__law_places 40) (sp__law_same 50) sp__law_guard sp_guard_of sp__law_one sp__law_at sp__law_is_leaf (sp__law_put 60) sp__law_asked) (fun X g E D tk => jj__law_document_right t (ok__law_places t 40) (by omega) (ok__law_same t 50) (by omega) (ok__law_guard t) (by omega) (ok_guard_of t) (by omega) (ok__law_one t) (by omega) (ok__law_at t) (by omega) (ok__law_is_leaf t) (by omega) (ok__law_put t 60) (by omega) (ok__law_asked t) (by omega) X g E D tk) (fun us M R E h => by obtain ⟨a, b, c, rfl⟩ := sp3_us h; exact pure__law_document_right a b c M R E h)
theorem ok__law_errors_right (t : Txt tx w K mg) : FnV P w K mg base 63 "_law_errors_right" st__law_errors_right ps__law_errors_right sp__law_errors_right :=
  fn_okV (k := 62) (t.def_ _ mem__law_errors_right) sc__law_errors_right (fun us M R E h => by obtain ⟨a, b, c, rfl⟩ := sp3_us h; rfl) bd__law_errors_right (w__law_errors_right sp__law_one (sp__law_places 40) (sp__law_bent 50) sp__law_pick sp__law_is_document sp__law_is_place sp__law_asked (sp__law_same 50) sp__law_guard) (fun X g E D tk => jj__law_errors_right t (ok__law_one t) (by omega) (ok__law_places t 40) (by omega) (ok__law_bent t 50) (by omega) (ok__law_pick t) (by omega) (ok__law_is_document t) (by omega) (ok__law_is_place t) (by omega) (ok__law_asked t) (by omega) (ok__law_same t 50) (by omega) (ok__law_guard t) (by omega) X g E D tk) (fun us M R E h => by obtain ⟨a, b, c, rfl⟩ := sp3_us h; exact pure__law_errors_right a b c M R E h)
theorem spL_us {us : List U} {M : Mp} {R : UK} {E : UXK} (h : spLaw us M R E) : ∃ a, us = [a] := by
  obtain ⟨ns, e, _⟩ := h
  exact ⟨_, e⟩
theorem ok_law (t : Txt tx w K mg) : FnV P w K mg base 64 "law" st_law ps_law spLaw :=
  fn_okV (k := 63) (t.def_ _ mem_law) sc_law (fun us M R E h => by obtain ⟨a, rfl⟩ := spL_us h; rfl) bd_law (w_law sp__law_well sp__law_labels sp__law_one (sp__law_some_marks 40) sp__law_document sp__law_document_right sp__law_errors_right) (fun X g E D tk => jj_law t (ok__law_well t) (by omega) (ok__law_labels t) (by omega) (ok__law_one t) (by omega) (ok__law_some_marks t 40) (by omega) (ok__law_document t) (by omega) (ok__law_document_right t) (by omega) (ok__law_errors_right t) (by omega) X g E D tk) (fun us M R E h => by obtain ⟨a, rfl⟩ := spL_us h; exact pure_law a M R E h)
end
end Law

namespace Law
open PySem PySem.Spec PyProof.Rows L2 Pu PySem.W PySem.Calls HandSHeadRun
end Law
open PySem PySem.Spec PyProof.Rows L2 Pu PySem.W PySem.Calls HandSHeadRun Law in
theorem PySem.Challenge.cw_shapeskept_k16_guards_holds : PySem.Challenge.rw_shapeskept_k16_guards.Holds := by
  w_on
  o_law
  refine HandSHeadRun.head_any (r := Rw) (q := PySem.W.view Rw.prog [72]) (H := tx.hk) (ob := tx.ob) (M := 20000) (loose := names0 ++ names1 ++ names2) (d := HandSHeadRun.topDef Rw.prog 72) (kwd := []) tx.ob_eq (by kernel_rfl) (fun s => by kernel_rfl) Law.run (by kernel_rfl) (by kernel_rfl) (by kernel_rfl) (by rfl) (by first | assumption | decide +kernel) (by decide +kernel) ⟨rfl, rfl, rfl, rfl, rfl, by decide +kernel⟩ ?hw ?hc
  case hw => w_witness2
  case hc => exact walk_T (k := 64) (st := st_law) rfl rfl ⟨rfl, by decide, by decide⟩ (by kernel_rfl) (by decide +kernel) mem_law bd_law (fun w K mg base t => ok_law t)
