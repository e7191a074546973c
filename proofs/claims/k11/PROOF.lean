import PyProof.Rows.All
import Wide.All
import OpenK.AllK
import Wide.FinOn
import HandS.ForMost
import HandS.Walk
import HandS.Wide
import HandS.TupAny
import HandS.Style
import HandS.IsInst
import HandS.StrMore
import HandS.WordsExc
import HandS.More
import HandS.Zip
import HandS.SetFor
import HandS.Conv
import HandS.SetKeys
import HandS.SortInts
import HandS.Iter
import HandS.Dict
import HandS.Sort
import HandS.SortOrd
import HandS.SortRule
import HandS.Set
import KE.KDictSum
import KE.KSortTup
import KE.KSortTupAny
import PyProof.TupleOfSeq
import PyProof.Rows.SortStr
import HandS.ExcValue
import HandS.Text
import HandS.Codes
import PyProof.ListStr
import HandS.RaiseMore
import PyProof.Walks
import HandS.DictComp
import KE.KEqDict
import HandS.Rev
import HandS.RevRange
import KE.GoesEnum
import HandS.Strs
import PyProof.SumAny
import KE.DataFind
import PyProof.WalksMore
import PyProof.P3In
import HandS.Deep
import HandS.TupMul
import HandS.Flt
import KE.KSortKey
import KE.SortKeyHeap
import HandS.SortKw
import HandS.Exc
import PyProof.EqAt
import PyProof.NeKinds
import Flt.Len
import PyProof.ReprRoads
import HandS.FStrTup
import HandS.NoneIn
import PySem.Challenge.RW_joinedever_k11_what_are_spans
set_option Elab.async false
set_option linter.all false
set_option maxRecDepth 100000
namespace Z
open PySem PySem.Spec PyProof.Rows L2
abbrev Frag := PySem.W.Frag

/-! data: what never changes is a tree; what may change is told by its number in the store -/
inductive D where
  | non | bl (b : Bool) | int (i : Int) | str (x : Str) | tup (xs : List D) | rol (xs : List D) | ref (i : Nat) | ty (n : String) | cst (a : Addr)
inductive O where
  | lst (xs : List D) | dK (kvs : List (Key × D)) | dT (kvs : List (List Key × D)) | ins (C : Str) (fs : List (Str × D))
/-- a text by its codes -/
abbrev T (l : List Nat) : Str := ⟨l.toArray⟩
abbrev Sto := List O
abbrev En := List (Option D)

def SqR (K : Frag) (H : Hp) (a : Addr) (xs : List V) : Prop :=
  (∃ o, H a = some (.frz o (.lst xs))) ∨
    ∃ (o : Obj) (its : Array Value) (n : Nat), K.lookup a = some o ∧ o.cls = .type "list" ∧ o.dict = none ∧ o.data = .seq its n ∧ its.size ≤ sizeLine ∧ Vals xs its.toList
theorem SqR.sq {K : Frag} {H : Hp} {a : Addr} {xs : List V} (h : SqR K H a xs) : SqL K H a xs := by
  rcases h with ⟨o, h⟩ | h
  · exact .inl (.inr ⟨o, h⟩)
  · exact .inr h

mutual
def VR (K : Frag) (m : List Addr) (H : Hp) : D → V → Prop
  | .non, v => v = .non
  | .bl b, v => v = .bl b
  | .int i, v => v = .int i
  | .str x, v => v = .str x
  | .tup xs, v => ∃ a us, v = .ref a ∧ H a = some (.tup us) ∧ VRs K m H xs us
  | .rol xs, v => ∃ a us, v = .ref a ∧ SqR K H a us ∧ VRs K m H xs us
  | .ref i, v => ∃ a, v = .ref a ∧ m[i]? = some a
  | .ty n, v => v = .ty n
  | .cst a, v => v = .ref a
def VRs (K : Frag) (m : List Addr) (H : Hp) : List D → List V → Prop
  | [], us => us = []
  | x :: xs, us => ∃ u r, us = u :: r ∧ VR K m H x u ∧ VRs K m H xs r
end

structure Ex (K : Frag) (m : List Addr) (H : Hp) (m' : List Addr) (H' : Hp) : Prop where
  tup : ∀ (a : Addr) (us : List V), H a = some (.tup us) → H' a = some (.tup us)
  rol : ∀ (a : Addr) (us : List V), SqR K H a us → SqR K H' a us
  pre : ∀ (i : Nat) (a : Addr), m[i]? = some a → m'[i]? = some a
structure Ext (K : Frag) (m : List Addr) (H : Hp) (m' : List Addr) (H' : Hp) : Prop extends Ex K m H m' H' where
  fr : ∀ (a : Addr) (o : HO), H a = some o → a ∉ m → H' a = some o ∧ a ∉ m'
theorem Ext.refl {K : Frag} {m : List Addr} {H : Hp} : Ext K m H m H := ⟨⟨fun _ _ h => h, fun _ _ h => h, fun _ _ h => h⟩, fun _ _ h n => ⟨h, n⟩⟩
theorem Ext.trans {K : Frag} {m m1 m2 : List Addr} {H H1 H2 : Hp} (a : Ext K m H m1 H1) (b : Ext K m1 H1 m2 H2) : Ext K m H m2 H2 :=
  ⟨⟨fun x us h => b.tup x us (a.tup x us h), fun x us h => b.rol x us (a.rol x us h), fun i x h => b.pre i x (a.pre i x h)⟩, fun x o h n => let ⟨h1, n1⟩ := a.fr x o h n; b.fr x o h1 n1⟩
theorem pre_app {m : List Addr} {p : Addr} : ∀ (i : Nat) (a : Addr), m[i]? = some a → (m ++ [p])[i]? = some a := fun i a h => by
  rw [List.getElem?_append_left (List.getElem?_eq_some_iff.mp h).1]; exact h
theorem Ex.app {K : Frag} {m : List Addr} {H : Hp} {p : Addr} : Ex K m H (m ++ [p]) H := ⟨fun _ _ h => h, fun _ _ h => h, pre_app⟩
theorem Ext.adopt {K : Frag} {m m' : List Addr} {H H' : Hp} {p : Addr} (e : Ext K m H m' H') (hp : H p = none) : Ext K m H (m' ++ [p]) H' := by
  refine ⟨⟨e.tup, e.rol, fun i a h => pre_app _ _ (e.pre i a h)⟩, fun a o h n => ⟨(e.fr a o h n).1, fun z => ?_⟩⟩
  rcases List.mem_append.mp z with z | z
  · exact (e.fr a o h n).2 z
  · rw [List.mem_singleton.mp z, hp] at h; cases h

section
variable {K : Frag} {m m' : List Addr} {H H' : Hp}
mutual
theorem VR.ext (e : Ex K m H m' H') : ∀ {d : D} {v : V}, VR K m H d v → VR K m' H' d v
  | .non, _, h => by simp only [VR] at h ⊢; exact h
  | .bl _, _, h => by simp only [VR] at h ⊢; exact h
  | .int _, _, h => by simp only [VR] at h ⊢; exact h
  | .str _, _, h => by simp only [VR] at h ⊢; exact h
  | .tup xs, _, h => by
    simp only [VR] at h ⊢
    obtain ⟨a, us, h1, h2, h3⟩ := h
    exact ⟨a, us, h1, e.tup _ _ h2, VRs.ext e h3⟩
  | .rol xs, _, h => by
    simp only [VR] at h ⊢
    obtain ⟨a, us, h1, h2, h3⟩ := h
    exact ⟨a, us, h1, e.rol _ _ h2, VRs.ext e h3⟩
  | .ref i, _, h => by
    simp only [VR] at h ⊢
    obtain ⟨a, h1, h2⟩ := h
    exact ⟨a, h1, e.pre _ _ h2⟩
  | .ty _, _, h => by simp only [VR] at h ⊢; exact h
  | .cst _, _, h => by simp only [VR] at h ⊢; exact h
theorem VRs.ext (e : Ex K m H m' H') : ∀ {xs : List D} {us : List V}, VRs K m H xs us → VRs K m' H' xs us
  | [], _, h => by simp only [VRs] at h ⊢; exact h
  | x :: xs, _, h => by
    simp only [VRs] at h ⊢
    obtain ⟨u, r, h1, h2, h3⟩ := h
    exact ⟨u, r, h1, VR.ext e h2, VRs.ext e h3⟩
end
theorem VRs.nil : VRs K m H [] [] := by simp only [VRs]
theorem VRs.cons {x : D} {u : V} {xs : List D} {us : List V} (h : VR K m H x u) (t : VRs K m H xs us) : VRs K m H (x :: xs) (u :: us) := by
  simp only [VRs]; exact ⟨u, us, rfl, h, t⟩
theorem VRs.nil_inv {us : List V} (h : VRs K m H [] us) : us = [] := by simp only [VRs] at h; exact h
theorem VRs.cons_inv {x : D} {xs : List D} {us : List V} (h : VRs K m H (x :: xs) us) : ∃ u r, us = u :: r ∧ VR K m H x u ∧ VRs K m H xs r := by simp only [VRs] at h; exact h
theorem VRs.length : ∀ {xs : List D} {us : List V}, VRs K m H xs us → xs.length = us.length
  | [], _, h => by rw [h.nil_inv]; rfl
  | x :: xs, _, h => by
    obtain ⟨u, r, rfl, _, h3⟩ := h.cons_inv
    simp [h3.length]
theorem VRs.app : ∀ {xs ys : List D} {us ws : List V}, VRs K m H xs us → VRs K m H ys ws → VRs K m H (xs ++ ys) (us ++ ws)
  | [], _, _, _, h, t => by rw [h.nil_inv]; exact t
  | x :: xs, _, _, _, h, t => by
    obtain ⟨u, r, rfl, h2, h3⟩ := h.cons_inv
    exact .cons h2 (h3.app t)
theorem VRs.get : ∀ {xs : List D} {us : List V} {i : Nat} {x : D}, VRs K m H xs us → xs[i]? = some x → ∃ u, us[i]? = some u ∧ VR K m H x u
  | [], _, _, _, _, e => by simp at e
  | y :: xs, _, 0, x, h, e => by
    obtain ⟨u, r, rfl, h2, h3⟩ := h.cons_inv
    simp at e; subst e
    exact ⟨u, by simp, h2⟩
  | y :: xs, _, i + 1, x, h, e => by
    obtain ⟨u, r, rfl, h2, h3⟩ := h.cons_inv
    obtain ⟨u', e', r'⟩ := h3.get (i := i) (by simpa using e)
    exact ⟨u', by simpa using e', r'⟩
theorem VRs.take : ∀ {xs : List D} {us : List V} (n : Nat), VRs K m H xs us → VRs K m H (xs.take n) (us.take n)
  | _, _, 0, _ => .nil
  | [], _, n + 1, h => by rw [h.nil_inv]; exact .nil
  | x :: xs, _, n + 1, h => by
    obtain ⟨u, r, rfl, h2, h3⟩ := h.cons_inv
    exact .cons h2 (h3.take n)
theorem VRs.drop : ∀ {xs : List D} {us : List V} (n : Nat), VRs K m H xs us → VRs K m H (xs.drop n) (us.drop n)
  | _, _, 0, h => h
  | [], _, n + 1, h => by rw [h.nil_inv]; exact .nil
  | x :: xs, _, n + 1, h => by
    obtain ⟨u, r, rfl, h2, h3⟩ := h.cons_inv
    exact h3.drop n
theorem VRs.set {x : D} {u : V} (hx : VR K m H x u) : ∀ {xs : List D} {us : List V} (n : Nat), VRs K m H xs us → VRs K m H (xs.set n x) (us.set n u)
  | [], _, _, h => by rw [h.nil_inv]; exact .nil
  | _ :: xs, _, 0, h => by
    obtain ⟨u, r, rfl, h2, h3⟩ := h.cons_inv
    exact .cons hx h3
  | y :: xs, _, n + 1, h => by
    obtain ⟨u, r, rfl, h2, h3⟩ := h.cons_inv
    exact .cons h2 (VRs.set hx n h3)
theorem VRs.rev {xs : List D} {us : List V} (h : VRs K m H xs us) : VRs K m H xs.reverse us.reverse := by
  induction xs generalizing us with
  | nil => rw [h.nil_inv]; exact .nil
  | cons x xs ih =>
    obtain ⟨u, r, rfl, h2, h3⟩ := h.cons_inv
    rw [List.reverse_cons, List.reverse_cons]
    exact (ih h3).app (.cons h2 .nil)
theorem VRs.erase {xs : List D} {us : List V} (h : VRs K m H xs us) (k : Nat) : VRs K m H (xs.eraseIdx k) (us.eraseIdx k) := by
  rw [List.eraseIdx_eq_take_drop_succ, List.eraseIdx_eq_take_drop_succ]
  exact (h.take _).app (h.drop _)
theorem VRs.dropLast {xs : List D} {us : List V} (h : VRs K m H xs us) : VRs K m H xs.dropLast us.dropLast := by
  rw [List.dropLast_eq_take, List.dropLast_eq_take, h.length]
  exact h.take _
theorem VRs.rep {xs : List D} {us : List V} (h : VRs K m H xs us) (k : Nat) : VRs K m H (List.replicate k xs).flatten (List.replicate k us).flatten := by
  induction k with
  | zero => exact .nil
  | succ k ih => rw [List.replicate_succ, List.replicate_succ, List.flatten_cons, List.flatten_cons]; exact h.app ih
theorem VRs.ints : ∀ {ns : List Int} {us : List V}, VRs K m H (ns.map D.int) us → us = ns.map V.int
  | [], _, h => h.nil_inv
  | n :: ns, _, h => by
    obtain ⟨u, r, rfl, h2, h3⟩ := h.cons_inv
    simp only [VR] at h2
    rw [h2, h3.ints]; rfl
theorem VRs.of_ints : ∀ (ns : List Int), VRs K m H (ns.map D.int) (ns.map V.int)
  | [] => .nil
  | n :: ns => .cons (by simp only [VR]) (VRs.of_ints ns)
theorem VRs.strs : ∀ {ns : List Str} {us : List V}, VRs K m H (ns.map D.str) us → us = ns.map V.str
  | [], _, h => h.nil_inv
  | n :: ns, _, h => by
    obtain ⟨u, r, rfl, h2, h3⟩ := h.cons_inv
    simp only [VR] at h2
    rw [h2, h3.strs]; rfl
theorem VRs.of_strs : ∀ (ns : List Str), VRs K m H (ns.map D.str) (ns.map V.str)
  | [] => .nil
  | n :: ns => .cons (by simp only [VR]) (VRs.of_strs ns)
theorem VRs.bls : ∀ {ns : List Bool} {us : List V}, VRs K m H (ns.map D.bl) us → us = ns.map V.bl
  | [], _, h => h.nil_inv
  | n :: ns, _, h => by
    obtain ⟨u, r, rfl, h2, h3⟩ := h.cons_inv
    simp only [VR] at h2
    rw [h2, h3.bls]; rfl
end

/-! the store -/
inductive KVR {κ : Type} (K : Frag) (m : List Addr) (H : Hp) : List (κ × D) → List (κ × V) → Prop where
  | nil : KVR K m H [] []
  | cons {k : κ} {d : D} {v : V} {r : List (κ × D)} {t : List (κ × V)} : VR K m H d v → KVR K m H r t → KVR K m H ((k, d) :: r) ((k, v) :: t)
theorem KVR.ext {κ : Type} {K : Frag} {m m' : List Addr} {H H' : Hp} (e : Ex K m H m' H') : ∀ {r : List (κ × D)} {t : List (κ × V)}, KVR K m H r t → KVR K m' H' r t
  | _, _, .nil => .nil
  | _, _, .cons h t => .cons (h.ext e) (t.ext e)
theorem KVR.length {κ : Type} {K : Frag} {m : List Addr} {H : Hp} : ∀ {r : List (κ × D)} {t : List (κ × V)}, KVR K m H r t → r.length = t.length
  | _, _, .nil => rfl
  | _, _, .cons _ t => by simp [t.length]

def OA (K : Frag) (m : List Addr) (H : Hp) (a : Addr) : O → Prop
  | .lst xs => ∃ us, H a = some (.lst us) ∧ VRs K m H xs us
  | .dK kvs => ∃ us, H a = some (.dK us) ∧ KVR K m H kvs us
  | .dT kvs => ∃ us, H a = some (.dT us) ∧ KVR K m H kvs us
  | .ins C fs => ∃ A dx us, PySem.W.nsIn K mainGlobals C = some (some (.ref A)) ∧ H a = some (.ins A dx us) ∧ KVR K m H fs us
/-- a changeable thing stands at a -/
def Chg : Option HO → Prop
  | some (.lst _) => True
  | some (.dK _) => True
  | some (.dT _) => True
  | some (.ins _ _ _) => True
  | _ => False
section
variable {K : Frag} {m m' : List Addr} {H H' : Hp} {a : Addr} {o : O}
theorem OA.chg (h : OA K m H a o) : Chg (H a) := by
  cases o with
  | lst xs => obtain ⟨us, h, _⟩ := h; rw [h]; trivial
  | dK xs => obtain ⟨us, h, _⟩ := h; rw [h]; trivial
  | dT xs => obtain ⟨us, h, _⟩ := h; rw [h]; trivial
  | ins C fs => obtain ⟨A, dx, us, _, h, _⟩ := h; rw [h]; trivial
theorem OA.keep (h : OA K m H a o) (e : Ex K m H m' H') (k : H' a = H a) : OA K m' H' a o := by
  cases o with
  | lst xs => obtain ⟨us, h, t⟩ := h; exact ⟨us, by rw [k]; exact h, t.ext e⟩
  | dK xs => obtain ⟨us, h, t⟩ := h; exact ⟨us, by rw [k]; exact h, t.ext e⟩
  | dT xs => obtain ⟨us, h, t⟩ := h; exact ⟨us, by rw [k]; exact h, t.ext e⟩
  | ins C fs => obtain ⟨A, dx, us, n, h, t⟩ := h; exact ⟨A, dx, us, n, by rw [k]; exact h, t.ext e⟩
end

structure SR (K : Frag) (m : List Addr) (H : Hp) (S : Sto) : Prop where
  len : m.length = S.length
  nd : m.Nodup
  at_ : ∀ (i : Nat) (o : O), S[i]? = some o → ∃ a, m[i]? = some a ∧ OA K m H a o
section
variable {K : Frag} {m : List Addr} {H : Hp} {S : Sto}
theorem SR.mem (s : SR K m H S) {a : Addr} (h : a ∈ m) : Chg (H a) := by
  obtain ⟨i, hi, e⟩ := List.mem_iff_getElem.mp h
  have hS : i < S.length := by rw [← s.len]; exact hi
  obtain ⟨b, h1, h2⟩ := s.at_ i S[i] (List.getElem?_eq_getElem hS)
  have : a = b := by
    rw [List.getElem?_eq_getElem hi, e] at h1
    exact Option.some.inj h1
  rw [this]; exact h2.chg
theorem Chg.ne {H : Hp} {a b : Addr} {o : HO} (h : Chg (H a)) (h' : H b = some o) (n : ¬ Chg (some o)) : b ≠ a := by
  intro e; subst e; rw [h'] at h; exact n h
/-- a new tuple, or a thing that is not in the store -/
theorem SR.laid (s : SR K m H S) {p : Addr} {ho : HO} (hp : H p = none) : p ∉ m ∧ Ext K m H m (upd H p ho) ∧ SR K m (upd H p ho) S := by
  have nm : p ∉ m := fun h => by have := s.mem h; rw [hp] at this; exact this
  have e : Ext K m H m (upd H p ho) := by
    refine ⟨⟨fun a us h => ?_, fun a us h => ?_, fun _ _ h => h⟩, fun a o h n => ⟨?_, n⟩⟩
    · rw [upd_ne (ne_of_none h hp)]; exact h
    · rcases h with ⟨o, h⟩ | h
      · exact .inl ⟨o, by rw [upd_ne (ne_of_none h hp)]; exact h⟩
      · exact .inr h
    · rw [upd_ne (ne_of_none h hp)]; exact h
  refine ⟨nm, e, s.len, s.nd, fun i o h => ?_⟩
  obtain ⟨a, h1, h2⟩ := s.at_ i o h
  refine ⟨a, h1, h2.keep e.toEx (upd_ne fun z => nm ?_)⟩
  rw [← z]; exact List.mem_of_getElem? h1
/-- a new thing in the store -/
theorem SR.new (s : SR K m H S) {p : Addr} {ho : HO} {o : O} (hp : H p = none) (h : ∀ (m' : List Addr) (H' : Hp), Ext K m H m' H' → H' p = some ho → OA K m' H' p o) :
    Ext K m H (m ++ [p]) (upd H p ho) ∧ SR K (m ++ [p]) (upd H p ho) (S ++ [o]) ∧ (m ++ [p])[S.length]? = some p := by
  obtain ⟨nm, e, s'⟩ := s.laid (ho := ho) hp
  have e2 : Ext K m H (m ++ [p]) (upd H p ho) := by
    refine ⟨⟨e.tup, e.rol, pre_app⟩, fun a o h n => ⟨(e.fr a o h n).1, ?_⟩⟩
    · intro z
      rcases List.mem_append.mp z with z | z
      · exact n z
      · rw [List.mem_singleton.mp z, hp] at h; cases h
  refine ⟨e2, ⟨by simp [s.len], ?_, fun i o' hi => ?_⟩, ?_⟩
  · rw [List.nodup_append]
    exact ⟨s.nd, by simp, fun a ha b hb z => nm (by rw [← List.mem_singleton.mp hb, ← z]; exact ha)⟩
  · by_cases hl : i < S.length
    · rw [List.getElem?_append_left hl] at hi
      obtain ⟨a, h1, h2⟩ := s.at_ i o' hi
      refine ⟨a, e2.pre _ _ h1, h2.keep e2.toEx (upd_ne fun z => nm ?_)⟩
      rw [← z]; exact List.mem_of_getElem? h1
    · have hi' : i = S.length := by
        have := (List.getElem?_eq_some_iff.mp hi).1
        simp at this; omega
      subst hi'
      simp at hi; subst hi
      exact ⟨p, by rw [← s.len]; simp, h _ _ e2 upd_same⟩
  · rw [← s.len]; simp
/-- a thing of the heap that the store does not know is taken in -/
theorem SR.adopt (s : SR K m H S) {p : Addr} {o : O} (nm : p ∉ m) (h : OA K (m ++ [p]) H p o) : SR K (m ++ [p]) H (S ++ [o]) ∧ (m ++ [p])[S.length]? = some p := by
  refine ⟨⟨by simp [s.len], ?_, fun i o' hi => ?_⟩, by rw [← s.len]; simp⟩
  · rw [List.nodup_append]
    exact ⟨s.nd, by simp, fun a ha b hb z => nm (by rw [← List.mem_singleton.mp hb, ← z]; exact ha)⟩
  · by_cases hl : i < S.length
    · rw [List.getElem?_append_left hl] at hi
      obtain ⟨a, h1, h2⟩ := s.at_ i o' hi
      exact ⟨a, pre_app _ _ h1, h2.keep Ex.app rfl⟩
    · have hi' : i = S.length := by
        have := (List.getElem?_eq_some_iff.mp hi).1
        simp at this; omega
      subst hi'
      simp at hi; subst hi
      exact ⟨p, by rw [← s.len]; simp, h⟩
/-- a thing of the store changes -/
theorem SR.write (s : SR K m H S) {i : Nat} {a : Addr} {ho : HO} {o : O} (hi : m[i]? = some a) (h : ∀ H' : Hp, Ext K m H m H' → H' a = some ho → OA K m H' a o) :
    Ext K m H m (upd H a ho) ∧ SR K m (upd H a ho) (S.set i o) := by
  have hm : a ∈ m := List.mem_of_getElem? hi
  have hc := s.mem hm
  have e : Ext K m H m (upd H a ho) := by
    refine ⟨⟨fun b us h => ?_, fun b us h => ?_, fun _ _ h => h⟩, fun b o h n => ⟨?_, n⟩⟩
    · rw [upd_ne (hc.ne h fun z => z)]; exact h
    · rcases h with ⟨o, h⟩ | h
      · exact .inl ⟨o, by rw [upd_ne (hc.ne h fun z => z)]; exact h⟩
      · exact .inr h
    · rw [upd_ne (fun z => n (by rw [z]; exact hm))]; exact h
  refine ⟨e, by simp [s.len], s.nd, fun j o' hj => ?_⟩
  by_cases hij : i = j
  · subst hij
    have hl : i < S.length := by rw [← s.len]; exact (List.getElem?_eq_some_iff.mp hi).1
    rw [List.getElem?_set_self hl] at hj
    cases hj
    exact ⟨a, hi, h _ e upd_same⟩
  · rw [List.getElem?_set_ne hij] at hj
    obtain ⟨b, h1, h2⟩ := s.at_ j o' hj
    refine ⟨b, h1, h2.keep e.toEx (upd_ne fun z => hij ?_)⟩
    subst z
    obtain ⟨l1, e1⟩ := List.getElem?_eq_some_iff.mp hi
    obtain ⟨l2, e2⟩ := List.getElem?_eq_some_iff.mp h1
    exact (List.getElem_inj s.nd).mp (e1.trans e2.symm)
theorem SR.lst (s : SR K m H S) {i : Nat} {a : Addr} {xs : List D} (hi : m[i]? = some a) (h : S[i]? = some (.lst xs)) : ∃ us, H a = some (.lst us) ∧ VRs K m H xs us := by
  obtain ⟨b, h1, h2⟩ := s.at_ i _ h
  rw [hi] at h1; cases h1; exact h2
end

/-! the slots -/
structure ER (K : Frag) (m : List Addr) (H : Hp) (env : En) (σ : L2.St) : Prop where
  len : env.length = σ.length
  at_ : ∀ (i : Nat) (d : D), env[i]? = some (some d) → ∃ v, σ[i]? = some (some v) ∧ VR K m H d v
theorem ER.ext {K : Frag} {m m' : List Addr} {H H' : Hp} {env : En} {σ : L2.St} (e : Ex K m H m' H') (r : ER K m H env σ) : ER K m' H' env σ :=
  ⟨r.len, fun i d h => let ⟨v, h1, h2⟩ := r.at_ i d h; ⟨v, h1, h2.ext e⟩⟩
theorem ER.set {K : Frag} {m : List Addr} {H : Hp} {env : En} {σ : L2.St} (r : ER K m H env σ) (i : Nat) {d : D} {v : V} (h : VR K m H d v) : ER K m H (env.set i (some d)) (σ.set i (some v)) := by
  refine ⟨by simp [r.len], fun j d' hj => ?_⟩
  by_cases e : i = j
  · subst e
    have hl : i < env.length := by
      have := (List.getElem?_eq_some_iff.mp hj).1
      simpa using this
    rw [List.getElem?_set_self hl] at hj
    cases hj
    exact ⟨v, by rw [List.getElem?_set_self (by rw [← r.len]; exact hl)], h⟩
  · rw [List.getElem?_set_ne e] at hj ⊢
    exact r.at_ j d' hj
def wipeD (env : En) : List Nat → En
  | [] => env
  | v :: vs => (wipeD env vs).set v none
theorem ER.none_ {K : Frag} {m : List Addr} {H : Hp} {env : En} {σ : L2.St} (r : ER K m H env σ) (i : Nat) : ER K m H (env.set i none) (σ.set i none) := by
  refine ⟨by simp [r.len], fun j d' hj => ?_⟩
  by_cases e : i = j
  · subst e
    by_cases hl : i < env.length
    · rw [List.getElem?_set_self hl] at hj; cases hj
    · rw [List.getElem?_eq_none (by simpa using hl)] at hj; cases hj
  · rw [List.getElem?_set_ne e] at hj ⊢
    exact r.at_ j d' hj
theorem ER.wipe {K : Frag} {m : List Addr} {H : Hp} {env : En} {σ : L2.St} (r : ER K m H env σ) : ∀ vs : List Nat, ER K m H (wipeD env vs) (L2.wipe σ vs)
  | [] => r
  | v :: vs => (r.wipe vs).none_ v
end Z
namespace Z
open PySem PySem.Spec PyProof.Rows L2

abbrev WK := D → Sto → Prop
abbrev WE := En → Sto → WK → Prop
abbrev WT := En → Sto → (Bool → Sto → Prop) → Prop
abbrev WA := En → Sto → (List D → Sto → Prop) → Prop
structure WEnds where
  nx : En → Sto → Prop
  rt : WK
  bk : En → Sto → Prop := fun _ _ => False
  ct : En → Sto → Prop := fun _ _ => False
abbrev WS := WEnds → En → Sto → Prop
abbrev WG := D → En → Sto → (En → Sto → Prop) → Prop
abbrev WGs := List D → En → Sto → (En → Sto → Prop) → Prop
abbrev DX := Addr → List (Str × D) → Sto → Prop
abbrev DSp := List D → Sto → WK → DX → Prop

section
variable (K : Frag) (m : List Addr) (H : Hp)
def Kt (Q0 : WK) (Q : VK) : Prop := ∀ d S' u H' m', Q0 d S' → Ext K m H m' H' → SR K m' H' S' → VR K m' H' d u → Q u H'
def KtT (Q0 : Bool → Sto → Prop) (Q : Bool → Hp → Prop) : Prop := ∀ b S' H' m', Q0 b S' → Ext K m H m' H' → SR K m' H' S' → Q b H'
def KtA (Q0 : List D → Sto → Prop) (Q : List V → Hp → Prop) : Prop := ∀ ds S' us H' m', Q0 ds S' → Ext K m H m' H' → SR K m' H' S' → VRs K m' H' ds us → Q us H'
/-- a new list that is not in the store -/
def KtL (Q0 : List D → Sto → Prop) (Q : VK) : Prop := ∀ ds S' a us H' m', Q0 ds S' → Ext K m H m' H' → SR K m' H' S' → H a = none → a ∉ m' → H' a = some (.lst us) → VRs K m' H' ds us → Q (.ref a) H'
/-- a list or tuple to be read -/
def KtQ (Q0 : List D → Sto → Prop) (Q : VK) : Prop := ∀ ds S' a us H' m', Q0 ds S' → Ext K m H m' H' → SR K m' H' S' → (SqL K H' a us ∨ H' a = some (.tup us)) → VRs K m' H' ds us → Q (.ref a) H'
structure KtS (D0 : WEnds) (D : Ends) : Prop where
  nx : ∀ env' S' σ' H' m', D0.nx env' S' → Ext K m H m' H' → SR K m' H' S' → ER K m' H' env' σ' → D.nx σ' H'
  rt : Kt K m H D0.rt D.rt
  bk : ∀ env' S' σ' H' m', D0.bk env' S' → Ext K m H m' H' → SR K m' H' S' → ER K m' H' env' σ' → D.bk σ' H'
  ct : ∀ env' S' σ' H' m', D0.ct env' S' → Ext K m H m' H' → SR K m' H' S' → ER K m' H' env' σ' → D.ct σ' H'
def KtG (is : List Nat) (σ : L2.St) (Q0 : En → Sto → Prop) (Q : L2.St → Hp → Prop) : Prop :=
  ∀ env' S' σ' H' m', Q0 env' S' → Ext K m H m' H' → SR K m' H' S' → ER K m' H' env' σ' → σ'.length = σ.length → (∀ k, k ∉ is → σ'[k]? = σ[k]?) → Q σ' H'
def XR (d : Option Addr) (fs : List (Str × D)) : Prop := (d = none ∧ fs = []) ∨ ∃ a us, d = some a ∧ H a = some (.xd us) ∧ KVR K m H fs us
def KtX (E0 : DX) (E : XK) : Prop := ∀ C fs S' d H' m', E0 C fs S' → Ext K m H m' H' → SR K m' H' S' → XR K m' H' d fs → E (.ref C) d H'
end
section
variable {K : Frag} {m m1 : List Addr} {H H1 : Hp} (e : Ext K m H m1 H1)
include e
theorem Kt.ext {Q0 : WK} {Q : VK} (k : Kt K m H Q0 Q) : Kt K m1 H1 Q0 Q := fun d S' u H' m' q x s r => k d S' u H' m' q (e.trans x) s r
theorem KtT.ext {Q0 : Bool → Sto → Prop} {Q : Bool → Hp → Prop} (k : KtT K m H Q0 Q) : KtT K m1 H1 Q0 Q := fun b S' H' m' q x s => k b S' H' m' q (e.trans x) s
theorem KtA.ext {Q0 : List D → Sto → Prop} {Q : List V → Hp → Prop} (k : KtA K m H Q0 Q) : KtA K m1 H1 Q0 Q := fun d S' u H' m' q x s r => k d S' u H' m' q (e.trans x) s r
theorem KtS.ext {D0 : WEnds} {D : Ends} (k : KtS K m H D0 D) : KtS K m1 H1 D0 D :=
  ⟨fun a b c d f q x s r => k.nx a b c d f q (e.trans x) s r, k.rt.ext e, fun a b c d f q x s r => k.bk a b c d f q (e.trans x) s r, fun a b c d f q x s r => k.ct a b c d f q (e.trans x) s r⟩
theorem KtX.ext {E0 : DX} {E : XK} (k : KtX K m H E0 E) : KtX K m1 H1 E0 E := fun C fs S' d H' m' q x s r => k C fs S' d H' m' q (e.trans x) s r
end

section
variable (K : Frag)
def lift (w : WE) : TE := fun σ H Q => ∃ env S m Q0, SR K m H S ∧ ER K m H env σ ∧ w env S Q0 ∧ Kt K m H Q0 Q
def liftT (w : WT) : TT := fun σ H Q => ∃ env S m Q0, SR K m H S ∧ ER K m H env σ ∧ w env S Q0 ∧ KtT K m H Q0 Q
def liftA (w : WA) : TA := fun σ H Q => ∃ env S m Q0, SR K m H S ∧ ER K m H env σ ∧ w env S Q0 ∧ KtA K m H Q0 Q
def liftL (w : WA) : TE := fun σ H Q => ∃ env S m Q0, SR K m H S ∧ ER K m H env σ ∧ w env S Q0 ∧ KtL K m H Q0 Q
def liftQ (w : WA) : TE := fun σ H Q => ∃ env S m Q0, SR K m H S ∧ ER K m H env σ ∧ w env S Q0 ∧ KtQ K m H Q0 Q
def liftS (w : WS) : TS := fun D σ H => ∃ env S m D0, SR K m H S ∧ ER K m H env σ ∧ w D0 env S ∧ KtS K m H D0 D
def liftG (is : List Nat) (w : WG) : TG := fun v σ H Q => ∃ d env S m Q0, SR K m H S ∧ ER K m H env σ ∧ VR K m H d v ∧ w d env S Q0 ∧ KtG K m H is σ Q0 Q
def liftGs (is : List Nat) (w : WGs) : TGs := fun vs σ H Q => ∃ ds env S m Q0, SR K m H S ∧ ER K m H env σ ∧ VRs K m H ds vs ∧ w ds env S Q0 ∧ KtG K m H is σ Q0 Q
def liftSp (sp : DSp) : Sp := fun vs H Q E => ∃ ds S m Q0 E0, SR K m H S ∧ VRs K m H ds vs ∧ sp ds S Q0 E0 ∧ Kt K m H Q0 Q ∧ KtX K m H E0 E
end

theorem PE.imp {X : Cx} {e : Expr} {t t' : TE} (h : PE X e t) (i : ∀ σ H Q, t' σ H Q → t σ H Q) : PE X e t' := ⟨fun pins s σ H Q I q => h.run pins s σ H Q I (i σ H Q q)⟩
theorem PT.imp {X : Cx} {e : Expr} {t t' : TT} (h : PT X e t) (i : ∀ σ H Q, t' σ H Q → t σ H Q) : PT X e t' := ⟨fun pins s σ H Q I q => h.run pins s σ H Q I (i σ H Q q)⟩
theorem PW.imp {X : Cx} {e : Expr} {t t' : TT} (h : PW X e t) (i : ∀ σ H Q, t' σ H Q → t σ H Q) : PW X e t' := ⟨fun wh pins s σ H Q I q => h.run wh pins s σ H Q I (i σ H Q q)⟩
theorem PTs.imp {X : Cx} {e : List Expr} {t t' : TT} (h : PTs X e t) (i : ∀ σ H Q, t' σ H Q → t σ H Q) : PTs X e t' := ⟨fun pins s σ H Q I q => h.run pins s σ H Q I (i σ H Q q)⟩
theorem PA.imp {X : Cx} {e : List Expr} {t t' : TA} (h : PA X e t) (i : ∀ σ H Q, t' σ H Q → t σ H Q) : PA X e t' := ⟨fun pos pins s σ H Q I q => h.run pos pins s σ H Q I (i σ H Q q)⟩
theorem PS.imp {X : Cx} {e : Stmt} {t t' : TS} (h : PS X e t) (i : ∀ D σ H, t' D σ H → t D σ H) : PS X e t' := ⟨fun pins s σ H D I q => h.run pins s σ H D I (i D σ H q)⟩
theorem PSs.imp {X : Cx} {e : List Stmt} {t t' : TS} (h : PSs X e t) (i : ∀ D σ H, t' D σ H → t D σ H) : PSs X e t' := ⟨fun pins s σ H D I q => h.run pins s σ H D I (i D σ H q)⟩
theorem PG.imp {X : Cx} {e : Expr} {t t' : TG} (h : PG X e t) (i : ∀ v σ H Q, t' v σ H Q → t v σ H Q) : PG X e t' := ⟨fun pins s σ H v u Q I r q => h.run pins s σ H v u Q I r (i v σ H Q q)⟩
theorem PGs.imp {X : Cx} {e : List Expr} {t t' : TGs} (h : PGs X e t) (i : ∀ v σ H Q, t' v σ H Q → t v σ H Q) : PGs X e t' := ⟨fun pins s σ H v u Q I r q => h.run pins s σ H v u Q I r (i v σ H Q q)⟩

structure FE (X : Cx) (e : Expr) (w : WE) : Prop where
  p : PE X e (lift X.K w)
structure FT (X : Cx) (e : Expr) (w : WT) : Prop where
  p : PT X e (liftT X.K w)
structure FW (X : Cx) (e : Expr) (w : WT) : Prop where
  p : PW X e (liftT X.K w)
structure FTs (X : Cx) (e : List Expr) (w : WT) : Prop where
  p : PTs X e (liftT X.K w)
structure FA (X : Cx) (e : List Expr) (w : WA) : Prop where
  p : PA X e (liftA X.K w)
structure FL (X : Cx) (e : Expr) (w : WA) : Prop where
  p : PE X e (liftL X.K w)
structure FQ (X : Cx) (e : Expr) (w : WA) : Prop where
  p : PE X e (liftQ X.K w)
structure FS (X : Cx) (e : Stmt) (w : WS) : Prop where
  p : PS X e (liftS X.K w)
structure FSs (X : Cx) (e : List Stmt) (w : WS) : Prop where
  p : PSs X e (liftS X.K w)
structure FG (X : Cx) (e : Expr) (is : List Nat) (w : WG) : Prop where
  p : PG X e (liftG X.K is w)
structure FGs (X : Cx) (e : List Expr) (is : List Nat) (w : WGs) : Prop where
  p : PGs X e (liftGs X.K is w)

/-! what follows a value -/
section
variable {K : Frag} {m : List Addr} {H : Hp} {env : En} {σ : L2.St} {S : Sto}
theorem lift_k {w : WE} {Q0 : WK} {Q : VK} (s : SR K m H S) (r : ER K m H env σ) (h : w env S Q0) (k : Kt K m H Q0 Q) : lift K w σ H Q := ⟨env, S, m, Q0, s, r, h, k⟩
/-- a tuple is made -/
theorem Kt.tup {Q0 : WK} {Q : VK} (k : Kt K m H Q0 Q) (s : SR K m H S) {ds : List D} {us : List V} (h : VRs K m H ds us) {p : Addr} (hp : H p = none) (q : Q0 (.tup ds) S) : Q (.ref p) (upd H p (.tup us)) := by
  obtain ⟨_, e, s'⟩ := s.laid (ho := .tup us) hp
  refine k _ _ _ _ _ q e s' ?_
  simp only [VR]
  exact ⟨p, us, rfl, upd_same, VRs.ext e.toEx h⟩
/-- a list is made, kept in the store -/
theorem Kt.lst {Q0 : WK} {Q : VK} (k : Kt K m H Q0 Q) (s : SR K m H S) {ds : List D} {us : List V} (h : VRs K m H ds us) {p : Addr} (hp : H p = none) (q : Q0 (.ref S.length) (S ++ [.lst ds])) : Q (.ref p) (upd H p (.lst us)) := by
  obtain ⟨e, s', g⟩ := s.new (ho := .lst us) (o := .lst ds) hp fun m' H' e' hh => ⟨us, hh, VRs.ext e'.toEx h⟩
  refine k _ _ _ _ _ q e s' ?_
  simp only [VR]
  exact ⟨p, rfl, g⟩
/-- .. not in the store -/
theorem KtL.lst {Q0 : List D → Sto → Prop} {Q : VK} (k : KtL K m H Q0 Q) {m1 : List Addr} {H1 : Hp} (e1 : Ext K m H m1 H1) (s : SR K m1 H1 S) {ds : List D} {us : List V} (h : VRs K m1 H1 ds us) {p : Addr} (hp : H1 p = none) (hp0 : H p = none) (q : Q0 ds S) : Q (.ref p) (upd H1 p (.lst us)) := by
  obtain ⟨nm, e, s'⟩ := s.laid (ho := .lst us) hp
  exact k _ _ _ _ _ _ q (e1.trans e) s' hp0 nm upd_same (VRs.ext e.toEx h)
end

/-! names, constants -/
def wVar (i : Nat) : WE := fun env S Q => match env[i]? with | some (some v) => Q v S | _ => False
def wC (d : D) : WE := fun _ S Q => Q d S
section
variable {X : Cx} {e a b c : Expr} {w wa wb wc : WE} {pos : Pos}
theorem fe_var (i : Nat) {x : Str} {pos : Pos} (hN : X.N[i]? = some x := by rfl) (hv : Vis X.env.scope x := by first | exact Or.inl rfl | exact Or.inr (Or.inl rfl) | exact Or.inr (Or.inr rfl)) (hd : (x == ("__debug__" : Str)) = false := by decide)
    (hcd : (x == ("__classdict__" : Str)) = false := by decide) : FE X (.Name x pos) (wVar i) := by
  refine ⟨PE.imp (pe_var hN hv hd hcd) fun σ H Q ⟨env, S, m, Q0, s, r, h, k⟩ => ?_⟩
  unfold wVar at h
  split at h
  · rename_i v hv
    obtain ⟨u, h1, h2⟩ := r.at_ _ _ hv
    exact ⟨u, h1, k _ _ _ _ _ h Ext.refl s h2⟩
  · exact h.elim
theorem fe_int {i : Int} {j pos} : FE X (.Constant (.int i) j pos) (wC (.int i)) := ⟨PE.imp pe_int fun σ H Q ⟨env, S, m, Q0, s, r, h, k⟩ => k _ _ _ _ _ h Ext.refl s (by simp only [VR])⟩
theorem fe_bl {i : Bool} {j pos} : FE X (.Constant (.bool i) j pos) (wC (.bl i)) := ⟨PE.imp pe_bl fun σ H Q ⟨env, S, m, Q0, s, r, h, k⟩ => k _ _ _ _ _ h Ext.refl s (by simp only [VR])⟩
theorem fe_str {i : Str} {j pos} : FE X (.Constant (.str i) j pos) (wC (.str i)) := ⟨PE.imp pe_str fun σ H Q ⟨env, S, m, Q0, s, r, h, k⟩ => k _ _ _ _ _ h Ext.refl s (by simp only [VR])⟩
theorem fe_non {j pos} : FE X (.Constant .none j pos) (wC .non) := ⟨PE.imp pe_non fun σ H Q ⟨env, S, m, Q0, s, r, h, k⟩ => k _ _ _ _ _ h Ext.refl s (by simp only [VR])⟩
/-- a constant of the module: an int, a text -/
theorem fe_gint {x : Str} {i : Int} {t : Tok} (hg : Gl X x) (hm : X.mg x = some (.int i t)) (hd : (x == ("__debug__" : Str)) = false := by decide) : FE X (.Name x pos) (wC (.int i)) :=
  ⟨PE.imp (pe_glob (v := .int i) hg hm ⟨t, rfl⟩ hd) fun σ H Q ⟨env, S, m, Q0, s, r, h, k⟩ => k _ _ _ _ _ h Ext.refl s (by simp only [VR])⟩
theorem fe_gstr {x : Str} {i : Str} {t : Tok} (hg : Gl X x) (hm : X.mg x = some (.str i t)) (hd : (x == ("__debug__" : Str)) = false := by decide) : FE X (.Name x pos) (wC (.str i)) :=
  ⟨PE.imp (pe_glob (v := .str i) hg hm ⟨t, rfl⟩ hd) fun σ H Q ⟨env, S, m, Q0, s, r, h, k⟩ => k _ _ _ _ _ h Ext.refl s (by simp only [VR])⟩
theorem fe_gref {x : Str} {i : Addr} (hg : Gl X x) (hm : X.mg x = some (.ref i)) (hd : (x == ("__debug__" : Str)) = false := by decide) : FE X (.Name x pos) (wC (.cst i)) :=
  ⟨PE.imp (pe_glob (v := .ref i) hg hm rfl hd) fun σ H Q ⟨env, S, m, Q0, s, r, h, k⟩ => k _ _ _ _ _ h Ext.refl s (by simp only [VR])⟩
end

/-! arguments, displays -/
def aNil : WA := fun _ S Q => Q [] S
def aCons (w : WE) (r : WA) : WA := fun env S Q => w env S fun x S1 => r env S1 fun xs S2 => Q (x :: xs) S2
def wTup (r : WA) : WE := fun env S Q => r env S fun xs S1 => xs.length ≤ sizeLine ∧ Q (.tup xs) S1
def lLst (r : WA) : WA := fun env S Q => r env S fun xs S1 => xs.length ≤ sizeLine ∧ Q xs S1
def wNew (r : WA) : WE := fun env S Q => r env S fun xs S1 => Q (.ref S1.length) (S1 ++ [.lst xs])
def dSeq (v : D) (S : Sto) (R : List D → Prop) : Prop := match v with
  | .tup xs => R xs
  | .rol xs => R xs
  | .ref p => ∃ xs, S[p]? = some (.lst xs) ∧ R xs
  | _ => False
def qSeq (w : WE) : WA := fun env S Q => w env S fun v S1 => dSeq v S1 fun xs => Q xs S1
section
variable {X : Cx} {e a b c : Expr} {es : List Expr} {w wa wb wc : WE} {wr : WA} {pos : Pos}
theorem fa_nil : FA X [] aNil := ⟨PA.imp pa_nil fun σ H Q ⟨env, S, m, Q0, s, r, h, k⟩ => k _ _ _ _ _ h Ext.refl s VRs.nil⟩
theorem fa_cons (ha : FE X e w) (hr : FA X es wr) (hs : starEach (e :: es) X.env = (false, eval e X.env) :: starEach es X.env := by rfl) : FA X (e :: es) (aCons w wr) := by
  refine ⟨PA.imp (pa_cons ha.p hr.p hs) fun σ H Q ⟨env, S, m, Q0, s, r, h, k⟩ => ?_⟩
  refine lift_k s r h fun x S1 u H1 m1 q1 e1 s1 v1 => ?_
  exact ⟨env, S1, m1, _, s1, r.ext e1.toEx, q1, fun xs S2 us H2 m2 q2 e2 s2 v2 => k _ _ _ _ _ q2 (e1.trans e2) s2 (.cons (v1.ext e2.toEx) v2)⟩
theorem fe_tup {x1} (h : FA X es wr) : FE X (.Tuple es x1 pos) (wTup wr) := by
  refine ⟨PE.imp (pe_tup h.p) fun σ H Q ⟨env, S, m, Q0, s, r, h, k⟩ => ?_⟩
  refine ⟨env, S, m, _, s, r, h, fun xs S1 us H1 m1 q1 e1 s1 v1 => ⟨by rw [← v1.length]; exact q1.1, fun p hp => ?_⟩⟩
  exact (k.ext e1).tup s1 v1 hp q1.2
theorem fl_lst (h : FA X es wr) : FL X (.List es pos) (lLst wr) := by
  refine ⟨PE.imp (pe_lst h.p) fun σ H Q ⟨env, S, m, Q0, s, r, h, k⟩ => ?_⟩
  refine ⟨env, S, m, _, s, r, h, fun xs S1 us H1 m1 q1 e1 s1 v1 => ⟨by rw [← v1.length]; exact q1.1, fun p hp => ?_⟩⟩
  have hp0 : H p = none := by
    cases hq : H p with
    | none => rfl
    | some o =>
      by_cases hm : p ∈ m
      · obtain ⟨i, hi, ei⟩ := List.mem_iff_getElem.mp hm
        have := s1.mem (List.mem_of_getElem? (e1.pre i p (by rw [List.getElem?_eq_getElem hi, ei])))
        rw [hp] at this; exact this.elim
      · have := (e1.fr p o hq hm).1
        rw [hp] at this; cases this
  exact k.lst e1 s1 v1 hp hp0 q1.2
/-- what was there is there -/
theorem Ext.back {K : Frag} {m m1 : List Addr} {H H1 : Hp} {S1 : Sto} (e : Ext K m H m1 H1) (s1 : SR K m1 H1 S1) {p : Addr} (hp : H1 p = none) : H p = none := by
  cases hq : H p with
  | none => rfl
  | some o =>
    by_cases hm : p ∈ m
    · obtain ⟨i, hi, ei⟩ := List.mem_iff_getElem.mp hm
      have := s1.mem (List.mem_of_getElem? (e.pre i p (by rw [List.getElem?_eq_getElem hi, ei])))
      rw [hp] at this; exact this.elim
    · have := (e.fr p o hq hm).1
      rw [hp] at this; cases this
/-- a new list is taken into the store -/
theorem fe_new (h : FL X e wr) : FE X e (wNew wr) := by
  refine ⟨PE.imp h.p fun σ H Q ⟨env, S, m, Q0, s, r, h, k⟩ => ?_⟩
  refine ⟨env, S, m, _, s, r, h, fun ds S1 a us H1 m1 q1 e1 s1 h0 nm ha v1 => ?_⟩
  obtain ⟨s2, g⟩ := s1.adopt (p := a) (o := .lst ds) nm ⟨us, ha, VRs.ext Ex.app v1⟩
  refine k _ _ _ _ _ q1 (e1.adopt h0) s2 ?_
  simp only [VR]
  exact ⟨a, rfl, g⟩
theorem fq_new (h : FL X e wr) : FQ X e wr := by
  refine ⟨PE.imp h.p fun σ H Q ⟨env, S, m, Q0, s, r, h, k⟩ => ?_⟩
  exact ⟨env, S, m, _, s, r, h, fun ds S1 a us H1 m1 q1 e1 s1 h0 nm ha v1 => k _ _ _ _ _ _ q1 e1 s1 (.inl (SqL.of ha)) v1⟩
theorem dSeq_rd {K : Frag} {m : List Addr} {H : Hp} {S : Sto} (s : SR K m H S) {v : D} {u : V} {R : List D → Prop} (r : VR K m H v u) (h : dSeq v S R) : ∃ xs a us, R xs ∧ u = .ref a ∧ (SqL K H a us ∨ H a = some (.tup us)) ∧ VRs K m H xs us := by
  cases v with
  | tup xs => simp only [VR] at r; obtain ⟨a, us, h1, h2, h3⟩ := r; exact ⟨xs, a, us, h, h1, .inr h2, h3⟩
  | rol xs => simp only [VR] at r; obtain ⟨a, us, h1, h2, h3⟩ := r; exact ⟨xs, a, us, h, h1, .inl h2.sq, h3⟩
  | ref p =>
    simp only [VR] at r
    obtain ⟨a, h1, h2⟩ := r
    obtain ⟨xs, h3, h4⟩ := h
    obtain ⟨us, h5, h6⟩ := s.lst h2 h3
    exact ⟨xs, a, us, h4, h1, .inl (SqL.of h5), h6⟩
  | _ => exact h.elim
theorem fq_of (h : FE X e w) : FQ X e (qSeq w) := by
  refine ⟨PE.imp h.p fun σ H Q ⟨env, S, m, Q0, s, r, h, k⟩ => ?_⟩
  refine ⟨env, S, m, _, s, r, h, fun v S1 u H1 m1 q1 e1 s1 v1 => ?_⟩
  obtain ⟨xs, a, us, h1, rfl, h3, h4⟩ := dSeq_rd s1 v1 q1
  exact k _ _ _ _ _ _ h1 e1 s1 h3 h4
end

/-! operators by values -/
abbrev R2D := D → D → Sto → WK → Prop
def Sim2 (K : Frag) (r : R2) (d : R2D) : Prop := ∀ (m : List Addr) (H : Hp) (S : Sto) (x y : D) (u v : V) (Q0 : WK) (Q : VK), SR K m H S → VR K m H x u → VR K m H y v → d x y S Q0 → Kt K m H Q0 Q → r u v H Q
def wOp (d : R2D) (wa wb : WE) : WE := fun env S Q => wa env S fun x S1 => wb env S1 fun y S2 => d x y S2 Q
def dB (d : D) (Q : Bool → Prop) : Prop := match d with | .bl b => Q b | _ => False
def tOf (w : WE) : WT := fun env S Q => w env S fun v S1 => dB v fun b => Q b S1
section
variable {X : Cx} {e a b c : Expr} {es : List Expr} {w wa wb wc : WE} {wr : WA} {pos : Pos} {r : R2} {d : R2D}
theorem lift_op (hd : Sim2 X.K r d) {σ : L2.St} {H : Hp} {Q : VK} (h : lift X.K (wOp d wa wb) σ H Q) : tOp r (lift X.K wa) (lift X.K wb) σ H Q := by
  obtain ⟨env, S, m, Q0, s, rr, h, k⟩ := h
  refine lift_k s rr h fun x S1 u H1 m1 q1 e1 s1 v1 => ?_
  refine lift_k s1 (rr.ext e1.toEx) q1 fun y S2 v H2 m2 q2 e2 s2 v2 => ?_
  exact hd _ _ _ _ _ _ _ _ _ s2 (v1.ext e2.toEx) v2 q2 (k.ext (e1.trans e2))
theorem fe_op {op : Operator} (ho : OpR X (binaryOp op) r) (hd : Sim2 X.K r d) (ha : FE X a wa) (hb : FE X b wb) : FE X (.BinOp a op b pos) (wOp d wa wb) :=
  ⟨PE.imp (pe_op ho ha.p hb.p) fun σ H Q h => lift_op hd h⟩
theorem fe_cmp {op : CmpOp} (ho : OpR X (compareOp op) r) (hd : Sim2 X.K r d) (ha : FE X a wa) (hb : FE X b wb) (hm : behindInMarks op b = false) : FE X (.Compare a [op] [b] pos) (wOp d wa wb) :=
  ⟨PE.imp (pe_cmpR ho ha.p hb.p hm) fun σ H Q h => lift_op hd h⟩
theorem dB_k {K : Frag} {m : List Addr} {H : Hp} {Q0 : Bool → Sto → Prop} {Q : Bool → Hp → Prop} (k : KtT K m H Q0 Q) : Kt K m H (fun v S1 => dB v fun b => Q0 b S1) (fun x H' => ∃ k, x = .bl k ∧ Q k H') := fun v S1 u H1 m1 q1 e1 s1 v1 => by
  cases v with
  | bl b => simp only [VR] at v1; exact ⟨b, v1, k _ _ _ _ q1 e1 s1⟩
  | _ => exact q1.elim
theorem ft_cmp {op : CmpOp} (ho : OpR X (compareOp op) r) (hd : Sim2 X.K r d) (ha : FE X a wa) (hb : FE X b wb) (hm : behindInMarks op b = false) : FT X (.Compare a [op] [b] pos) (tOf (wOp d wa wb)) := by
  refine ⟨PT.imp (pt_cmpR ho ha.p hb.p hm) fun σ H Q ⟨env, S, m, Q0, s, rr, h, k⟩ => ?_⟩
  exact lift_op hd ⟨env, S, m, _, s, rr, h, dB_k k⟩
def wCh (d d' : R2D) (wa wb wc : WE) : WE := fun env S Q => wa env S fun x S1 => wb env S1 fun y S2 => d x y S2 fun z S3 => dB z fun k => (k = true → wc env S3 fun u S4 => d' y u S4 Q) ∧ (k = false → Q (.bl false) S3)
theorem lift_ch {r' : R2} {d' : R2D} (hd : Sim2 X.K r d) (hd' : Sim2 X.K r' d') {σ : L2.St} {H : Hp} {Q : VK} (h : lift X.K (wCh d d' wa wb wc) σ H Q) : tChain r r' (lift X.K wa) (lift X.K wb) (lift X.K wc) σ H Q := by
  obtain ⟨env, S, m, Q0, s, rr, h, k⟩ := h
  refine lift_k s rr h fun x S1 u H1 m1 q1 e1 s1 v1 => ?_
  refine lift_k s1 (rr.ext e1.toEx) q1 fun y S2 v H2 m2 q2 e2 s2 v2 => ?_
  refine hd _ _ _ _ _ _ _ _ _ s2 (v1.ext e2.toEx) v2 q2 fun z S3 vz H3 m3 q3 e3 s3 v3 => ?_
  cases z with
  | bl b =>
    simp only [VR] at v3
    refine ⟨b, v3, ?_⟩
    cases b with
    | true =>
      rw [if_pos rfl]
      refine lift_k s3 (rr.ext ((e1.trans e2).trans e3).toEx) (q3.1 rfl) fun t S4 vt H4 m4 q4 e4 s4 v4 => ?_
      exact hd' _ _ _ _ _ _ _ _ _ s4 (v2.ext (e3.trans e4).toEx) v4 q4 (k.ext (((e1.trans e2).trans e3).trans e4))
    | false =>
      rw [if_neg Bool.false_ne_true]
      exact k _ _ _ _ _ (q3.2 rfl) ((e1.trans e2).trans e3) s3 (by simp only [VR])
  | _ => exact q3.elim
theorem fe_chain {op op' : CmpOp} {r' : R2} {d' : R2D} (ho : OpR X (compareOp op) r) (ho' : OpR X (compareOp op') r') (hd : Sim2 X.K r d) (hd' : Sim2 X.K r' d') (ha : FE X a wa) (hb : FE X b wb) (hc : FE X c wc)
    (hm : lastMarks [op, op'] [b, c] = false := by rfl) : FE X (.Compare a [op, op'] [b, c] pos) (wCh d d' wa wb wc) :=
  ⟨PE.imp (pe_chain ho ho' ha.p hb.p hc.p hm) fun σ H Q h => lift_ch hd hd' h⟩
theorem ft_chain {op op' : CmpOp} {r' : R2} {d' : R2D} (ho : OpR X (compareOp op) r) (ho' : OpR X (compareOp op') r') (hd : Sim2 X.K r d) (hd' : Sim2 X.K r' d') (ha : FE X a wa) (hb : FE X b wb) (hc : FE X c wc)
    (hm : lastMarks [op, op'] [b, c] = false := by rfl) : FT X (.Compare a [op, op'] [b, c] pos) (tOf (wCh d d' wa wb wc)) := by
  refine ⟨PT.imp (pt_chain ho ho' ha.p hb.p hc.p hm) fun σ H Q ⟨env, S, m, Q0, s, rr, h, k⟩ => ?_⟩
  exact lift_ch hd hd' ⟨env, S, m, _, s, rr, h, dB_k k⟩
end

/-! tests -/
def tAndD (a b : WT) : WT := fun env S Q => a env S fun c S1 => (c = true → b env S1 Q) ∧ (c = false → Q false S1)
def tOrD (a b : WT) : WT := fun env S Q => a env S fun c S1 => (c = true → Q true S1) ∧ (c = false → b env S1 Q)
def tNotD (a : WT) : WT := fun env S Q => a env S fun c S1 => Q (!c) S1
def tYesD : WT := fun _ S Q => Q true S
def wAnd (a b : WE) : WE := fun env S Q => a env S fun v S1 => dB v fun c => (c = true → b env S1 Q) ∧ (c = false → Q (.bl false) S1)
def wOr (a b : WE) : WE := fun env S Q => a env S fun v S1 => dB v fun c => (c = true → Q (.bl true) S1) ∧ (c = false → b env S1 Q)
def wNot (a : WE) : WE := fun env S Q => a env S fun v S1 => dB v fun c => Q (.bl (!c)) S1
def wIfE (t : WT) (a b : WE) : WE := fun env S Q => t env S fun c S1 => (c = true → a env S1 Q) ∧ (c = false → b env S1 Q)
section
variable {X : Cx} {e a b c : Expr} {es : List Expr} {w wa wb wc : WE} {ta tb : WT} {pos : Pos}
theorem ft_val (h : FE X e w) (he : ∀ whole, isTrue e X.env whole = (do let v ← whole; standAt e.pos; holding [v] (truthy v)) := by intro _; rfl) : FT X e (tOf w) := by
  refine ⟨PT.imp (pt_val h.p he) fun σ H Q ⟨env, S, m, Q0, s, rr, h, k⟩ => ?_⟩
  exact ⟨env, S, m, _, s, rr, h, dB_k k⟩
theorem liftT_if {t : WT} {σ : L2.St} {H : Hp} {env : En} {S : Sto} {m : List Addr} {K : Frag} {A : Bool → Hp → Prop} {Q0 : Bool → Sto → Prop} (s : SR K m H S) (rr : ER K m H env σ) (h : t env S Q0) (k : KtT K m H Q0 A) : liftT K t σ H A := ⟨env, S, m, _, s, rr, h, k⟩
theorem fw_and1 (h : FT X a ta) : FW X (.BoolOp .And [a] pos) ta := ⟨pw_and1 h.p⟩
theorem fw_or1 (h : FT X a ta) : FW X (.BoolOp .Or [a] pos) ta := ⟨pw_or1 h.p⟩
theorem fw_and {rest : List Expr} (ha : FT X a ta) (hb : FW X (.BoolOp .And (b :: rest) pos) tb) : FW X (.BoolOp .And (a :: b :: rest) pos) (tAndD ta tb) := by
  refine ⟨PW.imp (pw_and ha.p hb.p) fun σ H Q ⟨env, S, m, Q0, s, rr, h, k⟩ => ?_⟩
  refine liftT_if s rr h fun c S1 H1 m1 q1 e1 s1 => ?_
  cases c with
  | true => rw [if_pos rfl]; exact liftT_if s1 (rr.ext e1.toEx) (q1.1 rfl) (k.ext e1)
  | false => rw [if_neg Bool.false_ne_true]; exact k _ _ _ _ (q1.2 rfl) e1 s1
theorem fw_or {rest : List Expr} (ha : FT X a ta) (hb : FW X (.BoolOp .Or (b :: rest) pos) tb) : FW X (.BoolOp .Or (a :: b :: rest) pos) (tOrD ta tb) := by
  refine ⟨PW.imp (pw_or ha.p hb.p) fun σ H Q ⟨env, S, m, Q0, s, rr, h, k⟩ => ?_⟩
  refine liftT_if s rr h fun c S1 H1 m1 q1 e1 s1 => ?_
  cases c with
  | true => rw [if_pos rfl]; exact k _ _ _ _ (q1.1 rfl) e1 s1
  | false => rw [if_neg Bool.false_ne_true]; exact liftT_if s1 (rr.ext e1.toEx) (q1.2 rfl) (k.ext e1)
theorem ft_w (h : FW X a ta) : FT X a ta := ⟨h.p.pt⟩
theorem ft_not (h : FT X a ta) : FT X (.UnaryOp .Not a pos) (tNotD ta) := by
  refine ⟨PT.imp (pt_not h.p) fun σ H Q ⟨env, S, m, Q0, s, rr, h, k⟩ => ?_⟩
  exact liftT_if s rr h fun c S1 H1 m1 q1 e1 s1 => k _ _ _ _ q1 e1 s1
theorem fts_nil : FTs X [] tYesD := ⟨PTs.imp pts_nil fun σ H Q ⟨env, S, m, Q0, s, rr, h, k⟩ => k _ _ _ _ h Ext.refl s⟩
theorem fts_one (h : FT X a ta) : FTs X [a] ta := ⟨pts_one h.p⟩
theorem fe_one {op} (h : FE X a wa) : FE X (.BoolOp op [a] pos) wa := ⟨pe_one h.p⟩
theorem fe_and {rest : List Expr} (ha : FE X a wa) (hb : FE X (.BoolOp .And (b :: rest) pos) wb) : FE X (.BoolOp .And (a :: b :: rest) pos) (wAnd wa wb) := by
  refine ⟨PE.imp (pe_and ha.p hb.p) fun σ H Q ⟨env, S, m, Q0, s, rr, h, k⟩ => ?_⟩
  refine lift_k s rr h fun v S1 u H1 m1 q1 e1 s1 v1 => ?_
  cases v with
  | bl c =>
    simp only [VR] at v1
    refine ⟨c, v1, ?_⟩
    cases c with
    | true => rw [if_pos rfl]; exact lift_k s1 (rr.ext e1.toEx) (q1.1 rfl) (k.ext e1)
    | false => rw [if_neg Bool.false_ne_true]; exact k _ _ _ _ _ (q1.2 rfl) e1 s1 (by simp only [VR])
  | _ => exact q1.elim
theorem fe_or {rest : List Expr} (ha : FE X a wa) (hb : FE X (.BoolOp .Or (b :: rest) pos) wb) : FE X (.BoolOp .Or (a :: b :: rest) pos) (wOr wa wb) := by
  refine ⟨PE.imp (pe_or ha.p hb.p) fun σ H Q ⟨env, S, m, Q0, s, rr, h, k⟩ => ?_⟩
  refine lift_k s rr h fun v S1 u H1 m1 q1 e1 s1 v1 => ?_
  cases v with
  | bl c =>
    simp only [VR] at v1
    refine ⟨c, v1, ?_⟩
    cases c with
    | true => rw [if_pos rfl]; exact k _ _ _ _ _ (q1.1 rfl) e1 s1 (by simp only [VR])
    | false => rw [if_neg Bool.false_ne_true]; exact lift_k s1 (rr.ext e1.toEx) (q1.2 rfl) (k.ext e1)
  | _ => exact q1.elim
theorem fe_not (ha : FE X a wa) : FE X (.UnaryOp .Not a pos) (wNot wa) := by
  refine ⟨PE.imp (pe_not ha.p) fun σ H Q ⟨env, S, m, Q0, s, rr, h, k⟩ => ?_⟩
  refine lift_k s rr h fun v S1 u H1 m1 q1 e1 s1 v1 => ?_
  cases v with
  | bl c => simp only [VR] at v1; exact ⟨c, v1, k _ _ _ _ _ q1 e1 s1 (by simp only [VR])⟩
  | _ => exact q1.elim
theorem fe_ifE (hc : FT X c ta) (ha : FE X a wa) (hb : FE X b wb) : FE X (.IfExp c a b pos) (wIfE ta wa wb) := by
  refine ⟨PE.imp (pe_ifExp hc.p ha.p hb.p) fun σ H Q ⟨env, S, m, Q0, s, rr, h, k⟩ => ?_⟩
  refine liftT_if s rr h fun c S1 H1 m1 q1 e1 s1 => ?_
  cases c with
  | true => rw [if_pos rfl]; exact lift_k s1 (rr.ext e1.toEx) (q1.1 rfl) (k.ext e1)
  | false => rw [if_neg Bool.false_ne_true]; exact lift_k s1 (rr.ext e1.toEx) (q1.2 rfl) (k.ext e1)
end
end Z
namespace Z
open PySem PySem.Spec PyProof.Rows L2

/-! targets -/
def gNameD (i : Nat) : WG := fun d env S Q => Q (env.set i (some d)) S
def gNilD : WGs := fun ds env S Q => match ds with | [] => Q env S | _ => False
def gConsD (g : WG) (r : WGs) : WGs := fun ds env S Q => match ds with | d :: t => g d env S fun env1 S1 => r t env1 S1 Q | [] => False
def gTupD (n : Nat) (r : WGs) : WG := fun d env S Q => match d with | .tup xs => xs.length = n ∧ r xs env S Q | _ => False
section
variable {X : Cx} {e a b c o i : Expr} {es : List Expr} {w wa wb wc wo wi : WE} {ta tb : WT} {pos : Pos} {is js : List Nat} {g : WG} {gs : WGs}
theorem fg_name {i : Nat} {x : Str} (hN : X.N.Nodup) (hi : X.N[i]? = some x := by rfl) (hx : Loc X.env.scope x := by first | exact Or.inl rfl | exact Or.inr rfl) (hf : X.fn x = true ∨ X.env.scope.names.lookup x = some .local := by first | exact .inl rfl | exact .inr rfl | assumption) : FG X (.Name x pos) [i] (gNameD i) := by
  refine ⟨PG.imp (pg_name hN hi hx hf) fun v σ H Q ⟨d, env, S, m, Q0, s, r, hv, h, k⟩ => ?_⟩
  exact k _ _ _ _ _ h Ext.refl s (r.set i hv) (by simp) fun j hj => by rw [List.getElem?_set_ne (fun z => hj (by simp [z]))]
theorem fgs_nil : FGs X [] [] gNilD := by
  refine ⟨PGs.imp pgs_nil fun v σ H Q ⟨ds, env, S, m, Q0, s, r, hv, h, k⟩ => ?_⟩
  cases ds with
  | nil => exact ⟨hv.nil_inv, k _ _ _ _ _ h Ext.refl s r rfl fun _ _ => rfl⟩
  | cons _ _ => exact h.elim
theorem fgs_cons (h1 : FG X e is g) (h2 : FGs X es js gs) (hs : (assignEach (e :: es) X.env).map (·.2) = assign e X.env :: (assignEach es X.env).map (·.2) := by rfl) : FGs X (e :: es) (is ++ js) (gConsD g gs) := by
  refine ⟨PGs.imp (pgs_cons h1.p h2.p hs) fun vs σ H Q ⟨ds, env, S, m, Q0, s, r, hv, h, k⟩ => ?_⟩
  cases ds with
  | nil => exact h.elim
  | cons d t =>
    obtain ⟨u, us, rfl, h3, h4⟩ := hv.cons_inv
    refine ⟨u, us, rfl, d, env, S, m, _, s, r, h3, h, fun env1 S1 σ1 H1 m1 q1 e1 s1 r1 l1 f1 => ?_⟩
    refine ⟨t, env1, S1, m1, _, s1, r1, h4.ext e1.toEx, q1, fun env2 S2 σ2 H2 m2 q2 e2 s2 r2 l2 f2 => ?_⟩
    exact k _ _ _ _ _ q2 (e1.trans e2) s2 r2 (l2.trans l1) fun j hj => (f2 j fun z => hj (List.mem_append_right _ z)).trans (f1 j fun z => hj (List.mem_append_left _ z))
theorem fg_tup {k : Nat} {n : Nat} (hc : X.calm = true) (h : FGs X es is gs) (hn : (assignEach es X.env).length = n := by rfl) (hst : (assignEach es X.env).findIdx? (·.1) = none := by rfl) : FG X (.Tuple es k pos) is (gTupD n gs) := by
  refine ⟨PG.imp (pg_tup hc h.p hn hst) fun v σ H Q ⟨d, env, S, m, Q0, s, r, hv, h, k⟩ => ?_⟩
  cases d with
  | tup xs =>
    simp only [VR] at hv
    obtain ⟨a, us, h1, h2, h3⟩ := hv
    exact ⟨a, us, h1, SqT.of h2, by rw [← h3.length]; exact h.1, xs, env, S, m, _, s, r, h3, h.2, k⟩
  | _ => exact h.elim
abbrev DSet := D → D → D → Sto → (Sto → Prop) → Prop
def SimS (K : Frag) (t : TSet) (d : DSet) : Prop := ∀ (m : List Addr) (H : Hp) (S : Sto) (x y z : D) (u v w : V) (Q0 : Sto → Prop) (Q : Hp → Prop), SR K m H S → VR K m H x u → VR K m H y v → VR K m H z w → d x y z S Q0 →
  (∀ S' H' m', Q0 S' → Ext K m H m' H' → SR K m' H' S' → Q H') → t u v w H Q
def gSubD (wo wi : WE) (d : DSet) : WG := fun v env S Q => wo env S fun x S1 => wi env S1 fun y S2 => d x y v S2 fun S3 => Q env S3
theorem fg_sub {t : TSet} {d : DSet} (ho : FE X o wo) (hi : FE X i wi) (hs : PSet X t) (hd : SimS X.K t d)
    (ha : ∀ v, assign (.Subscript o i pos) X.env v = (do
      let ov ← holding [v] (eval o X.env)
      let iv ← holding [v, ov] (eval i X.env)
      standAt pos
      holding [v, ov, iv] (setItem ov iv v)
      release [v, ov, iv] []) := by intro _; rfl) : FG X (.Subscript o i pos) [] (gSubD wo wi d) := by
  refine ⟨PG.imp (pg_sub ho.p hi.p hs ha) fun v σ H Q ⟨z, env, S, m, Q0, s, r, hv, h, k⟩ => ?_⟩
  refine lift_k s r h fun x S1 u H1 m1 q1 e1 s1 v1 => ?_
  refine lift_k s1 (r.ext e1.toEx) q1 fun y S2 v H2 m2 q2 e2 s2 v2 => ?_
  refine hd _ _ _ _ _ _ _ _ _ _ _ s2 (v1.ext e2.toEx) v2 (hv.ext (e1.trans e2).toEx) q2 fun S3 H3 m3 q3 e3 s3 => ?_
  exact k _ _ _ _ _ q3 ((e1.trans e2).trans e3) s3 (r.ext ((e1.trans e2).trans e3).toEx) rfl fun _ _ => rfl
end

/-! statements -/
def sNext : WS := fun D env S => D.nx env S
def sSeq (t u : WS) : WS := fun D env S => t { D with nx := u D } env S
def sBreak : WS := fun D env S => D.bk env S
def sCont : WS := fun D env S => D.ct env S
def sDrop (w : WE) : WS := fun D env S => w env S fun _ S1 => D.nx env S1
def sRet (w : WE) : WS := fun D env S => w env S D.rt
def sRetN : WS := fun D _ S => D.rt .non S
def sIf (c : WT) (t u : WS) : WS := fun D env S => c env S fun b S1 => (b = true → t D env S1) ∧ (b = false → u D env S1)
def sAsg (w : WE) (g : WG) : WS := fun D env S => w env S fun v S1 => g v env S1 D.nx
def sWhile (c : WT) (b : WS) : WS := fun D env S => ∃ W : Nat → En → Sto → Prop, (∃ k, W k env S) ∧ ∀ k env S, W k env S →
  c env S fun t S1 => (t = true → b { D with nx := fun e s => ∃ k', k' < k ∧ W k' e s, ct := fun e s => ∃ k', k' < k ∧ W k' e s, bk := D.nx } env S1) ∧ (t = false → D.nx env S1)
structure Iter where
  items : List D
  ok : Sto → Prop
abbrev WI := En → Sto → (Iter → Sto → Prop) → Prop
def sFor (wi : WI) (g : WG) (b : WS) : WS := fun D env S => wi env S fun J S1 => ∃ P : Nat → En → Sto → Prop, P 0 env S1 ∧ (∀ i env S, i ≤ J.items.length → P i env S → J.ok S) ∧
  (∀ i d env S, J.items[i]? = some d → P i env S → g d env S fun env2 S2 => b { D with nx := P (i + 1), ct := P (i + 1), bk := D.nx } env2 S2) ∧ (∀ env S, P J.items.length env S → D.nx env S)
/-- a list made: P by the turn, what is made so far, the store -/
def lLc (wi : WI) (g : WG) (t : WT) (w : WE) (vs : List Nat) : WA := fun env S R => wi env S fun J S1 => ∃ P : Nat → List D → Sto → Prop, P 0 [] S1 ∧ (∀ i acc S, i ≤ J.items.length → P i acc S → J.ok S) ∧
  (∀ i d acc S, J.items[i]? = some d → P i acc S → g d (wipeD env vs) S fun env2 S2 => t env2 S2 fun b S3 => (b = true → w env2 S3 fun y S4 => acc.length < sizeLine ∧ P (i + 1) (acc ++ [y]) S4) ∧ (b = false → P (i + 1) acc S3)) ∧
  (∀ acc S, P J.items.length acc S → R acc S)
structure WalkD (K : Frag) (m0 : List Addr) (H0 : Hp) (J : It) (J0 : Iter) : Prop where
  goes : ∀ (i : Nat) (H : Hp) (m : List Addr) (S : Sto), i < J0.items.length → Ext K m0 H0 m H → SR K m H S → J0.ok S → J.go i H
  stops : ∀ (H : Hp) (m : List Addr) (S : Sto), Ext K m0 H0 m H → SR K m H S → J0.ok S → J.stop J0.items.length H
  yields : ∀ (i : Nat) (H : Hp) (m : List Addr) (S : Sto) (x : V) (H' : Hp), i < J0.items.length → Ext K m0 H0 m H → SR K m H S → J0.ok S → J.yld i H x H' →
    Ext K m H m H' ∧ SR K m H' S ∧ ∃ d, J0.items[i]? = some d ∧ VR K m H' d x
def liftI (K : Frag) (w : WI) : TI := fun σ H R => ∃ env S m R0, SR K m H S ∧ ER K m H env σ ∧ w env S R0 ∧ ∀ J0 S' m' H', R0 J0 S' → Ext K m H m' H' → SR K m' H' S' → ∀ J, WalkD K m' H' J J0 → R J H'
structure FI (X : Cx) (tg iter : Expr) (w : WI) : Prop where
  p : PI X tg iter (liftI X.K w)
section
variable {X : Cx} {e a b c o i : Expr} {es : List Expr} {w wa wb wc : WE} {ta tb : WT} {pos : Pos} {is js : List Nat} {g : WG} {st : Stmt} {rest body els : List Stmt} {u v : WS} {wi : WI} {tg iter : Expr}
theorem fss_nil : FSs X [] sNext := ⟨PSs.imp pss_nil fun D σ H ⟨env, S, m, D0, s, r, h, k⟩ => k.nx _ _ _ _ _ h Ext.refl s r⟩
theorem fss_cons (h1 : FS X st u) (h2 : FSs X rest v) : FSs X (st :: rest) (sSeq u v) := by
  refine ⟨PSs.imp (pss_cons h1.p h2.p) fun D σ H ⟨env, S, m, D0, s, r, h, k⟩ => ?_⟩
  refine ⟨env, S, m, _, s, r, h, ⟨fun env' S' σ' H' m' q e s' r' => ?_, k.rt, k.bk, k.ct⟩⟩
  exact ⟨env', S', m', D0, s', r', q, k.ext e⟩
theorem fss_one (h1 : FS X st u) : FSs X [st] u := ⟨pss_one h1.p⟩
theorem fs_pass : FS X (.Pass pos) sNext := ⟨PS.imp ps_pass fun D σ H ⟨env, S, m, D0, s, r, h, k⟩ => k.nx _ _ _ _ _ h Ext.refl s r⟩
theorem fs_break : FS X (.Break pos) sBreak := ⟨PS.imp ps_break fun D σ H ⟨env, S, m, D0, s, r, h, k⟩ => k.bk _ _ _ _ _ h Ext.refl s r⟩
theorem fs_expr (he : FE X e w) (hs : swapsWith e none pos.line X.env = pure false := by rfl) : FS X (.Expr e pos) (sDrop w) := by
  refine ⟨PS.imp (ps_expr he.p hs) fun D σ H ⟨env, S, m, D0, s, r, h, k⟩ => ?_⟩
  exact lift_k s r h fun d S1 x H1 m1 q1 e1 s1 v1 => k.nx _ _ _ _ _ q1 e1 s1 (r.ext e1.toEx)
theorem fs_ret (he : FE X e w) : FS X (.Return (some e) pos) (sRet w) := by
  refine ⟨PS.imp (ps_ret he.p) fun D σ H ⟨env, S, m, D0, s, r, h, k⟩ => ?_⟩
  exact lift_k s r h k.rt
theorem fs_retN : FS X (.Return none pos) sRetN := ⟨PS.imp ps_retN fun D σ H ⟨env, S, m, D0, s, r, h, k⟩ => k.rt _ _ _ _ _ h Ext.refl s (by simp only [VR])⟩
theorem fs_if (hc : FT X c ta) (ha : FSs X body u) (hb : FSs X els v) : FS X (.If c body els pos) (sIf ta u v) := by
  refine ⟨PS.imp (ps_if hc.p ha.p hb.p) fun D σ H ⟨env, S, m, D0, s, r, h, k⟩ => ?_⟩
  refine liftT_if s r h fun b S1 H1 m1 q1 e1 s1 => ?_
  cases b with
  | true => rw [if_pos rfl]; exact ⟨env, S1, m1, D0, s1, r.ext e1.toEx, q1.1 rfl, k.ext e1⟩
  | false => rw [if_neg Bool.false_ne_true]; exact ⟨env, S1, m1, D0, s1, r.ext e1.toEx, q1.2 rfl, k.ext e1⟩
theorem fs_set {i : Nat} {x : Str} {pos' : Pos} (hN : X.N.Nodup) (he : FE X e w) (hi : X.N[i]? = some x := by rfl) (hx : Loc X.env.scope x := by first | exact Or.inl rfl | exact Or.inr rfl) (hs : swapsWith e (some (.Name x pos')) pos.line X.env = pure false := by rfl)
    (hf : X.fn x = true ∨ X.env.scope.names.lookup x = some .local := by first | exact .inl rfl | exact .inr rfl | assumption) : FS X (.Assign [.Name x pos'] e pos) (sAsg w (gNameD i)) := by
  refine ⟨PS.imp (ps_set hN hi hx he.p hs hf) fun D σ H ⟨env, S, m, D0, s, r, h, k⟩ => ?_⟩
  exact lift_k s r h fun d S1 x H1 m1 q1 e1 s1 v1 => k.nx _ _ _ _ _ q1 e1 s1 ((r.ext e1.toEx).set i v1)
theorem fs_asg (he : FE X e w) (hg : FG X tg is g) (hs : swapsWithSole [tg] e pos.line X.env = pure false := by rfl) (hw : swappedStores [tg] e X.env = pure none := by rfl)
    (h1 : (assignEach [tg] X.env).map (·.2) = [assign tg X.env] := by rfl) : FS X (.Assign [tg] e pos) (sAsg w g) := by
  refine ⟨PS.imp (ps_asg he.p hg.p hs hw h1) fun D σ H ⟨env, S, m, D0, s, r, h, k⟩ => ?_⟩
  refine lift_k s r h fun d S1 x H1 m1 q1 e1 s1 v1 => ?_
  exact ⟨d, env, S1, m1, _, s1, r.ext e1.toEx, v1, q1, fun env' S' σ' H' m' q e' s' r' _ _ => k.nx _ _ _ _ _ q (e1.trans e') s' r'⟩
theorem fs_while (hp : PassesOwn (model X.prog X.w) X.A X.env X.xe) (hc : FT X c ta) (hb : FSs X body u) : FS X (.While c body [] pos) (sWhile ta u) := by
  refine ⟨PS.imp (ps_while hp hc.p hb.p) fun D σ H ⟨env, S, m, D0, s, r, h, k⟩ => ?_⟩
  obtain ⟨W, ⟨k0, h0⟩, turn⟩ := h
  refine ⟨fun n σ1 H1 => ∃ env1 S1 m1, Ext X.K m H m1 H1 ∧ SR X.K m1 H1 S1 ∧ ER X.K m1 H1 env1 σ1 ∧ W n env1 S1, ⟨k0, env, S, m, Ext.refl, s, r, h0⟩, fun n σ1 H1 ⟨env1, S1, m1, e1, s1, r1, w1⟩ => ?_⟩
  refine liftT_if s1 r1 (turn n env1 S1 w1) fun b S2 H2 m2 q2 e2 s2 => ?_
  cases b with
  | true =>
    rw [if_pos rfl]
    refine ⟨fun σ3 H3 => ∃ n', n' < n ∧ ∃ env3 S3 m3, Ext X.K m H m3 H3 ∧ SR X.K m3 H3 S3 ∧ ER X.K m3 H3 env3 σ3 ∧ W n' env3 S3, fun σ3 H3 ⟨n', hn, z⟩ => ⟨n', hn, z⟩, ?_⟩
    refine ⟨env1, S2, m2, _, s2, r1.ext e2.toEx, q2.1 rfl, ⟨fun env3 S3 σ3 H3 m3 ⟨n', hn, w3⟩ e3 s3 r3 => ⟨n', hn, env3, S3, m3, (e1.trans e2).trans e3, s3, r3, w3⟩, (k.ext (e1.trans e2)).rt, fun env3 S3 σ3 H3 m3 q3 e3 s3 r3 => (k.ext (e1.trans e2)).nx _ _ _ _ _ q3 e3 s3 r3,
      fun env3 S3 σ3 H3 m3 ⟨n', hn, w3⟩ e3 s3 r3 => ⟨n', hn, env3, S3, m3, (e1.trans e2).trans e3, s3, r3, w3⟩⟩⟩
  | false =>
    rw [if_neg Bool.false_ne_true]
    exact k.nx _ _ _ _ _ (q2.2 rfl) (e1.trans e2) s2 (r1.ext e2.toEx)
theorem fs_for (hp : PassesOwn (model X.prog X.w) X.A X.env X.xe) (hc : X.calm = true) (hi : FI X tg iter wi) (hg : FG X tg is g) (hb : FSs X body u) (hs : ∀ x, foldedSetIterable iter X.env x = pure x := by intro _; rfl) : FS X (.For tg iter body [] pos) (sFor wi g u) := by
  refine ⟨PS.imp (ps_for hp hc hi.p hg.p hb.p hs) fun D σ H ⟨env, S, m, D0, s, r, h, k⟩ => ?_⟩
  refine ⟨env, S, m, _, s, r, h, fun J0 S1 m1 H1 ⟨P, p0, pok, turn, done⟩ e1 s1 J wk => ?_⟩
  refine ⟨fun i n σ2 H2 => n = J0.items.length - i ∧ i ≤ J0.items.length ∧ ∃ env2 S2 m2, Ext X.K m1 H1 m2 H2 ∧ SR X.K m2 H2 S2 ∧ ER X.K m2 H2 env2 σ2 ∧ P i env2 S2, ⟨J0.items.length, by simp, Nat.zero_le _, env, S1, m1, Ext.refl, s1, r.ext e1.toEx, p0⟩, ?_⟩
  rintro i n σ2 H2 ⟨rfl, hi, env2, S2, m2, e2, s2, r2, p2⟩
  have ok2 := pok i env2 S2 hi p2
  by_cases hlt : i < J0.items.length
  · refine .inr ⟨wk.goes i H2 m2 S2 hlt e2 s2 ok2, fun σ3 H3 => ∃ env3 S3 m3, Ext X.K m1 H1 m3 H3 ∧ SR X.K m3 H3 S3 ∧ ER X.K m3 H3 env3 σ3 ∧ P (i + 1) env3 S3, fun σ3 H3 ⟨env3, S3, m3, e3, s3, r3, p3⟩ => ⟨J0.items.length - (i + 1), by omega, rfl, hlt, env3, S3, m3, e3, s3, r3, p3⟩, fun x H' y => ?_⟩
    obtain ⟨e3, s3, d, hd, v3⟩ := wk.yields i H2 m2 S2 x H' hlt e2 s2 ok2 y
    refine ⟨d, env2, S2, m2, _, s3, r2.ext e3.toEx, v3, turn i d env2 S2 hd p2, fun env4 S4 σ4 H4 m4 q4 e4 s4 r4 _ _ => ?_⟩
    have e14 := (e2.trans e3).trans e4
    exact ⟨env4, S4, m4, _, s4, r4, q4, ⟨fun env5 S5 σ5 H5 m5 q5 e5 s5 r5 => ⟨env5, S5, m5, e14.trans e5, s5, r5, q5⟩, (k.ext (e1.trans e14)).rt, fun env5 S5 σ5 H5 m5 q5 e5 s5 r5 => (k.ext (e1.trans e14)).nx _ _ _ _ _ q5 e5 s5 r5,
      fun env5 S5 σ5 H5 m5 q5 e5 s5 r5 => ⟨env5, S5, m5, e14.trans e5, s5, r5, q5⟩⟩⟩
  · have e : i = J0.items.length := by omega
    subst e
    exact .inl ⟨wk.stops H2 m2 S2 e2 s2 ok2, k.nx _ _ _ _ _ (done env2 S2 p2) (e1.trans e2) s2 r2⟩

theorem wipe_get (σ : L2.St) (i : Nat) : ∀ vs : List Nat, (L2.wipe σ vs)[i]? = if i ∈ vs then (if i < σ.length then some none else none) else σ[i]?
  | [] => by simp [L2.wipe]
  | v :: vs => by
    unfold L2.wipe
    by_cases h : v = i
    · subst h
      rw [List.getElem?_set, if_pos rfl, if_pos List.mem_cons_self, L2.wipe_length]
    · rw [List.getElem?_set_ne h, wipe_get σ i vs]
      simp only [List.mem_cons, Ne.symm h, false_or]
theorem wipe_eq {σ σ' : L2.St} {vs is : List Nat} (hs : ∀ i ∈ is, i ∈ vs) (hl : σ'.length = σ.length) (hf : ∀ k, k ∉ is → σ'[k]? = (L2.wipe σ vs)[k]?) : L2.wipe σ' vs = L2.wipe σ vs := by
  apply List.ext_getElem?
  intro i
  rw [wipe_get, wipe_get]
  by_cases h : i ∈ vs
  · rw [if_pos h, if_pos h, hl]
  · rw [if_neg h, if_neg h, hf i fun z => h (hs i z), wipe_get, if_neg h]
theorem hid {K : Frag} {m : List Addr} {H : Hp} {S : Sto} {p : Addr} {us : List V} {o : HO} (s : SR K m H S) (nm : p ∉ m) (h : H p = some (.lst us)) : Ex K m H m (upd H p o) ∧ SR K m (upd H p o) S ∧ ∀ m1 H1, Ext K m1 H1 m H → H1 p = none → Ext K m1 H1 m (upd H p o) := by
  have ex : Ex K m H m (upd H p o) := by
    refine ⟨fun b us h' => ?_, fun b us h' => ?_, fun _ _ h => h⟩
    · rw [upd_ne (fun z => by rw [z, h] at h'; cases h')]; exact h'
    · rcases h' with ⟨o, h'⟩ | h'
      · exact .inl ⟨o, by rw [upd_ne (fun z => by rw [z, h] at h'; cases h')]; exact h'⟩
      · exact .inr h'
  refine ⟨ex, ⟨s.len, s.nd, fun i o' hi => ?_⟩, fun m1 H1 e h1 => ?_⟩
  · obtain ⟨a, h1, h2⟩ := s.at_ i o' hi
    refine ⟨a, h1, h2.keep ex (upd_ne fun z => nm ?_)⟩
    rw [← z]; exact List.mem_of_getElem? h1
  · refine ⟨⟨fun a us z => ex.tup a us (e.tup a us z), fun a us z => ex.rol a us (e.rol a us z), e.pre⟩, fun a o' z n => ⟨?_, (e.fr a o' z n).2⟩⟩
    rw [upd_ne (ne_of_none z h1)]
    exact (e.fr a o' z n).1
abbrev BX (X : Cx) (scope : Scope) (s : Shared) (H : Hp) (C : Addr) (cl : List (Str × Addr)) (fp : List Addr) : Cx := X.blk s H scope (compEnvC scope cl C X.env) fp
theorem lift_lc {own : List (Str × Nat)} {g : WG} {t : WT} {w : WE} {wi : WI} {σ : L2.St} {H : Hp} {Q : VK} (hsub : ∀ i ∈ is, i ∈ own.map (·.2)) (h : liftL X.K (lLc wi g t w (own.map (·.2))) σ H Q) :
    tLc (liftI X.K wi) (liftG X.K is g) (liftT X.K t) (lift X.K w) (own.map (·.2)) σ H Q := by
  obtain ⟨env, S, m, Q0, s, r, h, k⟩ := h
  refine ⟨env, S, m, _, s, r, h, fun J0 S1 m1 H1 ⟨P, p0, pok, turn, done⟩ e1 s1 J wk Da hD => ?_⟩
  have hD0 := e1.back s1 hD
  obtain ⟨nm, e1', s1'⟩ := s1.laid (ho := .lst []) hD
  refine ⟨fun i n H2 => n = J0.items.length - i ∧ i ≤ J0.items.length ∧ ∃ acc us S2 m2, Ext X.K m1 H1 m2 H2 ∧ SR X.K m2 H2 S2 ∧ Da ∉ m2 ∧ H2 Da = some (.lst us) ∧ VRs X.K m2 H2 acc us ∧ P i acc S2, ⟨J0.items.length, by simp, Nat.zero_le _, [], [], S1, m1, e1', s1', nm, upd_same, .nil, p0⟩, ?_⟩
  rintro i n H2 ⟨rfl, hi, acc, us, S2, m2, e2, s2, nm2, hD2, v2, p2⟩
  have ok2 := pok i acc S2 hi p2
  by_cases hlt : i < J0.items.length
  · refine .inr ⟨wk.goes i H2 m2 S2 hlt e2 s2 ok2, fun H3 => ∃ acc us S3 m3, Ext X.K m1 H1 m3 H3 ∧ SR X.K m3 H3 S3 ∧ Da ∉ m3 ∧ H3 Da = some (.lst us) ∧ VRs X.K m3 H3 acc us ∧ P (i + 1) acc S3, fun H3 ⟨acc3, us3, S3, m3, z⟩ => ⟨J0.items.length - (i + 1), by omega, rfl, hlt, acc3, us3, S3, m3, z⟩, fun x H' y => ?_⟩
    obtain ⟨e3, s3, d, hd, v3⟩ := wk.yields i H2 m2 S2 x H' hlt e2 s2 ok2 y
    refine ⟨d, wipeD env _, S2, m2, _, s3, (r.ext ((e1.trans e2).trans e3).toEx).wipe _, v3, turn i d acc S2 hd p2, fun env4 S4 σ4 H4 m4 q4 e4 s4 r4 l4 f4 => ⟨wipe_eq hsub (l4.trans (L2.wipe_length _ _)) f4, ?_⟩⟩
    have d4 := e3.fr _ _ hD2 nm2
    have d4' := e4.fr _ _ d4.1 d4.2
    refine liftT_if s4 r4 q4 fun b S5 H5 m5 q5 e5 s5 => ?_
    have d5 := e5.fr _ _ d4'.1 d4'.2
    cases b with
    | true =>
      rw [if_pos rfl]
      refine lift_k s5 (r4.ext e5.toEx) (q5.1 rfl) fun z S6 u H6 m6 q6 e6 s6 v6 => ?_
      have d6 := e6.fr _ _ d5.1 d5.2
      have e26 := (((e3.trans e4).trans e5).trans e6)
      have v2' := v2.ext e26.toEx
      refine ⟨us, d6.1, by rw [← v2.length]; exact q6.1, ?_⟩
      obtain ⟨x7, s7, g7⟩ := hid (o := .lst (us ++ [u])) s6 d6.2 d6.1
      exact ⟨acc ++ [z], us ++ [u], S6, m6, g7 _ _ (e2.trans e26) hD, s7, d6.2, upd_same, (v2'.app (.cons v6 .nil)).ext x7, q6.2⟩
    | false =>
      rw [if_neg Bool.false_ne_true]
      exact ⟨acc, us, S5, m5, ((e2.trans e3).trans e4).trans e5, s5, d5.2, d5.1, v2.ext ((e3.trans e4).trans e5).toEx, q5.2 rfl⟩
  · have e : i = J0.items.length := by omega
    subst e
    exact .inl ⟨wk.stops H2 m2 S2 e2 s2 ok2, k _ _ _ _ _ _ (done acc S2 p2) (e1.trans e2) s2 hD0 nm2 hD2 v2⟩

theorem fl_lc {elt : Expr} {ifs : List Expr} {scope : Scope} {own : List (Str × Nat)} (hc : X.calm = true) (hN : X.N.Nodup) (hi : FI X tg iter wi) (ok : BlkOk X.N X.env.scope scope own)
    (hg : ∀ (s : Shared) (H : Hp) (C : Addr) (cl : List (Str × Addr)) (fp : List Addr), FG (BX X scope s H C cl fp) tg is g) (ht : ∀ (s : Shared) (H : Hp) (C : Addr) (cl : List (Str × Addr)) (fp : List Addr), FTs (BX X scope s H C cl fp) ifs ta)
    (he : ∀ (s : Shared) (H : Hp) (C : Addr) (cl : List (Str × Addr)) (fp : List Addr), FE (BX X scope s H C cl fp) elt w) (hsub : ∀ i ∈ is, i ∈ own.map (·.2) := by decide) (hs : ∀ x, foldedSetIterable iter X.env x = pure x := by intro _; rfl) :
    FL X (.ListComp elt [⟨tg, iter, ifs, 0⟩] scope pos) (lLc wi g ta w (own.map (·.2))) :=
  ⟨PE.imp (pe_lc (te := lift X.K w) (tt := liftT X.K ta) (g := liftG X.K is g) hc hN hi.p ok (fun s H C cl fp => (hg s H C cl fp).p) (fun s H C cl fp => (ht s H C cl fp).p) (fun s H C cl fp => (he s H C cl fp).p) hs) fun σ H Q h => lift_lc hsub h⟩
theorem fs_setLc {i : Nat} {y : Str} {py spos : Pos} {elt : Expr} {ifs : List Expr} {scope : Scope} {own : List (Str × Nat)} (hc : X.calm = true) (hN : X.N.Nodup) (hi : FI X tg iter wi) (ok : BlkOk X.N X.env.scope scope own)
    (hg : ∀ (s : Shared) (H : Hp) (C : Addr) (cl : List (Str × Addr)) (fp : List Addr), FG (BX X scope s H C cl fp) tg is g) (ht : ∀ (s : Shared) (H : Hp) (C : Addr) (cl : List (Str × Addr)) (fp : List Addr), FTs (BX X scope s H C cl fp) ifs ta)
    (he : ∀ (s : Shared) (H : Hp) (C : Addr) (cl : List (Str × Addr)) (fp : List Addr), FE (BX X scope s H C cl fp) elt w) (hsub : ∀ i ∈ is, i ∈ own.map (·.2) := by decide) (hy : X.N[i]? = some y := by rfl) (hyl : X.env.scope.names.lookup y = some .local := by rfl)
    (hsw : swapsWith (.ListComp elt [⟨tg, iter, ifs, 0⟩] scope pos) (some (.Name y py)) spos.line X.env = pure true := by exact sw_true rfl rfl rfl (by decide +kernel)) (hs : ∀ x, foldedSetIterable iter X.env x = pure x := by intro _; rfl) :
    FS X (.Assign [.Name y py] (.ListComp elt [⟨tg, iter, ifs, 0⟩] scope pos) spos) (sAsg (wNew (lLc wi g ta w (own.map (·.2)))) (gNameD i)) := by
  refine ⟨PS.imp (ps_setLc (te := lift X.K w) (tt := liftT X.K ta) (g := liftG X.K is g) hc hN hy hyl hsw hi.p ok (fun s H C cl fp => (hg s H C cl fp).p) (fun s H C cl fp => (ht s H C cl fp).p) (fun s H C cl fp => (he s H C cl fp).p) hs) fun D σ H ⟨env, S, m, D0, s, r, h, k⟩ => ?_⟩
  refine lift_lc hsub ⟨env, S, m, _, s, r, h, fun ds S1 a us H1 m1 q1 e1 s1 h0 nm ha v1 => ?_⟩
  obtain ⟨s2, g2⟩ := s1.adopt (p := a) (o := .lst ds) nm ⟨us, ha, VRs.ext Ex.app v1⟩
  have e2 := e1.adopt h0
  refine k.nx _ _ _ _ _ q1 e2 s2 ((r.ext e2.toEx).set i ?_)
  simp only [VR]
  exact ⟨a, rfl, g2⟩
end

/-! what is walked -/
def signs (x : Str) : List D := x.cps.toList.map fun c => D.str (T [c])
def iSeq (w : WE) : WI := fun env S R => w env S fun v S1 => match v with
  | .tup xs => R ⟨xs, fun _ => True⟩ S1
  | .rol xs => R ⟨xs, fun _ => True⟩ S1
  | .str x => R ⟨signs x, fun _ => True⟩ S1
  | .ref p => ∃ xs, S1[p]? = some (.lst xs) ∧ R ⟨xs, fun S => S[p]? = some (.lst xs)⟩ S1
  | _ => False
def iL (w : WA) : WI := fun env S R => w env S fun xs S1 => R ⟨xs, fun _ => True⟩ S1
def rangeD (lo : Int) (n : Nat) : List D := (List.range n).map fun (i : Nat) => D.int (lo + (i : Int))
def iRange1 (w : WA) : WI := fun env S R => w env S fun xs S1 => match xs with
  | [.int j] => (-(2 ^ 62) ≤ j ∧ j < 2 ^ 62) ∧ R ⟨rangeD 0 j.toNat, fun _ => True⟩ S1
  | _ => False
def iRange2 (w : WA) : WI := fun env S R => w env S fun xs S1 => match xs with
  | [.int i, .int j] => (-(2 ^ 62) ≤ i ∧ i < 2 ^ 62 ∧ -(2 ^ 62) ≤ j ∧ j < 2 ^ 62) ∧ R ⟨rangeD i (j - i).toNat, fun _ => True⟩ S1
  | _ => False
theorem rangeD_get {lo : Int} {n i : Nat} (h : i < n) : (rangeD lo n)[i]? = some (.int (lo + i)) := by
  unfold rangeD; rw [List.getElem?_map, List.getElem?_range h]; rfl
theorem rangeD_len {lo : Int} {n : Nat} : (rangeD lo n).length = n := by unfold rangeD; simp
section
variable {K : Frag} {m m0 : List Addr} {H H0 : Hp} {S : Sto}
theorem WalkD.list {xs : List D} {us : List V} {a : Addr} {ok : Sto → Prop} (v : VRs K m0 H0 xs us) (h : ∀ H m S, Ext K m0 H0 m H → SR K m H S → ok S → ∃ us, SqL K H a us ∧ VRs K m H xs us) : WalkD K m0 H0 (Itl K a) ⟨xs, ok⟩ := by
  refine ⟨fun i H m S hi e s o => ?_, fun H m S e s o => ?_, fun i H m S x H' hi e s o y => ?_⟩
  · obtain ⟨us, h1, h2⟩ := h H m S e s o
    obtain ⟨u, h3, h4⟩ := h2.get (i := i) (x := xs[i]'hi) (by simp)
    exact ⟨us, u, h1, h3⟩
  · obtain ⟨us, h1, h2⟩ := h H m S e s o
    exact ⟨us, h1, by show us.length ≤ xs.length; rw [h2.length]; exact Nat.le_refl _⟩
  · obtain ⟨us, h1, h2⟩ := h H m S e s o
    obtain ⟨rfl, y2⟩ := y
    obtain ⟨u, h3, h4⟩ := h2.get (i := i) (x := xs[i]'hi) (by simp)
    have := y2 us h1
    rw [h3] at this; cases this
    exact ⟨Ext.refl, s, xs[i]'hi, by simp, h4⟩
theorem WalkD.tup {xs : List D} {us : List V} {a : Addr} {ok : Sto → Prop} (h0 : H0 a = some (.tup us)) (v : VRs K m0 H0 xs us) : WalkD K m0 H0 (Itt K a) ⟨xs, ok⟩ := by
  refine ⟨fun i H m S hi e s o => ?_, fun H m S e s o => ?_, fun i H m S x H' hi e s o y => ?_⟩
  · obtain ⟨u, h3, h4⟩ := v.get (i := i) (x := xs[i]'hi) (by simp)
    exact ⟨us, u, SqT.of (e.tup _ _ h0), h3⟩
  · exact ⟨us, SqT.of (e.tup _ _ h0), by show us.length ≤ xs.length; rw [v.length]; exact Nat.le_refl _⟩
  · obtain ⟨rfl, y2⟩ := y
    obtain ⟨u, h3, h4⟩ := v.get (i := i) (x := xs[i]'hi) (by simp)
    have := y2 us (SqT.of (e.tup _ _ h0))
    rw [h3] at this; cases this
    exact ⟨Ext.refl, s, xs[i]'hi, by simp, h4.ext e.toEx⟩
theorem WalkD.str {x : Str} {ok : Sto → Prop} : WalkD K m0 H0 (Its x) ⟨signs x, ok⟩ := by
  refine ⟨fun i H m S hi e s o => ?_, fun H m S e s o => ?_, fun i H m S v H' hi e s o y => ?_⟩
  · show i < x.cps.size
    simpa [signs] using hi
  · show x.cps.size ≤ (signs x).length
    simp [signs]
  · obtain ⟨rfl, c, h1, h2⟩ := y
    refine ⟨Ext.refl, s, .str ⟨#[c]⟩, ?_, by rw [h2]; simp only [VR]⟩
    show (signs x)[i]? = _
    unfold signs
    rw [List.getElem?_map, Array.getElem?_toList, h1]; rfl
theorem WalkD.range {lo : Int} {n : Nat} {ok : Sto → Prop} : WalkD K m0 H0 (Itr lo n) ⟨rangeD lo n, ok⟩ := by
  refine ⟨fun i H m S hi e s o => ?_, fun H m S e s o => ?_, fun i H m S v H' hi e s o y => ?_⟩
  · show i < n
    simpa [rangeD_len] using hi
  · show n ≤ (rangeD lo n).length
    rw [rangeD_len]; exact Nat.le_refl _
  · obtain ⟨rfl, h2⟩ := y
    have hi' : i < n := by simpa [rangeD_len] using hi
    exact ⟨Ext.refl, s, _, rangeD_get hi', by rw [h2]; simp only [VR]⟩
end
section
variable {X : Cx} {tg e : Expr} {es : List Expr} {w : WE} {wr : WA} {te : TE}
theorem pi_any (he : PE X e te) : PI X tg e (fun σ H R => te σ H fun v H1 => (∃ a, v = .ref a ∧ (∃ xs, SqL X.K H1 a xs) ∧ R (Itl X.K a) H1) ∨ (∃ a, v = .ref a ∧ (∃ xs, SqT X.K H1 a xs) ∧ R (Itt X.K a) H1) ∨ (∃ x, v = .str x ∧ R (Its x) H1)) := by
  refine ⟨fun pins s σ H R I h => ?_⟩
  refine thn (he.run pins s σ H _ I h) fun v s1 ⟨y, H1, I1, r1, q⟩ => ?_
  rcases q with ⟨a, rfl, ⟨xs, hq⟩, q⟩ | ⟨a, rfl, ⟨xs, hq⟩, q⟩ | ⟨x, rfl, q⟩
  · cases r1
    obtain ⟨its, rv, p, hz⟩ := I1.list hq
    refine wpAny_pyIter_list p.isList ?_
    refine ⟨s1.heap.objs.size, [s1.heap.objs.size], _, _, H1, rfl, I1.kept (t' := s1.toks) fun b o e => Heap.get?_push_of_some _ e, turn_list a _, ⟨_, Heap.get?_push_size _ rfl, rfl, rfl⟩, fun b hb => ?_, q⟩
    have e : b = s1.heap.objs.size := by simpa using hb
    subst e
    exact I1.fpOk (Nat.le_refl _) (I1.hok.fresh (Nat.le_refl _))
  · cases r1
    obtain ⟨its, rv, p, hz⟩ := I1.tuple hq
    refine wpAny_pyIter_tuple (show s1.heap.IsTuple a its.toArray from p) ?_
    refine ⟨s1.heap.objs.size, [s1.heap.objs.size], _, _, H1, rfl, I1.kept (t' := s1.toks) fun b o e => Heap.get?_push_of_some _ e, turn_tuple a _, ⟨_, Heap.get?_push_size _ rfl, rfl, rfl⟩, fun b hb => ?_, q⟩
    have e : b = s1.heap.objs.size := by simpa using hb
    subst e
    exact I1.fpOk (Nat.le_refl _) (I1.hok.fresh (Nat.le_refl _))
  · obtain ⟨t, rfl⟩ := r1
    cases ha : x.cps.all (· < 128)
    · exact wpAny_pyIter_wide ha (pi_one (tk := s1.toks) I1 _ (turn_str _ x t "str_iterator" (.inr rfl)) ⟨_, Heap.get?_push_size _ rfl, rfl, rfl⟩ q)
    · exact wpAny_pyIter_ascii ha (pi_one (tk := s1.toks) I1 _ (turn_str _ x t "str_ascii_iterator" (.inl rfl)) ⟨_, Heap.get?_push_size _ rfl, rfl, rfl⟩ q)
theorem PI.imp {t t' : TI} (h : PI X tg e t) (i : ∀ σ H R, t' σ H R → t σ H R) : PI X tg e t' := ⟨fun pins s σ H R I q => h.run pins s σ H R I (i σ H R q)⟩
theorem fi_seq (h : FE X e w) : FI X tg e (iSeq w) := by
  refine ⟨PI.imp (pi_any h.p) fun σ H R ⟨env, S, m, R0, s, r, h, k⟩ => ?_⟩
  refine lift_k s r h fun v S1 u H1 m1 q1 e1 s1 v1 => ?_
  cases v with
  | tup xs =>
    simp only [VR] at v1
    obtain ⟨a, us, h1, h2, h3⟩ := v1
    exact .inr (.inl ⟨a, h1, ⟨us, SqT.of h2⟩, k _ _ _ _ q1 e1 s1 _ (WalkD.tup h2 h3)⟩)
  | rol xs =>
    simp only [VR] at v1
    obtain ⟨a, us, h1, h2, h3⟩ := v1
    exact .inl ⟨a, h1, ⟨us, h2.sq⟩, k _ _ _ _ q1 e1 s1 _ (WalkD.list h3 fun H m S e s o => ⟨us, (e.rol _ _ h2).sq, h3.ext e.toEx⟩)⟩
  | str x => simp only [VR] at v1; exact .inr (.inr ⟨x, v1, k _ _ _ _ q1 e1 s1 _ WalkD.str⟩)
  | ref p =>
    simp only [VR] at v1
    obtain ⟨a, h1, h2⟩ := v1
    obtain ⟨xs, h3, q1⟩ := q1
    obtain ⟨us, h4, h5⟩ := s1.lst h2 h3
    refine .inl ⟨a, h1, ⟨us, SqL.of h4⟩, k _ _ _ _ q1 e1 s1 _ (WalkD.list h5 fun H m S e s o => ?_)⟩
    obtain ⟨us', h6, h7⟩ := s.lst (e.pre _ _ h2) o
    exact ⟨us', SqL.of h6, h7⟩
  | _ => exact q1.elim
theorem fi_l (h : FL X e wr) : FI X tg e (iL wr) := by
  refine ⟨PI.imp (pi_any h.p) fun σ H R ⟨env, S, m, R0, s, r, h, k⟩ => ?_⟩
  refine ⟨env, S, m, _, s, r, h, fun xs S1 a us H1 m1 q1 e1 s1 h0 nm ha v1 => ?_⟩
  refine .inl ⟨a, rfl, ⟨us, SqL.of ha⟩, k _ _ _ _ q1 e1 s1 _ (WalkD.list v1 fun H m S e s o => ?_)⟩
  exact ⟨us, SqL.of (e.fr _ _ ha nm).1, v1.ext e.toEx⟩
theorem fi_range1 {a : Expr} {p pos : Pos} (hg : Gl X "range") (hm : X.mg "range" = none) (ha : FA X [a] wr) (hs : starEach [a] X.env = [(false, eval a X.env)] := by rfl) : FI X tg (.Call (.Name "range" p) [a] [] pos) (iRange1 wr) := by
  refine ⟨PI.imp (pi_range1 hg hm ha.p hs) fun σ H R ⟨env, S, m, R0, s, r, h, k⟩ => ?_⟩
  refine ⟨env, S, m, _, s, r, h, fun xs S1 us H1 m1 q1 e1 s1 v1 => ?_⟩
  match xs, q1 with
  | [.int j], q1 =>
    obtain ⟨u, t, rfl, h1, h2⟩ := v1.cons_inv
    cases h2.nil_inv
    simp only [VR] at h1
    exact ⟨j, by rw [h1], q1.1.1, q1.1.2, k _ _ _ _ q1.2 e1 s1 _ WalkD.range⟩
theorem fi_range2 {a b : Expr} {p pos : Pos} (hg : Gl X "range") (hm : X.mg "range" = none) (ha : FA X [a, b] wr) (hs : starEach [a, b] X.env = [(false, eval a X.env), (false, eval b X.env)] := by rfl) (hs2 : starEach [b] X.env = [(false, eval b X.env)] := by rfl) : FI X tg (.Call (.Name "range" p) [a, b] [] pos) (iRange2 wr) := by
  refine ⟨PI.imp (pi_range2 hg hm ha.p hs hs2) fun σ H R ⟨env, S, m, R0, s, r, h, k⟩ => ?_⟩
  refine ⟨env, S, m, _, s, r, h, fun xs S1 us H1 m1 q1 e1 s1 v1 => ?_⟩
  match xs, q1 with
  | [.int i, .int j], q1 =>
    obtain ⟨u, t, rfl, h1, h2⟩ := v1.cons_inv
    obtain ⟨u2, t2, rfl, h3, h4⟩ := h2.cons_inv
    cases h4.nil_inv
    simp only [VR] at h1 h3
    exact ⟨i, j, by rw [h1, h3], q1.1, k _ _ _ _ q1.2 e1 s1 _ WalkD.range⟩
end
end Z
namespace Z
open PySem PySem.Spec PyProof.Rows L2

def startD (N : List Str) (ds : List D) : En := ds.map some ++ List.replicate (N.length - ds.length) none
section
variable {K : Frag} {m : List Addr} {H : Hp}
theorem VRs.somes : ∀ {ds : List D} {vs : List V} {i : Nat} {d : D}, VRs K m H ds vs → (ds.map some)[i]? = some (some d) → ∃ v, (vs.map some)[i]? = some (some v) ∧ VR K m H d v := fun {ds vs i d} h e => by
  rw [List.getElem?_map] at e
  cases hd : ds[i]? with
  | none => rw [hd] at e; cases e
  | some x =>
    rw [hd] at e
    have : x = d := by simpa using e
    subst this
    obtain ⟨v, h1, h2⟩ := h.get hd
    exact ⟨v, by rw [List.getElem?_map, h1]; rfl, h2⟩
theorem ER.start {N : List Str} {ds : List D} {vs : List V} (h : VRs K m H ds vs) : ER K m H (startD N ds) (L2.start N vs) := by
  have hl := h.length
  refine ⟨by simp [startD, L2.start, hl], fun i d e => ?_⟩
  unfold startD at e
  unfold L2.start
  by_cases hi : i < ds.length
  · rw [List.getElem?_append_left (by simpa using hi)] at e
    obtain ⟨v, h1, h2⟩ := h.somes e
    exact ⟨v, by rw [List.getElem?_append_left (by simp; omega)]; exact h1, h2⟩
  · rw [List.getElem?_append_right (by simpa using hi)] at e
    have := List.mem_of_getElem? e
    rw [List.mem_replicate] at this
    cases this.2
end
section
variable {P : Program} {w : World} {K : Frag} {mg : Str → Option Value} {base : Heap}
/-- a def that raises nothing -/
theorem fn_ok {x qual : Str} {st : Stmt} {f : Addr} {fd : FuncData} {N ps : List Str} {k : Nat} {sp : DSp} {wb : WS} (F : Fun K x qual st f fd) (S : FnScope N ps (defScope st)) (len : ∀ ds S Q E, sp ds S Q E → ds.length = ps.length)
    (hb : ∀ (cdv : Value) (A : Around) (outer : List Env) (s : Shared) (H : Hp) (E : XK), Room k (A.deeper (envOfC qual (defScope st) s.heap.objs.size f cdv)) → FSs (cxOf CX0 P w K mg base N qual (defScope st) f cdv A outer s H E).nox (defBody st) wb)
    (hs : ∀ ds S Q E, sp ds S Q E → wb { nx := fun _ S' => Q .non S', rt := Q } (startD N ds) S) : FnOk P w K mg base CX0 (k + 1) f fd ps (liftSp K sp) := by
  refine F.ok S (fun vs H Q E ⟨ds, S, m, Q0, E0, s, v, h, k, _⟩ => by rw [← v.length]; exact len _ _ _ _ h) (fun cdv A outer s H vs Q E hr ⟨ds, S, m, Q0, E0, sr, v, h, k, _⟩ => ?_)
  refine ⟨_, (hb cdv A outer s H E hr).p, startD N ds, S, m, _, sr, ER.start v, hs _ _ _ _ h, ⟨fun env' S' σ' H' m' q e s' r' => k _ _ _ _ _ q e s' (by simp only [VR]), k, fun _ _ _ _ _ q => q.elim, fun _ _ _ _ _ q => q.elim⟩⟩
end
def wCall (sp : DSp) (r : WA) : WE := fun env S Q => r env S fun ds S1 => sp ds S1 Q fun _ _ _ => False
section
variable {X : Cx} {CX : CXT} {k : Nat} {f C : Addr} {fd : FuncData} {ps : List Str} {sp : DSp} {x m : Str} {p pos apos : Pos} {e o : Expr} {es : List Expr} {wr : WA} {wo : WE}
theorem lift_call {σ : L2.St} {H : Hp} {Q : VK} (h : lift X.K (wCall sp wr) σ H Q) : tCall (liftSp X.K sp) [] E0 (liftA X.K wr) σ H Q := by
  obtain ⟨env, S, m, Q0, s, r, h, k⟩ := h
  refine ⟨env, S, m, _, s, r, h, fun ds S1 vs H1 m1 q1 e1 s1 v1 => ?_⟩
  show liftSp X.K sp (vs ++ []) H1 Q E0
  rw [List.append_nil]
  exact ⟨ds, S1, m1, Q0, _, s1, v1, q1, k.ext e1, fun _ _ _ _ _ _ z => z.elim⟩
theorem fe_call (F : FnOk X.prog X.w X.K X.mg X.base CX k f fd ps (liftSp X.K sp)) (hr : Room k X.A) (hg : Gl X x) (hm : X.mg x = some (.ref f)) (hk : PySem.W.keepIn X.K (.ref f) = true) (hb : Binds X.K fd ps []) (hx : Passes CX X E0)
    (ha : FA X (e :: es) wr) (hdb : (x == ("__debug__" : Str)) = false := by decide) (he : starEach (e :: es) X.env = (false, eval e X.env) :: starEach es X.env := by rfl) (hpl : (backTo pos (starEach es X.env)).any (·.1) = false := by rfl) :
    FE X (.Call (.Name x p) (e :: es) [] pos) (wCall sp wr) :=
  ⟨PE.imp (pe_call F hr hg hm hk hb .nil hx ha.p hdb he hpl) fun σ H Q h => lift_call h⟩
theorem fe_call0 (F : FnOk X.prog X.w X.K X.mg X.base CX k f fd ps (liftSp X.K sp)) (hr : Room k X.A) (hg : Gl X x) (hm : X.mg x = some (.ref f)) (hk : PySem.W.keepIn X.K (.ref f) = true) (hb : Binds X.K fd ps []) (hx : Passes CX X E0)
    (hdb : (x == ("__debug__" : Str)) = false := by decide) : FE X (.Call (.Name x p) [] [] pos) (wCall sp aNil) := by
  refine ⟨PE.imp (pe_call0 F hr hg hm hk hb .nil hx hdb) fun σ H Q ⟨env, S, m, Q0, s, r, h, k⟩ => ?_⟩
  exact ⟨[], S, m, Q0, _, s, .nil, h, k, fun _ _ _ _ _ _ z => z.elim⟩
end
/-- the law's promise, from its script -/
theorem law_sp {K : Frag} {sp : DSp} {H : Hp} {a : Addr} {ns : List Int} (hO : Only H) (hS : SqL K H a (ns.map V.int)) (h : sp [.rol (ns.map D.int)] [] (fun v _ => v = .bl true) fun _ _ _ => False) : liftSp K sp [.ref a] H (fun v _ => v = .bl true) fun _ _ _ => False := by
  have hR : SqR K H a (ns.map V.int) := by
    rcases hS with (h | ⟨o, h⟩) | h
    · rcases hO a with q | ⟨o, xs, q⟩
      · rw [q] at h; cases h
      · rw [q] at h; cases h
    · exact .inl ⟨o, h⟩
    · exact .inr h
  refine ⟨_, [], [], _, _, ⟨rfl, List.nodup_nil, fun i o e => by simp at e⟩, .cons ?_ .nil, h, fun d S' u H' m' q e s v => ?_, fun _ _ _ _ _ _ z => z.elim⟩
  · simp only [VR]; exact ⟨a, _, rfl, hR, VRs.of_ints ns⟩
  · subst q; simp only [VR] at v; exact v
end Z
namespace Z
open PySem PySem.Spec PyProof.Rows L2

/-! operators -/
def dAdd : R2D := fun x y S Q => match x, y with
  | .int i, .int j => Q (.int (i + j)) S
  | .str a, .str b => a.length + b.length ≤ sizeLine ∧ Q (.str (a ++ b)) S
  | .tup a, .tup b => a.length + b.length ≤ sizeLine ∧ Q (.tup (a ++ b)) S
  | _, _ => False
def dSub : R2D := fun x y S Q => match x, y with | .int i, .int j => Q (.int (i - j)) S | _, _ => False
def strMul (x : Str) (n : Int) : Str := Txt.mul x n
def dMul : R2D := fun x y S Q => match x, y with
  | .int i, .int j => (CMul i j ∨ CMulW i j) ∧ Q (.int (i * j)) S
  | .str a, .int j => (a.length ≤ 1000 ∧ j ≤ 1000 ∧ -1000 ≤ j) ∧ Q (.str (strMul a j)) S
  | _, _ => False
def dDiv : R2D := fun x y S Q => match x, y with | .int i, .int j => (CDiv i j ∨ CDivW i j) ∧ Q (.int (i / j)) S | _, _ => False
def dMod : R2D := fun x y S Q => match x, y with | .int i, .int j => 0 < j ∧ Q (.int (i % j)) S | _, _ => False
def dPow : R2D := fun x y S Q => match x, y with | .int i, .int j => CPow i j ∧ Q (.int (i ^ j.toNat)) S | _, _ => False
def dLt : R2D := fun x y S Q => match x, y with
  | .int i, .int j => Q (.bl (decide (i < j))) S
  | .str a, .str b => Q (.bl (decide (a.cps.toList < b.cps.toList))) S
  | _, _ => False
def dLe : R2D := fun x y S Q => match x, y with | .int i, .int j => Q (.bl (decide (i ≤ j))) S | _, _ => False
def dGt : R2D := fun x y S Q => match x, y with | .int i, .int j => Q (.bl (decide (j < i))) S | _, _ => False
def dGe : R2D := fun x y S Q => match x, y with | .int i, .int j => Q (.bl (decide (j ≤ i))) S | _, _ => False
def isN : D → Bool | .non => true | _ => false
def dIs : R2D := fun x y S Q => match y with
  | .non => Q (.bl (isN x)) S
  | .bl b => match x with | .bl a => Q (.bl (decide (a = b))) S | _ => False
  | _ => False
def dIsNot : R2D := fun x y S Q => match y with
  | .non => Q (.bl (!isN x)) S
  | .bl b => match x with | .bl a => Q (.bl (!decide (a = b))) S | _ => False
  | _ => False
section
variable {X : Cx}
theorem Kt.v {K : Frag} {m : List Addr} {H : Hp} {S : Sto} {Q0 : WK} {Q : VK} (k : Kt K m H Q0 Q) (s : SR K m H S) {d : D} {v : V} (q : Q0 d S) (r : VR K m H d v) : Q v H := k _ _ _ _ _ q Ext.refl s r
theorem op_mul_str : OpR X (binaryOp .Mult) (fun x y H Q => ∃ a j, x = .str a ∧ y = .int j ∧ (a.length ≤ 1000 ∧ j ≤ 1000 ∧ -1000 ≤ j) ∧ Q (.str (strMul a j)) H) := by
  intro pins s σ H x y v u Q I rx ry ⟨a, j, ex, ey, ⟨h1, h2, h3⟩, q⟩
  subst ex; subst ey
  obtain ⟨t, rfl⟩ := rx
  obtain ⟨t', rfl⟩ := ry
  refine PySem.SB.mul ⟨?_, fun h4 h5 => ?_, fun h4 h5 => ?_⟩ fun t2 k => ⟨.str _, H, I.tok _, ⟨_, rfl⟩, q⟩
  · rw [Bool.or_eq_false_iff]; exact ⟨decide_eq_false (by omega), decide_eq_false (by omega)⟩
  · have h6 : (1000 : Int) ≤ (2 ^ 63 - 1) / j := by
      have : (1000 : Int) = 1000000 / 1000 := by decide
      apply Int.le_ediv_of_mul_le (by omega)
      have : (1000 : Int) * j ≤ 1000 * 1000 := by omega
      omega
    omega
  · have : a.length * j.toNat ≤ 1000 * 1000 := Nat.mul_le_mul h1 (by omega)
    unfold Builtin.Str.tooLong
    have e : sizeLine = 16777216 := sizeLine_eq
    simp only [decide_eq_false_iff_not]
    omega
theorem sim_add : Sim2 X.K (fun x y H Q => rI0 (fun i j => .int (i + j)) x y H Q ∨ (fun x y H Q => (∃ i j, x = .str i ∧ y = .str j ∧ i.length + j.length ≤ sizeLine ∧ Q (.str (i ++ j)) H) ∨ rCatA X.K x y H Q) x y H Q) dAdd := by
  intro m H S x y u v Q0 Q s rx ry h k
  cases x <;> cases y <;> simp only [dAdd] at h <;> first | exact h.elim | skip
  · simp only [VR] at rx ry
    exact .inl ⟨_, _, rx, ry, k.v s h (by simp only [VR])⟩
  · simp only [VR] at rx ry
    exact .inr (.inl ⟨_, _, rx, ry, h.1, k.v s h.2 (by simp only [VR])⟩)
  · simp only [VR] at rx ry
    rename_i xs ys
    obtain ⟨a, us, h1, h2, h3⟩ := rx
    obtain ⟨b, ws, h4, h5, h6⟩ := ry
    refine .inr (.inr ⟨a, b, us, ws, h1, h4, SqT.of h2, SqT.of h5, by rw [← h3.length, ← h6.length]; exact h.1, fun e => ?_, fun e1 e2 => ?_, fun e1 e2 p hp => ?_⟩)
    · subst e
      have : xs = [] := List.length_eq_zero_iff.mp h3.length
      subst this
      refine k.v s h.2 ?_
      simp only [VR, List.nil_append]
      exact ⟨b, ws, rfl, h5, h6⟩
    · subst e2
      have : ys = [] := List.length_eq_zero_iff.mp h6.length
      subst this
      refine k.v s h.2 ?_
      simp only [VR, List.append_nil]
      exact ⟨a, us, rfl, h2, h3⟩
    · exact k.tup s (h3.app h6) hp h.2
theorem op_addA : OpR X (binaryOp .Add) (fun x y H Q => rI0 (fun i j => .int (i + j)) x y H Q ∨ (fun x y H Q => (∃ i j, x = .str i ∧ y = .str j ∧ i.length + j.length ≤ sizeLine ∧ Q (.str (i ++ j)) H) ∨ rCatA X.K x y H Q) x y H Q) := op_add.or (op_add_str.or op_catA)
variable {a b c : Expr} {wa wb wc : WE} {pos : Pos}
theorem fe_add (ha : FE X a wa) (hb : FE X b wb) : FE X (.BinOp a .Add b pos) (wOp dAdd wa wb) := fe_op op_addA sim_add ha hb
theorem sim_int {K : Frag} {C : Int → Int → Prop} {g : Int → Int → V} {gd : Int → Int → D} {d : R2D} (hd : ∀ x y S Q, d x y S Q → ∃ i j, x = .int i ∧ y = .int j ∧ C i j ∧ Q (gd i j) S) (hg : ∀ m H i j, VR K m H (gd i j) (g i j)) : Sim2 K (rI C g) d := by
  intro m H S x y u v Q0 Q s rx ry h k
  obtain ⟨i, j, rfl, rfl, hc, q⟩ := hd _ _ _ _ h
  simp only [VR] at rx ry
  exact ⟨i, j, rx, ry, hc, k.v s q (hg _ _ _ _)⟩
theorem sim_int0 {K : Frag} {g : Int → Int → V} {gd : Int → Int → D} {d : R2D} (hd : ∀ x y S Q, d x y S Q → ∃ i j, x = .int i ∧ y = .int j ∧ Q (gd i j) S) (hg : ∀ m H i j, VR K m H (gd i j) (g i j)) : Sim2 K (rI0 g) d := by
  intro m H S x y u v Q0 Q s rx ry h k
  obtain ⟨i, j, rfl, rfl, q⟩ := hd _ _ _ _ h
  simp only [VR] at rx ry
  exact ⟨i, j, rx, ry, k.v s q (hg _ _ _ _)⟩
theorem fe_sub (ha : FE X a wa) (hb : FE X b wb) : FE X (.BinOp a .Sub b pos) (wOp dSub wa wb) :=
  fe_op op_sub (sim_int0 (gd := fun i j => .int (i - j)) (fun x y S Q h => by cases x <;> cases y <;> simp only [dSub] at h <;> first | exact h.elim | exact ⟨_, _, rfl, rfl, h⟩) fun _ _ _ _ => by simp only [VR]) ha hb
theorem fe_mod (ha : FE X a wa) (hb : FE X b wb) : FE X (.BinOp a .Mod b pos) (wOp dMod wa wb) :=
  fe_op op_mod (sim_int (gd := fun i j => .int (i % j)) (fun x y S Q h => by cases x <;> cases y <;> simp only [dMod] at h <;> first | exact h.elim | exact ⟨_, _, rfl, rfl, h⟩) fun _ _ _ _ => by simp only [VR]) ha hb
theorem fe_pow (ha : FE X a wa) (hb : FE X b wb) : FE X (.BinOp a .Pow b pos) (wOp dPow wa wb) :=
  fe_op op_pow (sim_int (gd := fun i j => .int (i ^ j.toNat)) (fun x y S Q h => by cases x <;> cases y <;> simp only [dPow] at h <;> first | exact h.elim | exact ⟨_, _, rfl, rfl, h⟩) fun _ _ _ _ => by simp only [VR]) ha hb
/-- a power that is written, by its value -/
theorem fe_powc {i j r : Int} {p1 p2 n1 n2} (h : CPow i j) (e : i ^ j.toNat = r) : FE X (.BinOp (.Constant (.int i) n1 p1) .Pow (.Constant (.int j) n2 p2) pos) (wC (.int r)) := by
  refine ⟨PE.imp (fe_pow fe_int fe_int).p fun σ H Q ⟨env, S, m, Q0, s, rr, q, k⟩ => ⟨env, S, m, Q0, s, rr, ?_, k⟩⟩
  subst e
  exact ⟨h, q⟩
theorem fe_div (ha : FE X a wa) (hb : FE X b wb) : FE X (.BinOp a .FloorDiv b pos) (wOp dDiv wa wb) := by
  refine fe_op (op_fdiv.or op_fdivW) (fun m H S x y u v Q0 Q s rx ry h k => ?_) ha hb
  cases x <;> cases y <;> simp only [dDiv] at h <;> first | exact h.elim | skip
  simp only [VR] at rx ry
  rcases h.1 with h1 | h1
  · exact .inl ⟨_, _, rx, ry, h1, k.v s h.2 (by simp only [VR])⟩
  · exact .inr ⟨_, _, rx, ry, h1, k.v s h.2 (by simp only [VR])⟩
theorem fe_mul (ha : FE X a wa) (hb : FE X b wb) : FE X (.BinOp a .Mult b pos) (wOp dMul wa wb) := by
  refine fe_op ((op_mul.or op_mulW).or op_mul_str) (fun m H S x y u v Q0 Q s rx ry h k => ?_) ha hb
  cases x <;> cases y <;> simp only [dMul] at h <;> first | exact h.elim | skip
  · simp only [VR] at rx ry
    rcases h.1 with h1 | h1
    · exact .inl (.inl ⟨_, _, rx, ry, h1, k.v s h.2 (by simp only [VR])⟩)
    · exact .inl (.inr ⟨_, _, rx, ry, h1, k.v s h.2 (by simp only [VR])⟩)
  · simp only [VR] at rx ry
    exact .inr ⟨_, _, rx, ry, h.1, k.v s h.2 (by simp only [VR])⟩
def wNeg (wa : WE) : WE := fun env S Q => wa env S fun x S1 => match x with | .int i => Q (.int (-i)) S1 | _ => False
theorem fe_neg (ha : FE X a wa) : FE X (.UnaryOp .USub a pos) (wNeg wa) := by
  refine ⟨PE.imp (pe_un un_neg ha.p) fun σ H Q ⟨env, S, m, Q0, s, r, h, k⟩ => ?_⟩
  refine lift_k s r h fun x S1 u H1 m1 q1 e1 s1 v1 => ?_
  cases x with
  | int i => simp only [VR] at v1; exact ⟨i, v1, (k.ext e1).v s1 q1 (by simp only [VR])⟩
  | _ => exact q1.elim
/-! comparisons -/
theorem sim_lt : Sim2 X.K (fun x y H Q => rI0 (fun i j => .bl (decide (i < j))) x y H Q ∨ (fun x y H Q => ∃ i j, x = .str i ∧ y = .str j ∧ Q (.bl (decide (i.cps.toList < j.cps.toList))) H) x y H Q) dLt := by
  intro m H S x y u v Q0 Q s rx ry h k
  cases x <;> cases y <;> simp only [dLt] at h <;> first | exact h.elim | skip
  · simp only [VR] at rx ry; exact .inl ⟨_, _, rx, ry, k.v s h (by simp only [VR])⟩
  · simp only [VR] at rx ry; exact .inr ⟨_, _, rx, ry, k.v s h (by simp only [VR])⟩
theorem op_ltA : OpR X (compareOp .Lt) (fun x y H Q => rI0 (fun i j => .bl (decide (i < j))) x y H Q ∨ (fun x y H Q => ∃ i j, x = .str i ∧ y = .str j ∧ Q (.bl (decide (i.cps.toList < j.cps.toList))) H) x y H Q) := op_lt.or op_lt_str
theorem sim_le : Sim2 X.K (rI0 fun i j => .bl (decide (i ≤ j))) dLe := sim_int0 (gd := fun i j => .bl (decide (i ≤ j))) (fun x y S Q h => by cases x <;> cases y <;> simp only [dLe] at h <;> first | exact h.elim | exact ⟨_, _, rfl, rfl, h⟩) fun _ _ _ _ => by simp only [VR]
theorem sim_gt : Sim2 X.K (rI0 fun i j => .bl (decide (j < i))) dGt := sim_int0 (gd := fun i j => .bl (decide (j < i))) (fun x y S Q h => by cases x <;> cases y <;> simp only [dGt] at h <;> first | exact h.elim | exact ⟨_, _, rfl, rfl, h⟩) fun _ _ _ _ => by simp only [VR]
theorem sim_ge : Sim2 X.K (rI0 fun i j => .bl (decide (j ≤ i))) dGe := sim_int0 (gd := fun i j => .bl (decide (j ≤ i))) (fun x y S Q h => by cases x <;> cases y <;> simp only [dGe] at h <;> first | exact h.elim | exact ⟨_, _, rfl, rfl, h⟩) fun _ _ _ _ => by simp only [VR]
theorem isN_v {K : Frag} {m : List Addr} {H : Hp} {x : D} {u : V} (r : VR K m H x u) : isN x = decide (u = .non) := by
  cases x <;> simp only [VR] at r
  · rw [r]; rfl
  all_goals first
    | (rw [r]; rfl)
    | (obtain ⟨a, us, h1, _⟩ := r; rw [h1]; rfl)
    | (obtain ⟨a, h1, _⟩ := r; rw [h1]; rfl)
theorem sim_is : Sim2 X.K (fun x y H Q => (fun x y H Q => y = .non ∧ Q (.bl (decide (x = .non))) H) x y H Q ∨ rIsB x y H Q) dIs := by
  intro m H S x y u v Q0 Q s rx ry h k
  cases y with
  | non => simp only [VR] at ry; exact .inl ⟨ry, by rw [← isN_v rx]; exact k.v s h (by simp only [VR])⟩
  | bl b =>
    cases x with
    | bl a => simp only [VR] at rx ry; exact .inr ⟨a, b, rx, ry, k.v s h (by simp only [VR])⟩
    | _ => exact h.elim
  | _ => exact h.elim
theorem sim_isnot : Sim2 X.K (fun x y H Q => (fun x y H Q => y = .non ∧ Q (.bl (!decide (x = .non))) H) x y H Q ∨ rNotB x y H Q) dIsNot := by
  intro m H S x y u v Q0 Q s rx ry h k
  cases y with
  | non => simp only [VR] at ry; exact .inl ⟨ry, by rw [← isN_v rx]; exact k.v s h (by simp only [VR])⟩
  | bl b =>
    cases x with
    | bl a => simp only [VR] at rx ry; exact .inr ⟨a, b, rx, ry, k.v s h (by simp only [VR])⟩
    | _ => exact h.elim
  | _ => exact h.elim
theorem op_isA : OpR X (compareOp .Is) (fun x y H Q => (fun x y H Q => y = .non ∧ Q (.bl (decide (x = .non))) H) x y H Q ∨ rIsB x y H Q) := op_isN.or op_isBl
theorem op_isnotA : OpR X (compareOp .IsNot) (fun x y H Q => (fun x y H Q => y = .non ∧ Q (.bl (!decide (x = .non))) H) x y H Q ∨ rNotB x y H Q) := op_notN.or op_notBl
end

/-! == of data -/
mutual
def D.pd : D → PyData
  | .non => .none
  | .bl b => .bool b
  | .int i => .int i
  | .str x => .str x
  | .tup xs => .tuple (D.pds xs)
  | .rol xs => .list (D.pds xs)
  | _ => .none
def D.pds : List D → List PyData
  | [] => []
  | x :: xs => D.pd x :: D.pds xs
end
mutual
def D.plain : D → Bool
  | .non | .bl _ | .int _ | .str _ => true
  | .tup xs => D.plains xs
  | .rol xs => D.plains xs
  | _ => false
def D.plains : List D → Bool
  | [] => true
  | x :: xs => D.plain x && D.plains xs
end
mutual
def D.eqv : D → D → Bool
  | .non, .non => true
  | .bl a, .bl b => a == b
  | .bl a, .int j => (if a then 1 else 0) == j
  | .int i, .bl b => i == (if b then 1 else 0)
  | .int i, .int j => i == j
  | .str x, .str y => x == y
  | .tup xs, .tup ys => D.eqvs xs ys
  | .rol xs, .rol ys => D.eqvs xs ys
  | _, _ => false
def D.eqvs : List D → List D → Bool
  | [], [] => true
  | x :: xs, y :: ys => D.eqv x y && D.eqvs xs ys
  | [], _ :: _ => false
  | _ :: _, [] => false
end
mutual
theorem D.eqv_pd : ∀ x y : D, x.plain = true → y.plain = true → D.eqv x y = PyData.eqv x.pd y.pd
  | .tup xs, .tup ys, h1, h2 => by
    simp only [D.plain] at h1 h2
    simp only [D.eqv, D.pd, PyData.eqv]
    exact D.eqvs_pd xs ys h1 h2
  | .rol xs, .rol ys, h1, h2 => by
    simp only [D.plain] at h1 h2
    simp only [D.eqv, D.pd, PyData.eqv]
    exact D.eqvs_pd xs ys h1 h2
  | .non, y, _, h => by cases y <;> simp only [D.plain, Bool.false_eq_true] at h <;> simp [D.eqv, D.pd, PyData.eqv]
  | .bl _, y, _, h => by cases y <;> simp only [D.plain, Bool.false_eq_true] at h <;> simp [D.eqv, D.pd, PyData.eqv]
  | .int _, y, _, h => by cases y <;> simp only [D.plain, Bool.false_eq_true] at h <;> simp [D.eqv, D.pd, PyData.eqv]
  | .str _, y, _, h => by cases y <;> simp only [D.plain, Bool.false_eq_true] at h <;> simp [D.eqv, D.pd, PyData.eqv]
  | .tup _, .non, _, h => by simp [D.eqv, D.pd, PyData.eqv]
  | .tup _, .bl _, _, h => by simp [D.eqv, D.pd, PyData.eqv]
  | .tup _, .int _, _, h => by simp [D.eqv, D.pd, PyData.eqv]
  | .tup _, .str _, _, h => by simp [D.eqv, D.pd, PyData.eqv]
  | .tup _, .rol _, _, h => by simp [D.eqv, D.pd, PyData.eqv]
  | .tup _, .ref _, _, h => by simp [D.plain] at h
  | .tup _, .ty _, _, h => by simp [D.plain] at h
  | .tup _, .cst _, _, h => by simp [D.plain] at h
  | .rol _, .non, _, h => by simp [D.eqv, D.pd, PyData.eqv]
  | .rol _, .bl _, _, h => by simp [D.eqv, D.pd, PyData.eqv]
  | .rol _, .int _, _, h => by simp [D.eqv, D.pd, PyData.eqv]
  | .rol _, .str _, _, h => by simp [D.eqv, D.pd, PyData.eqv]
  | .rol _, .tup _, _, h => by simp [D.eqv, D.pd, PyData.eqv]
  | .rol _, .ref _, _, h => by simp [D.plain] at h
  | .rol _, .ty _, _, h => by simp [D.plain] at h
  | .rol _, .cst _, _, h => by simp [D.plain] at h
  | .ref _, _, h, _ => by simp [D.plain] at h
  | .ty _, _, h, _ => by simp [D.plain] at h
  | .cst _, _, h, _ => by simp [D.plain] at h
theorem D.eqvs_pd : ∀ xs ys : List D, D.plains xs = true → D.plains ys = true → D.eqvs xs ys = PyData.eqvAll (D.pds xs) (D.pds ys)
  | [], [], _, _ => by simp [D.eqvs, D.pds, PyData.eqvAll]
  | [], _ :: _, _, _ => by simp [D.eqvs, D.pds, PyData.eqvAll]
  | _ :: _, [], _, _ => by simp [D.eqvs, D.pds, PyData.eqvAll]
  | x :: xs, y :: ys, h1, h2 => by
    simp only [D.plains, Bool.and_eq_true] at h1 h2
    simp only [D.eqvs, D.pds, PyData.eqvAll]
    rw [D.eqv_pd x y h1.1 h2.1, D.eqvs_pd xs ys h1.2 h2.2]
end
section
variable {K : Frag} {m : List Addr} {H : Hp}
mutual
theorem VR.dp : ∀ {x : D} {u : V}, VR K m H x u → x.plain = true → Dp K H u x.pd
  | .non, _, h, _ => by simp only [VR] at h; subst h; simp only [D.pd]; exact .non
  | .bl b, _, h, _ => by simp only [VR] at h; subst h; simp only [D.pd]; exact .bl b
  | .int b, _, h, _ => by simp only [VR] at h; subst h; simp only [D.pd]; exact .int b
  | .str b, _, h, _ => by simp only [VR] at h; subst h; simp only [D.pd]; exact .str b
  | .tup xs, _, h, p => by
    simp only [VR] at h; simp only [D.plain] at p; simp only [D.pd]
    obtain ⟨a, us, rfl, h2, h3⟩ := h
    exact .tup (SqT.of h2) (VRs.dp h3 p)
  | .rol xs, _, h, p => by
    simp only [VR] at h; simp only [D.plain] at p; simp only [D.pd]
    obtain ⟨a, us, rfl, h2, h3⟩ := h
    exact .lst h2.sq (VRs.dp h3 p)
  | .ref _, _, _, p => by simp [D.plain] at p
  | .ty _, _, _, p => by simp [D.plain] at p
  | .cst _, _, _, p => by simp [D.plain] at p
theorem VRs.dp : ∀ {xs : List D} {us : List V}, VRs K m H xs us → D.plains xs = true → DpAll K H us (D.pds xs)
  | [], _, h, _ => by rw [h.nil_inv]; simp only [D.pds]; exact .nil
  | x :: xs, _, h, p => by
    obtain ⟨u, r, rfl, h2, h3⟩ := h.cons_inv
    simp only [D.plains, Bool.and_eq_true] at p
    simp only [D.pds]
    exact .cons (VR.dp h2 p.1) (VRs.dp h3 p.2)
end
end
def okD (x : D) : Prop := x.plain = true ∧ SeqAt.shaped x.pd = true
def okL (xs : List D) : Prop := D.plains xs = true ∧ SeqAt.shaped (.list (D.pds xs)) = true
def dEqB (f : Bool → Bool) : R2D := fun x y S Q => match x, y with
  | .int i, .int j => Q (.bl (f (decide (i = j)))) S
  | .str i, .str j => Q (.bl (f (decide (i = j)))) S
  | .bl i, .bl j => Q (.bl (f (decide (i = j)))) S
  | .ref p, .ref q => ∃ xs ys, S[p]? = some (.lst xs) ∧ S[q]? = some (.lst ys) ∧ okL xs ∧ okL ys ∧ Q (.bl (f (D.eqvs xs ys))) S
  | x, y => okD x ∧ okD y ∧ Q (.bl (f (D.eqv x y))) S
abbrev dEq : R2D := dEqB id
abbrev dNe : R2D := dEqB not
section
variable {X : Cx}
theorem sim_eqB (f : Bool → Bool) (r : R2) (h1 : ∀ {x y H Q}, scal x y = true ∧ Q (.bl (f (decide (x = y)))) H → r x y H Q) (h2 : ∀ {x y H Q}, (∃ d e, Dp X.K H x d ∧ Dp X.K H y e ∧ SeqAt.shaped d = true ∧ SeqAt.shaped e = true ∧ Q (.bl (f (PyData.eqv d e))) H) → r x y H Q) : Sim2 X.K r (dEqB f) := by
  intro m H S x y u v Q0 Q s rx ry h k
  have gen : okD x ∧ okD y ∧ Q0 (.bl (f (D.eqv x y))) S → r u v H Q := fun ⟨ox, oy, q⟩ => by
    refine h2 ⟨x.pd, y.pd, rx.dp ox.1, ry.dp oy.1, ox.2, oy.2, ?_⟩
    rw [← D.eqv_pd x y ox.1 oy.1]
    exact k.v s q (by simp only [VR])
  cases x <;> cases y <;> simp only [dEqB] at h <;> first | exact gen h | skip
  · simp only [VR] at rx ry; subst rx; subst ry
    rename_i i j
    refine h1 ⟨rfl, ?_⟩
    have e : decide (V.bl i = V.bl j) = decide (i = j) := by rw [dec_bl, Bool.eq_iff_iff]; simp
    rw [e]; exact k.v s h (by simp only [VR])
  · simp only [VR] at rx ry; subst rx; subst ry
    rename_i i j
    refine h1 ⟨rfl, ?_⟩
    have e : decide (V.int i = V.int j) = decide (i = j) := by rw [dec_int, Bool.eq_iff_iff]; simp
    rw [e]; exact k.v s h (by simp only [VR])
  · simp only [VR] at rx ry; subst rx; subst ry
    rename_i i j
    refine h1 ⟨rfl, ?_⟩
    have e : decide (V.str i = V.str j) = decide (i = j) := by rw [dec_str, Bool.eq_iff_iff]; simp
    rw [e]; exact k.v s h (by simp only [VR])
  · simp only [VR] at rx ry
    obtain ⟨a, rfl, e1⟩ := rx
    obtain ⟨b, rfl, e2⟩ := ry
    obtain ⟨xs, ys, g1, g2, o1, o2, q⟩ := h
    obtain ⟨us, t1, t2⟩ := s.lst e1 g1
    obtain ⟨ws, t3, t4⟩ := s.lst e2 g2
    refine h2 ⟨.list (D.pds xs), .list (D.pds ys), .lst (SqL.of t1) (t2.dp o1.1), .lst (SqL.of t3) (t4.dp o2.1), o1.2, o2.2, ?_⟩
    have e : PyData.eqv (.list (D.pds xs)) (.list (D.pds ys)) = D.eqvs xs ys := by
      simp only [PyData.eqv]; exact (D.eqvs_pd xs ys o1.1 o2.1).symm
    rw [e]; exact k.v s q (by simp only [VR])
theorem op_eqA (hu : X.A.units + 64 < cLine) : OpR X (compareOp .Eq) (fun x y H Q => rEq x y H Q ∨ rEqD X.K x y H Q) := op_eq.or (op_eqD hu)
theorem op_neA (hu : X.A.units + 64 < cLine) : OpR X (compareOp .NotEq) (fun x y H Q => rNe x y H Q ∨ rNeD X.K x y H Q) := op_ne.or (op_neD hu)
theorem sim_eq : Sim2 X.K (fun x y H Q => rEq x y H Q ∨ rEqD X.K x y H Q) dEq := sim_eqB id _ (fun h => .inl h) fun h => .inr h
theorem sim_ne : Sim2 X.K (fun x y H Q => rNe x y H Q ∨ rNeD X.K x y H Q) dNe := sim_eqB not _ (fun h => .inl h) fun h => .inr h
end
end Z
namespace Z
open PySem PySem.Spec PyProof.Rows L2

/-! items by place -/
def dIx : R2D := fun x y S Q => match y with
  | .int i => match x with
    | .tup xs => ∃ d, atI xs i = some d ∧ Q d S
    | .rol xs => ∃ d, atI xs i = some d ∧ Q d S
    | .str z => z.length ≤ sizeLine ∧ ∃ c, atI z.cps.toList i = some c ∧ Q (.str (T [c])) S
    | .ref p => ∃ xs, S[p]? = some (.lst xs) ∧ ∃ d, atI xs i = some d ∧ Q d S
    | _ => False
  | _ => False
section
variable {K : Frag} {m : List Addr} {H : Hp}
theorem VRs.atI {xs : List D} {us : List V} {i : Int} {d : D} (r : VRs K m H xs us) (h : L2.atI xs i = some d) : ∃ u, L2.atI us i = some u ∧ VR K m H d u := by
  unfold L2.atI at h ⊢
  rw [← r.length]
  cases e : ixN xs.length i with
  | none => rw [e] at h; cases h
  | some j =>
    rw [e] at h
    exact r.get (i := j) h
end
section
variable {X : Cx} {a b c e o : Expr} {es : List Expr} {w wa wb wc wo : WE} {wr wq : WA} {pos apos cpos p2 : Pos}
theorem fe_ix (ha : FE X a wa) (hb : FE X b wb) (hs : PlainIx b := by exact fun _ _ => rfl) : FE X (.Subscript a b pos) (wOp dIx wa wb) := by
  refine ⟨PE.imp (pe_ix ix_seq ha.p hb.p hs) fun σ H Q h => lift_op (r := rIx X.K) (d := dIx) (fun m H S x y u v Q0 Q s rx ry h k => ?_) h⟩
  cases y with
  | int i =>
    simp only [VR] at ry
    cases x with
    | tup xs =>
      simp only [VR] at rx
      obtain ⟨p, us, h1, h2, h3⟩ := rx
      obtain ⟨d, h4, q⟩ := h
      obtain ⟨u', h5, h6⟩ := h3.atI h4
      exact .inr (.inl ⟨p, us, i, u', h1, ry, SqT.of h2, h5, k.v s q h6⟩)
    | rol xs =>
      simp only [VR] at rx
      obtain ⟨p, us, h1, h2, h3⟩ := rx
      obtain ⟨d, h4, q⟩ := h
      obtain ⟨u', h5, h6⟩ := h3.atI h4
      exact .inl ⟨p, us, i, u', h1, ry, h2.sq, h5, k.v s q h6⟩
    | str z =>
      simp only [VR] at rx
      obtain ⟨hz, c, h4, q⟩ := h
      exact .inr (.inr ⟨z, i, c, rx, ry, hz, h4, k.v s q (by simp only [VR])⟩)
    | ref p =>
      simp only [VR] at rx
      obtain ⟨a, h1, h2⟩ := rx
      obtain ⟨xs, h3, d, h4, q⟩ := h
      obtain ⟨us, h5, h6⟩ := s.lst h2 h3
      obtain ⟨u', h7, h8⟩ := h6.atI h4
      exact .inl ⟨a, us, i, u', h1, ry, SqL.of h5, h7, k.v s q h8⟩
    | _ => exact h.elim
  | _ => exact h.elim
/-- [..][i]: the list is made, read, and let go -/
def wIxL (wr : WA) (wb : WE) : WE := fun env S Q => wr env S fun xs S1 => wb env S1 fun y S2 => match y with | .int i => ∃ d, atI xs i = some d ∧ Q d S2 | _ => False
theorem fe_ixL (ha : FL X a wr) (hb : FE X b wb) (hs : PlainIx b := by exact fun _ _ => rfl) : FE X (.Subscript a b pos) (wIxL wr wb) := by
  refine ⟨PE.imp (pe_ix ix_list ha.p hb.p hs) fun σ H Q ⟨env, S, m, Q0, s, r, h, k⟩ => ?_⟩
  refine ⟨env, S, m, _, s, r, h, fun xs S1 a us H1 m1 q1 e1 s1 h0 nm ha v1 => ?_⟩
  refine lift_k s1 (r.ext e1.toEx) q1 fun y S2 v H2 m2 q2 e2 s2 v2 => ?_
  cases y with
  | int i =>
    simp only [VR] at v2
    obtain ⟨d, h4, q⟩ := q2
    obtain ⟨u', h5, h6⟩ := (v1.ext e2.toEx).atI h4
    exact ⟨a, us, i, u', rfl, v2, SqL.of (e2.fr _ _ ha nm).1, h5, (k.ext (e1.trans e2)).v s2 q h6⟩
  | _ => exact q2.elim
/-- a[i] = v of a list -/
def dSet : DSet := fun o i v S Q => match o, i with
  | .ref p, .int k => ∃ xs, S[p]? = some (.lst xs) ∧ ∃ j, ixN xs.length k = some j ∧ Q (S.set p (.lst (xs.set j v)))
  | _, _ => False
theorem sim_set : SimS X.K rSetL dSet := by
  intro m H S x y z u v w' Q0 Q s rx ry rz h k
  cases x <;> cases y <;> simp only [dSet] at h <;> first | exact h.elim | skip
  simp only [VR] at rx ry
  obtain ⟨a, h1, h2⟩ := rx
  obtain ⟨xs, h3, j, h4, q⟩ := h
  obtain ⟨us, h5, h6⟩ := s.lst h2 h3
  obtain ⟨e, s'⟩ := s.write (ho := .lst (us.set j w')) (o := .lst (xs.set j z)) h2 fun H' e' hh => ⟨_, hh, (h6.ext e'.toEx).set (rz.ext e'.toEx) j⟩
  exact ⟨a, us, _, j, h1, ry, h5, by rw [← h6.length]; exact h4, k _ _ _ q e s'⟩
theorem fg_ix (ho : FE X o wo) (hi : FE X b wb) (ha : ∀ v, assign (.Subscript o b pos) X.env v = (do
      let ov ← holding [v] (eval o X.env)
      let iv ← holding [v, ov] (eval b X.env)
      standAt pos
      holding [v, ov, iv] (setItem ov iv v)
      release [v, ov, iv] []) := by intro _; rfl) : FG X (.Subscript o b pos) [] (gSubD wo wb dSet) := fg_sub ho hi set_list sim_set ha

/-! slices -/
abbrev WO := En → Sto → (Option Int → Sto → Prop) → Prop
def oNone : WO := fun _ S Q => Q none S
def oSome (w : WE) : WO := fun env S Q => w env S fun v S1 => match v with | .int i => Q (some i) S1 | _ => False
def KtO (K : Frag) (m : List Addr) (H : Hp) (Q0 : Option Int → Sto → Prop) (Q : Option Int → Hp → Prop) : Prop := ∀ b S' H' m', Q0 b S' → Ext K m H m' H' → SR K m' H' S' → Q b H'
structure FO (X : Cx) (e : Option Expr) (w : WO) : Prop where
  p : PO X e (fun σ H Q => ∃ env S m Q0, SR X.K m H S ∧ ER X.K m H env σ ∧ w env S Q0 ∧ KtO X.K m H Q0 Q)
theorem PO.imp {e : Option Expr} {t t' : TO} (h : PO X e t) (i : ∀ σ H Q, t' σ H Q → t σ H Q) : PO X e t' := ⟨fun pins s σ H Q I q => h.run pins s σ H Q I (i σ H Q q)⟩
theorem fo_none : FO X none oNone := ⟨PO.imp po_none fun σ H Q ⟨env, S, m, Q0, s, r, h, k⟩ => k _ _ _ _ h Ext.refl s⟩
theorem fo_some (h : FE X e w) : FO X (some e) (oSome w) := by
  refine ⟨PO.imp (po_some h.p) fun σ H Q ⟨env, S, m, Q0, s, r, h, k⟩ => ?_⟩
  refine lift_k s r h fun v S1 u H1 m1 q1 e1 s1 v1 => ?_
  cases v with
  | int i => simp only [VR] at v1; exact ⟨i, v1, k _ _ _ _ q1 e1 s1⟩
  | _ => exact q1.elim
def cutD (xs : List D) (lo hi : Option Int) : List D := (xs.drop (HT.sIx xs.length 0 lo)).take (HT.sIx xs.length xs.length hi - HT.sIx xs.length 0 lo)
theorem VRs.cut {K : Frag} {m : List Addr} {H : Hp} {xs : List D} {us : List V} (h : VRs K m H xs us) (lo hi : Option Int) : VRs K m H (cutD xs lo hi) (cutV us lo hi) := by
  unfold cutD cutV
  rw [h.length]
  exact (h.drop _).take _
/-- a tuple's, a text's slice -/
def wSl (w : WE) (l u : WO) : WE := fun env S Q => w env S fun x S1 => l env S1 fun lo S2 => u env S2 fun hi S3 => match x with
  | .tup xs => Q (.tup (cutD xs lo hi)) S3
  | .str z => z.length ≤ sizeLine ∧ Q (.str (cutS z lo hi)) S3
  | _ => False
/-- a list's slice: a new list -/
def lSl (w : WE) (l u : WO) : WA := fun env S Q => w env S fun x S1 => l env S1 fun lo S2 => u env S2 fun hi S3 => match x with
  | .rol xs => Q (cutD xs lo hi) S3
  | .ref p => ∃ xs, S3[p]? = some (.lst xs) ∧ Q (cutD xs lo hi) S3
  | _ => False
def lSlL (w : WA) (l u : WO) : WA := fun env S Q => w env S fun xs S1 => l env S1 fun lo S2 => u env S2 fun hi S3 => Q (cutD xs lo hi) S3
theorem fe_sl {lo hi : Option Expr} {wl wu : WO} (he : FE X e w) (hl : FO X lo wl) (hu : FO X hi wu) : FE X (.Subscript e (.Slice lo hi none p2) pos) (wSl w wl wu) := by
  refine ⟨PE.imp (pe_slice (sl_tupA.or sl_str) he.p hl.p hu.p) fun σ H Q ⟨env, S, m, Q0, s, r, h, k⟩ => ?_⟩
  refine lift_k s r h fun x S1 u H1 m1 q1 e1 s1 v1 => ?_
  refine ⟨env, S1, m1, _, s1, r.ext e1.toEx, q1, fun lo S2 H2 m2 q2 e2 s2 => ?_⟩
  refine ⟨env, S2, m2, _, s2, r.ext (e1.trans e2).toEx, q2, fun hi S3 H3 m3 q3 e3 s3 => ?_⟩
  have k3 := k.ext ((e1.trans e2).trans e3)
  have v3 := v1.ext (e2.trans e3).toEx
  cases x with
  | tup xs =>
    simp only [VR] at v3
    obtain ⟨a, us, h1, h2, h3⟩ := v3
    refine .inl ⟨a, us, h1, SqT.of h2, fun ⟨e4, e5⟩ => ?_, fun _ p hp => k3.tup s3 (h3.cut lo hi) hp q3⟩
    have e6 : cutD xs lo hi = xs := by unfold cutD; rw [h3.length, e4, e5, ← h3.length]; simp
    have q3' : Q0 (.tup (cutD xs lo hi)) S3 := q3
    rw [e6] at q3'
    exact k3.v s3 q3' (by simp only [VR]; exact ⟨a, us, rfl, h2, h3⟩)
  | str z =>
    simp only [VR] at v3
    exact .inr ⟨z, v3, q3.1, k3.v s3 q3.2 (by simp only [VR])⟩
  | _ => exact q3.elim
theorem fl_sl {lo hi : Option Expr} {wl wu : WO} (he : FE X e w) (hl : FO X lo wl) (hu : FO X hi wu) : FL X (.Subscript e (.Slice lo hi none p2) pos) (lSl w wl wu) := by
  refine ⟨PE.imp (pe_slice sl_list he.p hl.p hu.p) fun σ H Q ⟨env, S, m, Q0, s, r, h, k⟩ => ?_⟩
  refine lift_k s r h fun x S1 u H1 m1 q1 e1 s1 v1 => ?_
  refine ⟨env, S1, m1, _, s1, r.ext e1.toEx, q1, fun lo S2 H2 m2 q2 e2 s2 => ?_⟩
  refine ⟨env, S2, m2, _, s2, r.ext (e1.trans e2).toEx, q2, fun hi S3 H3 m3 q3 e3 s3 => ?_⟩
  have e13 := (e1.trans e2).trans e3
  have v3 := v1.ext (e2.trans e3).toEx
  cases x with
  | rol xs =>
    simp only [VR] at v3
    obtain ⟨a, us, h1, h2, h3⟩ := v3
    exact ⟨a, us, h1, h2.sq, fun p hp => k.lst e13 s3 (h3.cut lo hi) hp (e13.back s3 hp) q3⟩
  | ref i =>
    simp only [VR] at v3
    obtain ⟨a, h1, h2⟩ := v3
    obtain ⟨xs, h3, q⟩ := q3
    obtain ⟨us, h4, h5⟩ := s3.lst h2 h3
    exact ⟨a, us, h1, SqL.of h4, fun p hp => k.lst e13 s3 (h5.cut lo hi) hp (e13.back s3 hp) q⟩
  | _ => exact q3.elim
theorem fl_slL {lo hi : Option Expr} {wl wu : WO} (he : FL X e wr) (hl : FO X lo wl) (hu : FO X hi wu) : FL X (.Subscript e (.Slice lo hi none p2) pos) (lSlL wr wl wu) := by
  refine ⟨PE.imp (pe_slice sl_list he.p hl.p hu.p) fun σ H Q ⟨env, S, m, Q0, s, r, h, k⟩ => ?_⟩
  refine ⟨env, S, m, _, s, r, h, fun xs S1 a us H1 m1 q1 e1 s1 h0 nm ha v1 => ?_⟩
  refine ⟨env, S1, m1, _, s1, r.ext e1.toEx, q1, fun lo S2 H2 m2 q2 e2 s2 => ?_⟩
  refine ⟨env, S2, m2, _, s2, r.ext (e1.trans e2).toEx, q2, fun hi S3 H3 m3 q3 e3 s3 => ?_⟩
  have e13 := (e1.trans e2).trans e3
  exact ⟨a, us, rfl, SqL.of ((e2.trans e3).fr _ _ ha nm).1, fun p hp => k.lst e13 s3 ((v1.ext (e2.trans e3).toEx).cut lo hi) hp (e13.back s3 hp) q3⟩
/-- list + list, list * int -/
def lCat (w1 w2 : WA) : WA := fun env S Q => w1 env S fun xs S1 => w2 env S1 fun ys S2 => xs.length + ys.length ≤ sizeLine ∧ Q (xs ++ ys) S2
def lCatE (w1 : WE) (w2 : WA) : WA := fun env S Q => w1 env S fun x S1 => w2 env S1 fun ys S2 => match x with | .ref p => ∃ xs, S2[p]? = some (.lst xs) ∧ xs.length + ys.length ≤ sizeLine ∧ Q (xs ++ ys) S2 | _ => False
def lCatEE (w1 : WE) (w2 : WE) : WA := fun env S Q => w1 env S fun x S1 => w2 env S1 fun y S2 => match x, y with | .ref p, .ref q => ∃ xs ys, S2[p]? = some (.lst xs) ∧ S2[q]? = some (.lst ys) ∧ xs.length + ys.length ≤ sizeLine ∧ Q (xs ++ ys) S2 | _, _ => False
def lCatLE (w1 : WA) (w2 : WE) : WA := fun env S Q => w1 env S fun xs S1 => w2 env S1 fun y S2 => match y with | .ref q => ∃ ys, S2[q]? = some (.lst ys) ∧ xs.length + ys.length ≤ sizeLine ∧ Q (xs ++ ys) S2 | _ => False
theorem fl_cat {w1 w2 : WA} (h1 : FL X a w1) (h2 : FL X b w2) : FL X (.BinOp a .Add b pos) (lCat w1 w2) := by
  refine ⟨PE.imp (pe_op op_cat h1.p h2.p) fun σ H Q ⟨env, S, m, Q0, s, r, h, k⟩ => ?_⟩
  refine ⟨env, S, m, _, s, r, h, fun xs S1 a us H1 m1 q1 e1 s1 h0 nm ha v1 => ?_⟩
  refine ⟨env, S1, m1, _, s1, r.ext e1.toEx, q1, fun ys S2 b ws H2 m2 q2 e2 s2 h02 nm2 hb v2 => ?_⟩
  have e12 := e1.trans e2
  exact ⟨a, b, us, ws, rfl, rfl, (e2.fr _ _ ha nm).1, hb, by rw [← v1.length, ← v2.length]; exact q2.1, fun p hp => k.lst e12 s2 ((v1.ext e2.toEx).app v2) hp (e12.back s2 hp) q2.2⟩
theorem fl_catE {w1 : WE} {w2 : WA} (h1 : FE X a w1) (h2 : FL X b w2) : FL X (.BinOp a .Add b pos) (lCatE w1 w2) := by
  refine ⟨PE.imp (pe_op op_cat h1.p h2.p) fun σ H Q ⟨env, S, m, Q0, s, r, h, k⟩ => ?_⟩
  refine lift_k s r h fun x S1 u H1 m1 q1 e1 s1 v1 => ?_
  refine ⟨env, S1, m1, _, s1, r.ext e1.toEx, q1, fun ys S2 b ws H2 m2 q2 e2 s2 h02 nm2 hb v2 => ?_⟩
  have e12 := e1.trans e2
  cases x with
  | ref i =>
    have v1 := v1.ext e2.toEx
    simp only [VR] at v1
    obtain ⟨a, h3, h4⟩ := v1
    obtain ⟨xs, h5, h6, q⟩ := q2
    obtain ⟨us, h7, h8⟩ := s2.lst h4 h5
    exact ⟨a, b, us, ws, h3, rfl, h7, hb, by rw [← h8.length, ← v2.length]; exact h6, fun p hp => k.lst e12 s2 (h8.app v2) hp (e12.back s2 hp) q⟩
  | _ => exact q2.elim
theorem fl_catLE {w1 : WA} {w2 : WE} (h1 : FL X a w1) (h2 : FE X b w2) : FL X (.BinOp a .Add b pos) (lCatLE w1 w2) := by
  refine ⟨PE.imp (pe_op op_cat h1.p h2.p) fun σ H Q ⟨env, S, m, Q0, s, r, h, k⟩ => ?_⟩
  refine ⟨env, S, m, _, s, r, h, fun xs S1 a us H1 m1 q1 e1 s1 h0 nm ha v1 => ?_⟩
  refine lift_k s1 (r.ext e1.toEx) q1 fun y S2 u H2 m2 q2 e2 s2 v2 => ?_
  have e12 := e1.trans e2
  cases y with
  | ref i =>
    simp only [VR] at v2
    obtain ⟨b, h3, h4⟩ := v2
    obtain ⟨ys, h5, h6, q⟩ := q2
    obtain ⟨ws, h7, h8⟩ := s2.lst h4 h5
    exact ⟨a, b, us, ws, rfl, h3, (e2.fr _ _ ha nm).1, h7, by rw [← h8.length, ← v1.length]; exact h6, fun p hp => k.lst e12 s2 ((v1.ext e2.toEx).app h8) hp (e12.back s2 hp) q⟩
  | _ => exact q2.elim
theorem fl_catEE {w1 w2 : WE} (h1 : FE X a w1) (h2 : FE X b w2) : FL X (.BinOp a .Add b pos) (lCatEE w1 w2) := by
  refine ⟨PE.imp (pe_op op_cat h1.p h2.p) fun σ H Q ⟨env, S, m, Q0, s, r, h, k⟩ => ?_⟩
  refine lift_k s r h fun x S1 u H1 m1 q1 e1 s1 v1 => ?_
  refine lift_k s1 (r.ext e1.toEx) q1 fun y S2 u2 H2 m2 q2 e2 s2 v2 => ?_
  have e12 := e1.trans e2
  cases x <;> cases y <;> first | exact q2.elim | skip
  have v1 := v1.ext e2.toEx
  simp only [VR] at v1 v2
  obtain ⟨a, h3, h4⟩ := v1
  obtain ⟨b, h5, h6⟩ := v2
  obtain ⟨xs, ys, g1, g2, g3, q⟩ := q2
  obtain ⟨us, h7, h8⟩ := s2.lst h4 g1
  obtain ⟨ws, h9, h10⟩ := s2.lst h6 g2
  exact ⟨a, b, us, ws, h3, h5, h7, h9, by rw [← h8.length, ← h10.length]; exact g3, fun p hp => k.lst e12 s2 (h8.app h10) hp (e12.back s2 hp) q⟩
def lRep (w1 : WA) (w2 : WE) : WA := fun env S Q => w1 env S fun xs S1 => w2 env S1 fun y S2 => match y with | .int j => (-(2 ^ 63) ≤ j ∧ j < 2 ^ 63 ∧ xs.length * j.toNat ≤ sizeLine) ∧ Q (List.replicate j.toNat xs).flatten S2 | _ => False
theorem fl_rep {w1 : WA} {w2 : WE} (h1 : FL X a w1) (h2 : FE X b w2) : FL X (.BinOp a .Mult b pos) (lRep w1 w2) := by
  refine ⟨PE.imp (pe_op op_rep h1.p h2.p) fun σ H Q ⟨env, S, m, Q0, s, r, h, k⟩ => ?_⟩
  refine ⟨env, S, m, _, s, r, h, fun xs S1 a us H1 m1 q1 e1 s1 h0 nm ha v1 => ?_⟩
  refine lift_k s1 (r.ext e1.toEx) q1 fun y S2 u H2 m2 q2 e2 s2 v2 => ?_
  have e12 := e1.trans e2
  cases y with
  | int j =>
    simp only [VR] at v2
    exact ⟨a, j, us, rfl, v2, (e2.fr _ _ ha nm).1, q2.1.1, q2.1.2.1, by rw [← v1.length]; exact q2.1.2.2, fun p hp => k.lst e12 s2 ((v1.ext e2.toEx).rep _) hp (e12.back s2 hp) q2.2⟩
  | _ => exact q2.elim
end

/-! built-ins upon a list or a tuple -/
abbrev RQ := List D → Sto → WK → Prop
def SimQ (K : Frag) (r : List V → Hp → VK → Prop) (d : RQ) : Prop := ∀ (m : List Addr) (H : Hp) (S : Sto) (a : Addr) (us : List V) (ds : List D) (Q0 : WK) (Q : VK), SR K m H S → (SqL K H a us ∨ H a = some (.tup us)) → VRs K m H ds us → d ds S Q0 → Kt K m H Q0 Q → r [.ref a] H Q
def SimL (K : Frag) (r : List V → Hp → VK → Prop) (d : RQ) : Prop := ∀ (m : List Addr) (H : Hp) (S : Sto) (a : Addr) (us : List V) (ds : List D) (Q0 : WK) (Q : VK), SR K m H S → SqL K H a us → VRs K m H ds us → d ds S Q0 → Kt K m H Q0 Q → r [.ref a] H Q
def wQ (d : RQ) (wq : WA) : WE := fun env S Q => wq env S fun ds S1 => d ds S1 Q
def dAll : RQ := fun ds S Q => ∃ bs : List Bool, ds = bs.map D.bl ∧ Q (.bl (bs.all id)) S
def dAny : RQ := fun ds S Q => ∃ bs : List Bool, ds = bs.map D.bl ∧ Q (.bl (bs.any id)) S
def dSum : RQ := fun ds S Q => ∃ ns : List Int, ds = ns.map D.int ∧ Q (.int ns.sum) S
def dLen : RQ := fun ds S Q => Q (.int ds.length) S
def dTuple : RQ := fun ds S Q => Q (.tup ds) S
def dMax : RQ := fun ds S Q => ∃ ns : List Int, ds = ns.map D.int ∧ 0 < ns.length ∧ ∀ k, k ∈ ns → (∀ y, y ∈ ns → y ≤ k) → Q (.int k) S
def dMin : RQ := fun ds S Q => ∃ ns : List Int, ds = ns.map D.int ∧ 0 < ns.length ∧ ∀ k, k ∈ ns → (∀ y, y ∈ ns → k ≤ y) → Q (.int k) S
section
variable {X : Cx} {a b c e o : Expr} {es : List Expr} {w wa wb wc wo : WE} {wr wq : WA} {p pos apos cpos p2 : Pos} {r : List V → Hp → VK → Prop} {d : RQ} {id T : String} {x : Str}
theorem fe_Q (hc : CallR X (.builtin id) r) (hd : SimQ X.K r d) (hg : Gl X x) (hm : X.mg x = none) (hv : bootBuiltins x = some (.builtin id)) (ha : FQ X e wq) (hn : x ≠ "__name__" := by decide) (hdb : (x == ("__debug__" : Str)) = false := by decide)
    (he : starEach [e] X.env = (false, eval e X.env) :: starEach [] X.env := by rfl) (hpl : (backTo pos (starEach [] X.env)).any (·.1) = false := by rfl) : FE X (.Call (.Name x p) [e] [] pos) (wQ d wq) := by
  refine ⟨PE.imp (pe_callB hc hg hm hv (pa_cons ha.p pa_nil he) hn hdb he hpl) fun σ H Q ⟨env, S, m, Q0, s, r, h, k⟩ => ?_⟩
  exact ⟨env, S, m, _, s, r, h, fun ds S1 a us H1 m1 q1 e1 s1 sq v1 => hd _ _ _ _ _ _ _ _ s1 sq v1 q1 (k.ext e1)⟩
theorem fe_QT (hc : CallR X (.type T) r) (hd : SimQ X.K r d) (hg : Gl X x) (hm : X.mg x = none) (hv : bootBuiltins x = some (.type T)) (ha : FQ X e wq) (hn : x ≠ "__name__" := by decide) (hdb : (x == ("__debug__" : Str)) = false := by decide)
    (he : starEach [e] X.env = (false, eval e X.env) :: starEach [] X.env := by rfl) (hpl : (backTo pos (starEach [] X.env)).any (·.1) = false := by rfl) : FE X (.Call (.Name x p) [e] [] pos) (wQ d wq) := by
  refine ⟨PE.imp (pe_callTy hc hg hm hv (pa_cons ha.p pa_nil he) hn hdb he hpl) fun σ H Q ⟨env, S, m, Q0, s, r, h, k⟩ => ?_⟩
  exact ⟨env, S, m, _, s, r, h, fun ds S1 a us H1 m1 q1 e1 s1 sq v1 => hd _ _ _ _ _ _ _ _ s1 sq v1 q1 (k.ext e1)⟩
/-- .. upon a new list alone -/
theorem fe_L (hc : CallR X (.builtin id) r) (hd : SimL X.K r d) (hg : Gl X x) (hm : X.mg x = none) (hv : bootBuiltins x = some (.builtin id)) (ha : FL X e wq) (hn : x ≠ "__name__" := by decide) (hdb : (x == ("__debug__" : Str)) = false := by decide)
    (he : starEach [e] X.env = (false, eval e X.env) :: starEach [] X.env := by rfl) (hpl : (backTo pos (starEach [] X.env)).any (·.1) = false := by rfl) : FE X (.Call (.Name x p) [e] [] pos) (wQ d wq) := by
  refine ⟨PE.imp (pe_callB hc hg hm hv (pa_cons ha.p pa_nil he) hn hdb he hpl) fun σ H Q ⟨env, S, m, Q0, s, r, h, k⟩ => ?_⟩
  exact ⟨env, S, m, _, s, r, h, fun ds S1 a us H1 m1 q1 e1 s1 h0 nm ha v1 => hd _ _ _ _ _ _ _ _ s1 (SqL.of ha) v1 q1 (k.ext e1)⟩
/-- .. upon a list by its value -/
def dRef (d : RQ) (x : D) (S : Sto) (Q : WK) : Prop := match x with | .ref p => ∃ xs, S[p]? = some (.lst xs) ∧ d xs S Q | .rol xs => d xs S Q | _ => False
def wRef (d : RQ) (w : WE) : WE := fun env S Q => w env S fun x S1 => dRef d x S1 Q
theorem fe_R (hc : CallR X (.builtin id) r) (hd : SimL X.K r d) (hg : Gl X x) (hm : X.mg x = none) (hv : bootBuiltins x = some (.builtin id)) (ha : FE X e w) (hn : x ≠ "__name__" := by decide) (hdb : (x == ("__debug__" : Str)) = false := by decide)
    (he : starEach [e] X.env = (false, eval e X.env) :: starEach [] X.env := by rfl) (hpl : (backTo pos (starEach [] X.env)).any (·.1) = false := by rfl) : FE X (.Call (.Name x p) [e] [] pos) (wRef d w) := by
  refine ⟨PE.imp (pe_callB hc hg hm hv (pa_cons ha.p pa_nil he) hn hdb he hpl) fun σ H Q ⟨env, S, m, Q0, s, r, h, k⟩ => ?_⟩
  refine lift_k s r h fun y S1 u H1 m1 q1 e1 s1 v1 => ?_
  cases y with
  | ref i =>
    simp only [VR] at v1
    obtain ⟨a, rfl, h2⟩ := v1
    obtain ⟨xs, h3, q⟩ := q1
    obtain ⟨us, h4, h5⟩ := s1.lst h2 h3
    exact hd _ _ _ _ _ _ _ _ s1 (SqL.of h4) h5 q (k.ext e1)
  | rol xs =>
    simp only [VR] at v1
    obtain ⟨a, us, rfl, h2, h3⟩ := v1
    exact hd _ _ _ _ _ _ _ _ s1 h2.sq h3 q1 (k.ext e1)
  | _ => exact q1.elim
theorem sim_all : SimL X.K (rAll X.K) dAll := fun m H S a us ds Q0 Q s sq v ⟨bs, e, q⟩ k => by
  subst e; exact ⟨a, bs, rfl, by rw [← v.bls]; exact sq, k.v s q (by simp only [VR])⟩
theorem sim_any : SimL X.K (rAny X.K) dAny := fun m H S a us ds Q0 Q s sq v ⟨bs, e, q⟩ k => by
  subst e; exact ⟨a, bs, rfl, by rw [← v.bls]; exact sq, k.v s q (by simp only [VR])⟩
theorem sim_sum : SimL X.K (rSum X.K) dSum := fun m H S a us ds Q0 Q s sq v ⟨bs, e, q⟩ k => by
  subst e; exact ⟨a, bs, rfl, by rw [← v.ints]; exact sq, k.v s q (by simp only [VR])⟩
theorem sim_max : SimL X.K (rMax X.K) dMax := fun m H S a us ds Q0 Q s sq v ⟨bs, e, h, q⟩ k => by
  subst e; exact ⟨a, bs, rfl, by rw [← v.ints]; exact sq, h, fun j h1 h2 => k.v s (q j h1 h2) (by simp only [VR])⟩
theorem sim_min : SimL X.K (rMin X.K) dMin := fun m H S a us ds Q0 Q s sq v ⟨bs, e, h, q⟩ k => by
  subst e; exact ⟨a, bs, rfl, by rw [← v.ints]; exact sq, h, fun j h1 h2 => k.v s (q j h1 h2) (by simp only [VR])⟩
theorem sim_len : SimQ X.K (fun xs H Q => ∃ p ys, xs = [.ref p] ∧ (SqL X.K H p ys ∨ SqT X.K H p ys) ∧ Q (.int ys.length) H) dLen := fun m H S a us ds Q0 Q s sq v q k =>
  ⟨a, us, rfl, sq.imp (fun h => h) fun h => SqT.of h, k.v s q (by rw [v.length]; simp only [VR])⟩
theorem sim_tuple : SimQ X.K (fun xs H Q => ∃ p ys, xs = [.ref p] ∧ ((SqL X.K H p ys ∧ ∀ l, H l = none → Q (.ref l) (upd H l (.tup ys))) ∨ (SqT X.K H p ys ∧ Q (.ref p) H))) dTuple := fun m H S a us ds Q0 Q s sq v q k => by
  rcases sq with sq | sq
  · exact ⟨a, us, rfl, .inl ⟨sq, fun l hl => k.tup s v hl q⟩⟩
  · exact ⟨a, us, rfl, .inr ⟨SqT.of sq, k.v s q (by simp only [VR]; exact ⟨a, us, rfl, sq, v⟩)⟩⟩
/-- list(x): a new list -/
theorem fl_list (hg : Gl X "list") (hm : X.mg "list" = none) (ha : FQ X e wq) (hs : starEach [e] X.env = (false, eval e X.env) :: starEach [] X.env := by rfl) : FL X (.Call (.Name "list" p) [e] [] pos) wq := by
  refine ⟨PE.imp (pe_callTy call_list_of hg hm (by decide +kernel) (pa_cons ha.p pa_nil hs) (by decide) (by decide) hs rfl) fun σ H Q ⟨env, S, m, Q0, s, r, h, k⟩ => ?_⟩
  refine ⟨env, S, m, _, s, r, h, fun ds S1 a us H1 m1 q1 e1 s1 sq v1 => ⟨a, us, rfl, sq.imp (fun h => h) fun h => SqT.of h, fun l hl => k.lst e1 s1 v1 hl (e1.back s1 hl) q1⟩⟩
/-- len(x), by its value -/
def dLenV (x : D) (S : Sto) (Q : WK) : Prop := match x with
  | .str z => z.length ≤ sizeLine ∧ Q (.int z.length) S
  | .tup xs => Q (.int xs.length) S
  | .rol xs => Q (.int xs.length) S
  | .ref p => ∃ xs, S[p]? = some (.lst xs) ∧ Q (.int xs.length) S
  | _ => False
def wLen (w : WE) : WE := fun env S Q => w env S fun x S1 => dLenV x S1 Q
theorem fe_len (hg : Gl X "len") (hm : X.mg "len" = none) (ha : FE X e w) (hs : starEach [e] X.env = (false, eval e X.env) :: starEach [] X.env := by rfl) : FE X (.Call (.Name "len" p) [e] [] pos) (wLen w) := by
  refine ⟨PE.imp (pe_callB call_len hg hm (by decide +kernel) (pa_cons ha.p pa_nil hs) (by decide) (by decide) hs rfl) fun σ H Q ⟨env, S, m, Q0, s, r, h, k⟩ => ?_⟩
  refine lift_k s r h fun y S1 u H1 m1 q1 e1 s1 v1 => ?_
  cases y with
  | str z => simp only [VR] at v1; subst v1; exact ⟨_, _, rfl, ⟨q1.1, rfl⟩, (k.ext e1).v s1 q1.2 (by simp only [VR])⟩
  | tup xs =>
    simp only [VR] at v1
    obtain ⟨a, us, rfl, h2, h3⟩ := v1
    exact ⟨_, _, rfl, .inr ⟨us, SqT.of h2, rfl⟩, (k.ext e1).v s1 q1 (by rw [h3.length]; simp only [VR])⟩
  | rol xs =>
    simp only [VR] at v1
    obtain ⟨a, us, rfl, h2, h3⟩ := v1
    exact ⟨_, _, rfl, .inl ⟨us, h2.sq, rfl⟩, (k.ext e1).v s1 q1 (by rw [h3.length]; simp only [VR])⟩
  | ref i =>
    simp only [VR] at v1
    obtain ⟨a, rfl, h2⟩ := v1
    obtain ⟨xs, h3, q⟩ := q1
    obtain ⟨us, h4, h5⟩ := s1.lst h2 h3
    exact ⟨_, _, rfl, .inl ⟨us, SqL.of h4, rfl⟩, (k.ext e1).v s1 q (by rw [h5.length]; simp only [VR])⟩
  | _ => exact q1.elim
/-! max, min of two ints; int of a truth; isinstance -/
def wMax2 (wr : WA) : WE := fun env S Q => wr env S fun xs S1 => match xs with | [.int i, .int j] => Q (.int (max i j)) S1 | _ => False
def wMin2 (wr : WA) : WE := fun env S Q => wr env S fun xs S1 => match xs with | [.int i, .int j] => Q (.int (min i j)) S1 | _ => False
theorem fe_max2 (hc : X.calm = true) (hg : Gl X "max") (hm : X.mg "max" = none) (ha : FA X (a :: es) wr) (he : starEach (a :: es) X.env = (false, eval a X.env) :: starEach es X.env := by rfl) (hpl : (backTo pos (starEach es X.env)).any (·.1) = false := by rfl) : FE X (.Call (.Name "max" p) (a :: es) [] pos) (wMax2 wr) := by
  refine ⟨PE.imp (pe_callB (call_max2 hc) hg hm (by decide +kernel) ha.p (by decide) (by decide) he hpl) fun σ H Q ⟨env, S, m, Q0, s, r, h, k⟩ => ?_⟩
  refine ⟨env, S, m, _, s, r, h, fun xs S1 us H1 m1 q1 e1 s1 v1 => ?_⟩
  match xs, q1 with
  | [.int i, .int j], q1 =>
    obtain ⟨u, t, rfl, h1, h2⟩ := v1.cons_inv
    obtain ⟨u2, t2, rfl, h3, h4⟩ := h2.cons_inv
    cases h4.nil_inv
    simp only [VR] at h1 h3
    refine ⟨i, j, by rw [h1, h3], ?_⟩
    have e : (if j > i then j else i) = max i j := by split <;> omega
    rw [e]
    exact (k.ext e1).v s1 q1 (by simp only [VR])
theorem fe_min2 (hc : X.calm = true) (hg : Gl X "min") (hm : X.mg "min" = none) (ha : FA X (a :: es) wr) (he : starEach (a :: es) X.env = (false, eval a X.env) :: starEach es X.env := by rfl) (hpl : (backTo pos (starEach es X.env)).any (·.1) = false := by rfl) : FE X (.Call (.Name "min" p) (a :: es) [] pos) (wMin2 wr) := by
  refine ⟨PE.imp (pe_callB (call_min2 hc) hg hm (by decide +kernel) ha.p (by decide) (by decide) he hpl) fun σ H Q ⟨env, S, m, Q0, s, r, h, k⟩ => ?_⟩
  refine ⟨env, S, m, _, s, r, h, fun xs S1 us H1 m1 q1 e1 s1 v1 => ?_⟩
  match xs, q1 with
  | [.int i, .int j], q1 =>
    obtain ⟨u, t, rfl, h1, h2⟩ := v1.cons_inv
    obtain ⟨u2, t2, rfl, h3, h4⟩ := h2.cons_inv
    cases h4.nil_inv
    simp only [VR] at h1 h3
    refine ⟨i, j, by rw [h1, h3], ?_⟩
    have e : (if j < i then j else i) = min i j := by split <;> omega
    rw [e]
    exact (k.ext e1).v s1 q1 (by simp only [VR])
def wIntB (w : WE) : WE := fun env S Q => w env S fun x S1 => match x with | .bl b => Q (.int (if b then 1 else 0)) S1 | .int i => Q (.int i) S1 | _ => False
theorem fe_intB (hg : Gl X "int") (hm : X.mg "int" = none) (ha : FE X e w) (hs : starEach [e] X.env = (false, eval e X.env) :: starEach [] X.env := by rfl) : FE X (.Call (.Name "int" p) [e] [] pos) (wIntB w) := by
  refine ⟨PE.imp (pe_callTy call_int1 hg hm (by decide +kernel) (pa_cons ha.p pa_nil hs) (by decide) (by decide) hs rfl) fun σ H Q ⟨env, S, m, Q0, s, r, h, k⟩ => ?_⟩
  refine lift_k s r h fun y S1 u H1 m1 q1 e1 s1 v1 => ?_
  cases y with
  | bl b => simp only [VR] at v1; subst v1; exact .inr ⟨b, rfl, (k.ext e1).v s1 q1 (by simp only [VR])⟩
  | int i => simp only [VR] at v1; subst v1; exact .inl ⟨i, rfl, (k.ext e1).v s1 q1 (by simp only [VR])⟩
  | _ => exact q1.elim
end
inductive Ty where
  | non | bool | int | str | tuple | list | dict
  deriving DecidableEq
def Ty.name : Ty → String
  | .non => "NoneType" | .bool => "bool" | .int => "int" | .str => "str" | .tuple => "tuple" | .list => "list" | .dict => "dict"
def Ty.sub : Ty → Ty → Bool
  | .bool, .int => true
  | .non, .non => true | .bool, .bool => true | .int, .int => true | .str, .str => true | .tuple, .tuple => true | .list, .list => true | .dict, .dict => true
  | _, _ => false
theorem ty_kit (a b : Ty) (h : b ≠ .non) : kitB a.name b.name = some (Ty.sub a b) := by cases a <;> cases b <;> first | exact absurd rfl h | decide +kernel
def tyIn (x : D) (S : Sto) (R : Ty → Prop) : Prop := match x with
  | .non => R .non | .bl _ => R .bool | .int _ => R .int | .str _ => R .str | .tup _ => R .tuple | .rol _ => R .list
  | .ref p => ∃ o, S[p]? = some o ∧ (match o with | .lst _ => R .list | .dK _ => R .dict | .dT _ => R .dict | _ => False)
  | _ => False
def wIsi (T : Ty) (w : WE) : WE := fun env S Q => w env S fun x S1 => tyIn x S1 fun t => Q (.bl (Ty.sub t T)) S1
section
variable {X : Cx} {e t : Expr} {w : WE} {p pos pt : Pos}
theorem vr_ty {K : Frag} {m : List Addr} {H : Hp} {S : Sto} {x : D} {u : V} {R : Ty → Prop} (s : SR K m H S) (r : VR K m H x u) (h : tyIn x S R) : ∃ t, R t ∧ TyX K H u (.type t.name) := by
  cases x with
  | non => simp only [VR] at r; subst r; exact ⟨_, h, .base .non⟩
  | bl b => simp only [VR] at r; subst r; exact ⟨_, h, .base (.bl b)⟩
  | int b => simp only [VR] at r; subst r; exact ⟨_, h, .base (.int b)⟩
  | str b => simp only [VR] at r; subst r; exact ⟨_, h, .base (.str b)⟩
  | tup xs =>
    simp only [VR] at r
    obtain ⟨a, us, rfl, h2, h3⟩ := r
    refine ⟨_, h, ?_⟩
    exact .base (.tup h2)
  | rol xs =>
    simp only [VR] at r
    obtain ⟨a, us, rfl, h2, h3⟩ := r
    refine ⟨_, h, ?_⟩
    rcases h2 with ⟨o, h2⟩ | ⟨o, its, n, h2, h4, _⟩
    · exact .base (.frz h2)
    · exact .kList h2 h4
  | ref i =>
    simp only [VR] at r
    obtain ⟨a, rfl, h2⟩ := r
    obtain ⟨o, h3, q⟩ := h
    obtain ⟨b, h4, h5⟩ := s.at_ i o h3
    rw [h2] at h4; cases h4
    cases o with
    | lst xs => obtain ⟨us, h6, _⟩ := h5; exact ⟨_, q, .base (.lst h6)⟩
    | dK xs => obtain ⟨us, h6, _⟩ := h5; exact ⟨_, q, .base (.dK h6)⟩
    | dT xs => obtain ⟨us, h6, _⟩ := h5; exact ⟨_, q, .base (.dT h6)⟩
    | ins C fs => exact q.elim
  | _ => exact h.elim
/-- isinstance(e, T), T a built-in class -/
theorem fe_isi {T : Ty} {x : Str} (hT : T ≠ .non) (hg : Gl X "isinstance") (hm : X.mg "isinstance" = none) (hg2 : Gl X x) (hm2 : X.mg x = none) (hv2 : bootBuiltins x = some (.type T.name)) (ha : FE X e w) (hn : x ≠ "__name__" := by decide) (hdb : (x == ("__debug__" : Str)) = false := by decide)
    (hs : starEach [e, .Name x pt] X.env = (false, eval e X.env) :: starEach [.Name x pt] X.env := by rfl) (hs2 : starEach [.Name x pt] X.env = (false, eval (.Name x pt) X.env) :: starEach [] X.env := by rfl) (hpl : (backTo pos (starEach [.Name x pt] X.env)).any (·.1) = false := by rfl) : FE X (.Call (.Name "isinstance" p) [e, .Name x pt] [] pos) (wIsi T w) := by
  refine ⟨PE.imp (pe_callB call_isi hg hm (by decide +kernel) (pa_cons ha.p (pa_cons (pe_bltn (v := .ty T.name) hg2 hm2 hv2 rfl hn hdb) pa_nil hs2) hs) (by decide) (by decide) hs hpl) fun σ H Q ⟨env, S, m, Q0, s, r, h, k⟩ => ?_⟩
  refine lift_k s r h fun y S1 u H1 m1 q1 e1 s1 v1 => ?_
  obtain ⟨t, q, ty⟩ := vr_ty s1 v1 q1
  exact ⟨u, .ty T.name, .type t.name, .type T.name, _, rfl, .ty _, ty, kit_ty (ty_kit t T hT), (k.ext e1).v s1 q (by simp only [VR])⟩
end
end Z
namespace Z
open PySem PySem.Spec PyProof.Rows L2 RZ

/-! in -/
def D.flat : D → Bool
  | .non | .bl _ | .int _ | .str _ => true
  | _ => false
def dInL (f : Bool → Bool) (x : D) (xs : List D) (S : Sto) (Q : WK) : Prop := x.flat = true ∧ xs.all D.flat = true ∧ Q (.bl (f (xs.any fun y => D.eqv y x))) S
/-- in a list or tuple of flat things, in a text (of one sign) -/
def dInB (f : Bool → Bool) : R2D := fun x y S Q => match y with
  | .tup xs => dInL f x xs S Q
  | .rol xs => dInL f x xs S Q
  | .ref p => ∃ xs, S[p]? = some (.lst xs) ∧ dInL f x xs S Q
  | .str z => match x with | .str t => ∃ c, t = T [c] ∧ Q (.bl (f (decide (c ∈ z.cps.toList)))) S | _ => False
  | _ => False
abbrev dIn : R2D := dInB id
abbrev dNotIn : R2D := dInB not
section
variable {K : Frag} {m : List Addr} {H : Hp}
theorem VR.flat {x : D} {u : V} (h : VR K m H x u) (f : x.flat = true) : flatV u = true := by
  cases x <;> simp only [D.flat, Bool.false_eq_true] at f <;> (simp only [VR] at h; subst h; rfl)
theorem VR.eqV {x y : D} {u v : V} (h : VR K m H x u) (h2 : VR K m H y v) (f : x.flat = true) (g : y.flat = true) : L2.eqV u v = D.eqv x y := by
  cases x <;> simp only [D.flat, Bool.false_eq_true] at f <;> (cases y <;> simp only [D.flat, Bool.false_eq_true] at g <;> (simp only [VR] at h h2; subst h; subst h2; simp [L2.eqV, D.eqv]))
theorem VRs.flat : ∀ {xs : List D} {us : List V}, VRs K m H xs us → xs.all D.flat = true → us.all flatV = true
  | [], _, h, _ => by rw [h.nil_inv]; rfl
  | x :: xs, _, h, f => by
    obtain ⟨u, r, rfl, h2, h3⟩ := h.cons_inv
    simp only [List.all_cons, Bool.and_eq_true] at f ⊢
    exact ⟨h2.flat f.1, h3.flat f.2⟩
theorem VRs.inV {x : D} {u : V} (hx : VR K m H x u) (fx : x.flat = true) : ∀ {xs : List D} {us : List V}, VRs K m H xs us → xs.all D.flat = true → L2.inV u us = xs.any fun y => D.eqv y x
  | [], _, h, _ => by rw [h.nil_inv]; rfl
  | y :: xs, _, h, f => by
    obtain ⟨v, r, rfl, h2, h3⟩ := h.cons_inv
    simp only [List.all_cons, Bool.and_eq_true] at f
    have ih := VRs.inV hx fx h3 f.2
    unfold L2.inV at ih ⊢
    rw [List.any_cons, List.any_cons, ih, h2.eqV hx f.1 fx]
end
section
variable {X : Cx} {a b c e o : Expr} {es : List Expr} {w wa wb wc wo : WE} {wr wq : WA} {p pos apos cpos p2 : Pos}
theorem sim_inB (f : Bool → Bool) (neg : Bool) (hf : ∀ b, (if neg then !b else b) = f b) : Sim2 X.K (fun x y H Q => rIn X.K neg x y H Q ∨ (fun x y H Q => ∃ (c : Nat) (z : Str), x = .str ⟨#[c]⟩ ∧ y = .str z ∧ Q (.bl (f (decide (c ∈ z.cps.toList)))) H) x y H Q) (dInB f) := by
  intro m H S x y u v Q0 Q s rx ry h k
  have seq : ∀ xs p us, v = .ref p → (SqL X.K H p us ∨ SqT X.K H p us) → VRs X.K m H xs us → dInL f x xs S Q0 → rIn X.K neg u v H Q := fun xs p us e sq vs ⟨h1, h2, h3⟩ => by
    refine ⟨p, us, e, sq, rx.flat h1, vs.flat h2, ?_⟩
    have e2 : (if neg then !L2.inV u us else L2.inV u us) = f (xs.any fun y => D.eqv y x) := by rw [← VRs.inV rx h1 vs h2]; exact hf _
    rw [e2]
    exact k.v s h3 (by simp only [VR])
  cases y with
  | tup xs => simp only [VR] at ry; obtain ⟨a, us, h1, h2, h3⟩ := ry; exact .inl (seq xs a us h1 (.inr (SqT.of h2)) h3 h)
  | rol xs => simp only [VR] at ry; obtain ⟨a, us, h1, h2, h3⟩ := ry; exact .inl (seq xs a us h1 (.inl h2.sq) h3 h)
  | ref i =>
    simp only [VR] at ry
    obtain ⟨a, h1, h2⟩ := ry
    obtain ⟨xs, h3, h⟩ := h
    obtain ⟨us, h4, h5⟩ := s.lst h2 h3
    exact .inl (seq xs a us h1 (.inl (SqL.of h4)) h5 h)
  | str z =>
    cases x with
    | str t =>
      simp only [VR] at rx ry
      obtain ⟨c, rfl, q⟩ := h
      exact .inr ⟨c, z, rx, ry, k.v s q (by simp only [VR])⟩
    | _ => exact h.elim
  | _ => exact h.elim
theorem fe_in (ha : FE X a wa) (hb : FE X b wb) (hm : behindInMarks .In b = false := by rfl) : FE X (.Compare a [.In] [b] pos) (wOp dIn wa wb) := fe_cmp (op_in_seq.or op_in_sign) (sim_inB id false fun _ => rfl) ha hb hm
theorem ft_in (ha : FE X a wa) (hb : FE X b wb) (hm : behindInMarks .In b = false := by rfl) : FT X (.Compare a [.In] [b] pos) (tOf (wOp dIn wa wb)) := ft_cmp (op_in_seq.or op_in_sign) (sim_inB id false fun _ => rfl) ha hb hm
theorem fe_notin (ha : FE X a wa) (hb : FE X b wb) (hm : behindInMarks .NotIn b = false := by rfl) : FE X (.Compare a [.NotIn] [b] pos) (wOp dNotIn wa wb) := fe_cmp (op_notIn_seq.or op_notIn_sign) (sim_inB not true fun _ => rfl) ha hb hm
theorem ft_notin (ha : FE X a wa) (hb : FE X b wb) (hm : behindInMarks .NotIn b = false := by rfl) : FT X (.Compare a [.NotIn] [b] pos) (tOf (wOp dNotIn wa wb)) := ft_cmp (op_notIn_seq.or op_notIn_sign) (sim_inB not true fun _ => rfl) ha hb hm

/-! methods of built-in types -/
abbrev RM := D → List D → Sto → WK → Prop
def tyL (x : D) (S : Sto) : Prop := match x with | .ref p => ∃ xs, S[p]? = some (.lst xs) | .rol _ => True | _ => False
def tyS (x : D) (S : Sto) : Prop := match x with | .str _ => True | _ => False
theorem tyL_v {K : Frag} {m : List Addr} {H : Hp} {S : Sto} {x : D} {u : V} (s : SR K m H S) (r : VR K m H x u) (h : tyL x S) : tyV K "list" u H := by
  cases x with
  | ref i =>
    simp only [VR] at r
    obtain ⟨a, rfl, h2⟩ := r
    obtain ⟨xs, h3⟩ := h
    obtain ⟨us, h4, h5⟩ := s.lst h2 h3
    exact .inl ⟨rfl, us, SqL.of h4⟩
  | rol xs =>
    simp only [VR] at r
    obtain ⟨a, us, rfl, h2, h3⟩ := r
    exact .inl ⟨rfl, us, h2.sq⟩
  | _ => exact h.elim
theorem tyS_v {K : Frag} {m : List Addr} {H : Hp} {S : Sto} {x : D} {u : V} (s : SR K m H S) (r : VR K m H x u) (h : tyS x S) : tyV K "str" u H := by
  cases x with
  | str z => simp only [VR] at r; subst r; exact rfl
  | _ => exact h.elim
def SimM (K : Frag) (r : V → List V → Hp → VK → Prop) (d : RM) : Prop := ∀ (m : List Addr) (H : Hp) (S : Sto) (x : D) (u : V) (ds : List D) (us : List V) (Q0 : WK) (Q : VK), SR K m H S → VR K m H x u → VRs K m H ds us → d x ds S Q0 → Kt K m H Q0 Q → r u us H Q
def wM (ty : D → Sto → Prop) (d : RM) (wo : WE) (wr : WA) : WE := fun env S Q => wo env S fun x S1 => ty x S1 ∧ wr env S1 fun ds S2 => d x ds S2 Q
def wM0 (ty : D → Sto → Prop) (d : RM) (wo : WE) : WE := fun env S Q => wo env S fun x S1 => ty x S1 ∧ d x [] S1 Q
variable {T id : String} {name : Str} {r : V → List V → Hp → VK → Prop} {d : RM} {ty : D → Sto → Prop}
theorem fe_bm (pa : PlainAttrs T) (slot : Slot T name id) (hty : typeOf (.builtin id) = pure (.type "method_descriptor")) (hm : MtR X id r) (hd : SimM X.K r d) (htv : ∀ {m H S x u}, SR X.K m H S → VR X.K m H x u → ty x S → tyV X.K T u H) (ho : FE X o wo) (ha : FA X (e :: es) wr)
    (hbase : attributeBase o name X.env (eval o X.env) = eval o X.env := by rfl)
    (hfew : ((backTo cpos (starEach (e :: es) X.env)).all (fun x => !x.1) && (backToKw cpos (keywordEach [] X.env)).all (fun x => x.1.isSome)
      && decide ((e :: es).length + ([] : List Keyword).length + (if ([] : List Keyword).isEmpty then 0 else 1) < 30)) = true := by rfl)
    (hline : (apos.endLine == cpos.line) = true := by rfl) (hs : starEach (e :: es) X.env = (false, eval e X.env) :: starEach es X.env := by rfl) (hplain : (backTo cpos (starEach es X.env)).any (·.1) = false := by rfl) :
    FE X (.Call (.Attribute o name apos) (e :: es) [] cpos) (wM ty d wo wr) := by
  refine ⟨PE.imp (pe_bm pa slot hty hm ho.p ha.p hbase hfew hline hs hplain) fun σ H Q ⟨env, S, m, Q0, s, r, h, k⟩ => ?_⟩
  refine lift_k s r h fun x S1 u H1 m1 q1 e1 s1 v1 => ⟨htv s1 v1 q1.1, env, S1, m1, _, s1, r.ext e1.toEx, q1.2, fun ds S2 us H2 m2 q2 e2 s2 v2 => ?_⟩
  exact hd _ _ _ _ _ _ _ _ _ s2 (v1.ext e2.toEx) v2 q2 (k.ext (e1.trans e2))
theorem fe_bm0 (pa : PlainAttrs T) (slot : Slot T name id) (hty : typeOf (.builtin id) = pure (.type "method_descriptor")) (hm : MtR X id r) (hd : SimM X.K r d) (htv : ∀ {m H S x u}, SR X.K m H S → VR X.K m H x u → ty x S → tyV X.K T u H) (ho : FE X o wo)
    (hbase : attributeBase o name X.env (eval o X.env) = eval o X.env := by rfl) (hline : (apos.endLine == cpos.line) = true := by rfl) : FE X (.Call (.Attribute o name apos) [] [] cpos) (wM0 ty d wo) := by
  refine ⟨PE.imp (pe_bm0 pa slot hty hm ho.p hbase hline) fun σ H Q ⟨env, S, m, Q0, s, r, h, k⟩ => ?_⟩
  refine lift_k s r h fun x S1 u H1 m1 q1 e1 s1 v1 => ⟨htv s1 v1 q1.1, ?_⟩
  exact hd _ _ _ _ _ _ _ _ _ s1 v1 VRs.nil q1.2 (k.ext e1)
def dAppend : RM := fun x ds S Q => match x, ds with | .ref p, [y] => ∃ xs, S[p]? = some (.lst xs) ∧ xs.length < sizeLine ∧ Q .non (S.set p (.lst (xs ++ [y]))) | _, _ => False
def dPop : RM := fun x ds S Q => match x, ds with | .ref p, [] => ∃ xs, S[p]? = some (.lst xs) ∧ ∃ y, xs[xs.length - 1]? = some y ∧ Q y (S.set p (.lst xs.dropLast)) | _, _ => False
def dPopAt : RM := fun x ds S Q => match x, ds with | .ref p, [.int i] => ∃ xs, S[p]? = some (.lst xs) ∧ (-(2 ^ 63) ≤ i ∧ i < 2 ^ 63) ∧ ∃ k y, seqIndex? i xs.length = some k ∧ xs[k]? = some y ∧ Q y (S.set p (.lst (xs.eraseIdx k))) | _, _ => False
def dInsert : RM := fun x ds S Q => match x, ds with | .ref p, [.int i, y] => ∃ xs, S[p]? = some (.lst xs) ∧ xs.length < sizeLine ∧ (0 ≤ i ∧ i < 2 ^ 63) ∧ Q .non (S.set p (.lst (xs.take i.toNat ++ [y] ++ xs.drop i.toNat))) | _, _ => False
def dExtend : RM := fun x ds S Q => match x, ds with | .ref p, [.ref q] => ∃ xs ys, S[p]? = some (.lst xs) ∧ S[q]? = some (.lst ys) ∧ xs.length + ys.length ≤ sizeLine ∧ Q .non (S.set p (.lst (xs ++ ys))) | _, _ => False
def dCount : RM := fun x ds S Q => match x, ds with | .ref p, [.int i] => ∃ ns : List Int, S[p]? = some (.lst (ns.map D.int)) ∧ Q (.int (ns.count i : Nat)) S | _, _ => False
theorem SR.lst_write {K : Frag} {m : List Addr} {H : Hp} {S : Sto} (s : SR K m H S) {i : Nat} {a : Addr} {xs : List D} {us : List V} (hi : m[i]? = some a) (h : VRs K m H xs us) : Ext K m H m (upd H a (.lst us)) ∧ SR K m (upd H a (.lst us)) (S.set i (.lst xs)) :=
  s.write hi fun H' e hh => ⟨us, hh, h.ext e.toEx⟩
theorem sim_append : SimM X.K rAppend dAppend := by
  intro m H S x u ds us Q0 Q s r rs h k
  match x, ds, h with
  | .ref p, [y], ⟨xs, h1, h2, q⟩ =>
    simp only [VR] at r
    obtain ⟨a, rfl, h3⟩ := r
    obtain ⟨v, t, rfl, h4, h5⟩ := rs.cons_inv
    cases h5.nil_inv
    obtain ⟨ws, h6, h7⟩ := s.lst h3 h1
    obtain ⟨e, s'⟩ := s.lst_write h3 (h7.app (.cons h4 .nil))
    exact ⟨a, ws, v, rfl, rfl, h6, by rw [← h7.length]; exact h2, k _ _ _ _ _ q e s' (by simp only [VR])⟩
theorem sim_pop : SimM X.K rPop dPop := by
  intro m H S x u ds us Q0 Q s r rs h k
  match x, ds, h with
  | .ref p, [], ⟨xs, h1, y, h2, q⟩ =>
    simp only [VR] at r
    obtain ⟨a, rfl, h3⟩ := r
    cases rs.nil_inv
    obtain ⟨ws, h6, h7⟩ := s.lst h3 h1
    obtain ⟨v, h8, h9⟩ := h7.get h2
    obtain ⟨e, s'⟩ := s.lst_write h3 h7.dropLast
    exact ⟨a, ws, v, rfl, rfl, h6, by rw [← h7.length]; exact h8, k _ _ _ _ _ q e s' (h9.ext e.toEx)⟩
theorem sim_popAt : SimM X.K rPopAt dPopAt := by
  intro m H S x u ds us Q0 Q s r rs h k
  match x, ds, h with
  | .ref p, [.int i], ⟨xs, h1, hb, j, y, h2, h20, q⟩ =>
    simp only [VR] at r
    obtain ⟨a, rfl, h3⟩ := r
    obtain ⟨v, t, rfl, h4, h5⟩ := rs.cons_inv
    cases h5.nil_inv
    simp only [VR] at h4
    subst h4
    obtain ⟨ws, h6, h7⟩ := s.lst h3 h1
    obtain ⟨v, h8, h9⟩ := h7.get h20
    obtain ⟨e, s'⟩ := s.lst_write h3 (h7.erase j)
    exact ⟨a, ws, i, j, v, rfl, rfl, h6, hb.1, hb.2, by rw [← h7.length]; exact h2, h8, k _ _ _ _ _ q e s' (h9.ext e.toEx)⟩
theorem sim_insert : SimM X.K (fun x vs H Q => ∃ (l : Addr) (xs : List V) (i : Int) (y : V), x = .ref l ∧ vs = [.int i, y] ∧ H l = some (.lst xs) ∧ xs.length < sizeLine ∧ 0 ≤ i ∧ i < 2 ^ 63 ∧ Q .non (upd H l (.lst (xs.take i.toNat ++ [y] ++ xs.drop i.toNat)))) dInsert := by
  intro m H S x u ds us Q0 Q s r rs h k
  match x, ds, h with
  | .ref p, [.int i, y], ⟨xs, h1, h2, hb, q⟩ =>
    simp only [VR] at r
    obtain ⟨a, rfl, h3⟩ := r
    obtain ⟨v, t, rfl, h4, h5⟩ := rs.cons_inv
    obtain ⟨v2, t, rfl, h40, h5⟩ := h5.cons_inv
    cases h5.nil_inv
    simp only [VR] at h4
    subst h4
    obtain ⟨ws, h6, h7⟩ := s.lst h3 h1
    obtain ⟨e, s'⟩ := s.lst_write h3 (((h7.take i.toNat).app (.cons h40 .nil)).app (h7.drop i.toNat))
    exact ⟨a, ws, i, v2, rfl, rfl, h6, by rw [← h7.length]; exact h2, hb.1, hb.2, k _ _ _ _ _ q e s' (by simp only [VR])⟩
theorem sim_extend : SimM X.K rExtend dExtend := by
  intro m H S x u ds us Q0 Q s r rs h k
  match x, ds, h with
  | .ref p, [.ref j], ⟨xs, ys, h1, h10, h2, q⟩ =>
    simp only [VR] at r
    obtain ⟨a, rfl, h3⟩ := r
    obtain ⟨v, t, rfl, h4, h5⟩ := rs.cons_inv
    cases h5.nil_inv
    simp only [VR] at h4
    obtain ⟨b, rfl, h30⟩ := h4
    obtain ⟨ws, h6, h7⟩ := s.lst h3 h1
    obtain ⟨zs, h60, h70⟩ := s.lst h30 h10
    obtain ⟨e, s'⟩ := s.lst_write h3 (h7.app h70)
    exact ⟨a, b, ws, zs, rfl, rfl, h6, h60, by rw [← h7.length, ← h70.length]; exact h2, k _ _ _ _ _ q e s' (by simp only [VR])⟩
theorem sim_count : SimM X.K (rCntI X.K) dCount := by
  intro m H S x u ds us Q0 Q s r rs h k
  match x, ds, h with
  | .ref p, [.int i], ⟨ns, h1, q⟩ =>
    simp only [VR] at r
    obtain ⟨a, rfl, h3⟩ := r
    obtain ⟨v, t, rfl, h4, h5⟩ := rs.cons_inv
    cases h5.nil_inv
    simp only [VR] at h4
    subst h4
    obtain ⟨ws, h6, h7⟩ := s.lst h3 h1
    exact ⟨a, ns, i, rfl, rfl, by rw [← h7.ints]; exact SqL.of h6, k.v s q (by simp only [VR])⟩
abbrev wAppend := wM tyL dAppend
theorem fe_append (ho : FE X o wo) (ha : FA X [e] wr) (hbase : attributeBase o "append" X.env (eval o X.env) = eval o X.env := by rfl) (hline : (apos.endLine == cpos.line) = true := by rfl) (hs : starEach [e] X.env = (false, eval e X.env) :: starEach [] X.env := by rfl) : FE X (.Call (.Attribute o "append" apos) [e] [] cpos) (wM tyL dAppend wo wr) :=
  fe_bm PySem.F.plainAttrs_list PySem.F.slot_list_append PySem.F.type_list_append mt_append sim_append tyL_v ho ha hbase (by rw [hs]; rfl) hline hs
theorem fe_extend (ho : FE X o wo) (ha : FA X [e] wr) (hbase : attributeBase o "extend" X.env (eval o X.env) = eval o X.env := by rfl) (hline : (apos.endLine == cpos.line) = true := by rfl) (hs : starEach [e] X.env = (false, eval e X.env) :: starEach [] X.env := by rfl) : FE X (.Call (.Attribute o "extend" apos) [e] [] cpos) (wM tyL dExtend wo wr) :=
  fe_bm PySem.F.plainAttrs_list PySem.F.slot_list_extend PySem.F.type_list_extend mt_extend sim_extend tyL_v ho ha hbase (by rw [hs]; rfl) hline hs
theorem fe_popAt (ho : FE X o wo) (ha : FA X [e] wr) (hbase : attributeBase o "pop" X.env (eval o X.env) = eval o X.env := by rfl) (hline : (apos.endLine == cpos.line) = true := by rfl) (hs : starEach [e] X.env = (false, eval e X.env) :: starEach [] X.env := by rfl) : FE X (.Call (.Attribute o "pop" apos) [e] [] cpos) (wM tyL dPopAt wo wr) :=
  fe_bm PySem.F.plainAttrs_list PySem.F.slot_list_pop PySem.F.type_list_pop mt_popAt sim_popAt tyL_v ho ha hbase (by rw [hs]; rfl) hline hs
theorem fe_pop (ho : FE X o wo) (hbase : attributeBase o "pop" X.env (eval o X.env) = eval o X.env := by rfl) (hline : (apos.endLine == cpos.line) = true := by rfl) : FE X (.Call (.Attribute o "pop" apos) [] [] cpos) (wM0 tyL dPop wo) :=
  fe_bm0 PySem.F.plainAttrs_list PySem.F.slot_list_pop PySem.F.type_list_pop mt_pop sim_pop tyL_v ho hbase hline
theorem fe_insert {e2 : Expr} (ho : FE X o wo) (ha : FA X [e, e2] wr) (hbase : attributeBase o "insert" X.env (eval o X.env) = eval o X.env := by rfl) (hline : (apos.endLine == cpos.line) = true := by rfl) (hs : starEach [e, e2] X.env = (false, eval e X.env) :: starEach [e2] X.env := by rfl) (hpl : (backTo cpos (starEach [e2] X.env)).any (·.1) = false := by rfl)
    (hfew : ((backTo cpos (starEach [e, e2] X.env)).all (fun x => !x.1) && (backToKw cpos (keywordEach [] X.env)).all (fun x => x.1.isSome) && decide ([e, e2].length + ([] : List Keyword).length + (if ([] : List Keyword).isEmpty then 0 else 1) < 30)) = true := by rfl) : FE X (.Call (.Attribute o "insert" apos) [e, e2] [] cpos) (wM tyL dInsert wo wr) :=
  fe_bm PySem.F.plainAttrs_list PySem.F.slot_list_insert PySem.F.type_list_insert mt_insert sim_insert tyL_v ho ha hbase hfew hline hs hpl
theorem fe_count (ho : FE X o wo) (ha : FA X [e] wr) (hbase : attributeBase o "count" X.env (eval o X.env) = eval o X.env := by rfl) (hline : (apos.endLine == cpos.line) = true := by rfl) (hs : starEach [e] X.env = (false, eval e X.env) :: starEach [] X.env := by rfl) : FE X (.Call (.Attribute o "count" apos) [e] [] cpos) (wM tyL dCount wo wr) :=
  fe_bm PySem.F.plainAttrs_list PySem.F.slot_list_count PySem.F.type_list_count mt_lcount sim_count tyL_v ho ha hbase (by rw [hs]; rfl) hline hs
/-- sep.join(a list of texts) -/
def wJoin (wo : WE) (wq : WA) : WE := fun env S Q => wo env S fun x S1 => tyS x S1 ∧ wq env S1 fun ds S2 => match x with | .str z => ∃ ys : List Str, ds = ys.map D.str ∧ (ys.map (·.length)).sum + ys.length * z.length ≤ 16777216 ∧ Q (.str (Txt.join z ys)) S2 | _ => False
theorem fe_join (ho : FE X o wo) (ha : FQ X e wq) (hbase : attributeBase o "join" X.env (eval o X.env) = eval o X.env := by rfl) (hline : (apos.endLine == cpos.line) = true := by rfl) (hs : starEach [e] X.env = (false, eval e X.env) :: starEach [] X.env := by rfl) : FE X (.Call (.Attribute o "join" apos) [e] [] cpos) (wJoin wo wq) := by
  refine ⟨PE.imp (pe_bm (PySem.F.plainAttrs_str) PySem.F.slot_str_join PySem.F.type_str_join mt_join ho.p (pa_cons ha.p pa_nil hs) hbase (by rw [hs]; rfl) hline hs rfl) fun σ H Q ⟨env, S, m, Q0, s, r, h, k⟩ => ?_⟩
  refine lift_k s r h fun x S1 u H1 m1 q1 e1 s1 v1 => ⟨tyS_v s1 v1 q1.1, env, S1, m1, _, s1, r.ext e1.toEx, q1.2, fun ds S2 a us H2 m2 q2 e2 s2 sq v2 => ?_⟩
  cases x with
  | str z =>
    simp only [VR] at v1
    obtain ⟨ys, rfl, h1, q⟩ := q2
    exact ⟨z, a, ys, v1, rfl, by rw [← v2.strs]; exact sq.imp (fun h => h) fun h => SqT.of h, h1, (k.ext (e1.trans e2)).v s2 q (by simp only [VR])⟩
  | _ => exact q2.elim
/-- text.index(a text that is in it) -/
def dIndexS : RM := fun x ds S Q => match x, ds with | .str a, [.str b] => ∃ k, Txt.index0 a b = some k ∧ Q (.int (k : Nat)) S | _, _ => False
theorem fe_indexS (hc : X.calm = true) (ho : FE X o wo) (ha : FA X [e] wr) (hbase : attributeBase o "index" X.env (eval o X.env) = eval o X.env := by rfl) (hline : (apos.endLine == cpos.line) = true := by rfl) (hs : starEach [e] X.env = (false, eval e X.env) :: starEach [] X.env := by rfl) : FE X (.Call (.Attribute o "index" apos) [e] [] cpos) (wM tyS dIndexS wo wr) := by
  refine ⟨PE.imp (pe_bmS (PySem.F.plainAttrs_str) PySem.F.slot_str_index PySem.F.type_str_index (mt_indexX hc takes0) ho.p ha.p hbase (by rw [hs]; rfl) hline hs rfl) fun σ H Q ⟨env, S, m, Q0, s, r, h, k⟩ => ?_⟩
  refine lift_k s r h fun x S1 u H1 m1 q1 e1 s1 v1 => ⟨tyS_v s1 v1 q1.1, env, S1, m1, _, s1, r.ext e1.toEx, q1.2, fun ds S2 us H2 m2 q2 e2 s2 v2 => ?_⟩
  match x, ds, q2 with
  | .str a, [.str b], ⟨j, h1, q⟩ =>
    simp only [VR] at v1
    obtain ⟨v, t, rfl, h4, h5⟩ := v2.cons_inv
    cases h5.nil_inv
    simp only [VR] at h4
    subst h4
    refine ⟨a, b, v1, rfl, fun j' h' => ?_, fun h' => by rw [h1] at h'; cases h'⟩
    rw [h1] at h'; cases h'
    exact (k.ext (e1.trans e2)).v s2 q (by simp only [VR])
/-- xs[::-1] -/
def lRev (w : WE) : WA := fun env S Q => w env S fun x S1 => match x with | .ref p => ∃ xs, S1[p]? = some (.lst xs) ∧ Q xs.reverse S1 | .rol xs => Q xs.reverse S1 | _ => False
theorem fl_rev {k : Nat} {p1 p2 p3 : Pos} (he : FE X e w) : FL X (.Subscript e (.Slice none none (some (.UnaryOp .USub (.Constant (.int 1) k p1) p2)) p3) pos) (lRev w) := by
  refine ⟨PE.imp (pe_revL he.p) fun σ H Q ⟨env, S, m, Q0, s, r, h, k⟩ => ?_⟩
  refine lift_k s r h fun x S1 u H1 m1 q1 e1 s1 v1 => ?_
  cases x with
  | ref i =>
    simp only [VR] at v1
    obtain ⟨a, rfl, h2⟩ := v1
    obtain ⟨xs, h3, q⟩ := q1
    obtain ⟨us, h4, h5⟩ := s1.lst h2 h3
    exact ⟨a, us, rfl, SqL.of h4, fun p hp => k.lst e1 s1 h5.rev hp (e1.back s1 hp) q⟩
  | rol xs =>
    simp only [VR] at v1
    obtain ⟨a, us, rfl, h2, h3⟩ := v1
    exact ⟨a, us, rfl, h2.sq, fun p hp => k.lst e1 s1 h3.rev hp (e1.back s1 hp) q1⟩
  | _ => exact q1.elim
end

/-! enumerate(list), zip of two lists or two tuples -/
def enumD (xs : List D) : List D := (List.range xs.length).map fun (i : Nat) => D.tup [.int (i : Int), xs.getD i .non]
def zipD (xs ys : List D) : List D := (xs.zip ys).map fun p => D.tup [p.1, p.2]
theorem enumD_len {xs : List D} : (enumD xs).length = xs.length := by simp [enumD]
theorem enumD_get {xs : List D} {i : Nat} {d : D} (h : xs[i]? = some d) : (enumD xs)[i]? = some (.tup [.int (i : Int), d]) := by
  have hi := (List.getElem?_eq_some_iff.mp h).1
  unfold enumD
  rw [List.getElem?_map, List.getElem?_range hi]
  simp [List.getD, h]
theorem zipD_get {xs ys : List D} {i : Nat} {d e : D} (h : xs[i]? = some d) (h2 : ys[i]? = some e) : (zipD xs ys)[i]? = some (.tup [d, e]) := by
  unfold zipD
  rw [List.getElem?_map]
  have : (xs.zip ys)[i]? = some (d, e) := by
    rw [List.getElem?_zip_eq_some]; exact ⟨h, h2⟩
  rw [this]; rfl
theorem pair_new {K : Frag} {m : List Addr} {H : Hp} {S : Sto} (s : SR K m H S) {x y : D} {u v : V} {T : Addr} (hT : H T = none) (rx : VR K m H x u) (ry : VR K m H y v) : Ext K m H m (upd H T (.tup [u, v])) ∧ SR K m (upd H T (.tup [u, v])) S ∧ VR K m (upd H T (.tup [u, v])) (.tup [x, y]) (.ref T) := by
  obtain ⟨_, e, s'⟩ := s.laid (ho := .tup [u, v]) hT
  refine ⟨e, s', ?_⟩
  simp only [VR]
  exact ⟨T, [u, v], rfl, upd_same, .cons (rx.ext e.toEx) (.cons (ry.ext e.toEx) .nil)⟩
section
variable {X : Cx} {a b c e o e2 : Expr} {es elts : List Expr} {w wa wb wc wo w1 w2 : WE} {wr wq : WA} {p pos apos cpos p2 tpos : Pos} {kk : Nat}
/-- a list to be read, that stays: its number, or none where it is not in the store -/
def okR (p : Nat) (xs : List D) : Sto → Prop := fun S => S[p]? = some (.lst xs)
def iEnumL (wq : WA) : WI := fun env S R => wq env S fun xs S1 => R ⟨enumD xs, fun _ => True⟩ S1
def iEnumR (w : WE) : WI := fun env S R => w env S fun x S1 => match x with | .ref p => ∃ xs, S1[p]? = some (.lst xs) ∧ R ⟨enumD xs, okR p xs⟩ S1 | _ => False
theorem WalkD.enum {K : Frag} {m0 : List Addr} {H0 : Hp} {xs : List D} {a : Addr} {ok : Sto → Prop} (h : ∀ H m S, Ext K m0 H0 m H → SR K m H S → ok S → ∃ us, SqL K H a us ∧ VRs K m H xs us) : WalkD K m0 H0 (Ite K a) ⟨enumD xs, ok⟩ := by
  refine ⟨fun i H m S hi e s o => ?_, fun H m S e s o => ?_, fun i H m S x H' hi e s o y => ?_⟩
  · obtain ⟨us, h1, h2⟩ := h H m S e s o
    have hi' : i < xs.length := by simpa [enumD_len] using hi
    obtain ⟨u, h3, h4⟩ := h2.get (i := i) (x := xs[i]'hi') (by simp)
    exact ⟨us, u, h1, h3⟩
  · obtain ⟨us, h1, h2⟩ := h H m S e s o
    exact ⟨us, h1, by show us.length ≤ (enumD xs).length; rw [enumD_len, h2.length]; exact Nat.le_refl _⟩
  · obtain ⟨us, h1, h2⟩ := h H m S e s o
    have hi' : i < xs.length := by simpa [enumD_len] using hi
    obtain ⟨T, z, rfl, hT, rfl, g⟩ := y
    obtain ⟨u, h3, h4⟩ := h2.get (i := i) (x := xs[i]'hi') (by simp)
    have := g us h1
    rw [h3] at this; cases this
    obtain ⟨e5, s5, v5⟩ := pair_new s hT (x := .int (i : Int)) (u := .int (i : Int)) (by simp only [VR]) h4
    exact ⟨e5, s5, _, enumD_get (by simp), v5⟩
theorem fi_enumL (hg : Gl X "enumerate") (hm : X.mg "enumerate" = none) (ha : FL X e wq) (hs : starEach [e] X.env = [(false, eval e X.env)] := by rfl) : FI X (.Tuple elts kk tpos) (.Call (.Name "enumerate" p) [e] [] pos) (iEnumL wq) := by
  refine ⟨PI.imp (pi_enum hg hm (pa_cons ha.p pa_nil (by rw [hs]; rfl)) hs) fun σ H R ⟨env, S, m, R0, s, r, h, k⟩ => ?_⟩
  refine ⟨env, S, m, _, s, r, h, fun xs S1 a us H1 m1 q1 e1 s1 h0 nm ha v1 => ?_⟩
  exact ⟨a, us, rfl, SqL.of ha, k _ _ _ _ q1 e1 s1 _ (WalkD.enum fun H m S e s o => ⟨us, SqL.of (e.fr _ _ ha nm).1, v1.ext e.toEx⟩)⟩
theorem fi_enumR (hg : Gl X "enumerate") (hm : X.mg "enumerate" = none) (ha : FE X e w) (hs : starEach [e] X.env = [(false, eval e X.env)] := by rfl) : FI X (.Tuple elts kk tpos) (.Call (.Name "enumerate" p) [e] [] pos) (iEnumR w) := by
  refine ⟨PI.imp (pi_enum hg hm (pa_cons ha.p pa_nil (by rw [hs]; rfl)) hs) fun σ H R ⟨env, S, m, R0, s, r, h, k⟩ => ?_⟩
  refine lift_k s r h fun x S1 u H1 m1 q1 e1 s1 v1 => ?_
  cases x with
  | ref i =>
    simp only [VR] at v1
    obtain ⟨a, rfl, h2⟩ := v1
    obtain ⟨xs, h3, q⟩ := q1
    obtain ⟨us, h4, h5⟩ := s1.lst h2 h3
    refine ⟨a, us, rfl, SqL.of h4, k _ _ _ _ q e1 s1 _ (WalkD.enum fun H m S e s o => ?_)⟩
    obtain ⟨us', h6, h7⟩ := s.lst (e.pre _ _ h2) o
    exact ⟨us', SqL.of h6, h7⟩
  | _ => exact q1.elim
/-- zip of two things by their values -/
def zOk (x : D) (xs : List D) : Sto → Prop := fun S => match x with | .ref p => S[p]? = some (.lst xs) | _ => True
def iZip (w1 w2 : WE) : WI := fun env S R => w1 env S fun x S1 => w2 env S1 fun y S2 => match x, y with
  | .tup xs, .tup ys => R ⟨zipD xs ys, fun _ => True⟩ S2
  | .ref p, .ref q => ∃ xs ys, S2[p]? = some (.lst xs) ∧ S2[q]? = some (.lst ys) ∧ R ⟨zipD xs ys, fun S => S[p]? = some (.lst xs) ∧ S[q]? = some (.lst ys)⟩ S2
  | _, _ => False
theorem zipD_len {xs ys : List D} : (zipD xs ys).length = min xs.length ys.length := by simp [zipD]
theorem WalkD.zipT {K : Frag} {m0 : List Addr} {H0 : Hp} {xs ys : List D} {us ws : List V} {a b : Addr} {ok : Sto → Prop} (ha : H0 a = some (.tup us)) (hb : H0 b = some (.tup ws)) (va : VRs K m0 H0 xs us) (vb : VRs K m0 H0 ys ws) : WalkD K m0 H0 (ItzT K a b) ⟨zipD xs ys, ok⟩ := by
  refine ⟨fun i H m S hi e s o => ?_, fun H m S e s o => ?_, fun i H m S x H' hi e s o y => ?_⟩
  · have hi' : i < min xs.length ys.length := by simpa [zipD_len] using hi
    obtain ⟨u, h3, h4⟩ := va.get (i := i) (x := xs[i]'(by omega)) (by simp)
    obtain ⟨v, h5, h6⟩ := vb.get (i := i) (x := ys[i]'(by omega)) (by simp)
    exact ⟨us, ws, u, v, SqT.of (e.tup _ _ ha), SqT.of (e.tup _ _ hb), h3, h5⟩
  · refine ⟨us, ws, SqT.of (e.tup _ _ ha), SqT.of (e.tup _ _ hb), ?_⟩
    show us.length ≤ (zipD xs ys).length ∨ ws.length ≤ (zipD xs ys).length
    rw [zipD_len, va.length, vb.length]; omega
  · have hi' : i < min xs.length ys.length := by simpa [zipD_len] using hi
    obtain ⟨T, z1, z2, rfl, hT, rfl, g1, g2⟩ := y
    obtain ⟨u, h3, h4⟩ := va.get (i := i) (x := xs[i]'(by omega)) (by simp)
    obtain ⟨v, h5, h6⟩ := vb.get (i := i) (x := ys[i]'(by omega)) (by simp)
    have e1 := g1 us (SqT.of (e.tup _ _ ha))
    have e2 := g2 ws (SqT.of (e.tup _ _ hb))
    rw [h3] at e1; cases e1
    rw [h5] at e2; cases e2
    obtain ⟨e5, s5, v5⟩ := pair_new s hT (h4.ext e.toEx) (h6.ext e.toEx)
    exact ⟨e5, s5, _, zipD_get (by simp) (by simp), v5⟩
theorem WalkD.zipL {K : Frag} {m0 : List Addr} {H0 : Hp} {xs ys : List D} {a b : Addr} {ok : Sto → Prop} (h : ∀ H m S, Ext K m0 H0 m H → SR K m H S → ok S → ∃ us ws, SqL K H a us ∧ SqL K H b ws ∧ VRs K m H xs us ∧ VRs K m H ys ws) : WalkD K m0 H0 (Itz K a b) ⟨zipD xs ys, ok⟩ := by
  refine ⟨fun i H m S hi e s o => ?_, fun H m S e s o => ?_, fun i H m S x H' hi e s o y => ?_⟩
  · obtain ⟨us, ws, ha, hb, va, vb⟩ := h H m S e s o
    have hi' : i < min xs.length ys.length := by simpa [zipD_len] using hi
    obtain ⟨u, h3, h4⟩ := va.get (i := i) (x := xs[i]'(by omega)) (by simp)
    obtain ⟨v, h5, h6⟩ := vb.get (i := i) (x := ys[i]'(by omega)) (by simp)
    exact ⟨us, ws, u, v, ha, hb, h3, h5⟩
  · obtain ⟨us, ws, ha, hb, va, vb⟩ := h H m S e s o
    refine ⟨us, ws, ha, hb, ?_⟩
    show us.length ≤ (zipD xs ys).length ∨ ws.length ≤ (zipD xs ys).length
    rw [zipD_len, va.length, vb.length]; omega
  · obtain ⟨us, ws, ha, hb, va, vb⟩ := h H m S e s o
    have hi' : i < min xs.length ys.length := by simpa [zipD_len] using hi
    obtain ⟨T, z1, z2, rfl, hT, rfl, g1, g2⟩ := y
    obtain ⟨u, h3, h4⟩ := va.get (i := i) (x := xs[i]'(by omega)) (by simp)
    obtain ⟨v, h5, h6⟩ := vb.get (i := i) (x := ys[i]'(by omega)) (by simp)
    have e1 := g1 us ha
    have e2 := g2 ws hb
    rw [h3] at e1; cases e1
    rw [h5] at e2; cases e2
    obtain ⟨e5, s5, v5⟩ := pair_new s hT h4 h6
    exact ⟨e5, s5, _, zipD_get (by simp) (by simp), v5⟩
theorem fi_zip (hg : Gl X "zip") (hm : X.mg "zip" = none) (h1 : FE X e w1) (h2 : FE X e2 w2)
    (hs : starEach [e, e2] X.env = (false, eval e X.env) :: starEach [e2] X.env := by rfl) (hs2 : starEach [e2] X.env = (false, eval e2 X.env) :: starEach [] X.env := by rfl) (hpl : (backTo pos (starEach [e2] X.env)).any (·.1) = false := by rfl) :
    FI X (.Tuple elts kk tpos) (.Call (.Name "zip" p) [e, e2] [] pos) (iZip w1 w2) := by
  refine ⟨PI.imp (pi_zipA hg hm (pa_cons h1.p (pa_cons h2.p pa_nil hs2) hs) hs hpl) fun σ H R ⟨env, S, m, R0, s, r, h, k⟩ => ?_⟩
  refine lift_k s r h fun x S1 u H1 m1 q1 e1 s1 v1 => ?_
  refine lift_k s1 (r.ext e1.toEx) q1 fun y S2 v H2 m2 q2 e2 s2 v2 => ?_
  have v1 := v1.ext e2.toEx
  cases x <;> cases y <;> first | exact q2.elim | skip
  · simp only [VR] at v1 v2
    obtain ⟨a, us, rfl, h3, h4⟩ := v1
    obtain ⟨b, ws, rfl, h5, h6⟩ := v2
    exact ⟨a, b, us, ws, rfl, .inr ⟨SqT.of h3, SqT.of h5, k _ _ _ _ q2 (e1.trans e2) s2 _ (WalkD.zipT h3 h5 h4 h6)⟩⟩
  · simp only [VR] at v1 v2
    obtain ⟨a, rfl, h3⟩ := v1
    obtain ⟨b, rfl, h5⟩ := v2
    obtain ⟨xs, ys, g1, g2, q⟩ := q2
    obtain ⟨us, h7, h8⟩ := s2.lst h3 g1
    obtain ⟨ws, h9, h10⟩ := s2.lst h5 g2
    refine ⟨a, b, us, ws, rfl, .inl ⟨SqL.of h7, SqL.of h9, k _ _ _ _ q (e1.trans e2) s2 _ (WalkD.zipL fun H m S e s o => ?_)⟩⟩
    obtain ⟨us', h11, h12⟩ := s.lst (e.pre _ _ h3) o.1
    obtain ⟨ws', h13, h14⟩ := s.lst (e.pre _ _ h5) o.2
    exact ⟨us', ws', SqL.of h11, SqL.of h13, h12, h14⟩
end
end Z
namespace Z
open PySem PySem.Spec PyProof.Rows L2 RZ

/-! t < u of tuples of flat things -/
def ltV : V → V → Option Bool
  | .int i, .int j => some (decide (i < j))
  | .str a, .str b => some (decide (a.cps.toList < b.cps.toList))
  | _, _ => none
def lexV : List V → List V → Option Bool
  | [], [] => some false
  | [], _ :: _ => some true
  | _ :: _, [] => some false
  | x :: xs, y :: ys => if L2.eqV x y = true then lexV xs ys else ltV x y
theorem rcLt_V {x y : V} {u v : Value} {r : Bool} (rx : RelV x u) (ry : RelV y v) (h : ltV x y = some r) (A : Around) (s : Shared) (prog : Program) (w : World) (E : Value → Shared → Prop) (Q : Value → Shared → Prop) (q : Q (.bool r) s) :
    wpAny (model prog w) A (richCompare .Lt u v) Q E s := by
  cases x <;> cases y <;> simp only [ltV, Option.some.injEq] at h <;> first | cases h | skip
  · obtain ⟨t, rfl⟩ := rx
    obtain ⟨t', rfl⟩ := ry
    exact (PyProof.Rows.lt_int q : wpAny (model prog w) A (compareOp .Lt _ _) Q E s)
  · obtain ⟨t, rfl⟩ := rx
    obtain ⟨t', rfl⟩ := ry
    exact (lt_str q : wpAny (model prog w) A (compareOp .Lt _ _) Q E s)
section
open PySem.SeqAt
open PySem.AutoSeq1 (wpAny_loadPart')
open PySem.MeetsSeq PySem.MeetsSeq2 PySem.MeetsSeq3
theorem tuple_lt_V (l b : Addr) (items items2 : Array Value) (n n2 : Nat) (dd dd2 : Option Addr) (sl sl2 : Array (Option Value)) (xs ys : List V) (rv : Bool) (hi : Vals xs items.toList) (hj : Vals ys items2.toList) (fx : xs.all flatV = true) (fy : ys.all flatV = true) (hl : lexV xs ys = some rv) :
    Meets (Builtin.«tuple.__lt__» ⟨[.ref l, .ref b], []⟩)
      (fun _ R s => s.heap.get? l = some { cls := .type "tuple", dict := dd, data := .seq items n, slots := sl } ∧ s.heap.get? b = some { cls := .type "tuple", dict := dd2, data := .seq items2 n2, slots := sl2 } ∧
        R (.ok (.ret (.bool rv))) s) :=
  .of_wp fun prog w A R s h => by
    obtain ⟨hp, g, d, tk, os⟩ := s; obtain ⟨hll, hb, h⟩ := h
    have f2 := AutoSeq1.sub_tuple_tuple
    have z1 : items.size = xs.length := by rw [hi.length]; simp
    have z2 : items2.size = ys.length := by rw [hj.length]; simp
    wp_walk using wpAny_loadPart' hll, wpAny_loadPart' hb, wpAny_forIn_list _ (fun rest b s' => b.1 = none ∧ s' = ⟨hp, g, d, tk, os⟩ ∧ ∃ (vs ws : List Value) (ns' ms' : List V), rest = vs.zip ws ∧
      Vals ns' vs ∧ Vals ms' ws ∧ ns'.all flatV = true ∧ ms'.all flatV = true ∧ ns'.length + items2.size = ms'.length + items.size ∧ ∃ rv', lexV ns' ms' = some rv' ∧ R (.ok (.ret (.bool rv'))) ⟨hp, g, d, tk, os⟩) _
    case turn =>
      rintro ⟨y, x⟩ rest b s' ⟨hb', rfl, vs, ws, ns', ms', hz, hvi, hwi, fn, fm, hlen, rv', hlex, hR⟩
      cases hvi with
      | nil => rw [List.zip_nil_left] at hz; cases hz
      | @cons a u _ _ ra hvi' =>
        cases hwi with
        | nil => rw [List.zip_nil_right] at hz; cases hz
        | @cons c v _ _ rc hwi' =>
          rw [List.zip_cons_cons] at hz
          injection hz with hyx hrest
          injection hyx with hy hx
          subst hy hx
          simp only [List.all_cons, Bool.and_eq_true] at fn fm
          simp only [List.length_cons] at hlen
          have he : EqAt A.in1 ⟨hp, g, d, tk, os⟩ y x (L2.eqV a c) := eqAt_V ra rc fn.1 fm.1
          refine wpAny_bind (he prog w _ _ ?_)
          unfold lexV at hlex
          cases e : L2.eqV a c with
          | true =>
            rw [if_pos e] at hlex
            wp_walk
            exact ⟨rfl, rfl, _, _, _, _, hrest, hvi', hwi', fn.2, fm.2, by omega, rv', hlex, hR⟩
          | false =>
            rw [if_neg (by rw [e]; exact Bool.false_ne_true)] at hlex
            have hri := rcLt_V ra rc hlex A.in1 ⟨hp, g, d, tk, os⟩ prog w
            wp_walk using hri
            exact ⟨_, rfl, by simpa using hR⟩
    case fin =>
      rintro ⟨b1, b2⟩ s' ⟨hb', rfl, vs, ws, ns', ms', hz, hvi, hwi, fn, fm, hlen, rv', hlex, hR⟩
      simp only at hb'
      subst hb'
      have hv : rv' = decide (items.size < items2.size) := by
        cases hvi with
        | nil =>
          cases hwi with
          | nil =>
            simp only [List.length_nil] at hlen
            simp only [lexV, Option.some.injEq] at hlex
            rw [← hlex]
            exact (decide_eq_false (by omega)).symm
          | cons u hw =>
            simp only [List.length_nil, List.length_cons] at hlen
            simp only [lexV, Option.some.injEq] at hlex
            rw [← hlex]
            exact (decide_eq_true (by omega)).symm
        | cons t hv =>
          cases hwi with
          | nil =>
            simp only [List.length_nil, List.length_cons] at hlen
            simp only [lexV, Option.some.injEq] at hlex
            rw [← hlex]
            exact (decide_eq_false (by omega)).symm
          | cons u hw =>
            rw [List.zip_cons_cons] at hz
            cases hz
      rw [hv] at hR
      wp_walk
      exact ⟨_, rfl, by simpa [Builtin.Tuple.tupleCompareSizes] using hR⟩
    case h =>
      exact ⟨rfl, rfl, items.toList, items2.toList, xs, ys, rfl, hi, hj, fx, fy, by omega, rv, hl, h⟩
end
def rLtF (K : Frag) : R2 := fun x y H Q => ∃ a b xs ys r, x = .ref a ∧ y = .ref b ∧ SqT K H a xs ∧ SqT K H b ys ∧ xs.all flatV = true ∧ ys.all flatV = true ∧ lexV xs ys = some r ∧ Q (.bl r) H
theorem op_ltF {X : Cx} (hu : X.A.units < cLine) : OpR X (compareOp .Lt) (rLtF X.K) := by
  intro pins s σ H x y v u Q I rx ry ⟨a, b, xs, ys, r, ex, ey, ha, hb, fx, fy, hl, q⟩
  subst ex; subst ey
  cases rx; cases ry
  obtain ⟨its, rv, ⟨⟨cls, dd, data, sl⟩, ho, hc, n, hd⟩, _⟩ := I.tuple ha
  obtain ⟨its2, rv2, ⟨⟨cls2, dd2, data2, sl2⟩, ho2, hc2, n2, hd2⟩, _⟩ := I.tuple hb
  simp only at hc hd hc2 hd2
  subst hc hd hc2 hd2
  exact richCompare_meets_room (op := .Lt) ⟨_, ho, rfl⟩ ⟨_, ho2, rfl⟩ PySem.F.slot_tuple_lt PySem.F.entry_tuple_lt (PySem.F.args_tuple_lt_2 _ _) (tuple_lt_V a b its.toArray its2.toArray n n2 dd dd2 sl sl2 xs ys r (by simpa using rv) (by simpa using rv2) fx fy hl)
    ⟨ho, ho2, show Value.bool r ≠ Value.notImplemented ∧ EP X pins σ Q (.bool r) s from ⟨(fun x => nomatch x), .bl r, H, I, rfl, q⟩⟩ hu

def ltD : D → D → Option Bool
  | .int i, .int j => some (decide (i < j))
  | .str a, .str b => some (decide (a.cps.toList < b.cps.toList))
  | _, _ => none
def lexD : List D → List D → Option Bool
  | [], [] => some false
  | [], _ :: _ => some true
  | _ :: _, [] => some false
  | x :: xs, y :: ys => cond (D.eqv x y) (lexD xs ys) (ltD x y)
/-- < of ints, texts, tuples of flat things -/
def dLtT : R2D := fun x y S Q => match x, y with
  | .int i, .int j => Q (.bl (decide (i < j))) S
  | .str a, .str b => Q (.bl (decide (a.cps.toList < b.cps.toList))) S
  | .tup xs, .tup ys => (xs.all D.flat = true ∧ ys.all D.flat = true) ∧ ∃ r, lexD xs ys = some r ∧ Q (.bl r) S
  | _, _ => False
theorem ltV_D {K : Frag} {m : List Addr} {H : Hp} {x y : D} {u v : V} (rx : VR K m H x u) (ry : VR K m H y v) {r : Bool} (h : ltD x y = some r) : ltV u v = some r := by
  cases x <;> cases y <;> simp only [ltD] at h <;> first | cases h | skip
  · simp only [VR] at rx ry; subst rx; subst ry; rfl
  · simp only [VR] at rx ry; subst rx; subst ry; rfl
theorem lexV_D {K : Frag} {m : List Addr} {H : Hp} : ∀ {xs ys : List D} {us vs : List V} {r : Bool}, VRs K m H xs us → VRs K m H ys vs → xs.all D.flat = true → ys.all D.flat = true → lexD xs ys = some r → lexV us vs = some r
  | [], [], _, _, r, h1, h2, _, _, h => by rw [h1.nil_inv, h2.nil_inv]; exact h
  | [], y :: ys, _, _, r, h1, h2, _, _, h => by obtain ⟨u, t, rfl, _, _⟩ := h2.cons_inv; rw [h1.nil_inv]; exact h
  | x :: xs, [], _, _, r, h1, h2, _, _, h => by obtain ⟨u, t, rfl, _, _⟩ := h1.cons_inv; rw [h2.nil_inv]; exact h
  | x :: xs, y :: ys, _, _, r, h1, h2, f1, f2, h => by
    obtain ⟨u, t, rfl, h3, h4⟩ := h1.cons_inv
    obtain ⟨v, t2, rfl, h5, h6⟩ := h2.cons_inv
    simp only [List.all_cons, Bool.and_eq_true] at f1 f2
    simp only [lexD] at h
    simp only [lexV]
    rw [h3.eqV h5 f1.1 f2.1]
    cases e : D.eqv x y with
    | true => rw [e] at h; rw [if_pos rfl]; exact lexV_D h4 h6 f1.2 f2.2 h
    | false => rw [e] at h; rw [if_neg Bool.false_ne_true]; exact ltV_D h3 h5 h
section
variable {X : Cx}
theorem op_ltB (hu : X.A.units < cLine) : OpR X (compareOp .Lt) (fun x y H Q => (fun x y H Q => rI0 (fun i j => .bl (decide (i < j))) x y H Q ∨ (fun x y H Q => ∃ i j, x = .str i ∧ y = .str j ∧ Q (.bl (decide (i.cps.toList < j.cps.toList))) H) x y H Q) x y H Q ∨ rLtF X.K x y H Q) := op_ltA.or (op_ltF hu)
theorem sim_ltB : Sim2 X.K (fun x y H Q => (fun x y H Q => rI0 (fun i j => .bl (decide (i < j))) x y H Q ∨ (fun x y H Q => ∃ i j, x = .str i ∧ y = .str j ∧ Q (.bl (decide (i.cps.toList < j.cps.toList))) H) x y H Q) x y H Q ∨ rLtF X.K x y H Q) dLtT := by
  intro m H S x y u v Q0 Q s rx ry h k
  cases x <;> cases y <;> simp only [dLtT] at h <;> first | exact h.elim | skip
  · simp only [VR] at rx ry; exact .inl (.inl ⟨_, _, rx, ry, k.v s h (by simp only [VR])⟩)
  · simp only [VR] at rx ry; exact .inl (.inr ⟨_, _, rx, ry, k.v s h (by simp only [VR])⟩)
  · simp only [VR] at rx ry
    obtain ⟨a, us, h1, h2, h3⟩ := rx
    obtain ⟨b, ws, h4, h5, h6⟩ := ry
    obtain ⟨⟨f1, f2⟩, r, h7, q⟩ := h
    exact .inr ⟨a, b, us, ws, r, h1, h4, SqT.of h2, SqT.of h5, h3.flat f1, h6.flat f2, lexV_D h3 h6 f1 f2 h7, k.v s q (by simp only [VR])⟩
end

/-! promises by the number of arguments -/
def sp1 (f : D → Sto → WK → Prop) : DSp := fun ds S Q _ => match ds with | [a] => f a S Q | _ => False
def sp2 (f : D → D → Sto → WK → Prop) : DSp := fun ds S Q _ => match ds with | [a, b] => f a b S Q | _ => False
def sp3 (f : D → D → D → Sto → WK → Prop) : DSp := fun ds S Q _ => match ds with | [a, b, c] => f a b c S Q | _ => False
def sp4 (f : D → D → D → D → Sto → WK → Prop) : DSp := fun ds S Q _ => match ds with | [a, b, c, d] => f a b c d S Q | _ => False
def sp5 (f : D → D → D → D → D → Sto → WK → Prop) : DSp := fun ds S Q _ => match ds with | [a, b, c, d, e] => f a b c d e S Q | _ => False
def sp6 (f : D → D → D → D → D → D → Sto → WK → Prop) : DSp := fun ds S Q _ => match ds with | [a, b, c, d, e, g] => f a b c d e g S Q | _ => False
section
variable {ds : List D} {S : Sto} {Q : WK} {E : DX}
theorem sp1_inv {f} (h : sp1 f ds S Q E) : ∃ a, ds = [a] ∧ f a S Q := by
  unfold sp1 at h; split at h; exact ⟨_, rfl, h⟩; exact h.elim
theorem sp2_inv {f} (h : sp2 f ds S Q E) : ∃ a b, ds = [a, b] ∧ f a b S Q := by
  unfold sp2 at h; split at h; exact ⟨_, _, rfl, h⟩; exact h.elim
theorem sp3_inv {f} (h : sp3 f ds S Q E) : ∃ a b c, ds = [a, b, c] ∧ f a b c S Q := by
  unfold sp3 at h; split at h; exact ⟨_, _, _, rfl, h⟩; exact h.elim
theorem sp4_inv {f} (h : sp4 f ds S Q E) : ∃ a b c d, ds = [a, b, c, d] ∧ f a b c d S Q := by
  unfold sp4 at h; split at h; exact ⟨_, _, _, _, rfl, h⟩; exact h.elim
theorem sp5_inv {f} (h : sp5 f ds S Q E) : ∃ a b c d e, ds = [a, b, c, d, e] ∧ f a b c d e S Q := by
  unfold sp5 at h; split at h; exact ⟨_, _, _, _, _, rfl, h⟩; exact h.elim
theorem sp6_inv {f} (h : sp6 f ds S Q E) : ∃ a b c d e g, ds = [a, b, c, d, e, g] ∧ f a b c d e g S Q := by
  unfold sp6 at h; split at h; exact ⟨_, _, _, _, _, _, rfl, h⟩; exact h.elim
theorem sp1_len {f} (h : sp1 f ds S Q E) : ds.length = 1 := by obtain ⟨a, rfl, _⟩ := sp1_inv h; rfl
theorem sp2_len {f} (h : sp2 f ds S Q E) : ds.length = 2 := by obtain ⟨a, b, rfl, _⟩ := sp2_inv h; rfl
theorem sp3_len {f} (h : sp3 f ds S Q E) : ds.length = 3 := by obtain ⟨a, b, c, rfl, _⟩ := sp3_inv h; rfl
theorem sp4_len {f} (h : sp4 f ds S Q E) : ds.length = 4 := by obtain ⟨a, b, c, d, rfl, _⟩ := sp4_inv h; rfl
theorem sp5_len {f} (h : sp5 f ds S Q E) : ds.length = 5 := by obtain ⟨a, b, c, d, e, rfl, _⟩ := sp5_inv h; rfl
theorem sp6_len {f} (h : sp6 f ds S Q E) : ds.length = 6 := by obtain ⟨a, b, c, d, e, g, rfl, _⟩ := sp6_inv h; rfl
end
abbrev Dend (Q : WK) : WEnds := { nx := fun _ S' => Q .non S', rt := Q }

/-! what stays in the store -/
structure Kp (S S' : Sto) (ex : List Nat) : Prop where
  len : S.length ≤ S'.length
  at_ : ∀ (j : Nat) (o : O), S[j]? = some o → j ∉ ex → S'[j]? = some o
theorem Kp.refl {S : Sto} {ex : List Nat} : Kp S S ex := ⟨Nat.le_refl _, fun _ _ h _ => h⟩
theorem Kp.trans {S S1 S2 : Sto} {ex : List Nat} (a : Kp S S1 ex) (b : Kp S1 S2 ex) : Kp S S2 ex := ⟨Nat.le_trans a.len b.len, fun j o h n => b.at_ j o (a.at_ j o h n) n⟩
theorem Kp.app {S l : Sto} {ex : List Nat} : Kp S (S ++ l) ex := ⟨by simp, fun j o h _ => by rw [List.getElem?_append_left (List.getElem?_eq_some_iff.mp h).1]; exact h⟩
theorem Kp.set {S : Sto} {ex : List Nat} {p : Nat} {o : O} (h : p ∈ ex) : Kp S (S.set p o) ex := ⟨by simp, fun j o' hj n => by rw [List.getElem?_set_ne (fun z => n (by rw [← z]; exact h))]; exact hj⟩
theorem Kp.mono {S S' : Sto} {ex ex' : List Nat} (a : Kp S S' ex) (h : ∀ j ∈ ex, j ∈ ex') : Kp S S' ex' := ⟨a.len, fun j o hj n => a.at_ j o hj fun z => n (h j z)⟩
/-- changes to what is new only -/
theorem Kp.new {S S' : Sto} {ex ex' : List Nat} (a : Kp S S' ex) (h : ∀ j ∈ ex, j < S.length → j ∈ ex') : Kp S S' ex' := ⟨a.len, fun j o hj n => a.at_ j o hj fun z => n (h j z (List.getElem?_eq_some_iff.mp hj).1)⟩
theorem Kp.get {S S' : Sto} {ex : List Nat} {j : Nat} {o : O} (a : Kp S S' ex) (h : S[j]? = some o) (n : j ∉ ex) : S'[j]? = some o := a.at_ j o h n
theorem getS_app {S l : Sto} {j : Nat} {o : O} (h : S[j]? = some o) : (S ++ l)[j]? = some o := by rw [List.getElem?_append_left (List.getElem?_eq_some_iff.mp h).1]; exact h
theorem getS_new {S : Sto} {o : O} {l : Sto} : (S ++ o :: l)[S.length]? = some o := by simp
theorem getS_set {S : Sto} {j : Nat} {o o' : O} (h : S[j]? = some o') : (S.set j o)[j]? = some o := by rw [List.getElem?_set_self (List.getElem?_eq_some_iff.mp h).1]
theorem getS_ne {S : Sto} {j k : Nat} {o o' : O} (h : S[j]? = some o') (n : k ≠ j) : (S.set k o)[j]? = some o' := by rw [List.getElem?_set_ne n]; exact h
theorem getS_lt {S : Sto} {j : Nat} {o : O} (h : S[j]? = some o) : j < S.length := (List.getElem?_eq_some_iff.mp h).1
theorem sizeL {n : Nat} (h : n ≤ 100000) : n < sizeLine := by rw [sizeLine_eq]; omega
theorem sizeLe {n : Nat} (h : n ≤ 100000) : n ≤ sizeLine := by rw [sizeLine_eq]; omega
end Z
namespace Z
open PySem PySem.Spec PyProof.Rows L2 RZ

/-! texts by their codes -/
theorem T_toList (l : List Nat) : (T l).cps.toList = l := by simp [T]
theorem T_len (l : List Nat) : (T l).length = l.length := by simp [T, PySem.Str.length]
theorem T_app (a b : List Nat) : T a ++ T b = T (a ++ b) := by
  show PySem.Str.append _ _ = _
  simp [T, PySem.Str.append]
theorem T_inj {a b : List Nat} (h : T a = T b) : a = b := by
  have := congrArg (fun s : Str => s.cps.toList) h
  simpa [T] using this
theorem T_eta (s : Str) : s = T s.cps.toList := by cases s; simp [T]
theorem T_dec (a b : List Nat) : decide (T a = T b) = decide (a = b) := by
  by_cases h : a = b
  · subst h; simp
  · rw [decide_eq_false h, decide_eq_false fun z => h (T_inj z)]
def letters : List Nat := [97, 98, 99, 100, 101, 102, 103, 104, 105, 106, 107, 108, 109, 110, 111, 112, 113, 114, 115, 116, 117, 118, 119, 120, 121, 122]
theorem letters_T : (Str.ofString "abcdefghijklmnopqrstuvwxyz") = T letters := by decide +kernel
theorem letters_get : ∀ k : Nat, k < 26 → letters[k]? = some (97 + k) := by decide
theorem letters_at {i : Int} (h0 : 0 ≤ i) (h1 : i < 26) : atI letters i = some (97 + i.toNat) := by
  have e : i = ((i.toNat : Nat) : Int) := by omega
  rw [e]
  exact atI_nat (letters_get _ (by omega))
theorem letters_mem {c : Nat} : c ∈ letters ↔ 97 ≤ c ∧ c < 123 := by
  constructor
  · intro h
    simp only [letters, List.mem_cons, List.not_mem_nil, or_false] at h
    omega
  · intro ⟨h1, h2⟩
    simp only [letters, List.mem_cons, List.not_mem_nil, or_false]
    omega
theorem cutS_T (l : List Nat) (lo hi : Option Int) : cutS (T l) lo hi = T ((l.drop (HT.sIx l.length 0 lo)).take (HT.sIx l.length l.length hi - HT.sIx l.length 0 lo)) := by
  unfold cutS
  rw [T_toList, T_len]
theorem sIx_some {n d : Nat} {i : Int} (h0 : 0 ≤ i) : HT.sIx n d (some i) = min i.toNat n := by
  have e : i = ((i.toNat : Nat) : Int) := by omega
  rw [e]; exact HT.sIx_nat _ _ _
theorem cutS_mid {l : List Nat} {i j : Int} (h0 : 0 ≤ i) (h1 : 0 ≤ j) : cutS (T l) (some i) (some j) = T ((l.drop i.toNat).take (j.toNat - i.toNat)) := by
  rw [cutS_T, sIx_some h0, sIx_some h1]
  congr 1
  by_cases h : i.toNat ≤ l.length
  · rw [Nat.min_eq_left h]
    by_cases h2 : j.toNat ≤ l.length
    · rw [Nat.min_eq_left h2]
    · rw [Nat.min_eq_right (by omega)]
      rw [List.take_of_length_le (by simp), List.take_of_length_le (by simp; omega)]
  · rw [Nat.min_eq_right (show l.length ≤ i.toNat by omega), List.drop_of_length_le (Nat.le_refl _), List.drop_of_length_le (show l.length ≤ i.toNat by omega)]
    simp
theorem cutS_to {l : List Nat} {j : Int} (h1 : 0 ≤ j) : cutS (T l) none (some j) = T (l.take j.toNat) := by
  rw [cutS_T, sIx_some h1, HT.sIx_none, Nat.sub_zero, List.drop_zero]
  congr 1
  by_cases h2 : j.toNat ≤ l.length
  · rw [Nat.min_eq_left h2]
  · rw [Nat.min_eq_right (by omega), List.take_of_length_le (by simp), List.take_of_length_le (by omega)]
theorem cutS_from {l : List Nat} {i : Int} (h1 : 0 ≤ i) : cutS (T l) (some i) none = T (l.drop i.toNat) := by
  rw [cutS_T, sIx_some h1, HT.sIx_none]
  congr 1
  by_cases h : i.toNat ≤ l.length
  · rw [Nat.min_eq_left h, List.take_of_length_le (by simp)]
  · rw [Nat.min_eq_right (by omega), List.drop_of_length_le (Nat.le_refl _), List.drop_of_length_le (by omega)]; simp
/-! slices of lists -/
theorem cutD_mid {l : List D} {i j : Int} (h0 : 0 ≤ i) (h1 : 0 ≤ j) : cutD l (some i) (some j) = (l.drop i.toNat).take (j.toNat - i.toNat) := by
  unfold cutD
  rw [sIx_some h0, sIx_some h1]
  by_cases h : i.toNat ≤ l.length
  · rw [Nat.min_eq_left h]
    by_cases h2 : j.toNat ≤ l.length
    · rw [Nat.min_eq_left h2]
    · rw [Nat.min_eq_right (by omega)]
      rw [List.take_of_length_le (by simp), List.take_of_length_le (by simp; omega)]
  · rw [Nat.min_eq_right (show l.length ≤ i.toNat by omega), List.drop_of_length_le (Nat.le_refl _), List.drop_of_length_le (show l.length ≤ i.toNat by omega)]
    simp
theorem cutD_to {l : List D} {j : Int} (h1 : 0 ≤ j) : cutD l none (some j) = l.take j.toNat := by
  unfold cutD
  rw [sIx_some h1, HT.sIx_none, Nat.sub_zero, List.drop_zero]
  by_cases h2 : j.toNat ≤ l.length
  · rw [Nat.min_eq_left h2]
  · rw [Nat.min_eq_right (by omega), List.take_of_length_le (by simp), List.take_of_length_le (by omega)]
theorem cutD_from {l : List D} {i : Int} (h1 : 0 ≤ i) : cutD l (some i) none = l.drop i.toNat := by
  unfold cutD
  rw [sIx_some h1, HT.sIx_none]
  by_cases h : i.toNat ≤ l.length
  · rw [Nat.min_eq_left h, List.take_of_length_le (by simp)]
  · rw [Nat.min_eq_right (by omega), List.drop_of_length_le (Nat.le_refl _), List.drop_of_length_le (by omega)]; simp
/-! joined, multiplied, looked for -/
theorem join_T : ∀ ls : List (List Nat), Txt.join "" (ls.map T) = T ls.flatten := by
  intro ls
  have h : (Txt.join "" (ls.map T)).cps.toList = ls.flatten := by
    rw [TL.join_eq]
    have e := TL.tl_join "" (ls.map T)
    have e2 : ∀ ls : List (List Nat), TL.joinL [] ls = ls.flatten := by
      intro ls
      induction ls with
      | nil => rfl
      | cons a r ih =>
        cases r with
        | nil => simp [TL.joinL]
        | cons b r => rw [TL.joinL, ih]; simp
    have e3 : TL.tl (Str.ofString "") = [] := by decide +kernel
    rw [e3, e2] at e
    have e4 : (ls.map T).map TL.tl = ls := by
      rw [List.map_map]
      conv => rhs; rw [← List.map_id ls]
      apply List.map_congr_left
      intro a _
      exact T_toList a
    rw [e4] at e
    exact e
  rw [T_eta (Txt.join "" (ls.map T)), h]
theorem mul_T0 (l : List Nat) : strMul (T l) 0 = T [] := by
  unfold strMul Txt.mul
  rw [if_pos (by decide)]; rfl
theorem mul_T1 (l : List Nat) : strMul (T l) 1 = T l := by
  unfold strMul Txt.mul
  rw [if_neg (by decide), if_pos (by simp)]
theorem index_letters : ∀ k : Nat, k < 26 → Txt.index0 (T letters) (T [97 + k]) = some k := by decide +kernel
theorem okD_str {l : List Nat} (h : ∀ c ∈ l, c < 1114112) : okD (.str (T l)) := by
  refine ⟨by simp only [D.plain], ?_⟩
  simp only [D.pd, SeqAt.shaped, PyData.canLay0, PyData.strOk, Bool.and_eq_true, decide_eq_true_eq]
  refine ⟨?_, by simp [PyData.depth]⟩
  rw [Array.all_eq_true']
  intro c hc
  have : c ∈ l := by simpa [T] using hc
  simpa using h c this
end Z
namespace Z
open PySem PySem.Spec PyProof.Rows L2 RZ
theorem seq_nat {n j : Nat} (h : j < n) : seqIndex? (j : Int) n = some j := by
  refine (ixN_seq (n := n) (i := (j : Int)) (j := j) ?_).1
  unfold ixN
  rw [if_pos (by omega), if_pos (by omega)]; simp
theorem seq_zero {n : Nat} (h : 0 < n) : seqIndex? 0 n = some 0 := seq_nat h
theorem plains_map {α : Type} (f : α → D) (h : ∀ a, (f a).plain = true) : ∀ l : List α, D.plains (l.map f) = true
  | [] => by simp only [List.map_nil, D.plains]
  | a :: l => by simp only [List.map_cons, D.plains, h a, plains_map f h l, Bool.and_true]
theorem okL_of {xs : List D} (h : D.plains xs = true) (h2 : PyData.canLayAll0 (D.pds xs) = true) (h3 : (PyData.list (D.pds xs)).depth ≤ 64) : okL xs := by
  refine ⟨h, ?_⟩
  simp only [SeqAt.shaped, PyData.canLay0, Bool.and_eq_true, decide_eq_true_eq]
  exact ⟨h2, h3⟩
/-! what == asks: depths and codes -/
mutual
def D.dep : D → Nat
  | .tup xs => D.deps xs + 1
  | .rol xs => D.deps xs + 1
  | _ => 0
def D.deps : List D → Nat
  | [] => 0
  | x :: xs => max (D.dep x) (D.deps xs)
end
mutual
/-- data that == may be asked of -/
def D.fit : D → Prop
  | .non | .bl _ | .int _ => True
  | .str x => ∀ c ∈ x.cps.toList, c < 1114112
  | .tup xs => D.fits xs
  | .rol xs => D.fits xs
  | _ => False
def D.fits : List D → Prop
  | [] => True
  | x :: xs => D.fit x ∧ D.fits xs
end
mutual
theorem fit_plain : ∀ {x : D}, x.fit → x.plain = true ∧ PyData.canLay0 x.pd = true ∧ x.pd.depth = x.dep
  | .non, _ => by simp [D.plain, D.pd, PyData.canLay0, PyData.depth, D.dep]
  | .bl _, _ => by simp [D.plain, D.pd, PyData.canLay0, PyData.depth, D.dep]
  | .int _, _ => by simp [D.plain, D.pd, PyData.canLay0, PyData.depth, D.dep]
  | .str x, h => by
    simp only [D.fit] at h
    refine ⟨by simp [D.plain], ?_, by simp [D.pd, PyData.depth, D.dep]⟩
    simp only [D.pd, PyData.canLay0, PyData.strOk]
    rw [Array.all_eq_true']
    intro c hc
    simpa using h c (by simpa using hc)
  | .tup xs, h => by
    simp only [D.fit] at h
    obtain ⟨h1, h2, h3⟩ := fits_plain h
    exact ⟨by simpa [D.plain] using h1, by simpa [D.pd, PyData.canLay0] using h2, by simp [D.pd, PyData.depth, D.dep, h3]⟩
  | .rol xs, h => by
    simp only [D.fit] at h
    obtain ⟨h1, h2, h3⟩ := fits_plain h
    exact ⟨by simpa [D.plain] using h1, by simpa [D.pd, PyData.canLay0] using h2, by simp [D.pd, PyData.depth, D.dep, h3]⟩
  | .ref _, h => by simp [D.fit] at h
  | .ty _, h => by simp [D.fit] at h
  | .cst _, h => by simp [D.fit] at h
theorem fits_plain : ∀ {xs : List D}, D.fits xs → D.plains xs = true ∧ PyData.canLayAll0 (D.pds xs) = true ∧ PyData.depthAll (D.pds xs) = D.deps xs
  | [], _ => by simp [D.plains, D.pds, PyData.canLayAll0, PyData.depthAll, D.deps]
  | x :: xs, h => by
    simp only [D.fits] at h
    obtain ⟨h1, h2, h3⟩ := fit_plain h.1
    obtain ⟨h4, h5, h6⟩ := fits_plain h.2
    simp [D.plains, D.pds, PyData.canLayAll0, PyData.depthAll, D.deps, h1, h2, h3, h4, h5, h6]
end
theorem okD_fit {x : D} (h : x.fit) (hd : x.dep ≤ 60) : okD x := by
  obtain ⟨h1, h2, h3⟩ := fit_plain h
  exact ⟨h1, by simp only [SeqAt.shaped, Bool.and_eq_true, decide_eq_true_eq]; exact ⟨h2, by omega⟩⟩
theorem okL_fit {xs : List D} (h : D.fits xs) (hd : D.deps xs ≤ 60) : okL xs := by
  obtain ⟨h1, h2, h3⟩ := fits_plain h
  refine okL_of h1 h2 ?_
  simp only [PyData.depth]; omega
theorem fits_map {α : Type} (f : α → D) : ∀ (l : List α), (∀ a ∈ l, (f a).fit) → D.fits (l.map f)
  | [], _ => by simp [D.fits]
  | a :: l, h => by
    simp only [List.map_cons, D.fits]
    exact ⟨h a List.mem_cons_self, fits_map f l fun b hb => h b (List.mem_cons_of_mem _ hb)⟩
theorem deps_map {α : Type} (f : α → D) (n : Nat) : ∀ (l : List α), (∀ a ∈ l, (f a).dep ≤ n) → D.deps (l.map f) ≤ n
  | [], _ => by simp [D.deps]
  | a :: l, h => by
    simp only [List.map_cons, D.deps]
    have := h a List.mem_cons_self
    have := deps_map f n l fun b hb => h b (List.mem_cons_of_mem _ hb)
    omega
theorem okL_ints (l : List Int) : okL (l.map D.int) := okL_fit (fits_map _ _ fun a _ => by simp [D.fit]) (Nat.le_trans (deps_map _ 0 _ fun a _ => by simp [D.dep]) (by omega))
theorem okL_nil : okL [] := okL_ints []
theorem cmul_r {i j : Int} (h : -(2 ^ 64) < j ∧ j < 2 ^ 64) : CMul i j ∨ CMulW i j := .inl (.inr h)
theorem cmul_l {i j : Int} (h : -(2 ^ 64) < i ∧ i < 2 ^ 64) : CMul i j ∨ CMulW i j := .inl (.inl h)
theorem cdiv_s {i j : Int} (h : 0 < j) (h2 : j < 1073741824) : CDiv i j ∨ CDivW i j := .inl ⟨h, h2⟩
end Z
namespace Z
open PySem PySem.Spec PyProof.Rows L2 RZ
theorem alpha_list : (Str.ofString "abcdefghijklmnopqrstuvwxyz").cps.toList = letters := by rw [letters_T, T_toList]
theorem alpha_at {i : Int} (h0 : 0 ≤ i) (h1 : i < 26) : atI (Str.ofString "abcdefghijklmnopqrstuvwxyz").cps.toList i = some (97 + i.toNat) := by rw [alpha_list]; exact letters_at h0 h1
theorem alpha_len : (Str.ofString "abcdefghijklmnopqrstuvwxyz").length ≤ sizeLine := by rw [letters_T, T_len]; exact sizeLe (by decide)
theorem alpha_index {c : Nat} (h : c < 26) : Txt.index0 (Str.ofString "abcdefghijklmnopqrstuvwxyz") (T [97 + c]) = some c := by rw [letters_T]; exact index_letters c h
theorem T_at {l : List Nat} {i : Nat} {c : Nat} (h : l[i]? = some c) : atI (T l).cps.toList (i : Int) = some c := by rw [T_toList]; exact atI_nat h
theorem join_signs (ls : List Nat) : Txt.join "" (ls.map fun c => T [c]) = T ls := by
  have h := join_T (ls.map fun c => [c])
  rw [List.map_map] at h
  have e : ∀ r : List Nat, (r.map fun c => [c]).flatten = r := by
    intro r
    induction r with
    | nil => rfl
    | cons a r ih => simp only [List.map_cons, List.flatten_cons, ih, List.cons_append, List.nil_append]
  rw [e ls] at h
  exact h
theorem map_get {α β : Type} {f : α → β} {l : List α} {i : Nat} {d : β} (h : (l.map f)[i]? = some d) : ∃ a, l[i]? = some a ∧ d = f a := by
  rw [List.getElem?_map] at h
  cases e : l[i]? with
  | none => rw [e] at h; cases h
  | some a => rw [e] at h; exact ⟨a, rfl, (Option.some.inj h).symm⟩
theorem range_get {lo : Int} {n i : Nat} {d : D} (h : (rangeD lo n)[i]? = some d) : i < n ∧ d = .int (lo + i) := by
  have hi := (List.getElem?_eq_some_iff.mp h).1
  rw [rangeD_len] at hi
  rw [rangeD_get hi] at h
  exact ⟨hi, (Option.some.inj h).symm⟩
theorem lex_pair (w w' : Int) (n n' : Str) : lexD [.int w, .str n] [.int w', .str n'] = some (decide (w < w' ∨ (w = w' ∧ n.cps.toList < n'.cps.toList))) := by
  simp only [lexD, D.eqv, ltD]
  by_cases h1 : w = w'
  · subst h1
    have e : (w == w) = true := by simp
    rw [e]
    show cond (n == n') _ _ = _
    by_cases h2 : n = n'
    · subst h2
      have e : (n == n) = true := by simp
      rw [e]
      show some false = _
      congr 1
      exact (decide_eq_false (by rintro (h | ⟨_, h⟩); omega; exact absurd h (List.lt_irrefl _))).symm
    · have e : (n == n') = false := by simpa using h2
      rw [e]
      show some _ = _
      congr 1
      rw [Bool.eq_iff_iff]; simp
  · have e : (w == w') = false := by simpa using h1
    rw [e]
    show some _ = _
    congr 1
    rw [Bool.eq_iff_iff]; simp [h1]
theorem range_map_succ {α : Type} (f : Nat → α) (i : Nat) : (List.range (i + 1)).map f = (List.range i).map f ++ [f i] := by rw [List.range_succ, List.map_append]; rfl
theorem range_map_nodup {α : Type} {f : Nat → α} {n : Nat} (h : ∀ i j, i < n → j < n → f i = f j → i = j) : ((List.range n).map f).Nodup := by
  unfold List.Nodup
  rw [List.pairwise_map]
  refine List.Pairwise.imp_of_mem ?_ (List.nodup_range (n := n))
  intro a b ha hb hab e
  exact hab (h a b (List.mem_range.mp ha) (List.mem_range.mp hb) e)
theorem signs_sum : ∀ ls : List Nat, ((ls.map fun c => T [c]).map (·.length)).sum = ls.length
  | [] => rfl
  | a :: r => by
    have := signs_sum r
    simp only [List.map_cons, List.sum_cons, List.length_cons]
    rw [this, T_len]; simp; omega
theorem join_size (ls : List Nat) (h : ls.length ≤ 1000) : ((ls.map fun c => T [c]).map (·.length)).sum + (ls.map fun c => T [c]).length * (Str.ofString "").length ≤ 16777216 := by
  have e : (Str.ofString "").length = 0 := by decide +kernel
  rw [signs_sum, e]; omega
theorem list_tri : ∀ (a b : List Nat), a ≠ b → (a < b ↔ ¬ b < a)
  | [], [], h => absurd rfl h
  | [], _ :: _, _ => by simp
  | _ :: _, [], _ => by simp
  | x :: xs, y :: ys, h => by
    rw [List.cons_lt_cons_iff, List.cons_lt_cons_iff]
    by_cases e : x = y
    · subst e
      have ih := list_tri xs ys (fun z => h (by rw [z]))
      simp only [Nat.lt_irrefl, false_or, true_and]
      exact ih
    · constructor
      · rintro (h1 | ⟨h1, _⟩)
        · rintro (h2 | ⟨h2, _⟩) <;> omega
        · exact absurd h1 e
      · intro h1
        refine .inl ?_
        have : ¬ y < x := fun z => h1 (.inl z)
        omega
theorem eqv_tup4 (n n' : Str) (a b c a' b' c' : Int) : D.eqv (.tup [.str n, .int a, .int b, .int c]) (.tup [.str n', .int a', .int b', .int c']) = decide (n = n' ∧ a = a' ∧ b = b' ∧ c = c') := by
  simp only [D.eqv, D.eqvs]
  rw [Bool.eq_iff_iff]; simp
theorem cutD_map {α : Type} (f : α → D) (l : List α) (lo hi : Option Int) : cutD (l.map f) lo hi = ((l.drop (HT.sIx l.length 0 lo)).take (HT.sIx l.length l.length hi - HT.sIx l.length 0 lo)).map f := by
  unfold cutD
  rw [List.length_map, List.map_take, List.map_drop]
end Z
namespace Z
open PySem PySem.Spec PyProof.Rows L2 RZ

/-! list(range(..)) -/
def lRange1 (w : WE) : WA := fun env S Q => w env S fun x S1 => match x with | .int j => RgOk 0 j ∧ Q (rangeD 0 j.toNat) S1 | _ => False
def lRange2 (w u : WE) : WA := fun env S Q => w env S fun x S1 => u env S1 fun y S2 => match x, y with | .int i, .int j => RgOk i j ∧ Q (rangeD i (j - i).toNat) S2 | _, _ => False
theorem vrs_range {K : Frag} {m : List Addr} {H : Hp} (a b : Int) : VRs K m H (rangeD a (b - a).toNat) (rgV a b) := by
  have e : rangeD a (b - a).toNat = ((List.range (b - a).toNat).map fun i : Nat => a + (i : Int)).map D.int := by unfold rangeD; rw [List.map_map]; rfl
  have e2 : rgV a b = ((List.range (b - a).toNat).map fun i : Nat => a + (i : Int)).map V.int := by unfold rgV; rw [List.map_map]; rfl
  rw [e, e2]; exact VRs.of_ints _
section
variable {X : Cx} {a b e o : Expr} {es : List Expr} {w wa wb wo : WE} {wr wq : WA} {p p2 pos pos2 apos cpos : Pos}
theorem fl_range1 (hc : X.calm = true) (hg : Gl X "list") (hm : X.mg "list" = none) (hg2 : Gl X "range") (hm2 : X.mg "range" = none) (ha : FE X a w) (na : starEach [a] X.env = (false, eval a X.env) :: starEach [] X.env := by rfl)
    (nb : starEach [.Call (.Name "range" p2) [a] [] pos2] X.env = (false, eval (.Call (.Name "range" p2) [a] [] pos2) X.env) :: starEach [] X.env := by rfl) : FL X (.Call (.Name "list" p) [.Call (.Name "range" p2) [a] [] pos2] [] pos) (lRange1 w) := by
  refine ⟨PE.imp (pe_listRg hc hg hm (prg_1 hg2 hm2 ha.p na) nb) fun σ H Q ⟨env, S, m, Q0, s, r, h, k⟩ => ?_⟩
  refine lift_k s r h fun x S1 u H1 m1 q1 e1 s1 v1 => ?_
  cases x with
  | int j =>
    simp only [VR] at v1
    refine ⟨j, v1, q1.1, fun q hq => ?_⟩
    have v := vrs_range (K := X.K) (m := m1) (H := H1) 0 j
    rw [Int.sub_zero] at v
    exact k.lst e1 s1 v hq (e1.back s1 hq) q1.2
  | _ => exact q1.elim
theorem fl_range2 (hc : X.calm = true) (hg : Gl X "list") (hm : X.mg "list" = none) (hg2 : Gl X "range") (hm2 : X.mg "range" = none) (ha : FE X a wa) (hb : FE X b wb) (na : starEach [a, b] X.env = (false, eval a X.env) :: starEach [b] X.env := by rfl) (nc : starEach [b] X.env = (false, eval b X.env) :: starEach [] X.env := by rfl) (hpl : (backTo pos2 (starEach [b] X.env)).any (·.1) = false := by rfl)
    (nb : starEach [.Call (.Name "range" p2) [a, b] [] pos2] X.env = (false, eval (.Call (.Name "range" p2) [a, b] [] pos2) X.env) :: starEach [] X.env := by rfl) : FL X (.Call (.Name "list" p) [.Call (.Name "range" p2) [a, b] [] pos2] [] pos) (lRange2 wa wb) := by
  refine ⟨PE.imp (pe_listRg hc hg hm (prg_2 hg2 hm2 ha.p hb.p na nc (hp := hpl)) nb) fun σ H Q ⟨env, S, m, Q0, s, r, h, k⟩ => ?_⟩
  refine lift_k s r h fun x S1 u H1 m1 q1 e1 s1 v1 => ?_
  refine lift_k s1 (r.ext e1.toEx) q1 fun y S2 v H2 m2 q2 e2 s2 v2 => ?_
  cases x <;> cases y <;> first | exact q2.elim | skip
  simp only [VR] at v1 v2
  refine ⟨_, _, v1, v2, q2.1, fun q hq => ?_⟩
  exact k.lst (e1.trans e2) s2 (vrs_range _ _) hq ((e1.trans e2).back s2 hq) q2.2
end

/-! len(set(ints)) -/
theorem firstMet_mem (ns : List Int) : ∀ i, i ≤ ns.length → (firstMet (fun i => ns.getD i 0) i).Nodup ∧ ∀ x, x ∈ firstMet (fun i => ns.getD i 0) i ↔ x ∈ ns.take i
  | 0, _ => ⟨by rw [firstMet_zero]; exact List.nodup_nil, fun x => by rw [firstMet_zero]; simp⟩
  | i + 1, hi => by
    obtain ⟨h1, h2⟩ := firstMet_mem ns i (by omega)
    have hlt : i < ns.length := hi
    have e1 : ns.getD i 0 = ns[i] := by rw [List.getD_eq_getElem?_getD, List.getElem?_eq_getElem hlt]; rfl
    have e2 : ns.take (i + 1) = ns.take i ++ [ns[i]] := by rw [List.take_add_one, List.getElem?_eq_getElem hlt]; rfl
    rw [firstMet_succ, e2]
    show (if (firstMet (fun i => ns.getD i 0) i).any (· == ns.getD i 0) then firstMet (fun i => ns.getD i 0) i else firstMet (fun i => ns.getD i 0) i ++ [ns.getD i 0]).Nodup ∧ ∀ x, x ∈ (if (firstMet (fun i => ns.getD i 0) i).any (· == ns.getD i 0) then firstMet (fun i => ns.getD i 0) i else firstMet (fun i => ns.getD i 0) i ++ [ns.getD i 0]) ↔ _
    rw [e1]
    by_cases hb : ns[i] ∈ firstMet (fun i => ns.getD i 0) i
    · have : (firstMet (fun i => ns.getD i 0) i).any (· == ns[i]) = true := List.any_eq_true.mpr ⟨_, hb, by simp⟩
      rw [if_pos this]
      refine ⟨h1, fun x => ?_⟩
      rw [List.mem_append, h2]
      refine ⟨.inl, fun h => h.elim id fun h => ?_⟩
      rw [List.mem_singleton.mp h]; exact (h2 _).mp hb
    · have : ¬ (firstMet (fun i => ns.getD i 0) i).any (· == ns[i]) = true := fun h => by
        obtain ⟨y, hy, ey⟩ := List.any_eq_true.mp h
        rw [eq_of_beq ey] at hy; exact hb hy
      rw [if_neg this]
      refine ⟨?_, fun x => by rw [List.mem_append, List.mem_append, h2]⟩
      rw [List.nodup_append]
      exact ⟨h1, by simp, fun a ha b hb' z => hb (by rw [← List.mem_singleton.mp hb', ← z]; exact ha)⟩
def tLenSetA (K : Frag) (ta : TE) : TE := fun σ H Q => ta σ H fun x H1 => ∃ (l : Addr) (ns : List Int), x = .ref l ∧ SqL K H1 l (ns.map V.int) ∧ ns.length ≤ 4000 ∧ ∀ us : List Int, us.Nodup → (∀ x, x ∈ us ↔ x ∈ ns) → Q (.int (us.length : Nat)) H1
theorem pe_lenSetA {X : Cx} {a : Expr} {ta : TE} {p p2 q pos : Pos} (hg : Gl X "len") (hm : X.mg "len" = none) (hg2 : Gl X "set") (hm2 : X.mg "set" = none) (ha : PE X a ta) (hc : X.calm = true := by rfl)
    (na : starEach [a] X.env = (false, eval a X.env) :: starEach [] X.env := by rfl) : PE X (.Call (.Name "len" p) [.Call (.Name "set" p2) [a] [] q] [] pos) (tLenSetA X.K ta) := by
  refine ⟨fun pins s σ H Q I h => ?_⟩
  refine Call_ (ld_blt I hg hm boot_len ?_)
  refine PyProof.Rows.callWith_builtin1 (PyProof.Rows.args_cons ?_ rfl) rfl rfl
  refine Call_ (ld_blt I hg2 hm2 boot_set ?_)
  refine PyProof.Rows.callWith_type1 (PyProof.Rows.args_cons (thn (ha.run pins s σ H _ I h) fun v s1 ⟨x, H1, I1, r1, q1⟩ => PyProof.Rows.args_nil ?_) na) na rfl
  obtain ⟨l, ns, rfl, hq, hl, q1⟩ := q1
  cases r1
  obtain ⟨its, r, pl, hz⟩ := I1.list hq
  have hlen : its.toArray.size = ns.length := by rw [List.size_toArray, ← r.length, List.length_map]
  refine call_set_list (I1.ok.hd hc) pl.isList (by simpa using intsAre_vals r) (by rw [hlen]; unfold scanBound; omega) fun h' tk hS hk => ?_
  refine PyProof.Rows.args_nil ?_
  rw [hlen] at hS
  obtain ⟨h1, h2⟩ := firstMet_mem ns ns.length (Nat.le_refl _)
  rw [List.take_length] at h2
  have h3 := firstMet_length_le (fun i => ns.getD i 0) ns.length
  generalize firstMet (fun i => ns.getD i 0) ns.length = us at hS h1 h2 h3
  obtain ⟨o, es, ep, t, ho, hex, hd, _, _, _, hf, hn⟩ := hS
  have I2 : Inv X pins σ H1 { s1 with heap := h', toks := tk } := I1.kept fun b o e => hk b o (Heap.lt_size e) e
  exact call_len_set ho hex hd hf (by rw [hn] <;> omega) ⟨.int us.length, H1, I2.tok _, ⟨_, by rw [hn]⟩, q1 us h1 h2⟩
def lenSetK (xs : List D) (S : Sto) (Q : WK) : Prop := ∃ ns : List Int, xs = ns.map D.int ∧ ns.length ≤ 4000 ∧ ∀ us : List Int, us.Nodup → (∀ x, x ∈ us ↔ x ∈ ns) → Q (.int (us.length : Nat)) S
def wLenSet (w : WE) : WE := fun env S Q => w env S fun x S1 => match x with | .ref p => ∃ xs, S1[p]? = some (.lst xs) ∧ lenSetK xs S1 Q | _ => False
def wLenSetL (w : WA) : WE := fun env S Q => w env S fun xs S1 => lenSetK xs S1 Q
section
variable {X : Cx} {a b e o : Expr} {es : List Expr} {w wa wb wo : WE} {wr wq : WA} {p p2 q pos pos2 apos cpos : Pos}
theorem fe_lenSet (hg : Gl X "len") (hm : X.mg "len" = none) (hg2 : Gl X "set") (hm2 : X.mg "set" = none) (hc : X.calm = true) (ha : FE X a w) (na : starEach [a] X.env = (false, eval a X.env) :: starEach [] X.env := by rfl) : FE X (.Call (.Name "len" p) [.Call (.Name "set" p2) [a] [] q] [] pos) (wLenSet w) := by
  refine ⟨PE.imp (pe_lenSetA hg hm hg2 hm2 ha.p hc na) fun σ H Q ⟨env, S, m, Q0, s, r, h, k⟩ => ?_⟩
  refine lift_k s r h fun x S1 u H1 m1 q1 e1 s1 v1 => ?_
  cases x with
  | ref i =>
    simp only [VR] at v1
    obtain ⟨a, rfl, h2⟩ := v1
    obtain ⟨xs, h3, ns, rfl, h4, q⟩ := q1
    obtain ⟨us, h5, h6⟩ := s1.lst h2 h3
    rw [h6.ints] at h5
    exact ⟨a, ns, rfl, SqL.of h5, h4, fun us h7 h8 => (k.ext e1).v s1 (q us h7 h8) (by simp only [VR])⟩
  | _ => exact q1.elim
theorem fe_lenSetL (hg : Gl X "len") (hm : X.mg "len" = none) (hg2 : Gl X "set") (hm2 : X.mg "set" = none) (hc : X.calm = true) (ha : FL X a wq) (na : starEach [a] X.env = (false, eval a X.env) :: starEach [] X.env := by rfl) : FE X (.Call (.Name "len" p) [.Call (.Name "set" p2) [a] [] q] [] pos) (wLenSetL wq) := by
  refine ⟨PE.imp (pe_lenSetA hg hm hg2 hm2 ha.p hc na) fun σ H Q ⟨env, S, m, Q0, s, r, h, k⟩ => ?_⟩
  refine ⟨env, S, m, _, s, r, h, fun xs S1 a us H1 m1 q1 e1 s1 h0 nm ha v1 => ?_⟩
  obtain ⟨ns, rfl, h4, q⟩ := q1
  rw [v1.ints] at ha
  exact ⟨a, ns, rfl, SqL.of ha, h4, fun us h7 h8 => (k.ext e1).v s1 (q us h7 h8) (by simp only [VR])⟩
end
end Z
namespace Z
open PySem PySem.Spec PyProof.Rows L2 RZ

/-! dicts: keys ints and texts, or tuples of these -/
def kD : Key → D
  | .inl i => .int i
  | .inr x => .str x
section
variable {κ : Type} [DecidableEq κ] {α : Type}
def valX (kvs : List (κ × α)) (k : κ) : Option α := (kvs.find? fun kv => decide (kv.1 = k)).map (·.2)
def putX (kvs : List (κ × α)) (k : κ) (v : α) : List (κ × α) :=
  if (kvs.any fun kv => decide (kv.1 = k)) = true then kvs.map (fun kv => if kv.1 = k then (kv.1, v) else kv) else kvs ++ [(k, v)]
def dropX (kvs : List (κ × α)) (k : κ) : List (κ × α) := kvs.filter fun kv => decide (kv.1 ≠ k)
theorem valX_nil {k : κ} : valX ([] : List (κ × α)) k = none := rfl
theorem valX_pos {p : κ × α} {r : List (κ × α)} {k : κ} (e : p.1 = k) : valX (p :: r) k = some p.2 := by simp [valX, List.find?_cons, e]
theorem valX_neg {p : κ × α} {r : List (κ × α)} {k : κ} (e : ¬ p.1 = k) : valX (p :: r) k = valX r k := by simp [valX, List.find?_cons, e]
end
def OR (K : Frag) (m : List Addr) (H : Hp) : Option D → Option V → Prop
  | some d, some v => VR K m H d v
  | none, none => True
  | _, _ => False
section
variable {κ : Type} [DecidableEq κ] {K : Frag} {m : List Addr} {H : Hp}
theorem KVR.val {r : List (κ × D)} {t : List (κ × V)} (h : KVR K m H r t) (k : κ) : OR K m H (valX r k) (valV t k) := by
  induction h with
  | nil => trivial
  | @cons k0 d v r t hd _ ih =>
    by_cases e : k0 = k
    · rw [valX_pos (p := (k0, d)) e, valV_pos (p := (k0, v)) e]; exact hd
    · rw [valX_neg (p := (k0, d)) e, valV_neg (p := (k0, v)) e]; exact ih
theorem KVR.any {r : List (κ × D)} {t : List (κ × V)} (h : KVR K m H r t) (k : κ) : (r.any fun kv => decide (kv.1 = k)) = t.any fun kv => decide (kv.1 = k) := by
  induction h with
  | nil => rfl
  | cons hd _ ih => simp only [List.any_cons, ih]
theorem KVR.app {r r2 : List (κ × D)} {t t2 : List (κ × V)} (h : KVR K m H r t) (h2 : KVR K m H r2 t2) : KVR K m H (r ++ r2) (t ++ t2) := by
  induction h with
  | nil => exact h2
  | cons hd _ ih => exact .cons hd ih
theorem KVR.repl {r : List (κ × D)} {t : List (κ × V)} (h : KVR K m H r t) (k : κ) {d : D} {v : V} (hd : VR K m H d v) : KVR K m H (r.map fun kv => if kv.1 = k then (kv.1, d) else kv) (t.map fun kv => if kv.1 = k then (kv.1, v) else kv) := by
  induction h with
  | nil => exact .nil
  | @cons k1 d1 v1 r t h1 _ ih =>
    rw [List.map_cons, List.map_cons]
    by_cases e : k1 = k
    · rw [if_pos e, if_pos e]; exact .cons hd ih
    · rw [if_neg e, if_neg e]; exact .cons h1 ih
theorem KVR.put {r : List (κ × D)} {t : List (κ × V)} (h : KVR K m H r t) (k : κ) {d : D} {v : V} (hd : VR K m H d v) : KVR K m H (putX r k d) (putK t k v) := by
  unfold putX putK
  rw [h.any k]
  split
  · exact h.repl k hd
  · exact h.app (.cons hd .nil)
theorem KVR.drop {r : List (κ × D)} {t : List (κ × V)} (h : KVR K m H r t) (k : κ) : KVR K m H (dropX r k) (dropK t k) := by
  unfold dropX dropK
  induction h with
  | nil => exact .nil
  | @cons k0 d v r t hd _ ih =>
    by_cases e : k0 = k
    · rw [List.filter_cons_of_neg (by simp [e]), List.filter_cons_of_neg (by simp [e])]; exact ih
    · rw [List.filter_cons_of_pos (by simp [e]), List.filter_cons_of_pos (by simp [e])]; exact .cons hd ih
end

theorem VR.key {K : Frag} {m : List Addr} {H : Hp} {k : Key} {v : V} (h : VR K m H (kD k) v) : v = kV k := by
  cases k <;> simp only [kD, VR] at h <;> exact h
theorem VRs.keys {K : Frag} {m : List Addr} {H : Hp} : ∀ {ks : List Key} {us : List V}, VRs K m H (ks.map kD) us → us = ks.map kV
  | [], _, h => h.nil_inv
  | k :: ks, _, h => by
    obtain ⟨u, r, rfl, h2, h3⟩ := h.cons_inv
    rw [h2.key, h3.keys]; rfl
def dLook (S : Sto) (p : Nat) (x : D) (R : Option D → Prop) : Prop := ∃ o, S[p]? = some o ∧ match o with
  | .dK kvs => ∃ k, x = kD k ∧ R (valX kvs k)
  | .dT kvs => ∃ ks : List Key, x = .tup (ks.map kD) ∧ R (valX kvs ks)
  | _ => False
def dPutX (x y v : D) (S : Sto) (R : Sto → Prop) : Prop := match x with
  | .ref p => ∃ o, S[p]? = some o ∧ match o with
    | .dK kvs => ∃ k, y = kD k ∧ kvs.length < sizeLine ∧ R (S.set p (.dK (putX kvs k v)))
    | .dT kvs => ∃ ks : List Key, y = .tup (ks.map kD) ∧ kvs.length < sizeLine ∧ R (S.set p (.dT (putX kvs ks v)))
    | _ => False
  | _ => False
section
variable {K : Frag} {m : List Addr} {H : Hp} {S : Sto}
theorem look_rd (s : SR K m H S) {p : Nat} {a : Addr} {x : D} {v : V} {R : Option D → Prop} (hi : m[p]? = some a) (rx : VR K m H x v) (h : dLook S p x R) : ∃ o ov, R o ∧ DGet H a v ov ∧ OR K m H o ov := by
  obtain ⟨o, h1, h⟩ := h
  obtain ⟨b, h2, h3⟩ := s.at_ p o h1
  rw [hi] at h2; cases h2
  cases o with
  | dK kvs =>
    obtain ⟨k, rfl, h⟩ := h
    obtain ⟨us, h4, h5⟩ := h3
    rw [rx.key]
    exact ⟨_, _, h, DGet.k h4, h5.val k⟩
  | dT kvs =>
    obtain ⟨ks, rfl, h⟩ := h
    obtain ⟨us, h4, h5⟩ := h3
    simp only [VR] at rx
    obtain ⟨c, ws, rfl, h6, h7⟩ := rx
    rw [h7.keys] at h6
    exact ⟨_, _, h, DGet.t h4 h6, h5.val ks⟩
  | _ => exact h.elim
theorem put_rd (s : SR K m H S) {x y z : D} {u v w : V} {R : Sto → Prop} (rx : VR K m H x u) (ry : VR K m H y v) (rz : VR K m H z w) (h : dPutX x y z S R) : ∃ a H' S', u = .ref a ∧ DPut H a v w H' ∧ R S' ∧ Ext K m H m H' ∧ SR K m H' S' := by
  cases x with
  | ref p =>
    simp only [VR] at rx
    obtain ⟨a, rfl, hi⟩ := rx
    obtain ⟨o, h1, h⟩ := h
    obtain ⟨b, h2, h3⟩ := s.at_ p o h1
    rw [hi] at h2; cases h2
    cases o with
    | dK kvs =>
      obtain ⟨k, rfl, hl, h⟩ := h
      obtain ⟨us, h4, h5⟩ := h3
      rw [ry.key]
      obtain ⟨e, s'⟩ := s.write (ho := .dK (putK us k w)) (o := .dK (putX kvs k z)) hi fun H' e' hh => ⟨_, hh, (KVR.ext e'.toEx h5).put k (rz.ext e'.toEx)⟩
      exact ⟨a, _, _, rfl, DPut.k h4 (by rw [← h5.length]; exact hl), h, e, s'⟩
    | dT kvs =>
      obtain ⟨ks, rfl, hl, h⟩ := h
      obtain ⟨us, h4, h5⟩ := h3
      simp only [VR] at ry
      obtain ⟨c, ws, rfl, h6, h7⟩ := ry
      rw [h7.keys] at h6
      obtain ⟨e, s'⟩ := s.write (ho := .dT (putK us ks w)) (o := .dT (putX kvs ks z)) hi fun H' e' hh => ⟨_, hh, (KVR.ext e'.toEx h5).put ks (rz.ext e'.toEx)⟩
      exact ⟨a, _, _, rfl, DPut.t h4 h6 (by rw [← h5.length]; exact hl), h, e, s'⟩
    | _ => exact h.elim
  | _ => exact h.elim
end
def dGetD : R2D := fun x y S Q => match x with | .ref p => dLook S p y fun o => ∃ d, o = some d ∧ Q d S | _ => False
def dInDB (f : Bool → Bool) : R2D := fun y x S Q => match x with | .ref p => dLook S p y fun o => Q (.bl (f o.isSome)) S | _ => False
abbrev dInD : R2D := dInDB fun b => b
abbrev dNotInD : R2D := dInDB fun b => !b
def sPutD (wo wi wv : WE) : WS := fun D env S => wv env S fun v S1 => wo env S1 fun x S2 => wi env S2 fun y S3 => dPutX x y v S3 fun S4 => D.nx env S4
def wNewK : WE := fun _ S Q => Q (.ref S.length) (S ++ [.dK []])
def wNewT : WE := fun _ S Q => Q (.ref S.length) (S ++ [.dT []])
def isDX (x : D) (S : Sto) : Prop := match x with | .ref p => ∃ o, S[p]? = some o ∧ (match o with | .dK _ => True | .dT _ => True | _ => False) | _ => False
def wGet1 (wo wi : WE) : WE := fun env S Q => wo env S fun x S1 => isDX x S1 ∧ wi env S1 fun y S2 => match x with | .ref p => dLook S2 p y fun o => Q (o.getD .non) S2 | _ => False
def wGet2 (wo wi wd : WE) : WE := fun env S Q => wo env S fun x S1 => isDX x S1 ∧ wi env S1 fun y S2 => wd env S2 fun z S3 => match x with | .ref p => dLook S3 p y fun o => Q (o.getD z) S3 | _ => False
def wPopD (wo wi : WE) : WE := fun env S Q => wo env S fun x S1 => isDX x S1 ∧ wi env S1 fun y S2 => match x with | .ref p => ∃ kvs k d, S2[p]? = some (.dK kvs) ∧ y = kD k ∧ valX kvs k = some d ∧ Q d (S2.set p (.dK (dropX kvs k))) | _ => False
section
variable {X : Cx} {a b e f o i value : Expr} {es : List Expr} {w wa wb wo wi wv wd : WE} {wr wq : WA} {p p2 pos pos' pos2 apos cpos : Pos}
theorem fe_dget (hu : X.A.units + 1 < cLine) (ho : FE X o wo) (hi : FE X i wi) (hs : NoSl i := by intro _ _; rfl) : FE X (.Subscript o i pos) (wOp dGetD wo wi) := by
  refine ⟨PE.imp (pe_dget hu ho.p hi.p hs) fun σ H Q ⟨env, S, m, Q0, s, r, h, k⟩ => ?_⟩
  refine lift_k s r h fun x S1 u H1 m1 q1 e1 s1 v1 => ?_
  refine lift_k s1 (r.ext e1.toEx) q1 fun y S2 v H2 m2 q2 e2 s2 v2 => ?_
  have v1 := v1.ext e2.toEx
  cases x with
  | ref p =>
    simp only [VR] at v1
    obtain ⟨a, rfl, h2⟩ := v1
    have q2 : dLook S2 p y (fun o => ∃ d, o = some d ∧ Q0 d S2) := q2
    obtain ⟨o, ov, ⟨d, rfl, q⟩, g, ro⟩ := look_rd s2 h2 v2 q2
    cases ov with
    | none => exact ro.elim
    | some vv => exact ⟨a, vv, rfl, g, (k.ext (e1.trans e2)).v s2 q ro⟩
  | _ => exact q2.elim
theorem OR.some_eq {K : Frag} {m : List Addr} {H : Hp} {o : Option D} {ov : Option V} (h : OR K m H o ov) : o.isSome = ov.isSome := by cases o <;> cases ov <;> first | rfl | exact h.elim
theorem OR.getD {K : Frag} {m : List Addr} {H : Hp} {o : Option D} {ov : Option V} {d : D} {v : V} (h : OR K m H o ov) (hd : VR K m H d v) : VR K m H (o.getD d) (ov.getD v) := by cases o <;> cases ov <;> first | exact hd | exact h | exact h.elim
theorem lift_in {f : Bool → Bool} {σ : L2.St} {H : Hp} {Q : VK} (h : lift X.K (wOp (dInDB f) wi wo) σ H Q) : lift X.K wi σ H fun y H1 => lift X.K wo σ H1 fun x H2 => ∃ a ov, x = .ref a ∧ DGet H2 a y ov ∧ Q (.bl (f ov.isSome)) H2 := by
  obtain ⟨env, S, m, Q0, s, r, h, k⟩ := h
  refine lift_k s r h fun y S1 v H1 m1 q1 e1 s1 v1 => ?_
  refine lift_k s1 (r.ext e1.toEx) q1 fun x S2 u H2 m2 q2 e2 s2 v2 => ?_
  have v1 := v1.ext e2.toEx
  cases x with
  | ref p =>
    simp only [VR] at v2
    obtain ⟨a, rfl, h2⟩ := v2
    have q2 : dLook S2 p y (fun o => Q0 (.bl (f o.isSome)) S2) := q2
    obtain ⟨o, ov, q, g, ro⟩ := look_rd s2 h2 v1 q2
    refine ⟨a, ov, rfl, g, (k.ext (e1.trans e2)).v s2 q ?_⟩
    rw [ro.some_eq]; simp only [VR]
  | _ => exact q2.elim
theorem fe_inD (hu : X.A.units + 1 < cLine) (hi : FE X i wi) (ho : FE X o wo) (h1 : behindInMarks .In o = false := by rfl) : FE X (.Compare i [.In] [o] pos) (wOp dInD wi wo) :=
  ⟨PE.imp (pe_cmp (pc_din hu hi.p ho.p) h1) fun σ H Q h => lift_in h⟩
theorem ft_inD (hu : X.A.units + 1 < cLine) (hi : FE X i wi) (ho : FE X o wo) (h1 : behindInMarks .In o = false := by rfl) : FT X (.Compare i [.In] [o] pos) (tOf (wOp dInD wi wo)) :=
  ⟨PT.imp (pt_cmp (pc_din hu hi.p ho.p) h1) fun σ H Q ⟨env, S, m, Q0, s, rr, h, k⟩ => lift_in ⟨env, S, m, _, s, rr, h, dB_k k⟩⟩
theorem fe_notinD (hu : X.A.units + 1 < cLine) (hi : FE X i wi) (ho : FE X o wo) (h1 : behindInMarks .NotIn o = false := by rfl) : FE X (.Compare i [.NotIn] [o] pos) (wOp dNotInD wi wo) :=
  ⟨PE.imp (pe_cmp (pc_dnotin hu hi.p ho.p) h1) fun σ H Q h => lift_in h⟩
theorem ft_notinD (hu : X.A.units + 1 < cLine) (hi : FE X i wi) (ho : FE X o wo) (h1 : behindInMarks .NotIn o = false := by rfl) : FT X (.Compare i [.NotIn] [o] pos) (tOf (wOp dNotInD wi wo)) :=
  ⟨PT.imp (pt_cmp (pc_dnotin hu hi.p ho.p) h1) fun σ H Q ⟨env, S, m, Q0, s, rr, h, k⟩ => lift_in ⟨env, S, m, _, s, rr, h, dB_k k⟩⟩
theorem fs_dput (hu : X.A.units + 1 < cLine) (ho : FE X o wo) (hi : FE X i wi) (hv : FE X value wv) (hs : swapsWith value (some (.Subscript o i pos')) pos.line X.env = pure false := by rfl) : FS X (.Assign [.Subscript o i pos'] value pos) (sPutD wo wi wv) := by
  refine ⟨PS.imp (ps_dput hu ho.p hi.p hv.p hs) fun D σ H ⟨env, S, m, D0, s, r, h, k⟩ => ?_⟩
  refine lift_k s r h fun z S1 w H1 m1 q1 e1 s1 v1 => ?_
  refine lift_k s1 (r.ext e1.toEx) q1 fun x S2 u H2 m2 q2 e2 s2 v2 => ?_
  refine lift_k s2 (r.ext (e1.trans e2).toEx) q2 fun y S3 v H3 m3 q3 e3 s3 v3 => ?_
  obtain ⟨a, H4, S4, eu, g, q4, e4, s4⟩ := put_rd s3 (v2.ext e3.toEx) v3 (v1.ext (e2.trans e3).toEx) q3
  have e14 := ((e1.trans e2).trans e3).trans e4
  exact ⟨a, H4, eu, g, k.nx _ _ _ _ _ q4 e14 s4 (r.ext e14.toEx)⟩
theorem fe_newK : FE X (.Dict [] [] pos) wNewK := by
  refine ⟨PE.imp pe_dnewK fun σ H Q ⟨env, S, m, Q0, s, r, h, k⟩ => fun p hp => ?_⟩
  obtain ⟨e, s', g⟩ := s.new (ho := .dK []) (o := .dK []) hp fun m' H' e' hh => ⟨[], hh, .nil⟩
  refine k _ _ _ _ _ h e s' ?_
  simp only [VR]; exact ⟨p, rfl, g⟩
theorem fe_newT : FE X (.Dict [] [] pos) wNewT := by
  refine ⟨PE.imp pe_dnewT fun σ H Q ⟨env, S, m, Q0, s, r, h, k⟩ => fun p hp => ?_⟩
  obtain ⟨e, s', g⟩ := s.new (ho := .dT []) (o := .dT []) hp fun m' H' e' hh => ⟨[], hh, .nil⟩
  refine k _ _ _ _ _ h e s' ?_
  simp only [VR]; exact ⟨p, rfl, g⟩
theorem isD_rd {K : Frag} {m : List Addr} {H : Hp} {S : Sto} {x : D} {u : V} (s : SR K m H S) (rx : VR K m H x u) (h : isDX x S) : ∃ p a, x = .ref p ∧ u = .ref a ∧ m[p]? = some a ∧ IsD H a := by
  cases x with
  | ref p =>
    simp only [VR] at rx
    obtain ⟨a, rfl, h2⟩ := rx
    obtain ⟨o, h3, h⟩ := h
    obtain ⟨b, h4, h5⟩ := s.at_ p o h3
    rw [h2] at h4; cases h4
    refine ⟨p, a, rfl, rfl, h2, ?_⟩
    cases o with
    | dK kvs => obtain ⟨us, h6, _⟩ := h5; exact .inl ⟨us, .inl h6⟩
    | dT kvs => obtain ⟨us, h6, _⟩ := h5; exact .inr ⟨us, .inl h6⟩
    | _ => exact h.elim
  | _ => exact h.elim
theorem fe_get1 (hu : X.A.units + 1 < cLine) (ho : FE X o wo) (hi : FE X e wi) (m : M1 X o "get" apos e cpos := by exact ⟨rfl, rfl, rfl, rfl⟩) : FE X (.Call (.Attribute o "get" apos) [e] [] cpos) (wGet1 wo wi) := by
  refine ⟨PE.imp (pe_dget1 hu ho.p hi.p m) fun σ H Q ⟨env, S, m, Q0, s, r, h, k⟩ => ?_⟩
  refine lift_k s r h fun x S1 u H1 m1 q1 e1 s1 v1 => ?_
  obtain ⟨p, a, rfl, rfl, ha, hd⟩ := isD_rd s1 v1 q1.1
  refine ⟨a, rfl, hd, lift_k s1 (r.ext e1.toEx) q1.2 fun y S2 v H2 m2 q2 e2 s2 v2 => ?_⟩
  obtain ⟨o, ov, q, g, ro⟩ := look_rd s2 (e2.pre _ _ ha) v2 q2
  exact ⟨ov, g, (k.ext (e1.trans e2)).v s2 q (ro.getD (by simp only [VR]))⟩
theorem fe_get2 (hu : X.A.units + 1 < cLine) (ho : FE X o wo) (hi : FE X e wi) (hf : FE X f wd) (m : M2 X o "get" apos e f cpos := by exact ⟨rfl, rfl, rfl, rfl⟩) : FE X (.Call (.Attribute o "get" apos) [e, f] [] cpos) (wGet2 wo wi wd) := by
  refine ⟨PE.imp (pe_dget2 hu ho.p hi.p hf.p m) fun σ H Q ⟨env, S, m, Q0, s, r, h, k⟩ => ?_⟩
  refine lift_k s r h fun x S1 u H1 m1 q1 e1 s1 v1 => ?_
  obtain ⟨p, a, rfl, rfl, ha, hd⟩ := isD_rd s1 v1 q1.1
  refine ⟨a, rfl, hd, lift_k s1 (r.ext e1.toEx) q1.2 fun y S2 v H2 m2 q2 e2 s2 v2 => ?_⟩
  refine lift_k s2 (r.ext (e1.trans e2).toEx) q2 fun z S3 w H3 m3 q3 e3 s3 v3 => ?_
  obtain ⟨o, ov, q, g, ro⟩ := look_rd s3 ((e2.trans e3).pre _ _ ha) (v2.ext e3.toEx) q3
  exact ⟨ov, g, (k.ext ((e1.trans e2).trans e3)).v s3 q (ro.getD v3)⟩
theorem fe_popD (ho : FE X o wo) (hi : FE X e wi) (m : M1 X o "pop" apos e cpos := by exact ⟨rfl, rfl, rfl, rfl⟩) : FE X (.Call (.Attribute o "pop" apos) [e] [] cpos) (wPopD wo wi) := by
  refine ⟨PE.imp (pe_dpop1 ho.p hi.p m) fun σ H Q ⟨env, S, m, Q0, s, r, h, k⟩ => ?_⟩
  refine lift_k s r h fun x S1 u H1 m1 q1 e1 s1 v1 => ?_
  obtain ⟨p, a, rfl, rfl, ha, hd⟩ := isD_rd s1 v1 q1.1
  refine ⟨a, rfl, hd, lift_k s1 (r.ext e1.toEx) q1.2 fun y S2 v H2 m2 q2 e2 s2 v2 => ?_⟩
  obtain ⟨kvs, k', d, h1, rfl, h2, q⟩ := q2
  have ha2 := e2.pre _ _ ha
  obtain ⟨b, h4, us, h5, h6⟩ := s2.at_ p _ h1
  rw [ha2] at h4; cases h4
  have ro := h6.val k'
  rw [h2] at ro
  cases hv : valV us k' with
  | none => rw [hv] at ro; exact ro.elim
  | some vv =>
    rw [hv] at ro
    obtain ⟨e3, s3⟩ := s2.write (ho := .dK (dropK us k')) (o := .dK (dropX kvs k')) ha2 fun H' e' hh => ⟨_, hh, (KVR.ext e'.toEx h6).drop k'⟩
    exact ⟨us, k', vv, h5, v2.key, hv, k _ _ _ _ _ q ((e1.trans e2).trans e3) s3 (VR.ext e3.toEx ro)⟩
end
end Z
namespace Z
open PySem PySem.Spec PyProof.Rows L2 RZ

/-! {k: v, ..} -/
abbrev WP := En → Sto → (List (D × D) → Sto → Prop) → Prop
def pNil : WP := fun _ S Q => Q [] S
def pCons (wk wv : WE) (r : WP) : WP := fun env S Q => wk env S fun x S1 => wv env S1 fun y S2 => r env S2 fun ps S3 => Q ((x, y) :: ps) S3
def mergeX (kvs more : List (Key × D)) : List (Key × D) := more.foldl (fun acc kv => putX acc kv.1 kv.2) kvs
def wDisp (w : WP) : WE := fun env S Q => w env S fun ps S1 => ∃ kvs : List (Key × D), ps = kvs.map (fun kv => (kD kv.1, kv.2)) ∧ kvs.length ≤ 15 ∧ Q (.ref S1.length) (S1 ++ [.dK (mergeX [] kvs)])
inductive PVR (K : Frag) (m : List Addr) (H : Hp) : List (D × D) → List (V × V) → Prop where
  | nil : PVR K m H [] []
  | cons {x y : D} {u v : V} {r : List (D × D)} {t : List (V × V)} : VR K m H x u → VR K m H y v → PVR K m H r t → PVR K m H ((x, y) :: r) ((u, v) :: t)
theorem PVR.keys {K : Frag} {m : List Addr} {H : Hp} : ∀ {kvs : List (Key × D)} {t : List (V × V)}, PVR K m H (kvs.map fun kv => (kD kv.1, kv.2)) t → ∃ us : List (Key × V), t = us.map (fun kv => (kV kv.1, kv.2)) ∧ KVR K m H kvs us
  | [], _, h => by cases h; exact ⟨[], rfl, .nil⟩
  | p :: kvs, _, h => by
    rw [List.map_cons] at h
    cases h with
    | cons h1 h2 h3 =>
      obtain ⟨us, rfl, h4⟩ := h3.keys
      exact ⟨(p.1, _) :: us, by rw [h1.key]; rfl, .cons h2 h4⟩
theorem KVR.merge {K : Frag} {m : List Addr} {H : Hp} {more : List (Key × D)} {mu : List (Key × V)} (h : KVR K m H more mu) : ∀ {r : List (Key × D)} {t : List (Key × V)}, KVR K m H r t → KVR K m H (mergeX r more) (mergeK t mu) := by
  induction h with
  | nil => exact fun h => h
  | cons hd _ ih => exact fun h => ih (h.put _ hd)
def KtP (K : Frag) (m : List Addr) (H : Hp) (Q0 : List (D × D) → Sto → Prop) (Q : List (V × V) → Hp → Prop) : Prop := ∀ ps S' us H' m', Q0 ps S' → Ext K m H m' H' → SR K m' H' S' → PVR K m' H' ps us → Q us H'
structure FPs (X : Cx) (pos : Pos) (keys : List (Option Expr)) (values : List Expr) (w : WP) : Prop where
  p : ∃ trs, PPs X pos keys values trs ∧ ∀ σ H Q, (∃ env S m Q0, SR X.K m H S ∧ ER X.K m H env σ ∧ w env S Q0 ∧ KtP X.K m H Q0 Q) → tPairs trs σ H Q
section
variable {X : Cx} {k v : Expr} {ks : List (Option Expr)} {vs : List Expr} {wk wv : WE} {wp : WP} {pos : Pos}
theorem fps_nil : FPs X pos [] [] pNil := ⟨[], pps_nil, fun σ H Q ⟨env, S, m, Q0, s, r, h, k⟩ => k _ _ _ _ _ h Ext.refl s .nil⟩
theorem fps_cons (hk : FE X k wk) (hv : FE X v wv) (hr : FPs X pos ks vs wp) : FPs X pos (some k :: ks) (v :: vs) (pCons wk wv wp) := by
  obtain ⟨trs, h1, h2⟩ := hr.p
  refine ⟨_, pps_cons hk.p hv.p h1, fun σ H Q ⟨env, S, m, Q0, s, r, h, kk⟩ => ?_⟩
  show lift X.K wk σ H fun x H1 => lift X.K wv σ H1 fun y H2 => tPairs trs σ H2 fun ps H3 => Q ((x, y) :: ps) H3
  refine lift_k s r h fun x S1 u H1 m1 q1 e1 s1 v1 => ?_
  refine lift_k s1 (r.ext e1.toEx) q1 fun y S2 v H2 m2 q2 e2 s2 v2 => ?_
  have r2 := r.ext (e1.trans e2).toEx
  refine h2 _ _ _ ⟨env, S2, m2, _, s2, r2, q2, fun ps S3 us H3 m3 q3 e3 s3 v3 => ?_⟩
  exact kk _ _ _ _ _ q3 ((e1.trans e2).trans e3) s3 (.cons (v1.ext (e2.trans e3).toEx) (v2.ext e3.toEx) v3)
/-- what the store does not know, a dict, may change -/
theorem hidD {K : Frag} {m : List Addr} {H : Hp} {S : Sto} {p : Addr} {us : List (Key × V)} {o : HO} (s : SR K m H S) (nm : p ∉ m) (h : H p = some (.dK us)) : Ex K m H m (upd H p o) ∧ SR K m (upd H p o) S ∧ ∀ m1 H1, Ext K m1 H1 m H → H1 p = none → Ext K m1 H1 m (upd H p o) := by
  have ex : Ex K m H m (upd H p o) := by
    refine ⟨fun b us h' => ?_, fun b us h' => ?_, fun _ _ h => h⟩
    · rw [upd_ne (fun z => by rw [z, h] at h'; cases h')]; exact h'
    · rcases h' with ⟨o, h'⟩ | h'
      · exact .inl ⟨o, by rw [upd_ne (fun z => by rw [z, h] at h'; cases h')]; exact h'⟩
      · exact .inr h'
  refine ⟨ex, ⟨s.len, s.nd, fun i o' hi => ?_⟩, fun m1 H1 e h1 => ?_⟩
  · obtain ⟨a, h1, h2⟩ := s.at_ i o' hi
    refine ⟨a, h1, h2.keep ex (upd_ne fun z => nm ?_)⟩
    rw [← z]; exact List.mem_of_getElem? h1
  · refine ⟨⟨fun a us z => ex.tup a us (e.tup a us z), fun a us z => ex.rol a us (e.rol a us z), e.pre⟩, fun a o' z n => ⟨?_, (e.fr a o' z n).2⟩⟩
    rw [upd_ne (ne_of_none z h1)]
    exact (e.fr a o' z n).1
theorem fe_disp (h : FPs X pos ks vs wp) (hall : ks.all (·.isSome) = true := by rfl) (hl : ks.length = vs.length := by rfl) (h0 : ks ≠ [] := by exact List.cons_ne_nil _ _) (h15 : ks.length ≤ 15 := by decide) : FE X (.Dict ks vs pos) (wDisp wp) := by
  obtain ⟨trs, h1, h2⟩ := h.p
  refine ⟨PE.imp (pe_disp h1 hall hl h0 h15) fun σ H Q ⟨env, S, m, Q0, s, r, h, k⟩ => fun p hp => ?_⟩
  obtain ⟨nm, e0, s0⟩ := s.laid (ho := .dK []) hp
  refine h2 _ _ _ ⟨env, S, m, _, s0, r.ext e0.toEx, h, fun ps S1 us H1 m1 q1 e1 s1 v1 => ?_⟩
  obtain ⟨kvs, rfl, hlen, q⟩ := q1
  have hp1 := e1.fr p _ upd_same nm
  obtain ⟨us', rfl, hk⟩ := v1.keys
  refine ⟨hp1.1, us', rfl, by rw [← hk.length]; exact hlen, ?_⟩
  obtain ⟨ex, s2, g2⟩ := hidD (o := .dK (mergeK [] us')) s1 hp1.2 hp1.1
  have e2 := g2 m H (e0.trans e1) hp
  obtain ⟨s3, g3⟩ := s2.adopt (p := p) (o := .dK (mergeX [] kvs)) hp1.2 ⟨_, upd_same, KVR.merge (KVR.ext Ex.app (KVR.ext ex hk)) .nil⟩
  refine k _ _ _ _ _ q (e2.adopt hp) s3 ?_
  simp only [VR]
  exact ⟨p, rfl, g3⟩
end
/-! sorted(..) of ints, of texts -/
def lSorted (wq : WA) : WA := fun env S Q => wq env S fun ds S1 =>
  (∃ ns : List Int, ds = ns.map D.int ∧ ∀ ns' : List Int, ns'.Perm ns → ns'.Pairwise (· ≤ ·) → Q (ns'.map D.int) S1)
end Z
namespace Z
open PySem PySem.Spec PyProof.Rows L2 RZ

/-! the order of keys, of tuples of keys -/
def kLt : Key → Key → Bool
  | .inl i, .inl j => decide (i < j)
  | .inr a, .inr b => decide (a.cps.toList < b.cps.toList)
  | .inl _, .inr _ => true
  | .inr _, .inl _ => false
def ltK : List Key → List Key → Bool
  | [], [] => false
  | [], _ :: _ => true
  | _ :: _, [] => false
  | x :: xs, y :: ys => if x = y then ltK xs ys else kLt x y
theorem cps_tri (a b : Str) (h : a ≠ b) : a.cps.toList < b.cps.toList ↔ ¬ b.cps.toList < a.cps.toList := by
  refine list_tri _ _ fun e => h ?_
  rw [T_eta a, T_eta b, e]
theorem kLt_tri (x y : Key) (h : x ≠ y) : kLt x y = !kLt y x := by
  cases x with
  | inl i =>
    cases y with
    | inl j =>
      have : i ≠ j := fun e => h (by rw [e])
      simp only [kLt]; rw [← decide_not]; exact decide_eq_decide.mpr (by omega)
    | inr b => rfl
  | inr a =>
    cases y with
    | inl j => rfl
    | inr b =>
      have : a ≠ b := fun e => h (by rw [e])
      simp only [kLt]; rw [← decide_not]; exact decide_eq_decide.mpr (cps_tri a b this)
theorem kLt_irr (x : Key) : kLt x x = false := by
  cases x with
  | inl i => simp [kLt]
  | inr a => simp only [kLt]; exact decide_eq_false (List.lt_irrefl _)
theorem kLt_trans {x y z : Key} (h1 : kLt x y = true) (h2 : kLt y z = true) : kLt x z = true := by
  cases x <;> cases y <;> cases z <;> simp only [kLt, decide_eq_true_eq] at h1 h2 ⊢ <;> first | omega | exact List.lt_trans h1 h2 | exact absurd h1 (by decide) | exact absurd h2 (by decide) | rfl
theorem ltK_tri : ∀ (x y : List Key), x ≠ y → ltK x y = !ltK y x
  | [], [], h => absurd rfl h
  | [], _ :: _, _ => rfl
  | _ :: _, [], _ => rfl
  | x :: xs, y :: ys, h => by
    simp only [ltK]
    by_cases e : x = y
    · subst e; rw [if_pos rfl, if_pos rfl]; exact ltK_tri xs ys fun z => h (by rw [z])
    · rw [if_neg e, if_neg (Ne.symm e)]; exact kLt_tri x y e
theorem ltK_irr : ∀ x : List Key, ltK x x = false
  | [] => rfl
  | x :: xs => by simp only [ltK, if_pos]; exact ltK_irr xs
theorem ltK_trans : ∀ {x y z : List Key}, ltK x y = true → ltK y z = true → ltK x z = true
  | [], [], _, h1, _ => by cases h1
  | [], _ :: _, [], _, h2 => by cases h2
  | [], _ :: _, _ :: _, _, _ => rfl
  | _ :: _, [], _, h1, _ => by cases h1
  | _ :: _, _ :: _, [], _, h2 => by cases h2
  | x :: xs, y :: ys, z :: zs, h1, h2 => by
    simp only [ltK] at h1 h2 ⊢
    by_cases e : x = y
    · subst e
      rw [if_pos rfl] at h1
      by_cases e2 : x = z
      · rw [if_pos e2] at h2 ⊢; exact ltK_trans h1 h2
      · rw [if_neg e2] at h2 ⊢; exact h2
    · rw [if_neg e] at h1
      by_cases e2 : y = z
      · subst e2; rw [if_neg e]; exact h1
      · rw [if_neg e2] at h2
        have h3 := kLt_trans h1 h2
        rw [if_neg (fun e3 => by subst e3; rw [kLt_irr] at h3; cases h3)]; exact h3
theorem ltK_swo {α : Type} (k : α → List Key) : SrtO.Swo fun x y => ltK (k x) (k y) := by
  refine ⟨fun x y h => ?_, fun x y z h1 h2 => ?_⟩
  · by_cases e : k x = k y
    · show ltK (k y) (k x) = false
      rw [e]; exact ltK_irr _
    · have := ltK_tri _ _ e
      rw [h] at this
      show ltK (k y) (k x) = false
      cases hh : ltK (k y) (k x) with
      | false => rfl
      | true => rw [hh] at this; cases this
  · show ltK (k z) (k x) = false
    have h1 : ltK (k y) (k x) = false := h1
    have h2 : ltK (k z) (k y) = false := h2
    cases h3 : ltK (k z) (k x) with
    | false => rfl
    | true =>
      by_cases e1 : k x = k y
      · rw [e1] at h3; rw [h3] at h2; cases h2
      · have := ltK_tri _ _ e1
        rw [h1] at this
        have := ltK_trans h3 (this.trans rfl)
        rw [this] at h2; cases h2

/-! sorted of what is collected -/
open SrtO Srt in
theorem sorted_gen {prog : Program} {w : World} {A : Around} {E : Value → Shared → Prop} {s : Shared} {x : Value} {Q : Value → Shared → Prop} {ltv : Value → Value → Bool} {Pv : List Value → Prop} (O : Swo ltv)
    (hc : ∀ R : List Value → Shared → Prop, (∀ s1 vs, (∀ b o, s.heap.get? b = some o → s1.heap.get? b = some o) → s1.gens = s.gens → s1.os = s.os → Pv vs → R vs s1) → wpAny (model prog w) A.in1 (collect x) R E s)
    (hz : ∀ vs, Pv vs → vs.length ≤ sizeLine)
    (hS : ∀ vs, Pv vs → 2 ≤ vs.length → ∀ (s2 : Shared) (a : Addr), (∀ b o, s.heap.get? b = some o → b ≠ a ∧ s2.heap.get? b = some o) → SortableO prog w A.in1.in1 s2 a vs ltv)
    (h : ∀ s' p out c vs, Pv vs → (∀ b o, s.heap.get? b = some o → s'.heap.get? b = some o) → s'.gens = s.gens → s'.os = s.os → (∃ h1 : Heap, (∀ b o, s.heap.get? b = some o → h1.get? b = some o) ∧ h1.objs.size ≤ p) → s'.heap.get? p = some (seqObj "list" (List.toArray out) c) → Srtd ltv out → Stb ltv out vs → Q (.ref p) s') :
    wpAny (model prog w) A (call (.builtin "sorted") [x]) Q E s := by
  refine Calls.call_function_entry kind_sorted plain_sorted entry_sorted (args_sorted1 _) ?_
  unfold Builtin.«sorted»
  refine wpAny_bind (m := checkCount "sorted" 1 1 _) (wpAny_pure ?_)
  refine wpAny_bind (hc _ fun s1 vs k1 g1 o1 pv => ?_)
  refine wpAny_bind (wpAny_newList ?_ (hz vs pv))
  have hoL : (s1.heap.push (seqObj "list" vs.toArray 0)).get? s1.heap.objs.size = some (seqObj "list" vs.toArray 0) := Heap.get?_push_size _ rfl
  refine wpAny_bind (wpAny_holding (wpAny_call_entry slot_list_sort ⟨_, hoL, rfl⟩ entry_list_sort (list_sort_ord O hoL (hz vs pv) (fun h2 => hS vs pv h2 _ _ fun b o e => ?_) fun out a1 a2 => ⟨_, rfl, ?_⟩) (args_list_sort _)))
  · have q := k1 b o e
    exact ⟨Nat.ne_of_lt (Heap.lt_size q), Heap.get?_push_of_some _ q⟩
  obtain ⟨c, hc⟩ := sortedHeap_at (vs := vs) (out := out.toArray) hoL
  refine wpAny_pure ⟨_, rfl, h _ s1.heap.objs.size out c vs pv (fun b u e => ?_) g1 o1 ⟨s1.heap, k1, Nat.le_refl _⟩ hc a1 a2⟩
  have q := k1 b u e
  have hlt := Heap.lt_size q
  show (sortedHeap (s1.heap.push (seqObj "list" vs.toArray 0)) s1.heap.objs.size vs out.toArray).get? b = some u
  rw [sortedHeap_old (Nat.ne_of_lt hlt) (by rw [size_push']; exact Nat.lt_succ_of_lt hlt)]
  exact Heap.get?_push_of_some _ q

/-! what can be sorted: texts, tuples -/
def sv : Value → Str
  | .str x _ => x
  | _ => ⟨#[]⟩
def kvS (v : Value) : List Key := [.inr (sv v)]
open SrtO Srt in
theorem strs_sortable {prog : Program} {w : World} {A : Around} {s : Shared} {a : Addr} {vs : List Value} {xs : List Str} (hI : StrsAre vs xs) (h2 : 2 ≤ vs.length) : SortableO prog w A s a vs fun x y => ltK (kvS x) (kvS y) := by
  intro h' _
  have hm : ∀ {vs : List Value} {xs : List Str}, StrsAre vs xs → ∀ v ∈ vs, ∃ x t, v = Value.str x t := by
    intro vs xs hI
    induction hI with
    | nil => intro v h; cases h
    | cons x t _ ih =>
      intro v h
      rcases List.mem_cons.mp h with e | h
      · exact ⟨x, t, e⟩
      · exact ih v h
  refine ⟨oneType', fun Q E hq => ?_, ?_⟩
  · match vs, hI, h2 with
    | v1 :: v2 :: rest, hI, _ =>
      rw [keyKind_strs hI]
      exact wpAny_pure hq
    | [], _, h => exact absurd h (by decide)
    | [v], _, h => exact absurd h (by simp)
  · intro p q hp hq
    obtain ⟨x, t, e⟩ := hm hI _ hp
    obtain ⟨y, u, e'⟩ := hm hI _ hq
    show wpAny (model prog w) A (keyLt' oneType' p.1 q.1) (fun r s' => s' = { s with heap := h' } ∧ r = ltK (kvS p.1) (kvS q.1)) (fun _ _ => False) { s with heap := h' }
    rw [e, e', keyLt'_oneType]
    refine oneLt_str ⟨rfl, ?_⟩
    show decide (x.cps.toList < y.cps.toList) = (if (Sum.inr x : Key) = Sum.inr y then false else decide (x.cps.toList < y.cps.toList))
    by_cases e3 : x = y
    · subst e3; rw [if_pos rfl]; exact decide_eq_false (List.lt_irrefl _)
    · rw [if_neg (fun z => e3 (Sum.inr.inj z))]

/-- the keys in a tuple's items: others count as 0 -/
def keyV : V → Key
  | .int i => .inl i
  | .str x => .inr x
  | _ => .inl 0
open SrtO Srt in
/-- one tuple against another, from their i-th items on -/
theorem kat_lex {prog : Program} {w : World} {A : Around} {s : Shared} (b : Bool) (fin : Bool) : ∀ {xs ys : List V} {us vs : List Value} (i : Nat) {r : Bool} {Q : Bool → Shared → Prop}, Vals xs us → Vals ys vs → xs.all flatV = true → ys.all flatV = true →
    lexV xs ys = some r → (xs.length = ys.length → fin = false) → (xs.length < ys.length → fin = true) → (ys.length < xs.length → fin = false) → Q r s → PySem.W.KatLex prog w A b fin Q (us.zip vs) i s
  | [], [], _, _, i, r, Q, .nil, .nil, _, _, h, f1, f2, f3, q => by
    simp only [lexV, Option.some.injEq] at h
    rw [f1 rfl]
    exact PySem.W.kat_nil (by rw [← h] at q; exact q)
  | [], _ :: _, _, _, i, r, Q, .nil, .cons _ _, _, _, h, f1, f2, f3, q => by
    simp only [lexV, Option.some.injEq] at h
    rw [f2 (by simp)]
    exact PySem.W.kat_nil (by rw [← h] at q; exact q)
  | _ :: _, [], _, _, i, r, Q, .cons _ _, .nil, _, _, h, f1, f2, f3, q => by
    simp only [lexV, Option.some.injEq] at h
    rw [f3 (by simp)]
    exact PySem.W.kat_nil (by rw [← h] at q; exact q)
  | x :: xs, y :: ys, _, _, i, r, Q, .cons rx tx, .cons ry ty, fx, fy, h, f1, f2, f3, q => by
    simp only [List.all_cons, Bool.and_eq_true] at fx fy
    simp only [List.length_cons] at f1 f2 f3
    refine PySem.W.kat_cons (eqAt_V rx ry fx.1 fy.1 prog w _ _ ?_)
    simp only [lexV] at h
    cases e : L2.eqV x y with
    | true =>
      rw [e, if_pos rfl] at h
      exact PySem.W.kat_yes (kat_lex b fin (i + 1) tx ty fx.2 fy.2 h (fun z => f1 (by omega)) (fun z => f2 (by omega)) (fun z => f3 (by omega)) q)
    | false =>
      rw [e, if_neg Bool.false_ne_true] at h
      refine PySem.W.kat_no ?_
      cases x <;> cases y <;> simp only [ltV, Option.some.injEq] at h <;> first | cases h | skip
      · obtain ⟨t, rfl⟩ := rx
        obtain ⟨t', rfl⟩ := ry
        exact PyProof.Rows.oneLt_any_int q
      · obtain ⟨t, rfl⟩ := rx
        obtain ⟨t', rfl⟩ := ry
        exact PyProof.Rows.oneLt_any_str q

def tupOf (H : Hp) : V → List V
  | .ref t => (match H t with | some (.tup us) => us | _ => [])
  | _ => []
def keysV (xs : List V) : List Key := xs.map keyV
/-- tuples of flat things that stand in one order: xs -/
structure SortV (H : Hp) (xs : List V) : Prop where
  tup : ∀ x ∈ xs, ∃ t us, x = .ref t ∧ H t = some (.tup us) ∧ us.all flatV = true
  hd : (∀ x ∈ xs, ∃ i r, tupOf H x = .int i :: r) ∨ (∀ x ∈ xs, ∃ i r, tupOf H x = .str i :: r)
  lex : ∀ x ∈ xs, ∀ y ∈ xs, lexV (tupOf H x) (tupOf H y) = some (ltK (keysV (tupOf H x)) (keysV (tupOf H y)))
/-- a Value's tuple -/
def backT (H : Hp) (v : Value) : List V := tupOf H (backV v)
structure TupV (h : Heap) (v : Value) (xs : List V) (b : Addr) (o : Obj) (us : List Value) (n : Nat) : Prop where
  e : v = .ref b
  at_ : h.get? b = some o
  cls : o.cls = .type "tuple"
  data : o.data = .seq us.toArray n
  vals : Vals xs us
open SrtO Srt in
theorem tups_sortable {prog : Program} {w : World} {A : Around} {s : Shared} {a : Addr} {vs : List Value} {f : Value → List V} (h0 : 0 < vs.length) (hp : ∀ v ∈ vs, ∃ b o us n, TupV s.heap v (f v) b o us n ∧ b ≠ a ∧ (f v).all flatV = true)
    (hd : (∀ v ∈ vs, ∃ i r, f v = .int i :: r) ∨ (∀ v ∈ vs, ∃ i r, f v = .str i :: r)) (hl : ∀ v ∈ vs, ∀ u ∈ vs, lexV (f v) (f u) = some (ltK (keysV (f v)) (keysV (f u)))) : SortableO prog w A s a vs fun v u => ltK (keysV (f v)) (keysV (f u)) := by
  intro h' keep
  have hp' : ∀ v ∈ vs, ∃ b o us n, TupV h' v (f v) b o us n ∧ (f v).all flatV = true := fun v hv => by
    obtain ⟨b, o, us, n, ⟨e, h1, h2, h3, h4⟩, hne, fl⟩ := hp v hv
    exact ⟨b, o, us, n, ⟨e, keep b o hne h1, h2, h3, h4⟩, fl⟩
  have hT : ∃ (T : String) (fs : List Value), (T = "int" ∨ T = "str") ∧ PySem.W.KatTups h' vs fs ∧ fs.length = vs.length ∧ ∀ v ∈ fs, PySem.W.Looks (model prog w) h' (typeOf v) (.type T) := by
    rcases hd with hd | hd
    · refine ⟨"int", ?_⟩
      clear h0 hp hl
      induction vs with
      | nil => exact ⟨[], .inl rfl, trivial, rfl, fun v h => by cases h⟩
      | cons v vs ih =>
        obtain ⟨fs, i1, i2, i3, i4⟩ := ih (fun u hu => hp' u (List.mem_cons_of_mem _ hu)) fun u hu => hd u (List.mem_cons_of_mem _ hu)
        obtain ⟨b, o, us, n, ⟨e, h1, h2, h3, h4⟩, fl⟩ := hp' v List.mem_cons_self
        obtain ⟨i, r, ef⟩ := hd v List.mem_cons_self
        rw [ef] at h4
        cases h4 with
        | cons rx tx =>
          obtain ⟨t, rfl⟩ := rx
          refine ⟨.int i t :: fs, i1, ?_, by simp [i3], fun u hu => ?_⟩
          · rw [e]; exact PySem.W.KatTups.cons h1 h2 h3 (by simp) i2
          · rcases List.mem_cons.mp hu with e | hu
            · rw [e]; exact PySem.W.Looks.now
            · exact i4 u hu
    · refine ⟨"str", ?_⟩
      clear h0 hp hl
      induction vs with
      | nil => exact ⟨[], .inr rfl, trivial, rfl, fun v h => by cases h⟩
      | cons v vs ih =>
        obtain ⟨fs, i1, i2, i3, i4⟩ := ih (fun u hu => hp' u (List.mem_cons_of_mem _ hu)) fun u hu => hd u (List.mem_cons_of_mem _ hu)
        obtain ⟨b, o, us, n, ⟨e, h1, h2, h3, h4⟩, fl⟩ := hp' v List.mem_cons_self
        obtain ⟨i, r, ef⟩ := hd v List.mem_cons_self
        rw [ef] at h4
        cases h4 with
        | cons rx tx =>
          obtain ⟨t, rfl⟩ := rx
          refine ⟨.str i t :: fs, i1, ?_, by simp [i3], fun u hu => ?_⟩
          · rw [e]; exact PySem.W.KatTups.cons h1 h2 h3 (by simp) i2
          · rcases List.mem_cons.mp hu with e | hu
            · rw [e]; exact PySem.W.Looks.now
            · exact i4 u hu
  obtain ⟨T, fs, hT, t1, t2, t3⟩ := hT
  refine ⟨tuples' true, fun Q E hq => ?_, ?_⟩
  · refine PySem.W.kat_kind (T := .type T) t1 (by omega) t3 ?_ ?_
    · rcases hT with rfl | rfl <;> rfl
    · have e : (Value.type T != Value.type "tuple") = true := by rcases hT with rfl | rfl <;> decide +kernel
      rw [e]; exact hq
  · intro p q hm hm'
    obtain ⟨b, o, us, n, ⟨e, h1, h2, h3, h4⟩, fl⟩ := hp' _ hm
    obtain ⟨b', o', us', n', ⟨e', h1', h2', h3', h4'⟩, fl'⟩ := hp' _ hm'
    show wpAny (model prog w) A (keyLt' (tuples' true) p.1 q.1) (fun r s' => s' = { s with heap := h' } ∧ r = ltK (keysV (f p.1)) (keysV (f q.1))) (fun _ _ => False) { s with heap := h' }
    have hl' := hl _ hm _ hm'
    generalize f p.1 = xs at *
    generalize f q.1 = ys at *
    rw [e, e']
    refine PySem.W.kat_lt h1 h3 h1' h3' ?_
    have z1 : us.toArray.size = xs.length := by rw [h4.length]; simp
    have z2 : us'.toArray.size = ys.length := by rw [h4'.length]; simp
    rw [z1, z2]
    exact kat_lex true _ 0 h4 h4' fl fl' hl' (fun z => decide_eq_false (by omega)) (fun z => decide_eq_true z) (fun z => decide_eq_false (by omega)) ⟨rfl, rfl⟩
end Z
namespace Z
open PySem PySem.Spec PyProof.Rows L2 RZ

/-- x's items, in a row -/
def CollOk (X : Cx) (H : Hp) (u : V) (xs : List V) : Prop := ∀ (pins : List (Addr × Obj)) (σ : L2.St) (s : Shared) (A : Around) (E : Value → Shared → Prop) (v : Value) (R : List Value → Shared → Prop), A.handled = none → Inv X pins σ H s → RelV u v →
  (∀ s1 its, (∀ b o, s.heap.get? b = some o → s1.heap.get? b = some o) → s1.gens = s.gens → s1.os = s.os → Vals xs its → xs.length ≤ sizeLine → R its s1) → wpAny (model X.prog X.w) A (collect v) R E s
section
variable {X : Cx} {H : Hp} {a : Addr} {xs : List V}
theorem coll_list (h : SqL X.K H a xs) : CollOk X H (.ref a) xs := by
  intro pins σ s A E v R hh I rx k
  cases rx
  obtain ⟨its, rv, hl, hz⟩ := I.list h
  refine collect_list hl.isList (k _ _ (fun b o e => ?_) rfl rfl rv hz) (by rw [← rv.length]; exact hz)
  rw [Heap.get?_update_ne _ _ _ _ (Nat.ne_of_lt (Heap.lt_size e))]
  exact Heap.get?_push_of_some _ e
theorem coll_tup (h : SqT X.K H a xs) : CollOk X H (.ref a) xs := by
  intro pins σ s A E v R hh I rx k
  cases rx
  obtain ⟨its, rv, ⟨o, ho, hc, n, hd⟩, hz⟩ := I.tuple h
  refine wpAny_collect_seq a (.inr rfl) ho hc hd (fun h' kk => ?_) (by rw [List.size_toArray, ← rv.length]; exact hz)
  exact k _ _ kk rfl rfl (by simpa using rv) hz
theorem coll_dK {kvs : List (Key × V)} (h : Rd H a (.dK kvs)) : CollOk X H (.ref a) (kvs.map fun kv => kV kv.1) := by
  intro pins σ s A E v R hh I rx k
  cases rx
  obtain ⟨z, lo, vs, rel, dd⟩ := dk_rd I.hok h
  obtain ⟨ep, hat⟩ := dd.dictAt
  have hl := KV.length rel
  refine PySem.W.kdu_collect (PySem.W.kdl_dict (knd := mixKind X.prog X.w) (kvs := vs) (ep := ep) lo) hh hat (by rw [← hl]; exact z) fun h' tk acc hk hacc => k _ _ hk rfl rfl ?_ (by rw [List.length_map]; exact z)
  have e : (kvs.map fun kv => kV kv.1) = vs.map fun p => kV p.1 := by
    have := rel.keys
    have e1 : (kvs.map fun kv => kV kv.1) = (kvs.map (·.1)).map kV := by rw [List.map_map]; rfl
    have e2 : (vs.map fun p => kV p.1) = (vs.map (·.1)).map kV := by rw [List.map_map]; rfl
    rw [e1, e2, this]
  rw [e]
  refine keys_at (by rw [Array.length_toList]; exact hacc.1) fun j v e => ?_
  obtain ⟨k', x, e1, e2⟩ := hacc.2 j v (by rw [← Array.getElem?_toList]; exact e)
  exact ⟨k', x, e1, e2⟩
end
/-- sorted(..): ints, texts, tuples -/
def rSrtI (X : Cx) : List V → Hp → VK → Prop := fun vs H Q => ∃ u ns, vs = [u] ∧ CollOk X H u (ns.map V.int) ∧ ∀ (ns' : List Int) p, ns'.Perm ns → ns'.Pairwise (· ≤ ·) → H p = none → Q (.ref p) (upd H p (.lst (ns'.map V.int)))
def rSrtS (X : Cx) : List V → Hp → VK → Prop := fun vs H Q => ∃ u xs, vs = [u] ∧ CollOk X H u (xs.map V.str) ∧ ∀ (ys : List Str) p, ys.Perm xs → ys.Pairwise (fun a b => ¬ b.cps.toList < a.cps.toList) → H p = none → Q (.ref p) (upd H p (.lst (ys.map V.str)))
def rSrtT (X : Cx) : List V → Hp → VK → Prop := fun vs H Q => ∃ u xs, vs = [u] ∧ CollOk X H u xs ∧ SortV H xs ∧ ∀ ys p, ys.Perm xs → ys.Pairwise (fun x y => ltK (keysV (tupOf H y)) (keysV (tupOf H x)) = false) → H p = none → Q (.ref p) (upd H p (.lst ys))
theorem perm_vals : ∀ {xs : List V} {us out : List Value}, Vals xs us → out.Perm us → ∃ ys, ys.Perm xs ∧ Vals ys out := by
  intro xs us out r p
  replace p := p.symm
  induction p generalizing xs with
  | nil => exact ⟨xs, .refl _, r⟩
  | cons u _ ih =>
    cases r with
    | @cons x _ xs' _ rx tx =>
      obtain ⟨ys, h1, h2⟩ := ih tx
      exact ⟨x :: ys, h1.cons _, .cons rx h2⟩
  | swap u v l =>
    cases r with
    | @cons x _ _ _ rx tx =>
      cases tx with
      | @cons y _ zs _ ry tz => exact ⟨y :: x :: zs, .swap _ _ _, .cons ry (.cons rx tz)⟩
  | trans _ _ ih1 ih2 =>
    obtain ⟨ys, h1, h2⟩ := ih1 r
    obtain ⟨zs, h3, h4⟩ := ih2 h2
    exact ⟨zs, h3.trans h1, h4⟩
theorem vals_mem {xs : List V} {its : List Value} (h : Vals xs its) {v : Value} (hv : v ∈ its) : ∃ x, x ∈ xs ∧ RelV x v := by
  induction h with
  | nil => cases hv
  | @cons x u xs' us' rx tx ih =>
    rcases List.mem_cons.mp hv with e | hv
    · rw [e]; exact ⟨x, List.mem_cons_self, rx⟩
    · obtain ⟨y, h1, h2⟩ := ih hv
      exact ⟨y, List.mem_cons_of_mem _ h1, h2⟩
theorem tupOf_ref {H : Hp} {t : Addr} {us : List V} (h : H t = some (.tup us)) : tupOf H (.ref t) = us := by simp only [tupOf, h]
section
variable {X : Cx}
theorem srt_end {pins : List (Addr × Obj)} {σ : L2.St} {H : Hp} {s s' : Shared} {p : Addr} {out : List Value} {c : Nat} {ys : List V} {Q : VK} (I : Inv X pins σ H s) (k : ∀ b o, s.heap.get? b = some o → s'.heap.get? b = some o) (g : s'.gens = s.gens) (o : s'.os = s.os)
    (hp : ∃ h1 : Heap, (∀ b o, s.heap.get? b = some o → h1.get? b = some o) ∧ h1.objs.size ≤ p) (hg : s'.heap.get? p = some (seqObj "list" out.toArray c)) (hv : Vals ys out) (hz : ys.length ≤ sizeLine) (q : H p = none → Q (.ref p) (upd H p (.lst ys))) : EP X pins σ Q (.ref p) s' := by
  obtain ⟨h1, k1, z1⟩ := hp
  have hn0 : s.heap.get? p = none := by
    cases e : s.heap.get? p with
    | none => rfl
    | some u => exact absurd (Nat.lt_of_lt_of_le (Heap.lt_size (k1 _ _ e)) z1) (Nat.lt_irrefl _)
  have hn : H p = none := (I.hok.kept k1).fresh z1
  refine ⟨.ref p, _, I.call' (ch := []) o (Un.laidN k hn0 hn) (I.hok.laidN k hn ?_) (by rw [g]; exact I.bare) (fun _ z => nomatch z), rfl, q hn⟩
  exact ⟨hz, out, c, hv, hg⟩
theorem cr_srtI (hc : X.calm = true) : CallR X (.builtin "sorted") (rSrtI X) := by
  intro pins s σ H vs us Q I r ⟨u, ns, e, hcol, q⟩
  subst e
  obtain ⟨v, rfl, rv⟩ := vals1 r
  refine sorted_gen (Pv := fun its => Vals (ns.map V.int) its ∧ ns.length ≤ sizeLine) SrtO.swo_int (fun R hR => hcol pins σ s _ _ v R (I.ok.hd hc) I rv fun s1 its k g o v z => hR s1 its k g o ⟨v, by simpa using z⟩) (fun its h => by rw [← h.1.length]; simpa using h.2) (fun its h h2 s2 a kk => SrtO.ints_sortable h.1.ints h2) fun s' p out c its h k g o hp hg a1 a2 => ?_
  obtain ⟨k1, k2, k3⟩ := SrtO.ints_out h.1.ints a1 a2
  exact srt_end I k g o hp hg (vals_of_ints k1) (by rw [List.length_map, k2.length_eq]; exact h.2) fun hn => q _ _ k2 k3 hn
theorem cr_srtS (hc : X.calm = true) : CallR X (.builtin "sorted") (rSrtS X) := by
  intro pins s σ H vs us Q I r ⟨u, xs, e, hcol, q⟩
  subst e
  obtain ⟨v, rfl, rv⟩ := vals1 r
  refine sorted_gen (Pv := fun its => Vals (xs.map V.str) its ∧ xs.length ≤ sizeLine) (ltK_swo kvS) (fun R hR => hcol pins σ s _ _ v R (I.ok.hd hc) I rv fun s1 its k g o v z => hR s1 its k g o ⟨v, by simpa using z⟩) (fun its h => by rw [← h.1.length]; simpa using h.2) (fun its h h2 s2 a kk => strs_sortable h.1.strs h2) fun s' p out c its h k g o hp hg a1 a2 => ?_
  have hs : ∀ {vs : List Value} {xs : List Str}, Vals (xs.map V.str) vs → xs = vs.map sv := by
    intro vs
    induction vs with
    | nil => intro xs h; cases xs with | nil => rfl | cons _ _ => cases h
    | cons v vs ih =>
      intro xs h
      cases xs with
      | nil => cases h
      | cons x xs =>
        rw [List.map_cons] at h
        cases h with
        | cons rx tx => obtain ⟨t, rfl⟩ := rx; rw [List.map_cons, ← ih tx]; rfl
  obtain ⟨ys0, p1, p2⟩ := perm_vals h.1 a2.perm
  have e0 : ∃ ys : List Str, ys0 = ys.map V.str := by
    have : ∀ y ∈ ys0, ∃ x, y = V.str x := fun y hy => by
      obtain ⟨x, _, rfl⟩ := List.mem_map.mp (p1.mem_iff.mp hy); exact ⟨x, rfl⟩
    clear p1 p2 a1 a2 hg
    induction ys0 with
    | nil => exact ⟨[], rfl⟩
    | cons y ys ih =>
      obtain ⟨x, rfl⟩ := this y List.mem_cons_self
      obtain ⟨zs, rfl⟩ := ih fun z hz => this z (List.mem_cons_of_mem _ hz)
      exact ⟨x :: zs, rfl⟩
  obtain ⟨ys, rfl⟩ := e0
  have e1 := hs p2
  have e2 := hs h.1
  have e3 : ys.Perm xs := by rw [e1, e2]; exact a2.perm.map sv
  refine srt_end I k g o hp hg p2 (by rw [List.length_map, e3.length_eq]; exact h.2) fun hn => q ys _ e3 ?_ hn
  rw [e1, List.pairwise_map]
  refine List.Pairwise.imp (fun {x y} z => ?_) a1
  intro hlt
  have z : (if (Sum.inr (sv y) : Key) = Sum.inr (sv x) then false else decide ((sv y).cps.toList < (sv x).cps.toList)) = false := z
  by_cases e4 : sv y = sv x
  · rw [e4] at hlt; exact List.lt_irrefl _ hlt
  · rw [if_neg (fun z => e4 (Sum.inr.inj z))] at z
    exact of_decide_eq_false z hlt
theorem srtT_of (hc : X.calm = true) {pins : List (Addr × Obj)} {σ : L2.St} {H : Hp} {s : Shared} {v : Value} {xs : List V} {Q : VK} (I : Inv X pins σ H s)
    (hcol : ∀ (A : Around) (E : Value → Shared → Prop) (R : List Value → Shared → Prop), A.handled = none → (∀ s1 its, (∀ b o, s.heap.get? b = some o → s1.heap.get? b = some o) → s1.gens = s.gens → s1.os = s.os → Vals xs its → xs.length ≤ sizeLine → R its s1) → wpAny (model X.prog X.w) A (collect v) R E s)
    (hS : SortV H xs) (q : ∀ ys p, ys.Perm xs → ys.Pairwise (fun x y => ltK (keysV (tupOf H y)) (keysV (tupOf H x)) = false) → H p = none → Q (.ref p) (upd H p (.lst ys))) : wpAny (model X.prog X.w) X.A (call (.builtin "sorted") [v]) (EP X pins σ Q) X.xe s := by
  have back : ∀ {its : List Value} {zs : List V}, (∀ x ∈ zs, ∃ t us, x = .ref t ∧ H t = some (.tup us) ∧ us.all flatV = true) → Vals zs its → zs = its.map backV := by
    intro its
    induction its with
    | nil => intro zs _ h; cases zs with | nil => rfl | cons _ _ => cases h
    | cons v vs ih =>
      intro zs hz h
      cases h with
      | @cons x _ xs' _ rx tx =>
        obtain ⟨t, us, e, _⟩ := hz x List.mem_cons_self
        subst e
        cases rx
        rw [List.map_cons, ← ih (fun y hy => hz y (List.mem_cons_of_mem _ hy)) tx]; rfl
  refine sorted_gen (Pv := fun its => Vals xs its ∧ xs.length ≤ sizeLine) (ltK_swo fun v => keysV (backT H v)) (fun R hR => hcol _ _ R (I.ok.hd hc) fun s1 its k g o v z => hR s1 its k g o ⟨v, z⟩) (fun its h => by rw [← h.1.length]; exact h.2) (fun its h h2 s2 a kk => ?_) fun s' p out c its h k g o hp hg a1 a2 => ?_
  · have e1 := back hS.tup h.1
    refine tups_sortable (by omega) (fun v hv => ?_) (hS.hd.imp (fun hd v hv => hd _ ?_) fun hd v hv => hd _ ?_) fun v hv u hu => hS.lex _ ?_ _ ?_
    · have hm : backV v ∈ xs := by rw [e1]; exact List.mem_map.mpr ⟨v, hv, rfl⟩
      obtain ⟨t, us, e2, h3, h4⟩ := hS.tup _ hm
      obtain ⟨z, its2, r2, ⟨cls, dd, data, sl⟩, ho, hcl, n, hd⟩ := I.hok _ _ h3
      have e5 : tupOf H (backV v) = us := by rw [e2]; exact tupOf_ref h3
      have hv' : v = .ref t := by
        obtain ⟨x, hx, rx⟩ := vals_mem h.1 hv
        obtain ⟨t', us', e6, _⟩ := hS.tup _ hx
        subst e6
        cases rx
        cases e2
        rfl
      exact ⟨t, _, its2, n, ⟨hv', (kk _ _ ho).2, hcl, hd, by show Vals (tupOf H (backV v)) _; rw [e5]; exact r2⟩, (kk _ _ ho).1, by show (tupOf H (backV v)).all flatV = true; rw [e5]; exact h4⟩
    all_goals (rw [e1]; exact List.mem_map.mpr ⟨_, by assumption, rfl⟩)
  · obtain ⟨ys, p1, p2⟩ := perm_vals h.1 a2.perm
    have e1 := back (fun x hx => hS.tup x (p1.mem_iff.mp hx)) p2
    refine srt_end I k g o hp hg p2 (by rw [p1.length_eq]; exact h.2) fun hn => q ys _ p1 ?_ hn
    rw [e1, List.pairwise_map]
    exact a1
theorem cr_srtT (hc : X.calm = true) : CallR X (.builtin "sorted") (rSrtT X) := by
  intro pins s σ H vs us Q I r ⟨u, xs, e, hcol, hS, q⟩
  subst e
  obtain ⟨v, rfl, rv⟩ := vals1 r
  exact srtT_of hc I (fun A E R hh k => hcol pins σ s A E v R hh I rv k) hS q
end
end Z
namespace Z
open PySem PySem.Spec PyProof.Rows L2 RZ

def itemsD : D → List D
  | .tup us => us
  | _ => []
def keyD : D → Key
  | .int i => .inl i
  | .str x => .inr x
  | _ => .inl 0
def keysD (xs : List D) : List Key := xs.map keyD
abbrev keyT (d : D) : List Key := keysD (itemsD d)
structure SortD (ds : List D) : Prop where
  tup : ∀ x ∈ ds, ∃ us, x = .tup us ∧ us.all D.flat = true
  hd : (∀ x ∈ ds, ∃ i r, x = .tup (.int i :: r)) ∨ (∀ x ∈ ds, ∃ i r, x = .tup (.str i :: r))
  lex : ∀ x ∈ ds, ∀ y ∈ ds, lexD (itemsD x) (itemsD y) = some (ltK (keyT x) (keyT y))
section
variable {K : Frag} {m : List Addr} {H : Hp} {S : Sto}
theorem perm_vrs {ds : List D} {us out : List V} (r : VRs K m H ds us) (p : out.Perm us) : ∃ ys, ys.Perm ds ∧ VRs K m H ys out := by
  replace p := p.symm
  induction p generalizing ds with
  | nil => exact ⟨ds, .refl _, r⟩
  | cons u _ ih =>
    cases ds with
    | nil => exact absurd r.nil_inv (by simp)
    | cons x xs =>
      obtain ⟨u', t, e, h1, h2⟩ := r.cons_inv
      cases e
      obtain ⟨ys, h3, h4⟩ := ih h2
      exact ⟨x :: ys, h3.cons _, .cons h1 h4⟩
  | swap u v l =>
    cases ds with
    | nil => exact absurd r.nil_inv (by simp)
    | cons x xs =>
      obtain ⟨u', t, e, h1, h2⟩ := r.cons_inv
      cases e
      cases xs with
      | nil => exact absurd h2.nil_inv (by simp)
      | cons y zs =>
        obtain ⟨v', t, e, h3, h4⟩ := h2.cons_inv
        cases e
        exact ⟨y :: x :: zs, .swap _ _ _, .cons h3 (.cons h1 h4)⟩
  | trans _ _ ih1 ih2 =>
    obtain ⟨ys, h1, h2⟩ := ih1 r
    obtain ⟨zs, h3, h4⟩ := ih2 h2
    exact ⟨zs, h3.trans h1, h4⟩
theorem VRs.mem {ds : List D} {us : List V} (r : VRs K m H ds us) {u : V} (h : u ∈ us) : ∃ d, d ∈ ds ∧ VR K m H d u := by
  induction ds generalizing us with
  | nil => rw [r.nil_inv] at h; cases h
  | cons x xs ih =>
    obtain ⟨v, t, rfl, h1, h2⟩ := r.cons_inv
    rcases List.mem_cons.mp h with e | h
    · rw [e]; exact ⟨x, List.mem_cons_self, h1⟩
    · obtain ⟨d, h3, h4⟩ := ih h2 h
      exact ⟨d, List.mem_cons_of_mem _ h3, h4⟩
theorem VR.keyV {d : D} {u : V} (r : VR K m H d u) : Z.keyV u = keyD d := by
  cases d <;> simp only [VR] at r <;> first | (subst r; rfl) | (obtain ⟨a, us, rfl, _⟩ := r; rfl) | (obtain ⟨a, rfl, _⟩ := r; rfl)
theorem VRs.keysV {ds : List D} {us : List V} (r : VRs K m H ds us) : Z.keysV us = keysD ds := by
  induction ds generalizing us with
  | nil => rw [r.nil_inv]; rfl
  | cons x xs ih =>
    obtain ⟨v, t, rfl, h1, h2⟩ := r.cons_inv
    show Z.keyV v :: Z.keysV t = keyD x :: keysD xs
    rw [h1.keyV, ih h2]
theorem VR.tupOf {us : List D} {v : V} (r : VR K m H (.tup us) v) : VRs K m H us (Z.tupOf H v) := by
  simp only [VR] at r
  obtain ⟨a, ws, rfl, h1, h2⟩ := r
  rw [tupOf_ref h1]; exact h2
theorem SortD.v {ds : List D} {xs : List V} (h : SortD ds) (r : VRs K m H ds xs) : SortV H xs := by
  refine ⟨fun x hx => ?_, h.hd.imp (fun hd x hx => ?_) fun hd x hx => ?_, fun x hx y hy => ?_⟩
  · obtain ⟨d, hd, rd⟩ := r.mem hx
    obtain ⟨us, rfl, fl⟩ := h.tup d hd
    simp only [VR] at rd
    obtain ⟨a, ws, rfl, h1, h2⟩ := rd
    exact ⟨a, ws, rfl, h1, h2.flat fl⟩
  · obtain ⟨d, hd', rd⟩ := r.mem hx
    obtain ⟨i, r', rfl⟩ := hd d hd'
    obtain ⟨u, t, e, h1, _⟩ := rd.tupOf.cons_inv
    simp only [VR] at h1; subst h1
    exact ⟨i, t, e⟩
  · obtain ⟨d, hd', rd⟩ := r.mem hx
    obtain ⟨i, r', rfl⟩ := hd d hd'
    obtain ⟨u, t, e, h1, _⟩ := rd.tupOf.cons_inv
    simp only [VR] at h1; subst h1
    exact ⟨i, t, e⟩
  · obtain ⟨d, hd, rd⟩ := r.mem hx
    obtain ⟨e, he, re⟩ := r.mem hy
    obtain ⟨us, e1, f1⟩ := h.tup d hd
    obtain ⟨ws, e2, f2⟩ := h.tup e he
    have hl := h.lex d hd e he
    subst e1; subst e2
    have := lexV_D rd.tupOf re.tupOf f1 f2 hl
    rw [this, rd.tupOf.keysV, re.tupOf.keysV]; rfl
theorem SortD.pw {ds : List D} {xs : List V} (h : SortD ds) (r : VRs K m H ds xs) (p : xs.Pairwise fun x y => ltK (Z.keysV (tupOf H y)) (Z.keysV (tupOf H x)) = false) : ds.Pairwise fun a b => ltK (keyT b) (keyT a) = false := by
  have ht := h.tup
  clear h
  have key : ∀ {d : D} {x : V}, (∃ us, d = .tup us ∧ us.all D.flat = true) → VR K m H d x → Z.keysV (tupOf H x) = keyT d := by
    rintro _ x ⟨us, rfl, _⟩ rd
    exact rd.tupOf.keysV
  induction ds generalizing xs with
  | nil => exact .nil
  | cons d ds ih =>
    obtain ⟨v, t, rfl, h1, h2⟩ := r.cons_inv
    obtain ⟨p1, p2⟩ := List.pairwise_cons.mp p
    refine List.pairwise_cons.mpr ⟨fun e he => ?_, ih h2 p2 fun x hx => ht x (List.mem_cons_of_mem _ hx)⟩
    obtain ⟨i, hi, ei⟩ := List.mem_iff_getElem.mp he
    obtain ⟨u, hu, ru⟩ := h2.get (i := i) (x := e) (by rw [List.getElem?_eq_getElem hi, ei])
    have := p1 u (List.mem_of_getElem? hu)
    rw [key (ht d List.mem_cons_self) h1, key (ht e (List.mem_cons_of_mem _ he)) ru] at this
    exact this
end
def lSortI (wq : WA) : WA := fun env S Q => wq env S fun ds S1 => ∃ ns : List Int, ds = ns.map D.int ∧ ∀ ns' : List Int, ns'.Perm ns → ns'.Pairwise (· ≤ ·) → Q (ns'.map D.int) S1
def lSortS (wq : WA) : WA := fun env S Q => wq env S fun ds S1 => ∃ xs : List Str, ds = xs.map D.str ∧ ∀ ys : List Str, ys.Perm xs → ys.Pairwise (fun a b => ¬ b.cps.toList < a.cps.toList) → Q (ys.map D.str) S1
def lSortT (wq : WA) : WA := fun env S Q => wq env S fun ds S1 => SortD ds ∧ ∀ ys : List D, ys.Perm ds → ys.Pairwise (fun a b => ltK (keyT b) (keyT a) = false) → Q ys S1
/-- a dict's keys -/
def qKeys (w : WE) : WA := fun env S Q => w env S fun x S1 => match x with | .ref p => ∃ kvs, S1[p]? = some (.dK kvs) ∧ Q (kvs.map fun kv => kD kv.1) S1 | _ => False
def KtC (X : Cx) (m : List Addr) (H : Hp) (Q0 : List D → Sto → Prop) (Q : VK) : Prop := ∀ ds S' u us H' m', Q0 ds S' → Ext X.K m H m' H' → SR X.K m' H' S' → CollOk X H' u us → VRs X.K m' H' ds us → Q u H'
/-- what can be collected -/
structure FC (X : Cx) (e : Expr) (w : WA) : Prop where
  p : PE X e (fun σ H Q => ∃ env S m Q0, SR X.K m H S ∧ ER X.K m H env σ ∧ w env S Q0 ∧ KtC X m H Q0 Q)
section
variable {X : Cx} {a b e o : Expr} {es : List Expr} {w wa wb wo : WE} {wr wq : WA} {p p2 pos pos2 apos cpos : Pos}
theorem fc_q (h : FQ X e wq) : FC X e wq := by
  refine ⟨PE.imp h.p fun σ H Q ⟨env, S, m, Q0, s, r, h, k⟩ => ⟨env, S, m, Q0, s, r, h, fun ds S1 a us H1 m1 q1 e1 s1 sq v1 => ?_⟩⟩
  refine k _ _ _ _ _ _ q1 e1 s1 ?_ v1
  rcases sq with h | h
  · exact coll_list h
  · exact coll_tup (SqT.of h)
theorem vrs_keys {K : Frag} {m : List Addr} {H : Hp} {kvs : List (Key × D)} {us : List (Key × V)} (h : KVR K m H kvs us) : VRs K m H (kvs.map fun kv => kD kv.1) (us.map fun kv => kV kv.1) := by
  induction h with
  | nil => exact .nil
  | @cons k d v r t _ _ ih => exact .cons (by cases k <;> simp only [kD, kV, VR]) ih
theorem fc_keys (h : FE X e w) : FC X e (qKeys w) := by
  refine ⟨PE.imp h.p fun σ H Q ⟨env, S, m, Q0, s, r, h, k⟩ => ?_⟩
  refine lift_k s r h fun x S1 u H1 m1 q1 e1 s1 v1 => ?_
  cases x with
  | ref i =>
    simp only [VR] at v1
    obtain ⟨a, rfl, h2⟩ := v1
    obtain ⟨kvs, h3, q⟩ := q1
    obtain ⟨b, h4, us, h5, h6⟩ := s1.at_ i _ h3
    rw [h2] at h4; cases h4
    exact k _ _ _ _ _ _ q e1 s1 (coll_dK (.inl h5)) (vrs_keys h6)
  | _ => exact q1.elim
theorem fl_sortI (hc : X.calm = true) (hg : Gl X "sorted") (hm : X.mg "sorted" = none) (ha : FC X e wq) (hs : starEach [e] X.env = (false, eval e X.env) :: starEach [] X.env := by rfl) : FL X (.Call (.Name "sorted" p) [e] [] pos) (lSortI wq) := by
  refine ⟨PE.imp (pe_callB (cr_srtI hc) hg hm (by decide +kernel) (pa_cons ha.p pa_nil hs) (by decide) (by decide) hs rfl) fun σ H Q ⟨env, S, m, Q0, s, r, h, k⟩ => ?_⟩
  refine ⟨env, S, m, _, s, r, h, fun ds S1 u us H1 m1 q1 e1 s1 hcol v1 => ?_⟩
  obtain ⟨ns, rfl, q⟩ := q1
  rw [v1.ints] at hcol
  exact ⟨u, ns, rfl, hcol, fun ns' p h1 h2 hp => k.lst e1 s1 (VRs.of_ints ns') hp (e1.back s1 hp) (q ns' h1 h2)⟩
theorem fl_sortS (hc : X.calm = true) (hg : Gl X "sorted") (hm : X.mg "sorted" = none) (ha : FC X e wq) (hs : starEach [e] X.env = (false, eval e X.env) :: starEach [] X.env := by rfl) : FL X (.Call (.Name "sorted" p) [e] [] pos) (lSortS wq) := by
  refine ⟨PE.imp (pe_callB (cr_srtS hc) hg hm (by decide +kernel) (pa_cons ha.p pa_nil hs) (by decide) (by decide) hs rfl) fun σ H Q ⟨env, S, m, Q0, s, r, h, k⟩ => ?_⟩
  refine ⟨env, S, m, _, s, r, h, fun ds S1 u us H1 m1 q1 e1 s1 hcol v1 => ?_⟩
  obtain ⟨ns, rfl, q⟩ := q1
  rw [v1.strs] at hcol
  exact ⟨u, ns, rfl, hcol, fun ns' p h1 h2 hp => k.lst e1 s1 (VRs.of_strs ns') hp (e1.back s1 hp) (q ns' h1 h2)⟩
theorem fl_sortT (hc : X.calm = true) (hg : Gl X "sorted") (hm : X.mg "sorted" = none) (ha : FC X e wq) (hs : starEach [e] X.env = (false, eval e X.env) :: starEach [] X.env := by rfl) : FL X (.Call (.Name "sorted" p) [e] [] pos) (lSortT wq) := by
  refine ⟨PE.imp (pe_callB (cr_srtT hc) hg hm (by decide +kernel) (pa_cons ha.p pa_nil hs) (by decide) (by decide) hs rfl) fun σ H Q ⟨env, S, m, Q0, s, r, h, k⟩ => ?_⟩
  refine ⟨env, S, m, _, s, r, h, fun ds S1 u us H1 m1 q1 e1 s1 hcol v1 => ?_⟩
  obtain ⟨hS, q⟩ := q1
  refine ⟨u, us, rfl, hcol, hS.v v1, fun ys p h1 h2 hp => ?_⟩
  obtain ⟨ds', h3, h4⟩ := perm_vrs v1 h1
  have hS' : SortD ds' := ⟨fun x hx => hS.tup x (h3.mem_iff.mp hx), hS.hd.imp (fun h x hx => h x (h3.mem_iff.mp hx)) fun h x hx => h x (h3.mem_iff.mp hx), fun x hx y hy => hS.lex x (h3.mem_iff.mp hx) y (h3.mem_iff.mp hy)⟩
  exact k.lst e1 s1 h4 hp (e1.back s1 hp) (q ds' h3 (hS'.pw h4 h2))
end
end Z
namespace Z
open PySem PySem.Spec PyProof.Rows L2 RZ
theorem at0 {α : Type} {x : α} {l : List α} : atI (x :: l) 0 = some x := atI_nat (xs := x :: l) (j := 0) rfl
theorem at1 {α : Type} {x y : α} {l : List α} : atI (x :: y :: l) 1 = some y := atI_nat (xs := x :: y :: l) (j := 1) rfl
theorem ix0 {n : Nat} : ixN (n + 1) 0 = some 0 := by unfold ixN; rw [if_pos (by decide), if_pos (by omega)]; rfl
theorem at2 {α : Type} {x y z : α} {l : List α} : atI (x :: y :: z :: l) 2 = some z := atI_nat (xs := x :: y :: z :: l) (j := 2) rfl
theorem ix2 {n : Nat} : ixN (n + 3) 2 = some 2 := by unfold ixN; rw [if_pos (by decide), if_pos (by omega)]; rfl

/-! list(text), text.upper(), abs(int) -/
def iSigns (w : WE) : WA := fun env S Q => w env S fun x S1 => match x with | .str z => z.length ≤ sizeLine ∧ Q (signs z) S1 | _ => False
def wUpper (w : WE) : WE := fun env S Q => w env S fun x S1 => match x with | .str z => z.length ≤ 5592405 ∧ Q (.str (Txt.upper z)) S1 | _ => False
def wAbs (w : WE) : WE := fun env S Q => w env S fun x S1 => match x with | .int i => Q (.int (if i < 0 then -i else i)) S1 | _ => False
theorem vals_signs {x : Str} {acc : Array Value} (h : ItemsOf (SignAt x) acc x.cps.size) : Vals ((x.cps.toList.map fun c => T [c]).map V.str) acc.toList := by
  have key : ∀ (cs : List Nat) (us : List Value), us.length = cs.length → (∀ (j : Nat) v, us[j]? = some v → ∃ c u, cs[j]? = some c ∧ v = Value.str ⟨#[c]⟩ u) → Vals ((cs.map fun c => T [c]).map V.str) us := by
    intro cs
    induction cs with
    | nil => intro us hl _; cases us with | nil => exact .nil | cons _ _ => simp at hl
    | cons c cs ih =>
      intro us hl hk
      cases us with
      | nil => simp at hl
      | cons u us =>
        obtain ⟨c', t, h1, rfl⟩ := hk 0 u rfl
        simp at h1; subst h1
        refine .cons ⟨t, rfl⟩ (ih us (by simpa using hl) fun j v hj => ?_)
        obtain ⟨c', t', h1, h2⟩ := hk (j + 1) v (by simpa using hj)
        exact ⟨c', t', by simpa using h1, h2⟩
  refine key _ _ (by rw [Array.length_toList, h.1]; simp) fun j v hj => ?_
  obtain ⟨c, u, h1, h2⟩ := h.2 j v (by rw [← Array.getElem?_toList]; exact hj)
  exact ⟨c, u, by rw [Array.getElem?_toList]; exact h1, h2⟩
section
variable {X : Cx} {a b e o : Expr} {w wa wb wo : WE} {p p2 pos pos2 apos cpos : Pos}
theorem call_list_text (hc : X.calm = true) : CallR X (.type "list") (fun xs H Q => ∃ z, xs = [.str z] ∧ z.length ≤ sizeLine ∧ ∀ l, H l = none → Q (.ref l) (upd H l (.lst ((z.cps.toList.map fun c => T [c]).map V.str)))) := by
  intro pins s σ H xs us Q I r ⟨z, e, hz, q⟩
  subst e
  obtain ⟨u, rfl, t, rfl⟩ := vals1 r
  refine call_list_str (I.ok.hd hc) z t (fun h' tk acc' c' hk hS' hacc => ?_) hz
  refine ⟨.ref s.heap.objs.size, upd H s.heap.objs.size (.lst ((z.cps.toList.map fun c => T [c]).map V.str)), I.laid (t' := tk) hk (Nat.le_refl _) ⟨?_, acc'.toList, c', vals_signs hacc, by simpa [seqObj] using hS'⟩, rfl, q _ (I.hok.fresh (Nat.le_refl _))⟩
  rw [List.length_map, List.length_map, Array.length_toList]; exact hz
theorem fl_listS (hc : X.calm = true) (hg : Gl X "list") (hm : X.mg "list" = none) (ha : FE X e w) (hs : starEach [e] X.env = (false, eval e X.env) :: starEach [] X.env := by rfl) : FL X (.Call (.Name "list" p) [e] [] pos) (iSigns w) := by
  refine ⟨PE.imp (pe_callTy (call_list_text hc) hg hm (by decide +kernel) (pa_cons ha.p pa_nil hs) (by decide) (by decide) hs rfl) fun σ H Q ⟨env, S, m, Q0, s, r, h, k⟩ => ?_⟩
  refine lift_k s r h fun x S1 u H1 m1 q1 e1 s1 v1 => ?_
  cases x with
  | str z =>
    simp only [VR] at v1; subst v1
    refine ⟨z, rfl, q1.1, fun l hl => k.lst e1 s1 ?_ hl (e1.back s1 hl) q1.2⟩
    have : signs z = (z.cps.toList.map fun c => T [c]).map D.str := by unfold signs; rw [List.map_map]; rfl
    rw [this]; exact VRs.of_strs _
  | _ => exact q1.elim
theorem fe_upper (ho : FE X o wo) (hbase : attributeBase o "upper" X.env (eval o X.env) = eval o X.env := by rfl) (hline : (apos.endLine == pos.line) = true := by rfl) : FE X (.Call (.Attribute o "upper" apos) [] [] pos) (wUpper wo) := by
  refine ⟨PE.imp (pe_upper ho.p hbase hline) fun σ H Q ⟨env, S, m, Q0, s, r, h, k⟩ => ?_⟩
  refine lift_k s r h fun x S1 u H1 m1 q1 e1 s1 v1 => ?_
  cases x with
  | str z => simp only [VR] at v1; subst v1; exact ⟨⟨_, rfl⟩, z, rfl, rfl, q1.1, (k.ext e1).v s1 q1.2 (by simp only [VR])⟩
  | _ => exact q1.elim
theorem fe_abs (hg : Gl X "abs") (hm : X.mg "abs" = none) (ha : FE X e w) (hs : starEach [e] X.env = (false, eval e X.env) :: starEach [] X.env := by rfl) : FE X (.Call (.Name "abs" p) [e] [] pos) (wAbs w) := by
  refine ⟨PE.imp (pe_callB call_abs hg hm (by decide +kernel) (pa_cons ha.p pa_nil hs) (by decide) (by decide) hs rfl) fun σ H Q ⟨env, S, m, Q0, s, r, h, k⟩ => ?_⟩
  refine lift_k s r h fun x S1 u H1 m1 q1 e1 s1 v1 => ?_
  cases x with
  | int i => simp only [VR] at v1; subst v1; exact ⟨i, rfl, (k.ext e1).v s1 q1 (by simp only [VR])⟩
  | _ => exact q1.elim
end
theorem upper_T {l : List Nat} (h : ∀ c ∈ l, c < 128) : ∃ l', Txt.upper (T l) = T l' ∧ l'.length = l.length := by
  refine ⟨l.map PyProof.Rows.up1, ?_, by simp⟩
  exact SX.upper_S (List.all_eq_true.mpr fun c hc => decide_eq_true (h c hc))

theorem upper_T' {l : List Nat} (h : ∀ c ∈ l, c < 128) : ∃ l', Txt.upper (T l) = T l' ∧ ∀ c ∈ l', c < 128 := by
  refine ⟨l.map PyProof.Rows.up1, SX.upper_S (List.all_eq_true.mpr fun c hc => decide_eq_true (h c hc)), fun c hc => ?_⟩
  obtain ⟨d, hd, rfl⟩ := List.mem_map.mp hc
  have := h d hd
  unfold PyProof.Rows.up1
  split <;> omega
theorem tyIn_mono {x : D} {S : Sto} {R R' : Ty → Prop} (h : tyIn x S R) (i : ∀ t, R t → R' t) : tyIn x S R' := by
  cases x with
  | ref p =>
    obtain ⟨o, h1, h2⟩ := h
    refine ⟨o, h1, ?_⟩
    cases o <;> first | exact i _ h2 | exact h2
  | _ => first | exact i _ h | exact h
theorem isi_mono {i : Nat} {a : D} {env : En} {S : Sto} {Q : WK} {T : Ty} {R : Ty → Prop} (he : env[i]? = some (some a)) (h : tyIn a S R) (k : ∀ t, R t → Q (.bl (Ty.sub t T)) S) : wIsi T (wVar i) env S Q := by
  unfold wIsi wVar
  rw [he]
  exact tyIn_mono h k
theorem okL_strs (l : List (List Nat)) (h : ∀ x ∈ l, ∀ c ∈ x, c < 1114112) : okL (l.map fun x => D.str (T x)) :=
  okL_fit (fits_map _ _ fun a ha => by simp only [D.fit, T_toList]; exact h a ha) (Nat.le_trans (deps_map _ 0 _ fun a _ => by simp [D.dep]) (by omega))
end Z
namespace Z
open PySem PySem.Spec PyProof.Rows L2 RZ

section
variable {P : Program} {w : World} {A : Around} {E : Value → Shared → Prop} {s : Shared}
set_option maxHeartbeats 3200000 in
/-- set(list of ints): its members, with the order that the world keeps -/
theorem call_set_lstI {l : Addr} {items : Array Value} (ns : List Int) {Q : Value → Shared → Prop} (hh : A.handled = none) (hl : s.heap.IsList l items) (hit : IntsAre items.toList ns) (hb : ns.length + 1 < scanBound)
    (h : ∀ (h' : Heap) (tk c : Nat), SetR w h' s.heap.objs.size (fun j => decide (j ∈ ns)) c → c ≤ ns.length → (∀ b o, s.heap.get? b = some o → h'.get? b = some o) → Q (.ref s.heap.objs.size) { s with heap := h', toks := tk }) :
    wpAny (model P w) A (call (.type "set") [.ref l]) Q E s := by
  have hisz : items.size = ns.length := by
    have q := IntsAre.length hit
    rw [Array.length_toList] at q
    exact q
  have hval : ∀ (i : Nat) (v : Value), items[i]? = some v → ∃ k t, ns[i]? = some k ∧ v = .int k t := fun i v hv => by
    have hi : i < ns.length := by rw [← hisz]; exact (Array.getElem?_eq_some_iff.mp hv).1
    obtain ⟨t, e⟩ := PyProof.Rows.IntsAre.int_at hit i v (by rw [Array.getElem?_toList]; exact hv)
    refine ⟨ns[i], t, List.getElem?_eq_getElem hi, ?_⟩
    rw [e, List.getD_eq_getElem?_getD, List.getElem?_eq_getElem hi] <;> rfl
  have hz1 : (s.heap.push { cls := .type "set", dict := none, data := .set #[] 0 (.fresh 0 0 (!w.params.followText "set-order")) }).objs.size = s.heap.objs.size + 1 := Heap.size_push ..
  have hS : (s.heap.push { cls := .type "set", dict := none, data := .set #[] 0 (.fresh 0 0 (!w.params.followText "set-order")) }).get? s.heap.objs.size = some { cls := .type "set", dict := none, data := .set #[] 0 (.fresh 0 0 (!w.params.followText "set-order")) } := Heap.get?_push_size _ rfl
  have hlS : l < s.heap.objs.size := let ⟨_, hol, _⟩ := hl; Heap.lt_size hol
  obtain ⟨c, tl, hmro⟩ := F.called_set.mro
  have hmade := F.called_set.made
  have hsub := F.called_set.sub
  refine wpAny_call (codeAny_of_tree ?_)
  show wpAny _ _ (callAny (.type "set") _) _ _ _
  refine wpAny_pure ⟨Code.quiet_builtin _ (by decide +kernel), codeAny_builtin F.entry_type_call ?_⟩
  rw [Around.under_plain (weight_type_call_type "set" [.ref l] []) rfl]
  have h1 := F.called_set.notType
  have h2 := F.called_set.canCreate
  have hct := F.typeCall_set_1 (.ref l)
  repeat (any_goals (first | assumption | wp_step))
  refine codeAny_mono (code_set_led1 (.ref l) (E := E) (Q₁ := fun obj s₁ => obj = .ref s.heap.objs.size ∧ s₁ = { s with heap := s.heap.push { cls := .type "set", dict := none, data := .set #[] 0 (.fresh 0 0 (!w.params.followText "set-order")) } }) ⟨rfl, rfl⟩) fun r s₁ hr => ?_
  cases r with
  | error e => exact hr
  | ok fl =>
    cases fl with
    | ret obj =>
      obtain ⟨rfl, rfl⟩ := hr
      have hT : Shared.TypeIs { s with heap := s.heap.push { cls := .type "set", dict := none, data := .set #[] 0 (.fresh 0 0 (!w.params.followText "set-order")) } } (.ref s.heap.objs.size) "set" := ⟨_, hS, rfl⟩
      have hli := F.called_set.init.lookup
      have hbi := F.called_set.init.bind (.ref s.heap.objs.size)
      repeat (any_goals (first | assumption | wp_step))
      refine codeAny_mono (codeAny_call_builtin (R := wants (fun r s₂ => r = .none ∧ ∃ h' tk c, s₂ = { s with heap := h', toks := tk } ∧ SetR w h' s.heap.objs.size (fun j => decide (j ∈ ns)) c ∧ c ≤ ns.length ∧
          (∀ b o, s.heap.get? b = some o → h'.get? b = some o)) E) F.called_set.init.plain F.entry_set_init (check_set_init_1 hT ?_)) fun r₂ s₂ hr₂ => ?_
      · obtain ⟨⟨ocls, odict, odata, oslots⟩, hol, hcl, nl, hdl⟩ := hl
        simp only at hcl hdl
        subst hcl; subst hdl
        have hol' : (s.heap.push { cls := .type "set", dict := none, data := .set #[] 0 (.fresh 0 0 (!w.params.followText "set-order")) }).get? l = some { cls := .type "list", dict := odict, data := .seq items nl, slots := oslots } := Heap.get?_push_of_some _ hol
        have hl1 : (s.heap.push { cls := .type "set", dict := none, data := .set #[] 0 (.fresh 0 0 (!w.params.followText "set-order")) }).IsList l items := ⟨_, hol', rfl, nl, rfl⟩
        have hsls := F.sub_list_set
        have hslf := F.sub_list_frozenset
        have hne : (Value.type "list" == Value.type "dict") = false := by decide
        unfold Builtin.«set.__init__» noKeywords Builtin.Frozenset.updateFrom
        generalize hPI : pyIter = PI
        wp_walk
        subst hPI
        refine wpAny_pyIter_list hl1 ?_
        refine wpAny_bind (wpAny_runValue ?_)
        have hh3 : A.in1.in1.in1.handled = none := by simp [hh]
        have hneI : l ≠ (s.heap.push { cls := .type "set", dict := none, data := .set #[] 0 (.fresh 0 0 (!w.params.followText "set-order")) }).objs.size := by rw [hz1]; exact Nat.ne_of_lt (Nat.lt_succ_of_lt hlS)
        refine set_update_ints ((Walks.list hh3 _ l hneI items).toS) s.heap.objs.size (by
            rw [hz1]; simp only [List.mem_cons, List.mem_singleton, List.not_mem_nil, or_false, not_or]
            exact ⟨Nat.ne_of_lt (Nat.lt_succ_self _), Nat.ne_of_gt hlS⟩) ns hisz hb hval (items.size - 0) 0 _ (by omega) (Nat.zero_le _)
          ⟨⟨_, Heap.get?_push_size _ rfl, rfl, rfl⟩, (hl1.push _)⟩ ⟨0, Nat.le_refl 0, setR_new_at (Heap.get?_push_of_some _ hS)⟩ fun s' c' hm hc' hS' => ?_
        obtain ⟨h', g2, d', tk', os'⟩ := s'
        have eg : g2 = s.gens := hm.gens
        have ed : d' = s.drawn := hm.drawn
        have eo : os' = s.os := hm.os
        subst eg; subst ed; subst eo
        show wpAny _ _ _ _ _ _
        refine wpAny_pure ?_
        show wpAny _ _ (ret Value.none) _ _ _
        rw [hisz] at hc'
        refine wpAny_pure ⟨rfl, h', tk', c', rfl, hS', hc', fun b o e => ?_⟩
        have hb0 : b < s.heap.objs.size := Heap.lt_size e
        refine hm.heap b o ?_ (Heap.get?_push_of_some _ (Heap.get?_push_of_some _ e))
        simp only [List.mem_cons, List.mem_singleton, List.not_mem_nil, or_false, not_or, hz1]
        exact ⟨Nat.ne_of_lt hb0, Nat.ne_of_lt (Nat.lt_succ_of_lt hb0)⟩
      · cases r₂ with
        | error e => exact hr₂
        | ok fl₂ =>
          cases fl₂ with
          | ret r =>
            obtain ⟨rfl, h', tk, c', rfl, hS', hc', hk'⟩ := hr₂
            repeat (any_goals (first | assumption | wp_step))
            exact h _ _ _ hS' hc' hk'
          | _ => exact hr₂.elim
    | _ => exact hr.elim
end
end Z
namespace Z
open PySem PySem.Spec PyProof.Rows L2 RZ

def tSortSet (K : Frag) (ta : TE) : TE := fun σ H Q => ta σ H fun x H1 => ∃ (l : Addr) (ns : List Int), x = .ref l ∧ (SqL K H1 l (ns.map V.int) ∨ SqT K H1 l (ns.map V.int)) ∧ ns.length ≤ 4000 ∧
  ∀ (ns' : List Int) (p : Addr), ns'.Pairwise (· < ·) → (∀ k, k ∈ ns' ↔ k ∈ ns) → H1 p = none → Q (.ref p) (upd H1 p (.lst (ns'.map V.int)))
theorem ints_perm {vs : List Value} (h : ∀ v ∈ vs, ∃ k t, v = Value.int k t) : IntsAre vs (vs.map Builtin.Re.reRawOf) := ints_of vs fun v hv => h v hv
theorem pe_sortSet {X : Cx} {a : Expr} {ta : TE} {p p2 q pos : Pos} (hg : Gl X "sorted") (hm : X.mg "sorted" = none) (hg2 : Gl X "set") (hm2 : X.mg "set" = none) (ha : PE X a ta) (hc : X.calm = true := by rfl)
    (na : starEach [a] X.env = (false, eval a X.env) :: starEach [] X.env := by rfl) : PE X (.Call (.Name "sorted" p) [.Call (.Name "set" p2) [a] [] q] [] pos) (tSortSet X.K ta) := by
  refine ⟨fun pins s σ H Q I h => ?_⟩
  refine Call_ (ld_blt I hg hm (u := .builtin "sorted") (by decide +kernel) ?_)
  refine PyProof.Rows.callWith_builtin1 (PyProof.Rows.args_cons ?_ rfl) rfl rfl
  refine Call_ (ld_blt I hg2 hm2 boot_set ?_)
  refine PyProof.Rows.callWith_type1 (PyProof.Rows.args_cons (thn (ha.run pins s σ H _ I h) fun v s1 ⟨x, H1, I1, r1, q1⟩ => PyProof.Rows.args_nil ?_) na) na rfl
  obtain ⟨l, ns, rfl, hq, hl, q1⟩ := q1
  cases r1
  have fin : ∀ (h' : Heap) (tk c : Nat), SetR X.w h' s1.heap.objs.size (fun j => decide (j ∈ ns)) c → c ≤ ns.length → (∀ b o, s1.heap.get? b = some o → h'.get? b = some o) →
      wpAny (model X.prog X.w) X.A (call (.builtin "sorted") [.ref s1.heap.objs.size]) (EP X pins σ Q) X.xe { s1 with heap := h', toks := tk } := by
    intro h' tk c R hcn hk
    have I2 : Inv X pins σ H1 { s1 with heap := h', toks := tk } := I1.kept hk
    obtain ⟨o, es, ep, t, ho, hex, hd, g, nd, hm', hb, hf, hn, hr, hl'⟩ := R
    have hsz : es.toList.length = c := by rw [Array.length_toList]; exact hn
    refine sorted_gen (Pv := fun its => its.Perm (es.toList.map (·.2))) SrtO.swo_int (fun R' hR => ?_) (fun its hp => ?_) (fun its hp h2 s2 a' kk => ?_) fun s' p' out c' its hp k g' o' hp' hg' a1 a2 => ?_
    · refine collect_set (I2.ok.hd hc) ⟨o, ho, hex.1, hd⟩ hf hb hr hl' fun s3 vs k1 hz g1 o1 pm => hR s3 vs k1 g1 o1 pm
    · rw [hp.length_eq, List.length_map, hsz]; rw [sizeLine_eq]; omega
    · have hI : IntsAre its (its.map Builtin.Re.reRawOf) := ints_perm fun v hv => by
        obtain ⟨e, he, q⟩ := List.mem_map.mp (hp.mem_iff.mp hv)
        obtain ⟨k', tk', h1, _⟩ := g e he
        exact ⟨k', tk', by rw [← q]; exact h1⟩
      exact SrtO.ints_sortable hI h2
    · have hI : IntsAre its (its.map Builtin.Re.reRawOf) := ints_perm fun v hv => by
        obtain ⟨e, he, q⟩ := List.mem_map.mp (hp.mem_iff.mp hv)
        obtain ⟨k', tk', h1, _⟩ := g e he
        exact ⟨k', tk', by rw [← q]; exact h1⟩
      obtain ⟨k1, k2, k3⟩ := SrtO.ints_out hI a1 a2
      have pk : (its.map Builtin.Re.reRawOf).Perm (es.toList.map keyOf) := by
        have := hp.map Builtin.Re.reRawOf
        rw [List.map_map] at this
        exact this
      have pn := k2.trans pk
      refine srt_end I2 k g' o' hp' hg' (vals_of_ints k1) ?_ fun hnn => q1 _ _ (lt_of_le_nodup _ k3 (pn.nodup_iff.mpr nd)) (fun k' => ?_) hnn
      · rw [List.length_map, pn.length_eq, List.length_map, hsz]; rw [sizeLine_eq]; omega
      · rw [pn.mem_iff, ← hm' k']; simp
  rcases hq with hq | hq
  · obtain ⟨its, r, pl, hz⟩ := I1.list hq
    exact call_set_lstI (A := X.A) ns (I1.ok.hd hc) pl.isList (by simpa using intsAre_vals r) (by unfold scanBound; omega) fun h' tk c R hcn hk => PyProof.Rows.args_nil (fin h' tk c R hcn hk)
  · obtain ⟨its, r, pl, hz⟩ := I1.tuple hq
    exact call_set_tupI (A := X.A) ns (I1.ok.hd hc) pl (by simpa using intsAre_vals r) (by unfold scanBound; omega) fun h' tk c R hcn hk => PyProof.Rows.args_nil (fin h' tk c R hcn hk)
def lSortSet (wq : WA) : WA := fun env S Q => wq env S fun ds S1 => ∃ ns : List Int, ds = ns.map D.int ∧ ns.length ≤ 4000 ∧ ∀ ns' : List Int, ns'.Pairwise (· < ·) → (∀ k, k ∈ ns' ↔ k ∈ ns) → Q (ns'.map D.int) S1
theorem fl_sortSet {X : Cx} {a : Expr} {wq : WA} {p p2 q pos : Pos} (hg : Gl X "sorted") (hm : X.mg "sorted" = none) (hg2 : Gl X "set") (hm2 : X.mg "set" = none) (hc : X.calm = true) (ha : FQ X a wq)
    (na : starEach [a] X.env = (false, eval a X.env) :: starEach [] X.env := by rfl) : FL X (.Call (.Name "sorted" p) [.Call (.Name "set" p2) [a] [] q] [] pos) (lSortSet wq) := by
  refine ⟨PE.imp (pe_sortSet hg hm hg2 hm2 ha.p hc na) fun σ H Q ⟨env, S, m, Q0, s, r, h, k⟩ => ?_⟩
  refine ⟨env, S, m, _, s, r, h, fun ds S1 a us H1 m1 q1 e1 s1 sq v1 => ?_⟩
  obtain ⟨ns, rfl, h4, q⟩ := q1
  rw [v1.ints] at sq
  exact ⟨a, ns, rfl, sq.imp (fun h => h) fun h => SqT.of h, h4, fun ns' p h1 h2 hp => k.lst e1 s1 (VRs.of_ints ns') hp (e1.back s1 hp) (q ns' h1 h2)⟩
end Z
namespace Z
open PySem PySem.Spec PyProof.Rows L2 RZ

/-! d == {}, d != {}, len(d) -/
def rDE (f : Bool → Bool) : R2 := fun x y H Q => ∃ a b ks, x = .ref a ∧ y = .ref b ∧ H a = some (.dK ks) ∧ H b = some (.dK []) ∧ Q (.bl (f ks.isEmpty)) H
section
variable {X : Cx}
theorem hits_nil {P : Program} {w : World} {A : Around} {s : Shared} {va : List (Key × Value)} (h : va.length = ([] : List (Key × Value)).length) : PySem.W.KeqHits A s ([] : List (Key × Value)) va true := by
  have : va = [] := List.length_eq_zero_iff.mp h
  subst this
  exact hits_all (kvs := []) .nil (ks := []) .nil (fun _ h => nomatch h)
theorem op_eqDE (hu : X.A.units < cLine) : OpR X (compareOp .Eq) (rDE id) := by
  intro pins s σ H x y v u Q I rx ry ⟨a, b, ks, ex, ey, ea, eb, q⟩
  subst ex; subst ey
  obtain rfl : v = Value.ref a := rx
  obtain rfl : u = Value.ref b := ry
  obtain ⟨_, ya, va, ra, da⟩ := (show ObjOk X.prog X.w H s.heap a (.dK ks) from I.hok a _ ea)
  obtain ⟨_, yb, vb, rb, db⟩ := (show ObjOk X.prog X.w H s.heap b (.dK []) from I.hok b _ eb)
  cases rb
  refine PySem.W.keq_eq (knd := mixKind X.prog X.w) (r := true) ya yb da db hu (fun h => hits_nil (P := X.prog) (w := X.w) h) (fin_bl I q ?_)
  have := KV.length ra
  cases ks <;> cases va <;> simp at this ⊢
theorem op_neDE (hu : X.A.units < cLine) : OpR X (compareOp .NotEq) (rDE not) := by
  intro pins s σ H x y v u Q I rx ry ⟨a, b, ks, ex, ey, ea, eb, q⟩
  subst ex; subst ey
  obtain rfl : v = Value.ref a := rx
  obtain rfl : u = Value.ref b := ry
  obtain ⟨_, ya, va, ra, da⟩ := (show ObjOk X.prog X.w H s.heap a (.dK ks) from I.hok a _ ea)
  obtain ⟨_, yb, vb, rb, db⟩ := (show ObjOk X.prog X.w H s.heap b (.dK []) from I.hok b _ eb)
  cases rb
  refine PySem.W.keq_ne (knd := mixKind X.prog X.w) (r := true) ya yb da db hu (fun h => hits_nil (P := X.prog) (w := X.w) h) (fin_bl I q ?_)
  have := KV.length ra
  cases ks <;> cases va <;> simp at this ⊢
def dDE (f : Bool → Bool) : R2D := fun x y S Q => match x, y with | .ref p, .ref q => ∃ ks, S[p]? = some (.dK ks) ∧ S[q]? = some (.dK []) ∧ Q (.bl (f ks.isEmpty)) S | _, _ => False
theorem sim_DE (f : Bool → Bool) : Sim2 X.K (rDE f) (dDE f) := by
  intro m H S x y u v Q0 Q s rx ry h k
  cases x <;> cases y <;> simp only [dDE] at h <;> first | exact h.elim | skip
  simp only [VR] at rx ry
  obtain ⟨a, rfl, h1⟩ := rx
  obtain ⟨b, rfl, h2⟩ := ry
  obtain ⟨ks, h3, h4, q⟩ := h
  obtain ⟨a', e1, us, h5, h6⟩ := s.at_ _ _ h3
  obtain ⟨b', e2, ws, h7, h8⟩ := s.at_ _ _ h4
  rw [h1] at e1; cases e1
  rw [h2] at e2; cases e2
  cases h8
  refine ⟨a, b, us, rfl, rfl, h5, h7, k.v s q ?_⟩
  have : ks.isEmpty = us.isEmpty := by cases h6 <;> rfl
  rw [this]; simp only [VR]
theorem call_lenD : CallR X (.builtin "len") (fun xs H Q => ∃ a kvs, xs = [.ref a] ∧ H a = some (.dK kvs) ∧ Q (.int kvs.length) H) := by
  intro pins s σ H xs us Q I r ⟨a, kvs, e, ha, q⟩
  subst e
  obtain ⟨u, rfl, rv⟩ := vals1 r
  cases rv
  exact d_len I (.inl ha) fun t s' I' => ⟨.int kvs.length, H, I', ⟨t, rfl⟩, q⟩
def wLenD (w : WE) : WE := fun env S Q => w env S fun x S1 => match x with | .ref p => ∃ kvs, S1[p]? = some (.dK kvs) ∧ Q (.int kvs.length) S1 | _ => False
theorem fe_lenD {e : Expr} {w : WE} {p pos : Pos} (hg : Gl X "len") (hm : X.mg "len" = none) (ha : FE X e w) (hs : starEach [e] X.env = (false, eval e X.env) :: starEach [] X.env := by rfl) : FE X (.Call (.Name "len" p) [e] [] pos) (wLenD w) := by
  refine ⟨PE.imp (pe_callB call_lenD hg hm (by decide +kernel) (pa_cons ha.p pa_nil hs) (by decide) (by decide) hs rfl) fun σ H Q ⟨env, S, m, Q0, s, r, h, k⟩ => ?_⟩
  refine lift_k s r h fun x S1 u H1 m1 q1 e1 s1 v1 => ?_
  cases x with
  | ref i =>
    simp only [VR] at v1
    obtain ⟨a, rfl, h2⟩ := v1
    obtain ⟨kvs, h3, q⟩ := q1
    obtain ⟨b, e2, us, h5, h6⟩ := s1.at_ _ _ h3
    rw [h2] at e2; cases e2
    exact ⟨a, us, rfl, h5, (k.ext e1).v s1 q (by rw [h6.length]; simp only [VR])⟩
  | _ => exact q1.elim
end
theorem nodup_len {α : Type} [DecidableEq α] : ∀ (l m : List α), l.Nodup → (∀ x ∈ l, x ∈ m) → l.length ≤ m.length
  | [], _, _, _ => Nat.zero_le _
  | x :: l, m, hn, hs => by
    obtain ⟨h1, h2⟩ := List.nodup_cons.mp hn
    have hx : x ∈ m := hs x List.mem_cons_self
    have ih := nodup_len l (m.erase x) h2 fun y hy => (List.mem_erase_of_ne (show y ≠ x from fun e => h1 (e ▸ hy))).2 (hs y (List.mem_cons_of_mem _ hy))
    have e := List.length_erase_of_mem hx
    have hp : 0 < m.length := List.length_pos_of_mem hx
    rw [List.length_cons]; omega
theorem atI_int {α : Type} {xs : List α} {i : Int} {v : α} (h0 : 0 ≤ i) (h : xs[i.toNat]? = some v) : atI xs i = some v := by
  have e : i = (i.toNat : Int) := by omega
  rw [e]; exact atI_nat h
end Z
namespace Z
open PySem PySem.Spec PyProof.Rows L2 RZ
/-! names, ties, stands -/
def sigs (ls : List Nat) : List D := ls.map fun c => D.str (T [c])
def okName (x : List Nat) : Prop := 1 ≤ x.length ∧ x.length ≤ 8 ∧ ∀ c ∈ x, c ∈ letters
abbrev Tie := List Nat × Nat × Nat × Int
def tailD (t : Tie) : D := .tup [.int (t.2.1 : Int), .int (t.2.2.1 : Int), .int t.2.2.2]
def tieD (t : Tie) : D := .tup [.str (T t.1), .int (t.2.1 : Int), .int (t.2.2.1 : Int), .int t.2.2.2]
def stD (ts : List Tie) : D := .tup (ts.map tieD)
structure GoodTie (m : Nat) (t : Tie) : Prop where
  nm : okName t.1
  one : t.2.1 < m
  other : t.2.2.1 < m
  ne : t.2.1 ≠ t.2.2.1
  w0 : 0 ≤ t.2.2.2
  w1 : t.2.2.2 ≤ 1000000000
structure GoodStand (m : Nat) (ts : List Tie) : Prop where
  len : ts.length ≤ 60
  tie : ∀ t ∈ ts, GoodTie m t
  srt : ts.Pairwise fun s t => s.1 < t.1
/-- the ties that are there, in the order of their coming, as a dict -/
def dictD (ts : List Tie) : List (Key × D) := ts.map fun t => (.inr (T t.1), tailD t)
theorem valX_mem {κ α : Type} [DecidableEq κ] {kvs : List (κ × α)} {k : κ} (h : k ∈ kvs.map (·.1)) : ∃ v, valX kvs k = some v ∧ (k, v) ∈ kvs := by
  induction kvs with
  | nil => cases h
  | cons p r ih =>
    by_cases e : p.1 = k
    · exact ⟨p.2, valX_pos e, by rw [← e]; exact List.mem_cons_self⟩
    · rw [List.map_cons] at h
      rcases List.mem_cons.mp h with h | h
      · exact absurd h.symm e
      · obtain ⟨v, h1, h2⟩ := ih h
        exact ⟨v, by rw [valX_neg e]; exact h1, List.mem_cons_of_mem _ h2⟩
theorem valX_none {κ α : Type} [DecidableEq κ] {kvs : List (κ × α)} {k : κ} (h : k ∉ kvs.map (·.1)) : valX kvs k = none := by
  induction kvs with
  | nil => rfl
  | cons p r ih =>
    rw [List.map_cons] at h
    rw [valX_neg (fun e => h (by rw [← e]; exact List.mem_cons_self))]
    exact ih fun z => h (List.mem_cons_of_mem _ z)
theorem dict_look {ts : List Tie} {t : Tie} (h : t ∈ ts) : ∃ u ∈ ts, valX (dictD ts) (.inr (T t.1)) = some (tailD u) ∧ u.1 = t.1 := by
  obtain ⟨v, h1, h2⟩ := valX_mem (kvs := dictD ts) (k := .inr (T t.1)) (List.mem_map.mpr ⟨_, List.mem_map.mpr ⟨t, h, rfl⟩, rfl⟩)
  obtain ⟨u, hu, e⟩ := List.mem_map.mp h2
  have e1 := congrArg Prod.fst e
  have e2 := congrArg Prod.snd e
  simp only at e1 e2
  exact ⟨u, hu, by rw [h1, ← e2], T_inj (Sum.inr.inj e1)⟩
theorem dict_isSome (ts : List Tie) (x : List Nat) : (valX (dictD ts) (.inr (T x))).isSome = decide (x ∈ ts.map (·.1)) := by
  by_cases h : x ∈ ts.map (·.1)
  · rw [decide_eq_true h]
    obtain ⟨t, ht, rfl⟩ := List.mem_map.mp h
    obtain ⟨u, _, e, _⟩ := dict_look ht
    rw [e]; rfl
  · rw [decide_eq_false h]
    rw [valX_none]; rfl
    intro h2
    obtain ⟨p, hp, e⟩ := List.mem_map.mp h2
    obtain ⟨t, ht, rfl⟩ := List.mem_map.mp hp
    exact h (List.mem_map.mpr ⟨t, ht, T_inj (Sum.inr.inj e)⟩)
theorem dict_put {ts : List Tie} {t : Tie} (h : t.1 ∉ ts.map (·.1)) : putX (dictD ts) (.inr (T t.1)) (tailD t) = dictD (ts ++ [t]) := by
  unfold putX
  rw [if_neg]
  · unfold dictD; rw [List.map_append]; rfl
  · intro h2
    obtain ⟨p, hp, e⟩ := List.any_eq_true.mp h2
    obtain ⟨u, hu, rfl⟩ := List.mem_map.mp hp
    have e := of_decide_eq_true e
    exact h (List.mem_map.mpr ⟨u, hu, T_inj (Sum.inr.inj e)⟩)
theorem dict_keys (ts : List Tie) : (dictD ts).map (fun kv => kD kv.1) = ((ts.map (·.1)).map T).map D.str := by
  unfold dictD; rw [List.map_map, List.map_map, List.map_map]; rfl

/-! joined places -/
def Adj (ts : List Tie) (x y : Nat) : Prop := ∃ t ∈ ts, (t.2.1 = x ∧ t.2.2.1 = y) ∨ (t.2.1 = y ∧ t.2.2.1 = x)
inductive Conn (ts : List Tie) : Nat → Nat → Prop where
  | refl (x : Nat) : Conn ts x x
  | step {x y z : Nat} : Conn ts x y → Adj ts y z → Conn ts x z
theorem Adj.symm {ts : List Tie} {x y : Nat} (h : Adj ts x y) : Adj ts y x := by
  obtain ⟨t, ht, h⟩ := h
  exact ⟨t, ht, h.symm⟩
theorem Conn.trans {ts : List Tie} {x y z : Nat} (a : Conn ts x y) (b : Conn ts y z) : Conn ts x z := by
  induction b with
  | refl => exact a
  | step _ h ih => exact .step ih h
theorem Conn.symm {ts : List Tie} {x y : Nat} (a : Conn ts x y) : Conn ts y x := by
  induction a with
  | refl => exact .refl _
  | step _ h ih => exact Conn.trans (.step (.refl _) h.symm) ih
theorem Conn.mono {ts us : List Tie} (h : ∀ t ∈ ts, t ∈ us) {x y : Nat} (a : Conn ts x y) : Conn us x y := by
  induction a with
  | refl => exact .refl _
  | step _ h2 ih =>
    obtain ⟨t, ht, h2⟩ := h2
    exact .step ih ⟨t, h t ht, h2⟩
theorem Conn.lt {ts : List Tie} {m x y : Nat} (hx : x < m) (h : ∀ t ∈ ts, t.2.1 < m ∧ t.2.2.1 < m) (a : Conn ts x y) : y < m := by
  induction a with
  | refl => exact hx
  | step _ h2 _ =>
    obtain ⟨t, ht, h2⟩ := h2
    have := h t ht
    rcases h2 with ⟨_, e⟩ | ⟨e, _⟩
    · rw [← e]; exact this.2
    · rw [← e]; exact this.1
theorem conn_snoc {ts : List Tie} {t : Tie} {x y : Nat} : Conn (ts ++ [t]) x y ↔ Conn ts x y ∨ (Conn ts x t.2.1 ∧ Conn ts t.2.2.1 y) ∨ (Conn ts x t.2.2.1 ∧ Conn ts t.2.1 y) := by
  have sub : ∀ u ∈ ts, u ∈ ts ++ [t] := fun u hu => List.mem_append_left _ hu
  have ed : Adj (ts ++ [t]) t.2.1 t.2.2.1 := ⟨t, by simp, .inl ⟨rfl, rfl⟩⟩
  constructor
  · intro h
    induction h with
    | refl => exact .inl (.refl _)
    | step _ h2 ih =>
      obtain ⟨u, hu, h2⟩ := h2
      rcases List.mem_append.mp hu with hu | hu
      · have ha : Adj ts _ _ := ⟨u, hu, h2⟩
        rcases ih with ih | ⟨i1, i2⟩ | ⟨i1, i2⟩
        · exact .inl (.step ih ha)
        · exact .inr (.inl ⟨i1, .step i2 ha⟩)
        · exact .inr (.inr ⟨i1, .step i2 ha⟩)
      · rw [List.mem_singleton] at hu
        subst hu
        rcases h2 with ⟨e1, e2⟩ | ⟨e1, e2⟩
        · subst e1; subst e2
          rcases ih with ih | ⟨i1, i2⟩ | ⟨i1, i2⟩
          · exact .inr (.inl ⟨ih, .refl _⟩)
          · exact .inr (.inl ⟨i1, .refl _⟩)
          · exact .inl i1
        · subst e1; subst e2
          rcases ih with ih | ⟨i1, i2⟩ | ⟨i1, i2⟩
          · exact .inr (.inr ⟨ih, .refl _⟩)
          · exact .inl i1
          · exact .inr (.inr ⟨i1, .refl _⟩)
  · rintro (h | ⟨h1, h2⟩ | ⟨h1, h2⟩)
    · exact h.mono sub
    · exact ((h1.mono sub).step ed).trans (h2.mono sub)
    · exact ((h1.mono sub).step ed.symm).trans (h2.mono sub)
theorem conn_nil {x y : Nat} (h : Conn [] x y) : x = y := by
  cases h with
  | refl => rfl
  | step _ h => obtain ⟨t, ht, _⟩ := h; cases ht
/-- labels: the least place of each part -/
structure IsLab (ts : List Tie) (lab : Nat → Nat) : Prop where
  conn : ∀ x, Conn ts x (lab x)
  same : ∀ x y, Conn ts x y → lab x = lab y
  le : ∀ x, lab x ≤ x
theorem IsLab.iff {ts : List Tie} {lab : Nat → Nat} (h : IsLab ts lab) (x y : Nat) : lab x = lab y ↔ Conn ts x y :=
  ⟨fun e => (h.conn x).trans (by rw [e]; exact (h.conn y).symm), h.same x y⟩
theorem IsLab.least {ts : List Tie} {lab : Nat → Nat} (h : IsLab ts lab) {x y : Nat} (c : Conn ts x y) : lab x ≤ y := by rw [h.same x y c]; exact h.le y
theorem isLab_nil : IsLab [] id := ⟨fun x => .refl x, fun x y h => conn_nil h, fun x => Nat.le_refl x⟩
theorem IsLab.snoc {ts : List Tie} {lab : Nat → Nat} (h : IsLab ts lab) (t : Tie) : IsLab (ts ++ [t]) fun x => if lab x = max (lab t.2.1) (lab t.2.2.1) then min (lab t.2.1) (lab t.2.2.1) else lab x := by
  have sub : ∀ u ∈ ts, u ∈ ts ++ [t] := fun u hu => List.mem_append_left _ hu
  have ed : Conn (ts ++ [t]) t.2.1 t.2.2.1 := .step (.refl _) ⟨t, by simp, .inl ⟨rfl, rfl⟩⟩
  have ab : Conn (ts ++ [t]) (lab t.2.1) (lab t.2.2.1) := (((h.conn t.2.1).mono sub).symm.trans ed).trans ((h.conn t.2.2.1).mono sub)
  refine ⟨fun x => ?_, fun x y hxy => ?_, fun x => ?_⟩
  · have hx := (h.conn x).mono sub
    by_cases e : lab x = max (lab t.2.1) (lab t.2.2.1)
    · show Conn _ x (if _ then _ else _)
      rw [if_pos e]
      rcases Nat.le_total (lab t.2.1) (lab t.2.2.1) with hl | hl
      · rw [Nat.min_eq_left hl]; rw [Nat.max_eq_right hl] at e; rw [e] at hx; exact hx.trans ab.symm
      · rw [Nat.min_eq_right hl]; rw [Nat.max_eq_left hl] at e; rw [e] at hx; exact hx.trans ab
    · show Conn _ x (if _ then _ else _)
      rw [if_neg e]; exact hx
  · show (if _ then _ else _) = (if _ then _ else _)
    rcases conn_snoc.mp hxy with hc | ⟨h1, h2⟩ | ⟨h1, h2⟩
    · rw [h.same x y hc]
    · have e1 := h.same _ _ h1
      have e2 := h.same _ _ h2
      rw [e1, ← e2]
      simp only [Nat.max_def, Nat.min_def]
      split <;> split <;> split <;> omega
    · have e1 := h.same _ _ h1
      have e2 := h.same _ _ h2
      rw [e1, ← e2]
      simp only [Nat.max_def, Nat.min_def]
      split <;> split <;> split <;> omega
  · show (if _ then _ else _) ≤ x
    have := h.le x
    have hm : min (lab t.2.1) (lab t.2.2.1) ≤ max (lab t.2.1) (lab t.2.2.1) := by omega
    split
    · rename_i e; rw [← e] at hm; exact Nat.le_trans hm this
    · exact this
abbrev natD (n : Nat) : D := .int (n : Int)
/-- the places beside p -/
def besideL (ts : List Tie) (p : Nat) : List Nat := ts.flatMap fun t => (if t.2.1 = p then [t.2.2.1] else []) ++ if t.2.2.1 = p then [t.2.1] else []
theorem besideL_mem {ts : List Tie} {p x : Nat} : x ∈ besideL ts p ↔ Adj ts p x := by
  unfold besideL Adj
  rw [List.mem_flatMap]
  constructor
  · rintro ⟨t, ht, h⟩
    refine ⟨t, ht, ?_⟩
    rcases List.mem_append.mp h with h | h
    · split at h
      · rename_i e; exact .inl ⟨e, (List.mem_singleton.mp h).symm⟩
      · cases h
    · split at h
      · rename_i e; exact .inr ⟨(List.mem_singleton.mp h).symm, e⟩
      · cases h
  · rintro ⟨t, ht, ⟨e1, e2⟩ | ⟨e1, e2⟩⟩
    · exact ⟨t, ht, List.mem_append_left _ (by rw [if_pos e1, e2]; simp)⟩
    · exact ⟨t, ht, List.mem_append_right _ (by rw [if_pos e2, e1]; simp)⟩
theorem besideL_len (ts : List Tie) (p : Nat) : (besideL ts p).length ≤ 2 * ts.length := by
  induction ts with
  | nil => simp [besideL]
  | cons t ts ih =>
    show (((if t.2.1 = p then [t.2.2.1] else []) ++ if t.2.2.1 = p then [t.2.1] else []) ++ besideL ts p).length ≤ _
    rw [List.length_append, List.length_append, List.length_cons]
    have h1 : (if t.2.1 = p then [t.2.2.1] else []).length ≤ 1 := by split <;> simp
    have h2 : (if t.2.2.1 = p then [t.2.1] else []).length ≤ 1 := by split <;> simp
    omega
theorem any_eqv (ws : List Nat) (x : Nat) : ((ws.map natD).any fun y => D.eqv y (natD x)) = decide (x ∈ ws) := by
  rw [List.any_map, Bool.eq_iff_iff, List.any_eq_true, decide_eq_true_eq]
  constructor
  · rintro ⟨y, hy, e⟩
    have e : ((y : Int) == (x : Int)) = true := e
    have e : (y : Int) = (x : Int) := by simpa using e
    have : y = x := by omega
    rw [← this]; exact hy
  · intro h
    exact ⟨x, h, by show ((x : Int) == (x : Int)) = true; simp⟩
theorem nats_flat (ws : List Nat) : (ws.map natD).all D.flat = true := by rw [List.all_map]; exact List.all_eq_true.mpr fun _ _ => rfl
theorem nats_ints (ws : List Nat) : ws.map natD = (ws.map fun n : Nat => (n : Int)).map D.int := by rw [List.map_map]; rfl
/-- two rising rows of the same numbers -/
theorem rising_unique : ∀ (l m : List Int), l.Pairwise (· < ·) → m.Pairwise (· < ·) → (∀ x, x ∈ l ↔ x ∈ m) → l = m
  | [], [], _, _, _ => rfl
  | [], y :: m, _, _, h => absurd ((h y).mpr List.mem_cons_self) (by simp)
  | x :: l, [], _, _, h => absurd ((h x).mp List.mem_cons_self) (by simp)
  | x :: l, y :: m, h1, h2, h => by
    obtain ⟨a1, a2⟩ := List.pairwise_cons.mp h1
    obtain ⟨b1, b2⟩ := List.pairwise_cons.mp h2
    have e : x = y := by
      rcases List.mem_cons.mp ((h x).mp List.mem_cons_self) with e | hx
      · exact e
      · rcases List.mem_cons.mp ((h y).mpr List.mem_cons_self) with e | hy
        · exact e.symm
        · have := a1 y hy; have := b1 x hx; omega
    subst e
    rw [rising_unique l m a2 b2 fun z => ⟨fun hz => ?_, fun hz => ?_⟩]
    · rcases List.mem_cons.mp ((h z).mp (List.mem_cons_of_mem _ hz)) with e | h'
      · have := a1 z hz; omega
      · exact h'
    · rcases List.mem_cons.mp ((h z).mpr (List.mem_cons_of_mem _ hz)) with e | h'
      · have := b1 z hz; omega
      · exact h'
theorem rising_of {l : List Int} (h : l.Pairwise (· ≤ ·)) (n : l.Nodup) : l.Pairwise (· < ·) := (h.and n).imp fun {a b} ⟨h1, h2⟩ => by omega
theorem cast_nodup {ws : List Nat} (h : ws.Nodup) : (ws.map fun n : Nat => (n : Int)).Nodup := List.pairwise_map.mpr (h.imp fun {a b} hab e => hab (by omega))
/-- the part of a place, rising -/
noncomputable def partL (m : Nat) (ts : List Tie) (p : Nat) : List Nat := (List.range m).filter fun x => @decide (Conn ts p x) (Classical.propDecidable _)
theorem partL_mem {m : Nat} {ts : List Tie} {p x : Nat} : x ∈ partL m ts p ↔ x < m ∧ Conn ts p x := by
  unfold partL
  rw [List.mem_filter, List.mem_range]
  exact and_congr_right fun _ => ⟨of_decide_eq_true (inst := Classical.propDecidable _), decide_eq_true (inst := Classical.propDecidable _)⟩
theorem partL_rising (m : Nat) (ts : List Tie) (p : Nat) : ((partL m ts p).map fun n : Nat => (n : Int)).Pairwise (· < ·) := by
  rw [List.pairwise_map]
  refine List.Pairwise.imp (fun {a b} h => ?_) (List.Pairwise.filter _ List.pairwise_lt_range)
  omega
theorem partL_len (m : Nat) (ts : List Tie) (p : Nat) : (partL m ts p).length ≤ m := by
  unfold partL
  exact Nat.le_trans (List.length_filter_le _ _) (by simp)
theorem set_last {S : Sto} {o o' : O} : (S ++ [o]).set S.length o' = S ++ [o'] := by
  rw [List.set_append_right _ _ (Nat.le_refl _), Nat.sub_self]; rfl
end Z
namespace Z
open PySem PySem.Spec PyProof.Rows L2 RZ
theorem units1 {a c : Nat} (h : a + 64 < c) : a + 1 < c := by omega
/-! a, b = x, y of plain local names -/
def sPar2 (i j : Nat) (wr : WA) : WS := fun D env S => wr env S fun xs S1 => match xs with | [v, w] => D.nx ((env.set i (some v)).set j (some w)) S1 | _ => False
def sPar3 (i j l : Nat) (wr : WA) : WS := fun D env S => wr env S fun xs S1 => match xs with | [u, v, w] => D.nx (((env.set i (some u)).set j (some v)).set l (some w)) S1 | _ => False
section
variable {X : Cx} {a b c : Expr} {wr : WA}
theorem fs_par2 {i j : Nat} {x y : Str} {px py pt pos : Pos} {kt k2 pt2} (hc : X.calm = true) (hN : X.N.Nodup) (ha : FA X [a, b] wr) (hi : X.N[i]? = some x := by rfl) (hj : X.N[j]? = some y := by rfl) (hij : i ≠ j := by decide)
    (hx : X.env.scope.names.lookup x = some .local := by rfl) (hy : X.env.scope.names.lookup y = some .local := by rfl)
    (hw : swappedStores [.Tuple [.Name x px, .Name y py] kt pt] (.Tuple [a, b] k2 pt2) X.env = pure (some [x, y]) := by rfl)
    (hs : swapsWithSole [.Tuple [.Name x px, .Name y py] kt pt] (.Tuple [a, b] k2 pt2) pos.line X.env = pure false := by rfl) :
    FS X (.Assign [.Tuple [.Name x px, .Name y py] kt pt] (.Tuple [a, b] k2 pt2) pos) (sPar2 i j wr) := by
  refine ⟨PS.imp (ps_par hc hN hi hj hij hx hy ha.p hw hs) fun D σ H ⟨env, S, m, D0, s, r, h, k⟩ => ?_⟩
  refine ⟨env, S, m, _, s, r, h, fun xs S1 us H1 m1 q1 e1 s1 v1 => ?_⟩
  match xs, q1 with
  | [d, e], q1 =>
    obtain ⟨u, t, rfl, h1, h2⟩ := v1.cons_inv
    obtain ⟨u2, t2, rfl, h3, h4⟩ := h2.cons_inv
    cases h4.nil_inv
    exact ⟨u, u2, rfl, k.nx _ _ _ _ _ q1 e1 s1 (((r.ext e1.toEx).set i h1).set j h3)⟩
theorem fs_par3 {i j l : Nat} {x y z : Str} {px py pz pt pos : Pos} {kt k2 pt2} (hc : X.calm = true) (hN : X.N.Nodup) (ha : FA X [a, b, c] wr) (hi : X.N[i]? = some x := by rfl) (hj : X.N[j]? = some y := by rfl) (hl : X.N[l]? = some z := by rfl) (hij : i ≠ j := by decide) (hil : i ≠ l := by decide) (hjl : j ≠ l := by decide)
    (hx : X.env.scope.names.lookup x = some .local := by rfl) (hy : X.env.scope.names.lookup y = some .local := by rfl) (hz : X.env.scope.names.lookup z = some .local := by rfl)
    (hw : swappedStores [.Tuple [.Name x px, .Name y py, .Name z pz] kt pt] (.Tuple [a, b, c] k2 pt2) X.env = pure (some [x, y, z]) := by rfl)
    (hs : swapsWithSole [.Tuple [.Name x px, .Name y py, .Name z pz] kt pt] (.Tuple [a, b, c] k2 pt2) pos.line X.env = pure false := by rfl) :
    FS X (.Assign [.Tuple [.Name x px, .Name y py, .Name z pz] kt pt] (.Tuple [a, b, c] k2 pt2) pos) (sPar3 i j l wr) := by
  refine ⟨PS.imp (ps_par3 hc hN hi hj hl hij hil hjl hx hy hz ha.p hw hs) fun D σ H ⟨env, S, m, D0, s, r, h, k⟩ => ?_⟩
  refine ⟨env, S, m, _, s, r, h, fun xs S1 us H1 m1 q1 e1 s1 v1 => ?_⟩
  match xs, q1 with
  | [d, e, f], q1 =>
    obtain ⟨u, t, rfl, h1, h2⟩ := v1.cons_inv
    obtain ⟨u2, t2, rfl, h3, h4⟩ := h2.cons_inv
    obtain ⟨u3, t3, rfl, h5, h6⟩ := h4.cons_inv
    cases h6.nil_inv
    exact ⟨u, u2, u3, rfl, k.nx _ _ _ _ _ q1 e1 s1 ((((r.ext e1.toEx).set i h1).set j h3).set l h5)⟩
end
/-- a promise that is never asked for -/
theorem fn_vac {P : Program} {w : World} {K : Frag} {mg : Str → Option Value} {base : Heap} {k : Nat} {f : Addr} {fd : FuncData} {ps : List Str} {sp : DSp} (h : ∀ ds S Q E, sp ds S Q E → False) : FnOk P w K mg base CX0 k f fd ps (liftSp K sp) :=
  ⟨fun _ _ _ _ ⟨_, _, _, _, _, _, _, q, _⟩ => (h _ _ _ _ q).elim, fun _ _ _ _ _ _ _ _ _ _ _ _ _ ⟨_, _, _, _, _, _, _, q, _⟩ => (h _ _ _ _ q).elim⟩
end Z
namespace Z
open PySem PySem.Spec PyProof.Rows L2 RZ
section
open PySem.SeqAt
open PySem.AutoSeq1 (wpAny_loadPart')
open PySem.MeetsSeq PySem.MeetsSeq2 PySem.MeetsSeq3
theorem list_extend_tupG (l : Addr) (items : Array Value) (n : Nat) (b : Addr) (items2 : Array Value) (n2 : Nat) (dd : Option Addr) (sl : Array (Option Value)) (hs0 : ¬(!items.isEmpty && Builtin.List.listTooLong (items.size + items2.size)) = true) (hs1 : items.size ≤ sizeLine) (hs2 : items.size + items2.size ≤ sizeLine + 1) :
    Meets (Builtin.«list.extend» ⟨[.ref l, .ref b], []⟩) (fun _ R s => s.heap.get? l = some { cls := .type "list", dict := none, data := .seq items n, slots := #[] } ∧ s.heap.get? b = some { cls := .type "tuple", dict := dd, data := .seq items2 n2, slots := sl } ∧ R (.ok (.ret Value.none)) { s with heap := s.heap.update l (Obj.mapSeq fun x => x ++ items2), toks := s.toks }) :=
  .of_wp fun prog w A R s h => by
    obtain ⟨hp, g, d, tk, os⟩ := s; obtain ⟨hl, hb, h⟩ := h
    have f2 := AutoSeq1.sub_tuple_tuple; have f3 := AutoSeq1.sub_list_list; have f4 := AutoSeq1.sub_tuple_list; have f5 := AutoSeq1.sub_list_tuple
    have hz' : (items ++ items2).size ≤ sizeLine + 1 := by rw [Array.size_append]; exact hs2
    wp_walk using (wpAny_updateSeq hl rfl (hz := hs1) (_hz' := hz')), wpAny_loadPart' hl, wpAny_loadPart' hb; exact ⟨_, rfl, h⟩
end
/-- xs.extend(tuple) -/
def rExtT : V → List V → Hp → VK → Prop := fun x vs H Q => ∃ l b xs zs, x = .ref l ∧ vs = [.ref b] ∧ H l = some (.lst xs) ∧ H b = some (.tup zs) ∧ xs.length + zs.length ≤ sizeLine ∧ Q .non (upd H l (.lst (xs ++ zs)))
section
variable {X : Cx} {o e : Expr} {wo : WE} {wr : WA} {apos cpos : Pos}
theorem mt_extT : MtR X "list.extend" rExtT := by
  intro pins s σ H x vs v us Q I rx rv ⟨l, b, xs, zs, ex, ev, hH, hB, hz, q⟩
  subst ex; subst ev
  cases rx
  obtain ⟨u, rfl, ru⟩ := vals1 rv
  cases ru
  obtain ⟨z, its, n, r, hl, e⟩ := I.lstM hH
  obtain ⟨z2, its2, r2, ⟨cls2, dd2, data2, sl2⟩, ho2, hc2, n2, hd2⟩ := I.hok _ _ hB
  simp only at hc2 hd2
  subst hc2; subst hd2
  have hl2 : zs.length = its2.length := r2.length
  have hsz : its.toArray.size + its2.toArray.size ≤ sizeLine := by rw [List.size_toArray, List.size_toArray]; omega
  have hlong : ¬ (!its.toArray.isEmpty && Builtin.List.listTooLong (its.toArray.size + its2.toArray.size)) = true := by
    rw [notLongL hsz, Bool.and_false]
    exact Bool.false_ne_true
  refine call_meets F.slot_list_extend ⟨_, e, rfl⟩ F.entry_list_extend (F.args_list_extend_2 _ _)
    (list_extend_tupG l its.toArray n b its2.toArray n2 dd2 sl2 hlong (by rw [List.size_toArray]; omega) (by omega)) ⟨e, ho2, ?_⟩
  refine ⟨.non, _, I.lset (its' := its ++ its2) hH e (by simp) (r.append r2) ?_, rfl, q⟩
  rw [List.length_append]
  omega
def dExtT : RM := fun x ds S Q => match x, ds with | .ref p, [.tup ys] => ∃ xs, S[p]? = some (.lst xs) ∧ xs.length + ys.length ≤ sizeLine ∧ Q .non (S.set p (.lst (xs ++ ys))) | _, _ => False
theorem sim_extT : SimM X.K rExtT dExtT := by
  intro m H S x u ds us Q0 Q s r rs h k
  match x, ds, h with
  | .ref p, [.tup ys], ⟨xs, h1, h2, q⟩ =>
    simp only [VR] at r
    obtain ⟨a, rfl, h3⟩ := r
    obtain ⟨v, t, rfl, h4, h5⟩ := rs.cons_inv
    cases h5.nil_inv
    simp only [VR] at h4
    obtain ⟨b, zs, rfl, h30, h31⟩ := h4
    obtain ⟨ws, h6, h7⟩ := s.lst h3 h1
    obtain ⟨e, s'⟩ := s.lst_write h3 (h7.app h31)
    exact ⟨a, b, ws, zs, rfl, rfl, h6, h30, by rw [← h7.length, ← h31.length]; exact h2, k _ _ _ _ _ q e s' (by simp only [VR])⟩
theorem fe_extendT (ho : FE X o wo) (ha : FA X [e] wr) (hbase : attributeBase o "extend" X.env (eval o X.env) = eval o X.env := by rfl) (hline : (apos.endLine == cpos.line) = true := by rfl) (hs : starEach [e] X.env = (false, eval e X.env) :: starEach [] X.env := by rfl) : FE X (.Call (.Attribute o "extend" apos) [e] [] cpos) (wM tyL dExtT wo wr) :=
  fe_bm PySem.F.plainAttrs_list PySem.F.slot_list_extend PySem.F.type_list_extend mt_extT sim_extT tyL_v ho ha hbase (by rw [hs]; rfl) hline hs
end
end Z
namespace Z
open PySem PySem.Spec PyProof.Rows L2 RZ
/-! dicts with places as keys -/
section
variable {α : Type}
def ndD (f : α → D) (xs : List (Nat × α)) : List (Key × D) := xs.map fun p => (.inl (p.1 : Int), f p.2)
theorem nd_val (f : α → D) (xs : List (Nat × α)) (k : Nat) : valX (ndD f xs) (.inl (k : Int)) = (valX xs k).map f := by
  induction xs with
  | nil => rfl
  | cons p r ih =>
    show valX (((.inl (p.1 : Int), f p.2) : Key × D) :: ndD f r) (.inl (k : Int)) = _
    by_cases e : p.1 = k
    · rw [valX_pos (p := ((Sum.inl (p.1 : Int) : Key), f p.2)) (by rw [e]), valX_pos e]; rfl
    · rw [valX_neg (p := ((Sum.inl (p.1 : Int) : Key), f p.2)) (fun z => e (by have := Sum.inl.inj z; omega)), valX_neg e]; exact ih
theorem nd_some (f : α → D) (xs : List (Nat × α)) (k : Nat) : (valX (ndD f xs) (.inl (k : Int))).isSome = (valX xs k).isSome := by
  rw [nd_val]; cases valX xs k <;> rfl
theorem valX_isSome {κ β : Type} [DecidableEq κ] (xs : List (κ × β)) (k : κ) : (xs.any fun kv => decide (kv.1 = k)) = (valX xs k).isSome := by
  induction xs with
  | nil => rfl
  | cons p r ih =>
    rw [List.any_cons]
    by_cases e : p.1 = k
    · rw [decide_eq_true e, valX_pos e]; rfl
    · rw [decide_eq_false e, valX_neg e]; exact ih
theorem nd_put (f : α → D) (xs : List (Nat × α)) (k : Nat) (v : α) (h : valX xs k = none) : putX (ndD f xs) (.inl (k : Int)) (f v) = ndD f (xs ++ [(k, v)]) := by
  unfold putX
  rw [valX_isSome, nd_some, h, if_neg (by simp)]
  unfold ndD; rw [List.map_append]; rfl
theorem valX_app {xs : List (Nat × α)} {k : Nat} {v : α} (h : valX xs k = none) (j : Nat) : valX (xs ++ [(k, v)]) j = if j = k then some v else valX xs j := by
  induction xs with
  | nil =>
    by_cases e : j = k
    · rw [if_pos e]; exact valX_pos e.symm
    · rw [if_neg e]; exact valX_neg (fun z => e z.symm)
  | cons p r ih =>
    have hp : ¬ p.1 = k := fun e => by rw [valX_pos e] at h; cases h
    rw [valX_neg hp] at h
    rw [List.cons_append]
    by_cases e : p.1 = j
    · rw [valX_pos e, valX_pos e, if_neg (fun z => hp (e.trans z))]
    · rw [valX_neg e, valX_neg e, ih h]
theorem valX_key {xs : List (Nat × α)} {k : Nat} : (∃ v, valX xs k = some v) ↔ k ∈ xs.map (·.1) := by
  constructor
  · rintro ⟨v, h⟩
    induction xs with
    | nil => cases h
    | cons p r ih =>
      by_cases e : p.1 = k
      · rw [← e]; exact List.mem_cons_self
      · rw [valX_neg e] at h; exact List.mem_cons_of_mem _ (ih h)
  · intro h
    obtain ⟨v, h1, _⟩ := Z.valX_mem (kvs := xs) (k := k) h
    exact ⟨v, h1⟩
end
/-! ways: what a walk by rows finds -/
abbrev Come := List (Nat × Option (List Nat × Nat))
def comeV : Option (List Nat × Nat) → D
  | none => .non
  | some (nm, y) => .tup [.str (T nm), .int (y : Int)]
def leadsL (ts : List Tie) (p : Nat) : List (List Nat × Nat) := ts.flatMap fun t => (if t.2.1 = p then [(t.1, t.2.2.1)] else []) ++ if t.2.2.1 = p then [(t.1, t.2.1)] else []
/-- a tie of this name between y and x -/
def Joins (ts : List Tie) (nm : List Nat) (y x : Nat) : Prop := ∃ t ∈ ts, t.1 = nm ∧ ((t.2.1 = y ∧ t.2.2.1 = x) ∨ (t.2.1 = x ∧ t.2.2.1 = y))
theorem leadsL_mem {ts : List Tie} {p x : Nat} {nm : List Nat} : (nm, x) ∈ leadsL ts p ↔ Joins ts nm p x := by
  unfold leadsL Joins
  rw [List.mem_flatMap]
  constructor
  · rintro ⟨t, ht, h⟩
    refine ⟨t, ht, ?_⟩
    rcases List.mem_append.mp h with h | h
    · split at h
      · rename_i e
        have := List.mem_singleton.mp h
        injection this with e1 e2
        exact ⟨e1.symm, .inl ⟨e, e2.symm⟩⟩
      · cases h
    · split at h
      · rename_i e
        have := List.mem_singleton.mp h
        injection this with e1 e2
        exact ⟨e1.symm, .inr ⟨e2.symm, e⟩⟩
      · cases h
  · rintro ⟨t, ht, e0, ⟨e1, e2⟩ | ⟨e1, e2⟩⟩
    · exact ⟨t, ht, List.mem_append_left _ (by rw [if_pos e1, e0, e2]; simp)⟩
    · exact ⟨t, ht, List.mem_append_right _ (by rw [if_pos e2, e0, e1]; simp)⟩
theorem leads_adj {ts : List Tie} {x y : Nat} : Adj ts x y ↔ ∃ nm, Joins ts nm x y := by
  constructor
  · rintro ⟨t, ht, h⟩; exact ⟨t.1, t, ht, rfl, h⟩
  · rintro ⟨nm, t, ht, _, h⟩; exact ⟨t, ht, h⟩
theorem leadsL_len (ts : List Tie) (p : Nat) : (leadsL ts p).length ≤ 2 * ts.length := by
  induction ts with
  | nil => simp [leadsL]
  | cons t ts ih =>
    show (((if t.2.1 = p then [(t.1, t.2.2.1)] else []) ++ if t.2.2.1 = p then [(t.1, t.2.1)] else []) ++ leadsL ts p).length ≤ _
    rw [List.length_append, List.length_append, List.length_cons]
    have h1 : (if t.2.1 = p then [(t.1, t.2.2.1)] else []).length ≤ 1 := by split <;> simp
    have h2 : (if t.2.2.1 = p then [(t.1, t.2.1)] else []).length ≤ 1 := by split <;> simp
    omega
def In (xs : Come) (x : Nat) : Prop := ∃ v, valX xs x = some v
/-- how far, from s -/
structure Far (ts : List Tie) (s : Nat) (dom : Nat → Prop) (f : Nat → Nat) : Prop where
  root : dom s ∧ f s = 0
  par : ∀ x, dom x → x ≠ s → ∃ y, dom y ∧ Adj ts y x ∧ f x = f y + 1
  closed : ∀ x y, dom x → Adj ts x y → dom y ∧ f y ≤ f x + 1
theorem Far.conn {ts : List Tie} {s : Nat} {dom : Nat → Prop} {f : Nat → Nat} (h : Far ts s dom f) (x : Nat) : dom x ↔ Conn ts s x := by
  constructor
  · intro hx
    generalize hk : f x = k
    induction k using Nat.strongRecOn generalizing x with
    | _ k ih =>
      by_cases e : x = s
      · rw [e]; exact .refl _
      · obtain ⟨y, h1, h2, h3⟩ := h.par x hx e
        exact (ih (f y) (by omega) y h1 rfl).step h2
  · intro hx
    induction hx with
    | refl => exact h.root.1
    | step _ h2 ih => exact (h.closed _ _ ih h2).1
theorem Far.le {ts : List Tie} {s : Nat} {dom dom' : Nat → Prop} {f g : Nat → Nat} (h : Far ts s dom f) (h' : Far ts s dom' g) (x : Nat) (hx : dom' x) : f x ≤ g x := by
  generalize hk : g x = k
  induction k using Nat.strongRecOn generalizing x with
  | _ k ih =>
    by_cases e : x = s
    · rw [e, h.root.2]; exact Nat.zero_le _
    · obtain ⟨y, h1, h2, h3⟩ := h'.par x hx e
      have := ih (g y) (by omega) y h1 rfl
      have hd : dom y := (h.conn y).mpr ((h'.conn y).mp h1)
      have := (h.closed y x hd h2).2
      omega
theorem Far.eq {ts : List Tie} {s : Nat} {dom dom' : Nat → Prop} {f g : Nat → Nat} (h : Far ts s dom f) (h' : Far ts s dom' g) (x : Nat) (hx : Conn ts s x) : f x = g x :=
  Nat.le_antisymm (h.le h' x ((h'.conn x).mpr hx)) (h'.le h x ((h.conn x).mpr hx))
/-- the walk's dict, with a level for each -/
structure Tree (ts : List Tie) (s : Nat) (xs : Come) (f : Nat → Nat) : Prop where
  root : valX xs s = some none ∧ f s = 0
  par : ∀ x v, valX xs x = some v → x ≠ s → ∃ nm y, v = some (nm, y) ∧ In xs y ∧ Joins ts nm y x ∧ f x = f y + 1
theorem Tree.far {ts : List Tie} {s : Nat} {xs : Come} {f : Nat → Nat} (h : Tree ts s xs f) (hc : ∀ x y, In xs x → Adj ts x y → In xs y ∧ f y ≤ f x + 1) : Far ts s (In xs) f :=
  ⟨⟨⟨_, h.root.1⟩, h.root.2⟩, fun x ⟨v, hv⟩ hx => by
    obtain ⟨nm, y, _, h2, h3, h4⟩ := h.par x v hv hx
    exact ⟨y, h2, leads_adj.mpr ⟨nm, h3⟩, h4⟩, hc⟩
theorem In.app {xs : Come} {y : Nat} {v : Option (List Nat × Nat)} (h : valX xs y = none) (x : Nat) : In (xs ++ [(y, v)]) x ↔ x = y ∨ In xs x := by
  unfold In
  rw [valX_app h]
  by_cases e : x = y
  · rw [if_pos e]; exact ⟨fun _ => .inl e, fun _ => ⟨_, rfl⟩⟩
  · rw [if_neg e]; exact ⟨.inr, fun h => h.elim (fun z => absurd z e) fun h => h⟩
theorem In.none {xs : Come} {y : Nat} (h : ¬ In xs y) : valX xs y = none := by
  cases e : valX xs y with
  | none => rfl
  | some v => exact absurd ⟨v, e⟩ h
theorem Tree.add {ts : List Tie} {s : Nat} {xs : Come} {f : Nat → Nat} (t : Tree ts s xs f) {h y : Nat} {nm : List Nat} (hy : valX xs y = Option.none) (hh : In xs h) (hj : Joins ts nm h y) : Tree ts s (xs ++ [(y, some (nm, h))]) fun z => if z = y then f h + 1 else f z := by
  have hne : ∀ x, In xs x → x ≠ y := fun x ⟨v, hv⟩ e => by rw [e, hy] at hv; cases hv
  have hs : In xs s := ⟨_, t.root.1⟩
  refine ⟨⟨?_, ?_⟩, fun x v hv hx => ?_⟩
  · rw [valX_app hy, if_neg (hne s hs)]; exact t.root.1
  · show (if s = y then _ else _) = 0
    rw [if_neg (hne s hs)]; exact t.root.2
  · rw [valX_app hy] at hv
    by_cases e : x = y
    · rw [if_pos e] at hv
      cases hv
      refine ⟨nm, h, rfl, (In.app hy h).mpr (.inr hh), by rw [e]; exact hj, ?_⟩
      show (if x = y then _ else _) = (if h = y then _ else _) + 1
      rw [if_pos e, if_neg (hne h hh)]
    · rw [if_neg e] at hv
      obtain ⟨nm', z, e1, h2, h3, h4⟩ := t.par x v hv hx
      refine ⟨nm', z, e1, (In.app hy z).mpr (.inr h2), h3, ?_⟩
      show (if x = y then _ else _) = (if z = y then _ else _) + 1
      rw [if_neg e, if_neg (hne z h2)]; exact h4
/-- what the walk by rows does -/
def bfsIn (h : Nat) : List (List Nat × Nat) → Come → List Nat → Come × List Nat
  | [], xs, row => (xs, row)
  | (nm, y) :: r, xs, row => if (valX xs y).isSome then bfsIn h r xs row else bfsIn h r (xs ++ [(y, some (nm, h))]) (row ++ [y])
def bfs (ts : List Tie) : Nat → Come → List Nat → Come
  | 0, xs, _ => xs
  | _ + 1, xs, [] => xs
  | k + 1, xs, h :: rest => bfs ts k (bfsIn h (leadsL ts h) xs rest).1 (bfsIn h (leadsL ts h) xs rest).2
def comeF (m : Nat) (ts : List Tie) (s : Nat) : Come := bfs ts (2 * m + 1) [(s, none)] [s]
theorem bfs_nil (ts : List Tie) (k : Nat) (xs : Come) : bfs ts k xs [] = xs := by cases k <;> rfl
/-- the names from x up to the root -/
def upF (xs : Come) : Nat → Nat → List (List Nat)
  | 0, _ => []
  | k + 1, x => match valX xs x with
    | some (some (nm, y)) => nm :: upF xs k y
    | _ => []
inductive Way (ts : List Tie) (p : Nat) : List (List Nat) → Nat → Prop where
  | nil : Way ts p [] p
  | snoc {ws : List (List Nat)} {nm : List Nat} {y x : Nat} : Way ts p ws y → Joins ts nm y x → Way ts p (ws ++ [nm]) x
theorem Tree.up {ts : List Tie} {s : Nat} {xs : Come} {f : Nat → Nat} (t : Tree ts s xs f) : ∀ (k x : Nat), f x ≤ k → In xs x → (upF xs k x).length = f x ∧ Way ts s (upF xs k x).reverse x
  | 0, x, hk, ⟨v, hv⟩ => by
    by_cases e : x = s
    · subst e; exact ⟨t.root.2.symm, .nil⟩
    · obtain ⟨nm, y, _, _, _, h4⟩ := t.par x v hv e; omega
  | k + 1, x, hk, ⟨v, hv⟩ => by
    by_cases e : x = s
    · subst e
      simp only [upF, t.root.1]
      exact ⟨t.root.2.symm, .nil⟩
    · obtain ⟨nm, y, rfl, h2, h3, h4⟩ := t.par x v hv e
      obtain ⟨i1, i2⟩ := t.up k y (by omega) h2
      simp only [upF, hv]
      exact ⟨by rw [List.length_cons, i1, h4], by rw [List.reverse_cons]; exact .snoc i2 h3⟩
theorem Tree.fuel {ts : List Tie} {s : Nat} {xs : Come} {f : Nat → Nat} (t : Tree ts s xs f) : ∀ (k x : Nat), f x ≤ k → In xs x → upF xs k x = upF xs (f x) x
  | 0, x, hk, _ => by rw [show f x = 0 by omega]
  | k + 1, x, hk, ⟨v, hv⟩ => by
    by_cases e : x = s
    · subst e
      rw [t.root.2]
      simp only [upF, t.root.1]
    · obtain ⟨nm, y, rfl, h2, h3, h4⟩ := t.par x v hv e
      rw [h4]
      simp only [upF, hv]
      rw [t.fuel k y (by omega) h2]
theorem par_lt {s m : Nat} {dom : Nat → Prop} {f : Nat → Nat} (t0 : f s = 0) (tp : ∀ x, dom x → x ≠ s → ∃ y, dom y ∧ f x = f y + 1) (hm : ∀ x, dom x → x < m) (x : Nat) (hx : dom x) : f x < m := by
  have key : ∀ (k x : Nat), f x = k → dom x → ∃ zs : List Nat, zs.length = k + 1 ∧ (∀ z ∈ zs, dom z ∧ f z ≤ k) ∧ zs.Nodup := by
    intro k
    induction k using Nat.strongRecOn with
    | _ k ih =>
      intro x hk hx
      by_cases e : x = s
      · have hk0 : k = 0 := by rw [← hk, e]; exact t0
        subst hk0
        exact ⟨[x], rfl, fun z hz => by rw [List.mem_singleton.mp hz]; exact ⟨hx, by omega⟩, by simp⟩
      · obtain ⟨y, h1, h3⟩ := tp x hx e
        obtain ⟨zs, l, z1, z2⟩ := ih (f y) (by omega) y rfl h1
        refine ⟨x :: zs, by rw [List.length_cons, l]; omega, fun z hz => ?_, List.nodup_cons.mpr ⟨fun hx' => ?_, z2⟩⟩
        · rcases List.mem_cons.mp hz with e | hz
          · rw [e]; exact ⟨hx, by omega⟩
          · exact ⟨(z1 z hz).1, by have := (z1 z hz).2; omega⟩
        · have := (z1 x hx').2; omega
  obtain ⟨zs, l, z1, z2⟩ := key (f x) x rfl hx
  have := nodup_len zs (List.range m) z2 fun z hz => List.mem_range.mpr (hm z (z1 z hz).1)
  rw [List.length_range] at this; omega
theorem Far.lt {ts : List Tie} {s m : Nat} {dom : Nat → Prop} {f : Nat → Nat} (t : Far ts s dom f) (hm : ∀ x, dom x → x < m) (x : Nat) (hx : dom x) : f x < m :=
  par_lt t.root.2 (fun x hx e => let ⟨y, h1, _, h3⟩ := t.par x hx e; ⟨y, h1, h3⟩) hm x hx
def wayF (m : Nat) (ts : List Tie) (p o : Nat) : List (List Nat) := (upF (comeF m ts p) m o).reverse
end Z
namespace Z
open PySem PySem.Spec PyProof.Rows L2

/-! a part of the store by itself: its things are told by other numbers -/
mutual
def ren (ρ : Nat → Nat) : D → D
  | .non => .non
  | .bl b => .bl b
  | .int i => .int i
  | .str x => .str x
  | .tup xs => .tup (rens ρ xs)
  | .rol xs => .rol (rens ρ xs)
  | .ref i => .ref (ρ i)
  | .ty n => .ty n
  | .cst a => .cst a
def rens (ρ : Nat → Nat) : List D → List D
  | [] => []
  | x :: xs => ren ρ x :: rens ρ xs
end
def renK {κ : Type} (ρ : Nat → Nat) : List (κ × D) → List (κ × D)
  | [] => []
  | (k, x) :: xs => (k, ren ρ x) :: renK ρ xs
def renO (ρ : Nat → Nat) : O → O
  | .lst xs => .lst (rens ρ xs)
  | .dK xs => .dK (renK ρ xs)
  | .dT xs => .dT (renK ρ xs)
  | .ins C xs => .ins C (renK ρ xs)
mutual
/-- no number of the store in it -/
def D.pur : D → Bool
  | .tup xs => D.purs xs
  | .rol xs => D.purs xs
  | .ref _ => false
  | .non => true
  | .bl _ => true
  | .int _ => true
  | .str _ => true
  | .ty _ => true
  | .cst _ => true
def D.purs : List D → Bool
  | [] => true
  | x :: xs => x.pur && D.purs xs
end
def purK {κ : Type} : List (κ × D) → Bool
  | [] => true
  | (_, x) :: xs => x.pur && purK xs
def O.pur : O → Bool
  | .lst xs => D.purs xs
  | .dK xs => purK xs
  | .dT xs => purK xs
  | .ins _ xs => purK xs
mutual
theorem ren_pur {ρ : Nat → Nat} : ∀ {d : D}, d.pur = true → ren ρ d = d
  | .non, _ => by simp only [ren]
  | .bl _, _ => by simp only [ren]
  | .int _, _ => by simp only [ren]
  | .str _, _ => by simp only [ren]
  | .ty _, _ => by simp only [ren]
  | .cst _, _ => by simp only [ren]
  | .ref _, h => by simp [D.pur] at h
  | .tup xs, h => by simp only [D.pur] at h; simp only [ren, rens_pur h]
  | .rol xs, h => by simp only [D.pur] at h; simp only [ren, rens_pur h]
theorem rens_pur {ρ : Nat → Nat} : ∀ {xs : List D}, D.purs xs = true → rens ρ xs = xs
  | [], _ => by simp only [rens]
  | x :: xs, h => by
    simp only [D.purs, Bool.and_eq_true] at h
    simp only [rens, ren_pur h.1, rens_pur h.2]
end
theorem renK_pur {κ : Type} {ρ : Nat → Nat} : ∀ {xs : List (κ × D)}, purK xs = true → renK ρ xs = xs
  | [], _ => rfl
  | (k, x) :: xs, h => by
    simp only [purK, Bool.and_eq_true] at h
    simp only [renK, ren_pur h.1, renK_pur h.2]
theorem renO_pur {ρ : Nat → Nat} {o : O} (h : o.pur = true) : renO ρ o = o := by
  cases o <;> simp only [O.pur] at h <;> simp only [renO, rens_pur, renK_pur, h]
theorem purs_map {α : Type} {f : α → D} (h : ∀ a, (f a).pur = true) : ∀ xs : List α, D.purs (xs.map f) = true
  | [] => by simp only [List.map_nil, D.purs]
  | x :: xs => by simp only [List.map_cons, D.purs, h x, purs_map h xs, Bool.and_self]
theorem purs_all : ∀ {xs : List D}, D.purs xs = true ↔ ∀ x ∈ xs, x.pur = true
  | [] => by simp [D.purs]
  | x :: xs => by simp [D.purs, purs_all (xs := xs)]
theorem purs_app {xs ys : List D} : D.purs (xs ++ ys) = (D.purs xs && D.purs ys) := by
  induction xs with
  | nil => simp [D.purs]
  | cons x xs ih => simp [D.purs, ih, Bool.and_assoc]
theorem purK_map {κ α : Type} {f : α → κ × D} (h : ∀ a, (f a).2.pur = true) : ∀ xs : List α, purK (xs.map f) = true
  | [] => rfl
  | x :: xs => by
    show purK (f x :: xs.map f) = true
    have := h x
    cases hf : f x with
    | mk k d =>
      rw [hf] at this
      simp only [purK, purK_map h xs, Bool.and_true]; exact this

section
variable {K : Frag} {m1 m2 : List Addr} {H : Hp} {ρ : Nat → Nat}
mutual
theorem VR.ren (h : ∀ i : Nat, m1[i]? = m2[ρ i]?) : ∀ {d : D} {v : V}, VR K m1 H d v ↔ VR K m2 H (ren ρ d) v
  | .non, _ => by simp only [VR, Z.ren]
  | .bl _, _ => by simp only [VR, Z.ren]
  | .int _, _ => by simp only [VR, Z.ren]
  | .str _, _ => by simp only [VR, Z.ren]
  | .ty _, _ => by simp only [VR, Z.ren]
  | .cst _, _ => by simp only [VR, Z.ren]
  | .ref i, _ => by simp only [VR, Z.ren, h i]
  | .tup xs, _ => by
    simp only [VR, Z.ren]
    exact ⟨fun ⟨a, us, h1, h2, h3⟩ => ⟨a, us, h1, h2, (VRs.ren h).mp h3⟩, fun ⟨a, us, h1, h2, h3⟩ => ⟨a, us, h1, h2, (VRs.ren h).mpr h3⟩⟩
  | .rol xs, _ => by
    simp only [VR, Z.ren]
    exact ⟨fun ⟨a, us, h1, h2, h3⟩ => ⟨a, us, h1, h2, (VRs.ren h).mp h3⟩, fun ⟨a, us, h1, h2, h3⟩ => ⟨a, us, h1, h2, (VRs.ren h).mpr h3⟩⟩
theorem VRs.ren (h : ∀ i : Nat, m1[i]? = m2[ρ i]?) : ∀ {xs : List D} {us : List V}, VRs K m1 H xs us ↔ VRs K m2 H (rens ρ xs) us
  | [], _ => by simp only [VRs, rens]
  | x :: xs, _ => by
    simp only [VRs, rens]
    exact ⟨fun ⟨u, r, h1, h2, h3⟩ => ⟨u, r, h1, (VR.ren h).mp h2, (VRs.ren h).mp h3⟩, fun ⟨u, r, h1, h2, h3⟩ => ⟨u, r, h1, (VR.ren h).mpr h2, (VRs.ren h).mpr h3⟩⟩
end
theorem KVR.ren {κ : Type} (h : ∀ i : Nat, m1[i]? = m2[ρ i]?) : ∀ {r : List (κ × D)} {t : List (κ × V)}, KVR K m1 H r t ↔ KVR K m2 H (renK ρ r) t
  | [], t => ⟨fun z => by cases z; exact .nil, fun z => by cases z; exact .nil⟩
  | (k, d) :: r, t => ⟨fun z => by cases z with | cons a b => exact .cons ((VR.ren h).mp a) ((KVR.ren h).mp b), fun z => by
      simp only [renK] at z
      cases z with | cons a b => exact .cons ((VR.ren h).mpr a) ((KVR.ren h).mpr b)⟩
theorem OA.ren (h : ∀ i : Nat, m1[i]? = m2[ρ i]?) {a : Addr} {o : O} : OA K m1 H a o ↔ OA K m2 H a (renO ρ o) := by
  cases o with
  | lst xs => exact ⟨fun ⟨us, a, b⟩ => ⟨us, a, (VRs.ren h).mp b⟩, fun ⟨us, a, b⟩ => ⟨us, a, (VRs.ren h).mpr b⟩⟩
  | dK xs => exact ⟨fun ⟨us, a, b⟩ => ⟨us, a, (KVR.ren h).mp b⟩, fun ⟨us, a, b⟩ => ⟨us, a, (KVR.ren h).mpr b⟩⟩
  | dT xs => exact ⟨fun ⟨us, a, b⟩ => ⟨us, a, (KVR.ren h).mp b⟩, fun ⟨us, a, b⟩ => ⟨us, a, (KVR.ren h).mpr b⟩⟩
  | ins C xs => exact ⟨fun ⟨A, dx, us, n, a, b⟩ => ⟨A, dx, us, n, a, (KVR.ren h).mp b⟩, fun ⟨A, dx, us, n, a, b⟩ => ⟨A, dx, us, n, a, (KVR.ren h).mpr b⟩⟩
end

def rho (π : List Nat) (s i : Nat) : Nat := (π[i]?).getD (s + (i - π.length))
/-- the things of L stand in S at the numbers π -/
def EmbL (ρ : Nat → Nat) (S : Sto) : List Nat → Sto → Prop
  | [], [] => True
  | q :: π, o :: L => S[q]? = some (renO ρ o) ∧ EmbL ρ S π L
  | _, _ => False
structure Emb (π : List Nat) (L S : Sto) : Prop where
  nd : π.Nodup
  at_ : EmbL (rho π S.length) S π L
/-- slots, some forgotten -/
def EnvLe (ρ : Nat → Nat) : En → En → Prop
  | [], [] => True
  | none :: l, _ :: e => EnvLe ρ l e
  | some d :: l, x :: e => x = some (ren ρ d) ∧ EnvLe ρ l e
  | _, _ => False
def put (ρ : Nat → Nat) : Sto → List Nat → Sto → Sto
  | S, q :: π, o :: L => put ρ (S.set q (renO ρ o)) π L
  | S, [], L => S ++ L.map (renO ρ)
  | S, _ :: _, [] => S
def sel (m : List Addr) (π : List Nat) : List Addr := π.map fun q => m.getD q 0
theorem EmbL.len {ρ : Nat → Nat} {S : Sto} : ∀ {π : List Nat} {L : Sto}, EmbL ρ S π L → π.length = L.length
  | [], [], _ => rfl
  | _ :: _, _ :: _, h => by simp [EmbL.len h.2]
  | [], _ :: _, h => h.elim
  | _ :: _, [], h => h.elim
theorem EmbL.get {ρ : Nat → Nat} {S : Sto} : ∀ {π : List Nat} {L : Sto} {i q : Nat} {o : O}, EmbL ρ S π L → π[i]? = some q → L[i]? = some o → S[q]? = some (renO ρ o)
  | [], [], _, _, _, _, h, _ => by simp at h
  | q :: _, o :: _, 0, _, _, h, h1, h2 => by
    simp at h1 h2; subst h1; subst h2; exact h.1
  | _ :: _, _ :: _, i + 1, _, _, h, h1, h2 => EmbL.get h.2 (by simpa using h1) (by simpa using h2)
  | [], _ :: _, _, _, _, h, _, _ => h.elim
  | _ :: _, [], _, _, _, h, _, _ => h.elim
theorem EmbL.lt {ρ : Nat → Nat} {S : Sto} {π : List Nat} {L : Sto} (h : EmbL ρ S π L) {i q : Nat} (e : π[i]? = some q) : q < S.length := by
  have hi := (List.getElem?_eq_some_iff.mp e).1
  rw [h.len] at hi
  exact getS_lt (h.get e (List.getElem?_eq_getElem hi))
theorem sel_at {m : List Addr} {π : List Nat} {s : Nat} (hm : m.length = s) (h : ∀ i q : Nat, π[i]? = some q → q < s) (i : Nat) : (sel m π)[i]? = m[rho π s i]? := by
  unfold sel rho
  rw [List.getElem?_map]
  cases e : π[i]? with
  | none =>
    show none = m[s + (i - π.length)]?
    rw [List.getElem?_eq_none (by omega)]
  | some q =>
    have := h i q e
    show some (m.getD q 0) = m[q]?
    rw [List.getD_eq_getElem?_getD, List.getElem?_eq_getElem (by omega)]; rfl
theorem sel_len {m : List Addr} {π : List Nat} : (sel m π).length = π.length := by simp [sel]
theorem sel_mem {m : List Addr} {π : List Nat} (h : ∀ i q : Nat, π[i]? = some q → q < m.length) {a : Addr} (ha : a ∈ sel m π) : a ∈ m := by
  unfold sel at ha
  obtain ⟨q, hq, rfl⟩ := List.mem_map.mp ha
  obtain ⟨i, hi, e⟩ := List.mem_iff_getElem.mp hq
  have := h i q (by rw [List.getElem?_eq_getElem hi, e])
  rw [List.getD_eq_getElem?_getD, List.getElem?_eq_getElem this]
  exact List.getElem_mem _
theorem nodup_of_get {α : Type} {l : List α} (h : ∀ (i j : Nat) (a : α), l[i]? = some a → l[j]? = some a → i = j) : l.Nodup := by
  rw [List.nodup_iff_pairwise_ne, List.pairwise_iff_getElem]
  intro i j hi hj hij e
  have := h i j l[i] (List.getElem?_eq_getElem hi) (by rw [List.getElem?_eq_getElem hj, e])
  omega
theorem nodup_get {α : Type} {l : List α} (h : l.Nodup) {i j : Nat} {a : α} (h1 : l[i]? = some a) (h2 : l[j]? = some a) : i = j := by
  obtain ⟨l1, e1⟩ := List.getElem?_eq_some_iff.mp h1
  obtain ⟨l2, e2⟩ := List.getElem?_eq_some_iff.mp h2
  exact (List.getElem_inj h).mp (e1.trans e2.symm)
section
variable {K : Frag} {m : List Addr} {H : Hp} {S L : Sto} {π : List Nat}
theorem SR.sub (s : SR K m H S) (e : Emb π L S) : SR K (sel m π) H L := by
  have hlt : ∀ i q : Nat, π[i]? = some q → q < S.length := fun i q h => e.at_.lt h
  have hs := sel_at (m := m) s.len hlt
  refine ⟨by rw [sel_len, e.at_.len], nodup_of_get fun i j a h1 h2 => ?_, fun i o h => ?_⟩
  · rw [hs] at h1 h2
    have e1 : rho π S.length i = rho π S.length j := nodup_get s.nd h1 h2
    have l1 := (List.getElem?_eq_some_iff.mp h1).1
    have l2 := (List.getElem?_eq_some_iff.mp h2).1
    unfold rho at e1 l1 l2
    cases a1 : π[i]? with
    | none => rw [a1] at l1; simp at l1; have := s.len; omega
    | some q1 =>
      cases a2 : π[j]? with
      | none => rw [a2] at l2; simp at l2; have := s.len; omega
      | some q2 =>
        rw [a1, a2] at e1
        have e1 : q1 = q2 := e1
        subst e1
        exact nodup_get e.nd a1 a2
  · have hi := (List.getElem?_eq_some_iff.mp h).1
    rw [← e.at_.len] at hi
    have hq : π[i]? = some π[i] := List.getElem?_eq_getElem hi
    obtain ⟨a, h1, h2⟩ := s.at_ _ _ (e.at_.get hq h)
    refine ⟨a, ?_, (OA.ren (m1 := sel m π) (m2 := m) hs).mpr h2⟩
    rw [hs, rho, hq]; exact h1
theorem ER.sub (hs : ∀ i : Nat, (sel m π)[i]? = m[rho π S.length i]?) : ∀ {le env : En} {σ : L2.St}, ER K m H env σ → EnvLe (rho π S.length) le env → ER K (sel m π) H le σ := by
  intro le env σ r h
  have len : ∀ {le env : En}, EnvLe (rho π S.length) le env → le.length = env.length := by
    intro le
    induction le with
    | nil => intro env h; cases env with | nil => rfl | cons _ _ => exact h.elim
    | cons x l ih =>
      intro env h
      cases env with
      | nil => cases x <;> exact h.elim
      | cons y e => cases x with
        | none => simp [ih (env := e) h]
        | some d => simp [ih (env := e) h.2]
  have at_ : ∀ {le env : En}, EnvLe (rho π S.length) le env → ∀ (i : Nat) (d : D), le[i]? = some (some d) → env[i]? = some (some (ren (rho π S.length) d)) := by
    intro le
    induction le with
    | nil => intro env h i d e; simp at e
    | cons x l ih =>
      intro env h i d e
      cases env with
      | nil => cases x <;> exact h.elim
      | cons y t =>
        cases i with
        | zero =>
          simp at e; subst e
          simp [h.1]
        | succ i =>
          cases x with
          | none => simpa using ih (env := t) h i d (by simpa using e)
          | some d' => simpa using ih (env := t) h.2 i d (by simpa using e)
  refine ⟨by rw [len h, r.len], fun i d e => ?_⟩
  obtain ⟨v, h1, h2⟩ := r.at_ i _ (at_ h i d e)
  exact ⟨v, h1, (VR.ren (m1 := sel m π) (m2 := m) hs).mpr h2⟩
end
/-! put back -/
theorem put_len {ρ : Nat → Nat} : ∀ {π : List Nat} {S L : Sto}, π.length ≤ L.length → (put ρ S π L).length = S.length + (L.length - π.length)
  | [], S, L, _ => by simp [put]
  | q :: π, S, [], h => by simp at h
  | q :: π, S, o :: L, h => by
    have h : π.length + 1 ≤ L.length + 1 := h
    rw [put, put_len (by omega)]; simp
theorem put_at {ρ : Nat → Nat} : ∀ {π : List Nat} {S L : Sto} (j : Nat), π.length ≤ L.length → π.Nodup → (∀ q ∈ π, q < S.length) →
    (∀ i : Nat, π[i]? = some j → (put ρ S π L)[j]? = (L[i]?).map (renO ρ)) ∧ (j ∉ π → j < S.length → (put ρ S π L)[j]? = S[j]?) ∧ (S.length ≤ j → (put ρ S π L)[j]? = (L[π.length + (j - S.length)]?).map (renO ρ))
  | [], S, L, j, _, _, _ => by
    refine ⟨fun i h => by simp at h, fun _ h => ?_, fun h => ?_⟩
    · rw [put, List.getElem?_append_left h]
    · rw [put, List.getElem?_append_right h, List.getElem?_map]; simp
  | q :: π, S, [], j, h, _, _ => by simp at h
  | q :: π, S, o :: L, j, h, nd, lt => by
    have h : π.length + 1 ≤ L.length + 1 := h
    have nd := List.nodup_cons.mp nd
    obtain ⟨i1, i2, i3⟩ := put_at (ρ := ρ) (π := π) (S := S.set q (renO ρ o)) (L := L) j (by omega) nd.2 (fun x hx => by rw [List.length_set]; exact lt x (List.mem_cons_of_mem _ hx))
    rw [List.length_set] at i2 i3
    refine ⟨fun i hi => ?_, fun hn hj => ?_, fun hj => ?_⟩
    · cases i with
      | zero =>
        simp at hi; subst hi
        rw [put, i2 nd.1 (lt _ List.mem_cons_self), List.getElem?_set_self (lt _ List.mem_cons_self)]; rfl
      | succ i => rw [put, i1 i (by simpa using hi)]; simp
    · rw [put, i2 (fun z => hn (List.mem_cons_of_mem _ z)) hj, List.getElem?_set_ne (fun z => hn (by rw [z]; exact List.mem_cons_self))]
    · rw [put, i3 hj, List.length_cons, show π.length + 1 + (j - S.length) = (π.length + (j - S.length)) + 1 by omega, List.getElem?_cons_succ]
def putm (m : List Addr) (π : List Nat) (m2 : List Addr) : List Addr := m ++ m2.drop π.length
section
variable {K : Frag} {m m' m2 : List Addr} {H H' : Hp} {S L L2 : Sto} {π : List Nat}
theorem SR.back (s : SR K m H S) (e : Emb π L S) (x : Ext K (sel m π) H m' H') (s2 : SR K m2 H' L2) (h2 : ∀ a ∈ m2, a ∈ m') (hp : ∀ i : Nat, i < π.length → m2[i]? = (sel m π)[i]?) (nd' : m'.Nodup) :
    Ext K m H (putm m π m2) H' ∧ SR K (putm m π m2) H' (put (rho π S.length) S π L2) ∧ ∀ i : Nat, m2[i]? = (putm m π m2)[rho π S.length i]? := by
  have hlt : ∀ i q : Nat, π[i]? = some q → q < S.length := fun i q h => e.at_.lt h
  have hltm : ∀ i q : Nat, π[i]? = some q → q < m.length := fun i q h => by rw [s.len]; exact hlt i q h
  have hs := sel_at (m := m) s.len hlt
  have hlen : π.length ≤ m2.length := by
    cases hπ : π.length with
    | zero => omega
    | succ k =>
      have := hp k (by omega)
      rw [List.getElem?_eq_getElem (show k < (sel m π).length by rw [sel_len]; omega)] at this
      have := (List.getElem?_eq_some_iff.mp this).1
      omega
  have hL : m2.length = L2.length := s2.len
  have key : ∀ i : Nat, m2[i]? = (putm m π m2)[rho π S.length i]? := fun i => by
    unfold putm rho
    cases hq : π[i]? with
    | none =>
      have hi : π.length ≤ i := by
        rw [List.getElem?_eq_none_iff] at hq; exact hq
      show m2[i]? = (m ++ m2.drop π.length)[S.length + (i - π.length)]?
      rw [List.getElem?_append_right (by rw [s.len]; omega), s.len, List.getElem?_drop]
      congr 1; omega
    | some q =>
      have hi := (List.getElem?_eq_some_iff.mp hq).1
      show m2[i]? = (m ++ m2.drop π.length)[q]?
      rw [List.getElem?_append_left (hltm i q hq), hp i hi, hs, rho, hq]; rfl
  have subm : ∀ a ∈ sel m π, a ∈ m := fun a ha => sel_mem hltm ha
  have drop_new : ∀ a ∈ m2.drop π.length, a ∉ m := fun a ha hm => by
    have ham' := h2 a (List.mem_of_mem_drop ha)
    by_cases hs' : a ∈ sel m π
    · obtain ⟨i, hi, ei⟩ := List.mem_iff_getElem.mp hs'
      obtain ⟨j, hj, ej⟩ := List.mem_iff_getElem.mp ha
      rw [List.getElem_drop] at ej
      rw [List.length_drop] at hj
      have g1 : m2[i]? = some a := by rw [hp i (by rw [sel_len] at hi; exact hi), List.getElem?_eq_getElem hi, ei]
      have g2 : m2[π.length + j]? = some a := by rw [List.getElem?_eq_getElem (by omega), ej]
      have := nodup_get s2.nd g1 g2
      rw [sel_len] at hi; omega
    · have hc := s.mem hm
      cases ho : H a with
      | none => rw [ho] at hc; exact hc
      | some o => exact (x.fr a o ho hs').2 ham'
  have ext : Ext K m H (putm m π m2) H' := by
    refine ⟨⟨x.tup, x.rol, fun i a h => ?_⟩, fun a o h n => ?_⟩
    · unfold putm
      rw [List.getElem?_append_left (List.getElem?_eq_some_iff.mp h).1]; exact h
    · have n' : a ∉ sel m π := fun z => n (subm a z)
      obtain ⟨h1, h3⟩ := x.fr a o h n'
      refine ⟨h1, fun z => ?_⟩
      rcases List.mem_append.mp z with z | z
      · exact n z
      · exact h3 (h2 a (List.mem_of_mem_drop z))
  refine ⟨ext, ⟨?_, ?_, fun j o hj => ?_⟩, key⟩
  · rw [put_len (by omega)]; unfold putm; rw [List.length_append, List.length_drop, s.len, hL]
  · unfold putm
    rw [List.nodup_append]
    exact ⟨s.nd, s2.nd.sublist (List.drop_sublist _ _), fun a ha b hb z => drop_new b hb (by rw [← z]; exact ha)⟩
  · have πlt : ∀ q ∈ π, q < S.length := fun q hq => by
      obtain ⟨i, hi, ei⟩ := List.mem_iff_getElem.mp hq
      exact hlt i q (by rw [List.getElem?_eq_getElem hi, ei])
    obtain ⟨p1, p2, p3⟩ := put_at (ρ := rho π S.length) (π := π) (S := S) (L := L2) j (by omega) e.nd πlt
    have fin : ∀ i o', L2[i]? = some o' → o = renO (rho π S.length) o' → rho π S.length i = j → ∃ a, (putm m π m2)[j]? = some a ∧ OA K (putm m π m2) H' a o := by
      intro i o' h1 h2 h3
      obtain ⟨a, a1, a2⟩ := s2.at_ i o' h1
      refine ⟨a, by rw [← h3, ← key i]; exact a1, ?_⟩
      rw [h2]
      exact (OA.ren key).mp a2
    by_cases hin : j ∈ π
    · obtain ⟨i, hi, ei⟩ := List.mem_iff_getElem.mp hin
      have hq : π[i]? = some j := by rw [List.getElem?_eq_getElem hi, ei]
      rw [p1 i hq] at hj
      cases ho : L2[i]? with
      | none => rw [ho] at hj; cases hj
      | some o' =>
        rw [ho] at hj
        exact fin i o' ho (Option.some.inj hj).symm (by rw [rho, hq]; rfl)
    · by_cases hjl : j < S.length
      · rw [p2 hin hjl] at hj
        obtain ⟨a, a1, a2⟩ := s.at_ j o hj
        have na : a ∉ sel m π := fun z => by
          unfold sel at z
          obtain ⟨q, hq, rfl⟩ := List.mem_map.mp z
          have hqm : q < m.length := by rw [s.len]; exact πlt q hq
          have : m[q]? = some (m.getD q 0) := by rw [List.getD_eq_getElem?_getD, List.getElem?_eq_getElem hqm]; rfl
          have := nodup_get s.nd a1 this
          exact hin (by rw [this]; exact hq)
        have hc := a2.chg
        cases ho : H a with
        | none => rw [ho] at hc; exact hc.elim
        | some o2 =>
          refine ⟨a, ext.pre _ _ a1, a2.keep ext.toEx ?_⟩
          rw [ho]; exact (x.fr a o2 ho na).1
      · rw [p3 (by omega)] at hj
        cases ho : L2[π.length + (j - S.length)]? with
        | none => rw [ho] at hj; cases hj
        | some o' =>
          rw [ho] at hj
          refine fin _ o' ho (Option.some.inj hj).symm ?_
          unfold rho
          rw [List.getElem?_eq_none (by omega)]
          show S.length + (π.length + (j - S.length) - π.length) = j
          omega
end
def renE (ρ : Nat → Nat) : En → En
  | [] => []
  | none :: l => none :: renE ρ l
  | some d :: l => some (ren ρ d) :: renE ρ l
theorem renE_len {ρ : Nat → Nat} : ∀ l : En, (renE ρ l).length = l.length
  | [] => rfl
  | none :: l => by simp [renE, renE_len l]
  | some d :: l => by simp [renE, renE_len l]
theorem renE_at {ρ : Nat → Nat} : ∀ (l : En) (i : Nat) (d : D), (renE ρ l)[i]? = some (some d) → ∃ d', l[i]? = some (some d') ∧ d = ren ρ d'
  | [], i, d, h => by simp [renE] at h
  | none :: l, 0, d, h => by simp [renE] at h
  | some x :: l, 0, d, h => by simp [renE] at h; exact ⟨x, by simp, h.symm⟩
  | none :: l, i + 1, d, h => by simpa using renE_at l i d (by simpa [renE] using h)
  | some x :: l, i + 1, d, h => by simpa using renE_at l i d (by simpa [renE] using h)
theorem ER.back {K : Frag} {m1 m2 : List Addr} {H : Hp} {ρ : Nat → Nat} {le : En} {σ : L2.St} (h : ∀ i : Nat, m1[i]? = m2[ρ i]?) (r : ER K m1 H le σ) : ER K m2 H (renE ρ le) σ := by
  refine ⟨by rw [renE_len, r.len], fun i d e => ?_⟩
  obtain ⟨d', h1, rfl⟩ := renE_at le i d e
  obtain ⟨v, h2, h3⟩ := r.at_ i d' h1
  exact ⟨v, h2, (VR.ren h).mp h3⟩
/-- what is kept of a part: κ, the first k of it as they are -/
structure Kept (k : Nat) (κ : List Nat) (L2 L : Sto) : Prop extends Emb κ L2 L where
  fst : ∀ i : Nat, i < k → κ[i]? = some i
/-- the ways out of a part -/
@[irreducible] def locE (π : List Nat) (S : Sto) (D : WEnds) : WEnds where
  nx := fun le L => ∃ κ L2 le2, Kept π.length κ L2 L ∧ EnvLe (rho κ L.length) le2 le ∧ D.nx (renE (rho π S.length) le2) (put (rho π S.length) S π L2)
  ct := fun le L => ∃ κ L2 le2, Kept π.length κ L2 L ∧ EnvLe (rho κ L.length) le2 le ∧ D.ct (renE (rho π S.length) le2) (put (rho π S.length) S π L2)
  bk := fun le L => ∃ κ L2 le2, Kept π.length κ L2 L ∧ EnvLe (rho κ L.length) le2 le ∧ D.bk (renE (rho π S.length) le2) (put (rho π S.length) S π L2)
  rt := fun d L => ∃ κ L2 d2, Kept π.length κ L2 L ∧ d = ren (rho κ L.length) d2 ∧ D.rt (ren (rho π S.length) d2) (put (rho π S.length) S π L2)
/-- a part of the store by itself -/
def sLoc (w : WS) : WS := fun D env S => w D env S ∨ ∃ π L le, Emb π L S ∧ EnvLe (rho π S.length) le env ∧ w (locE π S D) le L
section
variable {K : Frag}
theorem liftS_loc {w : WS} {D : Ends} {σ : L2.St} {H : Hp} (h : liftS K (sLoc w) D σ H) : liftS K w D σ H := by
  obtain ⟨env, S, m, D0, s, r, h | ⟨π, L, le, e, hle, hw⟩, k⟩ := h
  · exact ⟨env, S, m, D0, s, r, h, k⟩
  have hlt : ∀ i q : Nat, π[i]? = some q → q < S.length := fun i q h => e.at_.lt h
  have hs := sel_at (m := m) s.len hlt
  have sL := s.sub e
  have core : ∀ {L' : Sto} {H' : Hp} {m' : List Addr} {κ : List Nat} {L2 : Sto}, Ext K (sel m π) H m' H' → SR K m' H' L' → Kept π.length κ L2 L' →
      Ext K m H (putm m π (sel m' κ)) H' ∧ SR K (putm m π (sel m' κ)) H' (put (rho π S.length) S π L2) ∧ (∀ i : Nat, (sel m' κ)[i]? = (putm m π (sel m' κ))[rho π S.length i]?) ∧ ∀ i : Nat, (sel m' κ)[i]? = m'[rho κ L'.length i]? := by
    intro L' H' m' κ L2 x s' kp
    have hlt' : ∀ i q : Nat, κ[i]? = some q → q < L'.length := fun i q h => kp.at_.lt h
    have hs' := sel_at (m := m') s'.len hlt'
    obtain ⟨b1, b2, b3⟩ := s.back e x (s'.sub kp.toEmb) (fun a ha => sel_mem (fun i q h => by rw [s'.len]; exact hlt' i q h) ha) (fun i hi => by
      rw [hs', rho, kp.fst i hi]
      show m'[i]? = _
      have hi' : i < (sel m π).length := by rw [sel_len]; exact hi
      rw [List.getElem?_eq_getElem hi', x.pre i _ (List.getElem?_eq_getElem hi')]) s'.nd
    exact ⟨b1, b2, b3, hs'⟩
  refine ⟨le, L, sel m π, locE π S D0, sL, ER.sub hs r hle, hw, ⟨?_, ?_, ?_, ?_⟩⟩
  · intro le' L' σ' H' m' h x s' r'
    unfold locE at h
    obtain ⟨κ, L2, le2, kp, h2, q⟩ := h
    obtain ⟨b1, b2, b3, hs'⟩ := core x s' kp
    exact k.nx _ _ _ _ _ q b1 b2 (ER.back b3 (ER.sub hs' r' h2))
  · intro d L' u H' m' h x s' r'
    unfold locE at h
    obtain ⟨κ, L2, d2, kp, rfl, q⟩ := h
    obtain ⟨b1, b2, b3, hs'⟩ := core x s' kp
    exact k.rt _ _ _ _ _ q b1 b2 ((VR.ren b3).mp ((VR.ren hs').mpr r'))
  · intro le' L' σ' H' m' h x s' r'
    unfold locE at h
    obtain ⟨κ, L2, le2, kp, h2, q⟩ := h
    obtain ⟨b1, b2, b3, hs'⟩ := core x s' kp
    exact k.bk _ _ _ _ _ q b1 b2 (ER.back b3 (ER.sub hs' r' h2))
  · intro le' L' σ' H' m' h x s' r'
    unfold locE at h
    obtain ⟨κ, L2, le2, kp, h2, q⟩ := h
    obtain ⟨b1, b2, b3, hs'⟩ := core x s' kp
    exact k.ct _ _ _ _ _ q b1 b2 (ER.back b3 (ER.sub hs' r' h2))
end
theorem fss_loc {X : Cx} {b : List Stmt} {w : WS} (h : FSs X b w) : FSs X b (sLoc w) := ⟨PSs.imp h.p fun D σ H q => liftS_loc q⟩
theorem fs_loc {X : Cx} {b : Stmt} {w : WS} (h : FS X b w) : FS X b (sLoc w) := ⟨PS.imp h.p fun D σ H q => liftS_loc q⟩
end Z
namespace Z
open PySem PySem.Spec PyProof.Rows L2

/-! what holds no number of the store, by its form -/
class Pur (d : D) : Prop where p : d.pur = true
class Purs (xs : List D) : Prop where p : D.purs xs = true
class PurK {κ : Type} (xs : List (κ × D)) : Prop where p : purK xs = true
class PurO (o : O) : Prop where p : o.pur = true
class PurOs (L : Sto) : Prop where p : ∀ o ∈ L, o.pur = true
instance : Pur .non := ⟨by simp only [D.pur]⟩
instance {b} : Pur (.bl b) := ⟨by simp only [D.pur]⟩
instance {b} : Pur (.int b) := ⟨by simp only [D.pur]⟩
instance {b} : Pur (.str b) := ⟨by simp only [D.pur]⟩
instance {b} : Pur (.ty b) := ⟨by simp only [D.pur]⟩
instance {b} : Pur (.cst b) := ⟨by simp only [D.pur]⟩
instance {xs} [h : Purs xs] : Pur (.tup xs) := ⟨by simp only [D.pur, h.p]⟩
instance {xs} [h : Purs xs] : Pur (.rol xs) := ⟨by simp only [D.pur, h.p]⟩
instance : Purs [] := ⟨by simp only [D.purs]⟩
instance {x xs} [h : Pur x] [t : Purs xs] : Purs (x :: xs) := ⟨by simp only [D.purs, h.p, t.p, Bool.and_self]⟩
instance {xs ys} [h : Purs xs] [t : Purs ys] : Purs (xs ++ ys) := ⟨by rw [purs_app, h.p, t.p]; rfl⟩
instance {α : Type} {f : α → D} {xs : List α} [h : ∀ a, Pur (f a)] : Purs (xs.map f) := ⟨purs_map (fun a => (h a).p) xs⟩
instance {n : Nat} {x : D} [h : Pur x] : Purs (List.replicate n x) := ⟨purs_all.mpr fun y hy => by rw [(List.mem_replicate.mp hy).2]; exact h.p⟩
instance {κ : Type} : PurK ([] : List (κ × D)) := ⟨rfl⟩
instance {κ : Type} {k : κ} {x xs} [h : Pur x] [t : PurK xs] : PurK ((k, x) :: xs) := ⟨by simp only [purK, h.p, t.p, Bool.and_self]⟩
instance {κ α : Type} {f : α → κ × D} {xs : List α} [h : ∀ a, Pur (f a).2] : PurK (xs.map f) := ⟨purK_map (fun a => (h a).p) xs⟩
instance {xs} [h : Purs xs] : PurO (.lst xs) := ⟨by simp only [O.pur, h.p]⟩
instance {xs} [h : PurK xs] : PurO (.dK xs) := ⟨by simp only [O.pur, h.p]⟩
instance {xs} [h : PurK xs] : PurO (.dT xs) := ⟨by simp only [O.pur, h.p]⟩
instance {C xs} [h : PurK xs] : PurO (.ins C xs) := ⟨by simp only [O.pur, h.p]⟩
instance : PurOs [] := ⟨fun _ h => by cases h⟩
instance {o L} [h : PurO o] [t : PurOs L] : PurOs (o :: L) := ⟨fun x hx => by
  rcases List.mem_cons.mp hx with rfl | hx
  · exact h.p
  · exact t.p x hx⟩
instance (n : Nat) : Pur (natD n) := ⟨by simp only [D.pur]⟩
instance (t : Tie) : Pur (tieD t) := ⟨by unfold tieD; simp only [D.pur, D.purs, Bool.and_self]⟩
instance (t : Tie) : Pur (tailD t) := ⟨by unfold tailD; simp only [D.pur, D.purs, Bool.and_self]⟩
instance (ts : List Tie) : Pur (stD ts) := ⟨by unfold stD; simp only [D.pur]; exact purs_map (fun t => (inferInstance : Pur (tieD t)).p) ts⟩
instance (ts : List Tie) : PurK (dictD ts) := ⟨by unfold dictD; exact purK_map (fun t => (inferInstance : Pur (tailD t)).p) ts⟩
theorem envP {ρ : Nat → Nat} {d : D} [h : Pur d] : some d = some (ren ρ d) := by rw [ren_pur h.p]
theorem embP {ρ : Nat → Nat} {S : Sto} {q : Nat} {o : O} [h : PurO o] (e : S[q]? = some o) : S[q]? = some (renO ρ o) := by rw [renO_pur h.p]; exact e

/-! refs below k only -/
mutual
def D.bel (k : Nat) : D → Bool
  | .tup xs => D.bels k xs
  | .rol xs => D.bels k xs
  | .ref i => decide (i < k)
  | .non => true
  | .bl _ => true
  | .int _ => true
  | .str _ => true
  | .ty _ => true
  | .cst _ => true
def D.bels (k : Nat) : List D → Bool
  | [] => true
  | x :: xs => x.bel k && D.bels k xs
end
def belK {κ : Type} (k : Nat) : List (κ × D) → Bool
  | [] => true
  | (_, x) :: xs => x.bel k && belK k xs
def O.bel (k : Nat) : O → Bool
  | .lst xs => D.bels k xs
  | .dK xs => belK k xs
  | .dT xs => belK k xs
  | .ins _ xs => belK k xs
mutual
theorem pur_bel {k : Nat} : ∀ {d : D}, d.pur = true → d.bel k = true
  | .non, _ => by simp only [D.bel]
  | .bl _, _ => by simp only [D.bel]
  | .int _, _ => by simp only [D.bel]
  | .str _, _ => by simp only [D.bel]
  | .ty _, _ => by simp only [D.bel]
  | .cst _, _ => by simp only [D.bel]
  | .ref _, h => by simp [D.pur] at h
  | .tup xs, h => by simp only [D.pur] at h; simp only [D.bel, purs_bel h]
  | .rol xs, h => by simp only [D.pur] at h; simp only [D.bel, purs_bel h]
theorem purs_bel {k : Nat} : ∀ {xs : List D}, D.purs xs = true → D.bels k xs = true
  | [], _ => by simp only [D.bels]
  | x :: xs, h => by
    simp only [D.purs, Bool.and_eq_true] at h
    simp only [D.bels, pur_bel h.1, purs_bel h.2, Bool.and_self]
end
theorem purK_bel {κ : Type} {k : Nat} : ∀ {xs : List (κ × D)}, purK xs = true → belK k xs = true
  | [], _ => rfl
  | (_, x) :: xs, h => by
    simp only [purK, Bool.and_eq_true] at h
    simp only [belK, pur_bel h.1, purK_bel h.2, Bool.and_self]
theorem purO_bel {k : Nat} {o : O} (h : o.pur = true) : o.bel k = true := by
  cases o <;> simp only [O.pur] at h <;> simp only [O.bel, purs_bel, purK_bel, h]
mutual
theorem ren_same {ρ : Nat → Nat} {k : Nat} (hρ : ∀ i, i < k → ρ i = i) : ∀ {d : D}, d.bel k = true → ren ρ d = d
  | .non, _ => by simp only [ren]
  | .bl _, _ => by simp only [ren]
  | .int _, _ => by simp only [ren]
  | .str _, _ => by simp only [ren]
  | .ty _, _ => by simp only [ren]
  | .cst _, _ => by simp only [ren]
  | .ref i, h => by simp only [D.bel, decide_eq_true_eq] at h; simp only [ren, hρ i h]
  | .tup xs, h => by simp only [D.bel] at h; simp only [ren, rens_same hρ h]
  | .rol xs, h => by simp only [D.bel] at h; simp only [ren, rens_same hρ h]
theorem rens_same {ρ : Nat → Nat} {k : Nat} (hρ : ∀ i, i < k → ρ i = i) : ∀ {xs : List D}, D.bels k xs = true → rens ρ xs = xs
  | [], _ => by simp only [rens]
  | x :: xs, h => by
    simp only [D.bels, Bool.and_eq_true] at h
    simp only [rens, ren_same hρ h.1, rens_same hρ h.2]
end
theorem renK_same {κ : Type} {ρ : Nat → Nat} {k : Nat} (hρ : ∀ i, i < k → ρ i = i) : ∀ {xs : List (κ × D)}, belK k xs = true → renK ρ xs = xs
  | [], _ => rfl
  | (_, x) :: xs, h => by
    simp only [belK, Bool.and_eq_true] at h
    simp only [renK, ren_same hρ h.1, renK_same hρ h.2]
theorem renO_same {ρ : Nat → Nat} {k : Nat} (hρ : ∀ i, i < k → ρ i = i) {o : O} (h : o.bel k = true) : renO ρ o = o := by
  cases o <;> simp only [O.bel] at h <;> simp only [renO, rens_same hρ, renK_same hρ, h]
/-- put back as it is -/
def puts : Sto → List Nat → Sto → Sto
  | S, q :: π, o :: L => puts (S.set q o) π L
  | S, [], [] => S
  | S, [], o :: L => S ++ (o :: L)
  | S, _ :: _, [] => S
theorem puts_nil {S L : Sto} : puts S [] L = S ++ L := by cases L <;> simp [puts]
theorem put_puts {ρ : Nat → Nat} : ∀ {π : List Nat} {S L : Sto}, put ρ S π L = puts S π (L.map (renO ρ))
  | [], S, L => by rw [put, puts_nil]
  | q :: π, S, [] => by simp [put, puts]
  | q :: π, S, o :: L => by rw [put, List.map_cons, puts, put_puts]
theorem renOs_pur {ρ : Nat → Nat} {L : Sto} (h : ∀ o ∈ L, o.pur = true) : L.map (renO ρ) = L := by
  conv => rhs; rw [← List.map_id L]
  exact List.map_congr_left fun o ho => renO_pur (h o ho)
theorem puts_app : ∀ {π : List Nat} {S L N : Sto}, π.length = L.length → puts S π (L ++ N) = puts S π L ++ N
  | [], S, [], N, _ => by simp [puts_nil, puts]
  | q :: π, S, o :: L, N, h => by
    simp only [List.cons_append, puts]
    exact puts_app (by simpa using h)
theorem range_at {k i : Nat} (h : i < k) : (List.range k)[i]? = some i := List.getElem?_range h
theorem embL_app {ρ : Nat → Nat} {S : Sto} : ∀ {π π' : List Nat} {L L' : Sto}, EmbL ρ S π L → EmbL ρ S π' L' → EmbL ρ S (π ++ π') (L ++ L')
  | [], _, [], _, _, h => h
  | _ :: _, _, _ :: _, _, h, h' => ⟨h.1, embL_app h.2 h'⟩
  | [], _, _ :: _, _, h, _ => h.elim
  | _ :: _, _, [], _, h, _ => h.elim
theorem embL_first {ρ : Nat → Nat} {k : Nat} (hρ : ∀ i, i < k → ρ i = i) : ∀ {L : Sto} {S : Sto} (s : Nat), (∀ i o, L[i]? = some o → S[s + i]? = some o) → (∀ o ∈ L, o.bel k = true) → EmbL ρ S (List.range' s L.length) L
  | [], S, s, _, _ => trivial
  | o :: L, S, s, h, hb => by
    refine ⟨?_, embL_first hρ (s + 1) (fun i o' e => ?_) fun x hx => hb x (List.mem_cons_of_mem _ hx)⟩
    · rw [renO_same hρ (hb o List.mem_cons_self)]
      exact h 0 o rfl
    · have := h (i + 1) o' (by simpa using e)
      rwa [show s + 1 + i = s + (i + 1) by omega]
theorem embL_news {ρ : Nat → Nat} {S : Sto} : ∀ {js : List Nat} {N : Sto}, js.map (fun j => S[j]?) = N.map some → (∀ o ∈ N, o.pur = true) → EmbL ρ S js N
  | [], [], _, _ => trivial
  | j :: js, o :: N, h, hp => by
    simp only [List.map_cons, List.cons.injEq] at h
    exact ⟨by rw [renO_pur (hp o List.mem_cons_self)]; exact h.1, embL_news h.2 fun x hx => hp x (List.mem_cons_of_mem _ hx)⟩
  | [], _ :: _, h, _ => by simp at h
  | _ :: _, [], h, _ => by simp at h
/-- the first k things of L and some new ones are kept -/
theorem kept_of {k : Nat} {L L1 N : Sto} {js : List Nat} (hk : k ≤ L.length) (h1 : L.take k = L1) (hb : ∀ o ∈ L1, o.bel k = true) (nd : js.Nodup) (hj : ∀ j ∈ js, k ≤ j) (hN : js.map (fun j => L[j]?) = N.map some) (hp : ∀ o ∈ N, o.pur = true) :
    Kept k (List.range k ++ js) (L1 ++ N) L := by
  have hl : L1.length = k := by rw [← h1, List.length_take]; omega
  refine ⟨⟨?_, ?_⟩, fun i hi => by rw [List.getElem?_append_left (by simpa using hi), range_at hi]⟩
  · rw [List.nodup_append]
    refine ⟨List.nodup_range, nd, fun a ha b hb' e => ?_⟩
    have := List.mem_range.mp ha
    have := hj b hb'
    omega
  · refine embL_app ?_ (embL_news hN hp)
    have := embL_first (ρ := rho (List.range k ++ js) L.length) (k := k) (fun i hi => by
      unfold rho
      rw [List.getElem?_append_left (by simpa using hi), range_at hi]; rfl) (L := L1) (S := L) 0 (fun i o e => by
      rw [← h1, List.getElem?_take] at e
      split at e
      · rw [Nat.zero_add]; exact e
      · cases e) hb
    rwa [hl, ← List.range_eq_range'] at this
theorem put_pur {ρ : Nat → Nat} {S L : Sto} {π : List Nat} (h : ∀ o ∈ L, o.pur = true) : put ρ S π L = puts S π L := by rw [put_puts, renOs_pur h]
theorem take_drop_eq {L2 L' : Sto} {k : Nat} : L2 = L2.take k ++ L2.drop k := (List.take_append_drop k L2).symm
section
variable {π : List Nat} {S : Sto} {D0 : WEnds} {L' : Sto}
theorem kept_pur {k : Nat} {L2 : Sto} {js : List Nat} (hk : k ≤ L'.length) (h1 : L'.take k = L2.take k) (hN : js.map (fun j => L'[j]?) = (L2.drop k).map some) (nd : js.Nodup) (hj : ∀ j ∈ js, k ≤ j) (hp : ∀ o ∈ L2, o.pur = true) :
    Kept k (List.range k ++ js) L2 L' := by
  have := kept_of hk h1 (fun o ho => purO_bel (hp o (List.mem_of_mem_take ho))) nd hj hN fun o ho => hp o (List.mem_of_mem_drop ho)
  rwa [List.take_append_drop] at this
/-- out of a part: the result holds no number -/
theorem out_rt {d : D} (L2 : Sto) (q : D0.rt d (puts S π L2)) (h1 : L'.take π.length = L2 := by rfl) (hk : π.length ≤ L'.length := by simp) [hd : Pur d] [hp : PurOs L2] : (locE π S D0).rt d L' := by
  have hl : L2.length = π.length := by rw [← h1, List.length_take]; omega
  unfold locE
  refine ⟨List.range π.length ++ [], L2, d, kept_pur hk (by rw [h1, ← hl, List.take_length]) (by rw [← hl, List.drop_length]; rfl) List.nodup_nil (fun j h => by cases h) hp.p, (ren_pur hd.p).symm, ?_⟩
  show D0.rt (ren (rho π S.length) d) (put (rho π S.length) S π L2)
  rw [ren_pur hd.p, put_pur hp.p]
  exact q
/-- .. is one new thing, told last in L2 -/
theorem out_new {j : Nat} (L2 : Sto) (q : D0.rt (.ref S.length) (puts S π L2)) (hN : [L'[j]?] = (L2.drop π.length).map some := by rfl) (h1 : L'.take π.length = L2.take π.length := by rfl) (hkj : π.length ≤ j := by simp) (hk : π.length ≤ L'.length := by simp) [hp : PurOs L2] : (locE π S D0).rt (.ref j) L' := by
  unfold locE
  refine ⟨List.range π.length ++ [j], L2, .ref π.length, kept_pur hk h1 hN (by simp) (by simpa using hkj) hp.p, by simp [ren, rho], ?_⟩
  have e : ren (rho π S.length) (.ref π.length) = .ref S.length := by simp [ren, rho]
  show D0.rt (ren (rho π S.length) (.ref π.length)) (put (rho π S.length) S π L2)
  rw [e, put_pur hp.p]
  exact q
/-- on behind a part: the first things and those at js are kept, as L2; le2: the slots kept, told by L2; env': what they are outside -/
theorem out_nx {le' : En} (js : List Nat) (L2 : Sto) (le2 : En) {env' : En} (q : D0.nx env' (puts S π L2)) (h1 : L'.take π.length = L2.take π.length) (hN : js.map (fun j => L'[j]?) = (L2.drop π.length).map some) (nd : js.Nodup) (hj : ∀ j ∈ js, π.length ≤ j)
    (he : EnvLe (rho (List.range π.length ++ js) L'.length) le2 le') (he' : renE (rho π S.length) le2 = env') (hk : π.length ≤ L'.length := by simp) [hp : PurOs L2] : (locE π S D0).nx le' L' := by
  unfold locE
  refine ⟨List.range π.length ++ js, L2, le2, kept_pur hk h1 hN nd hj hp.p, he, ?_⟩
  show D0.nx (renE (rho π S.length) le2) (put (rho π S.length) S π L2)
  rw [put_pur hp.p, he']
  exact q
theorem out_bk {le' : En} (js : List Nat) (L2 : Sto) (le2 : En) {env' : En} (q : D0.bk env' (puts S π L2)) (h1 : L'.take π.length = L2.take π.length) (hN : js.map (fun j => L'[j]?) = (L2.drop π.length).map some) (nd : js.Nodup) (hj : ∀ j ∈ js, π.length ≤ j)
    (he : EnvLe (rho (List.range π.length ++ js) L'.length) le2 le') (he' : renE (rho π S.length) le2 = env') (hk : π.length ≤ L'.length := by simp) [hp : PurOs L2] : (locE π S D0).bk le' L' := by
  unfold locE
  refine ⟨List.range π.length ++ js, L2, le2, kept_pur hk h1 hN nd hj hp.p, he, ?_⟩
  show D0.bk (renE (rho π S.length) le2) (put (rho π S.length) S π L2)
  rw [put_pur hp.p, he']
  exact q
/-- nothing new is kept -/
theorem out_n0 {le' : En} (L2 : Sto) (le2 : En) {env' : En} (q : D0.nx env' (puts S π L2)) (h1 : L'.take π.length = L2 := by rfl) (he : EnvLe (rho (List.range π.length ++ []) L'.length) le2 le') (he' : renE (rho π S.length) le2 = env') (hk : π.length ≤ L'.length := by simp) [hp : PurOs L2] : (locE π S D0).nx le' L' := by
  have hl : L2.length = π.length := by rw [← h1, List.length_take]; omega
  exact out_nx [] L2 le2 q (by rw [h1, ← hl, List.take_length]) (by rw [← hl, List.drop_length]; rfl) List.nodup_nil (fun j h => by cases h) he he' hk
end
theorem renE_nil {ρ : Nat → Nat} : renE ρ [] = [] := rfl
theorem renE_pur {ρ : Nat → Nat} {d : D} {le env : En} [h : Pur d] (t : renE ρ le = env) : renE ρ (some d :: le) = some d :: env := by rw [renE, ren_pur h.p, t]
theorem renE_ref {ρ : Nat → Nat} {i j : Nat} {le env : En} (h : ρ i = j) (t : renE ρ le = env) : renE ρ (some (.ref i) :: le) = some (.ref j) :: env := by rw [renE, ← h, t]; simp only [ren]
theorem renE_no {ρ : Nat → Nat} {le env : En} (t : renE ρ le = env) : renE ρ (none :: le) = none :: env := by rw [renE, t]
end Z
namespace Z
open PySem PySem.Spec PyProof.Rows L2 RZ PySem.W

/-! sorted(d.values()): tuples -/
theorem vals_at' {kvs : List (Key × V)} {vs : List (Key × Value)} (r : KV kvs vs) : ∀ {acc : List Value}, acc.length = vs.length → (∀ (i : Nat) (v : Value), acc[i]? = some v → ∃ k, vs[i]? = some (k, v)) → Vals (kvs.map (·.2)) acc := by
  unfold KV at r
  induction r with
  | nil => intro acc hl _; cases acc with | nil => exact .nil | cons _ _ => simp at hl
  | @cons a b ra rb h t ih =>
    intro acc hl hv
    cases acc with
    | nil => simp at hl
    | cons v acc =>
      obtain ⟨k, e⟩ := hv 0 v (by simp)
      have e : b = (k, v) := by simpa using e
      refine .cons ?_ (ih (by simpa using hl) fun i v' h' => ?_)
      · have := h.2; rw [e] at this; exact this
      · obtain ⟨k', e'⟩ := hv (i + 1) v' (by simpa using h')
        exact ⟨k', by simpa using e'⟩
def tSortVals (td : TE) : TE := fun σ H Q => td σ H fun x H1 => ∃ a kvs, x = V.ref a ∧ H1 a = some (.dK kvs) ∧ SortV H1 (kvs.map (·.2)) ∧ ∀ ys p, ys.Perm (kvs.map (·.2)) → ys.Pairwise (fun x y => ltK (keysV (tupOf H1 y)) (keysV (tupOf H1 x)) = false) → H1 p = none → Q (.ref p) (upd H1 p (.lst ys))
theorem pe_sortVals {X : Cx} {o : Expr} {p pos apos mpos : Pos} {td : TE} (hc : X.calm = true) (hg : Gl X "sorted") (hm : X.mg "sorted" = none) (hd : PE X o td) (hbase : attributeBase o "values" X.env (eval o X.env) = eval o X.env := by rfl) (hline : (apos.endLine == mpos.line) = true := by rfl)
    (hse : starEach [Expr.Call (.Attribute o "values" apos) [] [] mpos] X.env = [(false, eval (Expr.Call (.Attribute o "values" apos) [] [] mpos) X.env)] := by rfl) :
    PE X (.Call (.Name "sorted" p) [.Call (.Attribute o "values" apos) [] [] mpos] [] pos) (tSortVals td) := by
  refine ⟨fun pins s σ H Q I h => ?_⟩
  refine wpAny_Call_Name_kw (ld_blt I hg hm (u := .builtin "sorted") (by first | rfl | decide +kernel) ?_ (by first | decide +kernel | decide) (by first | decide +kernel | decide))
  rw [hse]
  refine PySem.callWith_builtin1 (wpAny_Call_method0_late hbase hline (thn (hd.run pins s σ H _ I h) fun v s1 ⟨x, H1, I1, r1, a, kvs, ex, ha, hS, q⟩ => ?_))
  subst ex
  obtain rfl : v = Value.ref a := r1
  obtain ⟨hz, hsys, vs, rel, dof⟩ := dk_of I1.hok ha
  obtain ⟨ep, dat⟩ := dof.dictAt
  have dat' := dat
  obtain ⟨ob, es, ho, ex, hdat, hko, hpr, hnd⟩ := dat'
  refine ⟨"dict", "dict.values", F.plainAttrs_dict, F.slot_dict_values, F.type_dict_values, ⟨ob, ho, ex.1⟩, fun b e => ?_, Calls.callWith_builtin rfl (PySem.evalArgs_none ?_)⟩
  · cases e
    exact ⟨ob, ho, ex.2.1⟩
  refine call_meetsIn F.slot_dict_values ⟨ob, ho, ex.1⟩ F.entry_dict_values (F.args_dict_values_1 _) (meets_dict_values (mixKind X.prog X.w) a hsys) ⟨⟨vs, dof⟩, ?_⟩
  have k1 : ∀ b u, s1.heap.get? b = some u → (s1.heap.push { cls := .type "dict_values", data := .fields #[.ref a] }).get? b = some u := fun b u e => Heap.get?_push_of_some _ e
  have dat1 : (s1.heap.push { cls := .type "dict_values", data := .fields #[.ref a] }).DictAt (mixKind X.prog X.w) a vs ep := dat.keep k1
  have I2 : Inv X pins σ H1 { s1 with heap := s1.heap.push { cls := .type "dict_values", data := .fields #[.ref a] } } := I1.kept k1
  have hl := KV.length rel
  refine srtT_of hc I2 (fun A E R hh k => ?_) hS q
  refine kdu_collect (kdl_values (knd := mixKind X.prog X.w) (kvs := vs) (ep := ep)) hh ⟨⟨_, Heap.get?_push_size _ rfl, rfl, rfl⟩, dat1⟩ (by rw [← hl]; exact hz) fun h' tk acc hk hacc => k _ _ hk rfl rfl ?_ (by rw [List.length_map]; exact hz)
  refine vals_at' rel (by rw [Array.length_toList]; exact hacc.1) fun j v e => ?_
  exact hacc.2 j v (by rw [← Array.getElem?_toList]; exact e)
def qVals (w : WE) : WA := fun env S Q => w env S fun x S1 => match x with | .ref p => ∃ kvs, S1[p]? = some (.dK kvs) ∧ Q (kvs.map (·.2)) S1 | _ => False
theorem KVR.vals {κ : Type} {K : Frag} {m : List Addr} {H : Hp} {kvs : List (κ × D)} {us : List (κ × V)} (h : KVR K m H kvs us) : VRs K m H (kvs.map (·.2)) (us.map (·.2)) := by
  induction h with
  | nil => exact .nil
  | cons h _ ih => exact .cons h ih
theorem fl_sortVals {X : Cx} {o : Expr} {w : WE} {p pos apos mpos : Pos} (hc : X.calm = true) (hg : Gl X "sorted") (hm : X.mg "sorted" = none) (ha : FE X o w) (hbase : attributeBase o "values" X.env (eval o X.env) = eval o X.env := by rfl) (hline : (apos.endLine == mpos.line) = true := by rfl)
    (hse : starEach [Expr.Call (.Attribute o "values" apos) [] [] mpos] X.env = [(false, eval (Expr.Call (.Attribute o "values" apos) [] [] mpos) X.env)] := by rfl) : FL X (.Call (.Name "sorted" p) [.Call (.Attribute o "values" apos) [] [] mpos] [] pos) (lSortT (qVals w)) := by
  refine ⟨PE.imp (pe_sortVals hc hg hm ha.p hbase hline hse) fun σ H Q ⟨env, S, m, Q0, s, r, h, k⟩ => ?_⟩
  refine lift_k s r h fun x S1 u H1 m1 q1 e1 s1 v1 => ?_
  cases x with
  | ref i =>
    simp only [VR] at v1
    obtain ⟨a, rfl, h2⟩ := v1
    obtain ⟨kvs, h3, hS, q⟩ := q1
    obtain ⟨b, h4, us, h5, h6⟩ := s1.at_ i _ h3
    rw [h2] at h4; cases h4
    have v1 := h6.vals
    refine ⟨a, us, rfl, h5, hS.v v1, fun ys p h1 h2 hp => ?_⟩
    obtain ⟨ds', h3, h4⟩ := perm_vrs v1 h1
    have hS' : SortD ds' := ⟨fun x hx => hS.tup x (h3.mem_iff.mp hx), hS.hd.imp (fun h x hx => h x (h3.mem_iff.mp hx)) fun h x hx => h x (h3.mem_iff.mp hx), fun x hx y hy => hS.lex x (h3.mem_iff.mp hx) y (h3.mem_iff.mp hy)⟩
    exact k.lst e1 s1 h4 hp (e1.back s1 hp) (q ds' h3 (hS'.pw h4 h2))
  | _ => exact q1.elim
end Z
namespace Z
open PySem PySem.Spec PyProof.Rows L2 RZ PySem.W
open Sem (wp)

/-! enumerate of a tuple -/
set_option maxHeartbeats 1000000 in
theorem meets_enum1 {v : Value} {o : Obj} {H : Heap → Prop} (B : Begins v o H) :
    Meets (Builtin.«enumerate.__new__» ⟨[.type "enumerate", v], []⟩) (fun _ R s => H s.heap ∧
      R (.ok (.ret (.ref (s.heap.push o).objs.size))) { s with heap := (s.heap.push o).push { cls := .type "enumerate", data := .fields #[.none, .bool false, .ref s.heap.objs.size, rawInt 0, .none, .none] } }) :=
  .of_wp fun prog w A R s h => by
    obtain ⟨hp, g, d, tk, os⟩ := s; obtain ⟨h1, h⟩ := h
    have hsub := sub_enumerate
    have q1 : ∀ {A' : Around} {E : Value → Shared → Prop} {Q : Value → Shared → Prop}, Q (.ref hp.objs.size) ⟨hp.push o, g, d, tk, os⟩ → wpAny (model prog w) A' (pyIter v) Q E ⟨hp, g, d, tk, os⟩ :=
      fun q => B.iter prog w _ _ ⟨hp, g, d, tk, os⟩ _ h1 q
    wp_walk using q1
    refine wpAny_stack_any fun st => wpAny_pure ?_
    split
    · rename_i c _ _ _ _ _
      cases (c == Value.type "enumerate")
      · wp_walk using q1
        exact ⟨_, rfl, h⟩
      · wp_walk using q1
        exact ⟨_, rfl, h⟩
    · wp_walk using q1
      exact ⟨_, rfl, h⟩
section
variable {prog : Program} {w : World} {A : Around} {E : Value → Shared → Prop} {s : Shared}
theorem call_enumB {v : Value} {o : Obj} {H : Heap → Prop} {Q : Value → Shared → Prop} (B : Begins v o H) (h1 : H s.heap)
    (h : ∀ h', IsEnum h' (s.heap.objs.size + 1) s.heap.objs.size 0 .none → h'.get? s.heap.objs.size = some o → h'.objs.size = s.heap.objs.size + 2 →
      (∀ b o, s.heap.get? b = some o → h'.get? b = some o) → Q (.ref (s.heap.objs.size + 1)) { s with heap := h' }) :
    wpAny (model prog w) A (call (.type "enumerate") [v]) Q E s := by
  refine callType_new F.called_enumerate (by decide) (F.typeCall_enumerate_1 _) (F.newCall_enumerate_1 _) (fun obj => F.args_object_init_2 obj _) F.entry_enumerate_new
    (meets_enum1 B) ⟨h1, ?_⟩
  have hz : (s.heap.push o).objs.size = s.heap.objs.size + 1 := Heap.size_push ..
  show _ ∧ _
  rw [hz]
  have he : IsEnum ((s.heap.push o).push { cls := .type "enumerate", data := .fields #[.none, .bool false, .ref s.heap.objs.size, rawInt 0, .none, .none] }) (s.heap.objs.size + 1) s.heap.objs.size 0 .none := by
    have := Heap.get?_push_size (s.heap.push o) (o := { cls := .type "enumerate", data := .fields #[.none, .bool false, .ref s.heap.objs.size, rawInt 0, .none, .none] }) rfl
    rw [hz] at this; exact this
  exact ⟨⟨_, he, rfl⟩, h _ he (Heap.get?_push_of_some _ (Heap.get?_push_size _ B.free)) (by rw [Heap.size_push, hz]) fun b o x => Heap.get?_push_of_some _ (Heap.get?_push_of_some _ x)⟩
end
def IteT (K : PySem.W.Frag) (a : Addr) : It :=
  ⟨fun i H => ∃ (xs : List V) (x : V), SqT K H a xs ∧ xs[i]? = some x, fun i H v H' => ∃ T x, v = .ref T ∧ H T = none ∧ H' = upd H T (.tup [.int (i : Nat), x]) ∧ ∀ xs, SqT K H a xs → xs[i]? = some x, fun i H => ∃ xs : List V, SqT K H a xs ∧ xs.length = i⟩
theorem turn_enumT {P : Program} {w : World} {K : PySem.W.Frag} {elts : List Expr} {kk : Nat} {tpos : Pos} (a e it : Addr) (hai : a ≠ it) (hae : a ≠ e) :
    Turn P w K (.Tuple elts kk tpos) (IteT K a) [e, it] e (fun i h => (∃ old, IsEnum h e it ((i : Nat) : Int) old) ∧ h.IsTupleIter it a i ∧ e ≠ it) where
  mem := by simp
  obj := fun i h st b hb => by
    obtain ⟨⟨old, he⟩, ⟨o, ho, hc, hd⟩, _⟩ := st
    have e' : b = e ∨ b = it := by simpa using hb
    rcases e' with z | z
    · rw [z]; exact ⟨_, he, fun v q => nomatch q⟩
    · rw [z]; exact ⟨o, ho, fun v q => by rw [hd] at q; cases q⟩
  keep := fun i h h' st k => let ⟨⟨old, he⟩, hi, hne⟩ := st; ⟨⟨old, k e (by simp) _ he⟩, hi.at fun o q => k it (by simp) o q, hne⟩
  item := by
    intro X hP hw hK hc i pins s σ H E I hf st hg
    subst hP hw hK
    obtain ⟨⟨old, he⟩, hit, hne⟩ := st
    obtain ⟨xs, x, hq, hx⟩ := hg
    obtain ⟨its, rv, p, hz⟩ := I.tuple hq
    obtain ⟨u, hu, ru⟩ := rv.get hx
    have hel : e < s.heap.objs.size := Heap.lt_size he
    have hil : it < s.heap.objs.size := by obtain ⟨_, q, _⟩ := hit; exact Heap.lt_size q
    have hu' : its.toArray[i]? = some u := by simpa using hu
    have hlt : i < its.toArray.size := (Array.getElem?_eq_some_iff.mp hu').1
    have D := Draws.tuple (prog := X.prog) (w := X.w) (A := X.A.in1) (I.ok.hd hc) it a hai its.toArray
    refine wpAny_pyNext_enum_itemD (E := E) D he ⟨hit, p⟩ hlt hne (by simp [hne, hae.symm]) fun u' h' tk hPx ho hst' hT hsz hk => ?_
    have eu : u' = u := by
      have hPx : its.toArray[i]? = some u' := hPx
      rw [hu'] at hPx; exact (Option.some.inj hPx).symm
    subst eu
    obtain ⟨hit', _⟩ := hst'
    refine ⟨_, rfl, wpAny_letOwnedTupleGo_enum (s := { s with heap := h', toks := tk + 1 }) ho fun h'' he' sb => ?_⟩
    have hT2 : h''.get? s.heap.objs.size = some { cls := .type "tuple", data := .seq #[.int i tk, u'] } := (sb.2 _ (Nat.ne_of_gt hel)).trans hT
    have new : ObjOk X.prog X.w (upd H s.heap.objs.size (.tup [.int (i : Nat), x])) h'' s.heap.objs.size (.tup [.int (i : Nat), x]) :=
      ⟨by show 2 ≤ sizeLine; decide, [.int i tk, u'], .cons ⟨_, rfl⟩ (.cons ru .nil), ⟨_, hT2, rfl, _, rfl⟩⟩
    have I1 : Inv X pins σ (upd H s.heap.objs.size (.tup [.int (i : Nat), x])) { s with heap := h'', toks := tk + 1 } :=
      I.turnedNew (ch := [e, it]) (fun b ob hb q => (sb.2 b (fun z => hb (by simp [z]))).trans (hk b ob (fun z => hb (by simp [z])) (fun z => hb (by simp [z])) q)) hf (Nat.le_refl _) new
    refine ⟨.ref s.heap.objs.size, _, I1, rfl, ⟨_, x, rfl, I.hok.fresh (Nat.le_refl _), rfl, fun ys hy => by rw [I.tuple_inj hy hq]; exact hx⟩, ⟨⟨u', ?_⟩, hit'.at fun o q => (sb.2 it (Ne.symm hne)).trans q, hne⟩, fun b hb => ?_⟩
    · have e1 : ((i + 1 : Nat) : Int) = (i : Int) + 1 := by omega
      rw [e1]; exact he'
    · have hb' : b < s.heap.objs.size := by
        have e' : b = e ∨ b = it := by simpa using hb
        rcases e' with z | z
        · rw [z]; exact hel
        · rw [z]; exact hil
      rw [upd_ne (Nat.ne_of_lt hb')]
      exact (hf b hb).1
  done := by
    intro X hP hw hK hc i pins s σ H E I hf st hg
    subst hP hw hK
    obtain ⟨⟨old, he⟩, hit, hne⟩ := st
    obtain ⟨xs, hq, hx⟩ := hg
    obtain ⟨its, rv, p, hz⟩ := I.tuple hq
    obtain ⟨f0, f1, f2, f3, f4, f5⟩ := hf it (by simp)
    have hl := rv.length
    have e0 : its.toArray.size = i := by rw [List.size_toArray, ← hl, hx]
    subst e0
    have D := Draws.tuple (prog := X.prog) (w := X.w) (A := X.A.in1) (I.ok.hd hc) it a hai its.toArray
    exact wpAny_pyNext_enum_endD (E := E) D he ⟨hit, p⟩ fun h' eb => ⟨rfl, I.turned (t' := s.toks) (fun b o hb q => eb b o hb q) f0 f1 f3 f4 f5⟩
  self := fun A i s Q E st h => let ⟨⟨_, he⟩, _⟩ := st; wpAny_pyIter_enum he h
end Z
namespace Z
open PySem PySem.Spec PyProof.Rows L2 RZ PySem.W RT

section
variable {X : Cx} {a b c e o e2 tg : Expr} {es elts : List Expr} {w wa wb wc wo w1 w2 : WE} {wr wq : WA} {p pos apos cpos p2 tpos : Pos} {kk : Nat}
theorem WalkD.revL {K : Frag} {m0 : List Addr} {H0 : Hp} {xs : List D} {a : Addr} {n : Nat} (hn : n = xs.length) {ok : Sto → Prop} (h : ∀ H m S, Ext K m0 H0 m H → SR K m H S → ok S → ∃ us, SqL K H a us ∧ VRs K m H xs us) : WalkD K m0 H0 (Itv K a n) ⟨xs.reverse, ok⟩ := by
  subst hn
  refine ⟨fun i H m S hi e s o => ?_, fun H m S e s o => ?_, fun i H m S x H' hi e s o y => ?_⟩
  · obtain ⟨us, h1, h2⟩ := h H m S e s o
    have hi' : i < xs.length := by simpa using hi
    obtain ⟨u, h3, h4⟩ := h2.get (i := xs.length - 1 - i) (x := xs[xs.length - 1 - i]'(by omega)) (by simp)
    exact ⟨hi', us, u, h1, h3⟩
  · show xs.length ≤ xs.reverse.length
    simp
  · obtain ⟨us, h1, h2⟩ := h H m S e s o
    obtain ⟨rfl, y2⟩ := y
    have hi' : i < xs.length := by simpa using hi
    obtain ⟨u, h3, h4⟩ := h2.get (i := xs.length - 1 - i) (x := xs[xs.length - 1 - i]'(by omega)) (by simp)
    have := y2 us h1
    rw [h3] at this; cases this
    exact ⟨Ext.refl, s, _, by rw [List.getElem?_reverse hi', List.getElem?_eq_getElem (by omega)], h4⟩
theorem WalkD.revT {K : Frag} {m0 : List Addr} {H0 : Hp} {xs : List D} {us : List V} {a : Addr} {n : Nat} (hn : n = xs.length) {ok : Sto → Prop} (h0 : H0 a = some (.tup us)) (v : VRs K m0 H0 xs us) : WalkD K m0 H0 (ItvT K a n) ⟨xs.reverse, ok⟩ := by
  subst hn
  refine ⟨fun i H m S hi e s o => ?_, fun H m S e s o => ?_, fun i H m S x H' hi e s o y => ?_⟩
  · have hi' : i < xs.length := by simpa using hi
    obtain ⟨u, h3, h4⟩ := v.get (i := xs.length - 1 - i) (x := xs[xs.length - 1 - i]'(by omega)) (by simp)
    exact ⟨hi', us, u, SqT.of (e.tup _ _ h0), h3⟩
  · show xs.length ≤ xs.reverse.length
    simp
  · obtain ⟨rfl, y2⟩ := y
    have hi' : i < xs.length := by simpa using hi
    obtain ⟨u, h3, h4⟩ := v.get (i := xs.length - 1 - i) (x := xs[xs.length - 1 - i]'(by omega)) (by simp)
    have := y2 us (SqT.of (e.tup _ _ h0))
    rw [h3] at this; cases this
    exact ⟨Ext.refl, s, _, by rw [List.getElem?_reverse hi', List.getElem?_eq_getElem (by omega)], h4.ext e.toEx⟩
/-- reversed(x) walked -/
def iRevE (w : WE) : WI := fun env S R => w env S fun v S1 => match v with
  | .tup xs => R ⟨xs.reverse, fun _ => True⟩ S1
  | .rol xs => R ⟨xs.reverse, fun _ => True⟩ S1
  | .ref p => ∃ xs, S1[p]? = some (.lst xs) ∧ R ⟨xs.reverse, fun S => S[p]? = some (.lst xs)⟩ S1
  | _ => False
def iRevLn (w : WA) : WI := fun env S R => w env S fun xs S1 => R ⟨xs.reverse, fun _ => True⟩ S1
theorem fi_revE (hg : Gl X "reversed") (hm : X.mg "reversed" = none) (ha : FE X e w) (hs : starEach [e] X.env = (false, eval e X.env) :: starEach [] X.env := by rfl) : FI X tg (.Call (.Name "reversed" p) [e] [] pos) (iRevE w) := by
  refine ⟨PI.imp (pi_revA hg hm ha.p hs) fun σ H R ⟨env, S, m, R0, s, r, h, k⟩ => ?_⟩
  refine lift_k s r h fun x S1 u H1 m1 q1 e1 s1 v1 => ?_
  cases x with
  | ref i =>
    simp only [VR] at v1
    obtain ⟨a, rfl, h2⟩ := v1
    obtain ⟨xs, h3, q⟩ := q1
    obtain ⟨us, h4, h5⟩ := s1.lst h2 h3
    refine ⟨a, us, rfl, .inl ⟨SqL.of h4, k _ _ _ _ q e1 s1 _ (WalkD.revL h5.length.symm fun H m S e s o => ?_)⟩⟩
    obtain ⟨us', h6, h7⟩ := s.lst (e.pre _ _ h2) o
    exact ⟨us', SqL.of h6, h7⟩
  | tup xs =>
    simp only [VR] at v1
    obtain ⟨a, us, rfl, h3, h4⟩ := v1
    exact ⟨a, us, rfl, .inr ⟨SqT.of h3, k _ _ _ _ q1 e1 s1 _ (WalkD.revT h4.length.symm h3 h4)⟩⟩
  | rol xs =>
    simp only [VR] at v1
    obtain ⟨a, us, rfl, h3, h4⟩ := v1
    exact ⟨a, us, rfl, .inl ⟨h3.sq, k _ _ _ _ q1 e1 s1 _ (WalkD.revL h4.length.symm fun H m S e s o => ⟨us, (e.rol _ _ h3).sq, h4.ext e.toEx⟩)⟩⟩
  | _ => exact q1.elim
theorem fi_revL (hg : Gl X "reversed") (hm : X.mg "reversed" = none) (ha : FL X e wq) (hs : starEach [e] X.env = (false, eval e X.env) :: starEach [] X.env := by rfl) : FI X tg (.Call (.Name "reversed" p) [e] [] pos) (iRevLn wq) := by
  refine ⟨PI.imp (pi_revA hg hm ha.p hs) fun σ H R ⟨env, S, m, R0, s, r, h, k⟩ => ?_⟩
  refine ⟨env, S, m, _, s, r, h, fun xs S1 a us H1 m1 q1 e1 s1 h0 nm ha v1 => ?_⟩
  exact ⟨a, us, rfl, .inl ⟨SqL.of ha, k _ _ _ _ q1 e1 s1 _ (WalkD.revL v1.length.symm fun H m S e s o => ⟨us, SqL.of (e.fr _ _ ha nm).1, v1.ext e.toEx⟩)⟩⟩
theorem WalkD.rangeC {K : Frag} {m0 : List Addr} {H0 : Hp} {lo c : Int} {n : Nat} {ok : Sto → Prop} {xs : List D} (hx : xs = (List.range n).map fun (i : Nat) => D.int (lo + (i : Int) * c)) : WalkD K m0 H0 (Itc lo c n) ⟨xs, ok⟩ := by
  have hl : xs.length = n := by rw [hx]; simp
  have hg : ∀ i, i < n → xs[i]? = some (.int (lo + (i : Int) * c)) := fun i hi => by rw [hx, List.getElem?_map, List.getElem?_range hi]; rfl
  refine ⟨fun i H m S hi e s o => ?_, fun H m S e s o => ?_, fun i H m S v H' hi e s o y => ?_⟩
  · show i < n
    rw [← hl]; exact hi
  · show n ≤ xs.length
    rw [hl]; exact Nat.le_refl _
  · obtain ⟨rfl, h2⟩ := y
    have hi' : i < n := by rw [← hl]; exact hi
    exact ⟨Ext.refl, s, _, hg i hi', by rw [h2]; simp only [VR]⟩
/-- range(a, b), from its end -/
theorem rangeD_rev (a : Int) (n : Nat) : (rangeD a n).reverse = (List.range n).map fun (i : Nat) => D.int (a + (n : Int) - 1 + (i : Int) * (-1)) := by
  apply List.ext_getElem?
  intro i
  by_cases hi : i < n
  · rw [List.getElem?_reverse (by rw [rangeD_len]; exact hi), rangeD_len, rangeD_get (by omega), List.getElem?_map, List.getElem?_range hi]
    show some (D.int (a + ((n - 1 - i : Nat) : Int))) = some (D.int _)
    congr 2; omega
  · rw [List.getElem?_eq_none (by rw [List.length_reverse, rangeD_len]; omega), List.getElem?_eq_none (by simp; omega)]
def iRevR1 (w : WE) : WI := fun env S R => w env S fun x S1 => match x with
  | .int j => (-(2 ^ 62) ≤ j ∧ j < 2 ^ 62) ∧ R ⟨(rangeD 0 j.toNat).reverse, fun _ => True⟩ S1
  | _ => False
def iRevR2 (wa wb : WE) : WI := fun env S R => wa env S fun x S1 => wb env S1 fun y S2 => match x, y with
  | .int i, .int j => (-(2 ^ 62) ≤ i ∧ i < 2 ^ 62 ∧ -(2 ^ 62) ≤ j ∧ j < 2 ^ 62) ∧ R ⟨(rangeD i (j - i).toNat).reverse, fun _ => True⟩ S2
  | _, _ => False
theorem fi_revR1 (hg : Gl X "reversed") (hm : X.mg "reversed" = none) (hg2 : Gl X "range") (hm2 : X.mg "range" = none) (ha : FE X a w) (na : starEach [a] X.env = (false, eval a X.env) :: starEach [] X.env := by rfl)
    (hs : starEach [.Call (.Name "range" p2) [a] [] cpos] X.env = (false, eval (.Call (.Name "range" p2) [a] [] cpos) X.env) :: starEach [] X.env := by rfl) : FI X tg (.Call (.Name "reversed" p) [.Call (.Name "range" p2) [a] [] cpos] [] pos) (iRevR1 w) := by
  refine ⟨PI.imp (pi_revR hg hm (prg_1 hg2 hm2 ha.p na) hs) fun σ H R ⟨env, S, m, R0, s, r, h, k⟩ => ?_⟩
  refine lift_k s r h fun x S1 u H1 m1 q1 e1 s1 v1 => ?_
  cases x with
  | int j =>
    simp only [VR] at v1; subst v1
    obtain ⟨⟨b1, b2⟩, q⟩ := q1
    refine ⟨j, rfl, by decide, by decide, b1, b2, k _ _ _ _ q e1 s1 _ (WalkD.rangeC ?_)⟩
    rw [rangeD_rev, Int.sub_zero]
  | _ => exact q1.elim
theorem fi_revR2 (hg : Gl X "reversed") (hm : X.mg "reversed" = none) (hg2 : Gl X "range") (hm2 : X.mg "range" = none) (ha : FE X a wa) (hb : FE X b wb) (na : starEach [a, b] X.env = (false, eval a X.env) :: starEach [b] X.env := by rfl)
    (nb : starEach [b] X.env = (false, eval b X.env) :: starEach [] X.env := by rfl) (hp : (backTo cpos (starEach [b] X.env)).any (·.1) = false := by rfl)
    (hs : starEach [.Call (.Name "range" p2) [a, b] [] cpos] X.env = (false, eval (.Call (.Name "range" p2) [a, b] [] cpos) X.env) :: starEach [] X.env := by rfl) : FI X tg (.Call (.Name "reversed" p) [.Call (.Name "range" p2) [a, b] [] cpos] [] pos) (iRevR2 wa wb) := by
  refine ⟨PI.imp (pi_revR hg hm (prg_2 hg2 hm2 ha.p hb.p na nb hp) hs) fun σ H R ⟨env, S, m, R0, s, r, h, k⟩ => ?_⟩
  refine lift_k s r h fun x S1 u H1 m1 q1 e1 s1 v1 => ?_
  refine lift_k s1 (r.ext e1.toEx) q1 fun y S2 v H2 m2 q2 e2 s2 v2 => ?_
  have v1 := v1.ext e2.toEx
  match x, y, q2 with
  | .int i, .int j, ⟨⟨b1, b2, b3, b4⟩, q⟩ =>
  simp only [VR] at v1 v2; subst v1; subst v2
  exact ⟨i, j, rfl, rfl, b1, b2, b3, b4, k _ _ _ _ q (e1.trans e2) s2 _ (WalkD.rangeC (rangeD_rev _ _))⟩
/-- range(a, b, c), c a number down or up -/
def iRange3 (wr : WA) : WI := fun env S R => wr env S fun xs S1 => match xs with
  | [.int i, .int j, .int c] => ∃ n, RgC i j c n ∧ R ⟨(List.range n).map fun (t : Nat) => D.int (i + (t : Int) * c), fun _ => True⟩ S1
  | _ => False
theorem fi_range3 (hg : Gl X "range") (hm : X.mg "range" = none) (ha : FA X [a, b, c] wr)
    (hs : starEach [a, b, c] X.env = (false, eval a X.env) :: starEach [b, c] X.env := by rfl) (hpl : (backTo pos (starEach [b, c] X.env)).any (·.1) = false := by rfl) : FI X tg (.Call (.Name "range" p) [a, b, c] [] pos) (iRange3 wr) := by
  refine ⟨PI.imp (pi_range3 hg hm ha.p hs hpl) fun σ H R ⟨env, S, m, R0, s, r, h, k⟩ => ?_⟩
  refine ⟨env, S, m, _, s, r, h, fun ds S1 us H1 m1 q1 e1 s1 v1 => ?_⟩
  match ds, q1 with
  | [.int i, .int j, .int c], ⟨n, h1, q⟩ =>
    obtain ⟨u, t, rfl, a1, a2⟩ := v1.cons_inv
    obtain ⟨u2, t2, rfl, a3, a4⟩ := a2.cons_inv
    obtain ⟨u3, t3, rfl, a5, a6⟩ := a4.cons_inv
    cases a6.nil_inv
    simp only [VR] at a1 a3 a5; subst a1; subst a3; subst a5
    exact ⟨i, j, c, n, rfl, h1, k _ _ _ _ q e1 s1 _ (WalkD.rangeC rfl)⟩
/-- enumerate of a tuple -/
def iEnumTT (K : Frag) (te : TE) : TI := fun σ H R => te σ H fun v H1 => ∃ (a : Addr) (xs : List V), v = .ref a ∧ SqT K H1 a xs ∧ R (IteT K a) H1
theorem pi_enumT {te : TE} (hg : Gl X "enumerate") (hm : X.mg "enumerate" = none) (he : PE X e te) (hs : starEach [e] X.env = (false, eval e X.env) :: starEach [] X.env := by rfl) : PI X (.Tuple elts kk tpos) (.Call (.Name "enumerate" p) [e] [] pos) (iEnumTT X.K te) := by
  refine ⟨fun pins s σ H R I h => ?_⟩
  refine Call_ (ld_blt I hg hm boot_enumerate (PyProof.Rows.callWith_type1 (args_cons (thn (he.run pins s σ H _ I h) fun u s1 ⟨v, H1, I1, r1, q1⟩ => args_nil ?_) hs) hs rfl))
  obtain ⟨a, xs, ev, hq, q⟩ := q1
  subst ev
  obtain rfl : u = Value.ref a := r1
  obtain ⟨its, rv, p', hz⟩ := I1.tuple hq
  have hlt : a < s1.heap.objs.size := by obtain ⟨o, ho, _⟩ := p'; exact Heap.lt_size ho
  refine call_enumB (begins_tuple a its.toArray) p' fun h' he hit hsz hk => wpAny_pyIter_enum he ?_
  have I2 : Inv X pins σ H1 { s1 with heap := h' } := I1.kept (t' := s1.toks) hk
  refine ⟨s1.heap.objs.size + 1, [s1.heap.objs.size + 1, s1.heap.objs.size], _, _, H1, rfl, I2, turn_enumT a (s1.heap.objs.size + 1) s1.heap.objs.size (Nat.ne_of_lt hlt) (Nat.ne_of_lt (Nat.lt_succ_of_lt hlt)), ⟨⟨.none, he⟩, ⟨_, hit, rfl, rfl⟩, Nat.succ_ne_self _⟩, fun b hb => ?_, q⟩
  have hle : s1.heap.objs.size ≤ b := by
    have e' : b = s1.heap.objs.size + 1 ∨ b = s1.heap.objs.size := by simpa using hb
    rcases e' with z | z
    · rw [z]; exact Nat.le_succ _
    · rw [z]; exact Nat.le_refl _
  exact I1.fpOk hle (I1.hok.fresh hle)
theorem WalkD.enumT {K : Frag} {m0 : List Addr} {H0 : Hp} {xs : List D} {us : List V} {a : Addr} {ok : Sto → Prop} (h0 : H0 a = some (.tup us)) (v : VRs K m0 H0 xs us) : WalkD K m0 H0 (IteT K a) ⟨enumD xs, ok⟩ := by
  refine ⟨fun i H m S hi e s o => ?_, fun H m S e s o => ?_, fun i H m S x H' hi e s o y => ?_⟩
  · have hi' : i < xs.length := by simpa [enumD_len] using hi
    obtain ⟨u, h3, h4⟩ := v.get (i := i) (x := xs[i]'hi') (by simp)
    exact ⟨us, u, SqT.of (e.tup _ _ h0), h3⟩
  · exact ⟨us, SqT.of (e.tup _ _ h0), by show us.length = (enumD xs).length; rw [enumD_len, v.length]⟩
  · have hi' : i < xs.length := by simpa [enumD_len] using hi
    obtain ⟨T, z, rfl, hT, rfl, g⟩ := y
    obtain ⟨u, h3, h4⟩ := v.get (i := i) (x := xs[i]'hi') (by simp)
    have := g us (SqT.of (e.tup _ _ h0))
    rw [h3] at this; cases this
    obtain ⟨e5, s5, v5⟩ := pair_new s hT (x := .int (i : Int)) (u := .int (i : Int)) (by simp only [VR]) (h4.ext e.toEx)
    exact ⟨e5, s5, _, enumD_get (by simp), v5⟩
def iEnumT (w : WE) : WI := fun env S R => w env S fun x S1 => match x with | .tup xs => R ⟨enumD xs, fun _ => True⟩ S1 | _ => False
theorem fi_enumT (hg : Gl X "enumerate") (hm : X.mg "enumerate" = none) (ha : FE X e w) (hs : starEach [e] X.env = (false, eval e X.env) :: starEach [] X.env := by rfl) : FI X (.Tuple elts kk tpos) (.Call (.Name "enumerate" p) [e] [] pos) (iEnumT w) := by
  refine ⟨PI.imp (pi_enumT hg hm ha.p hs) fun σ H R ⟨env, S, m, R0, s, r, h, k⟩ => ?_⟩
  refine lift_k s r h fun x S1 u H1 m1 q1 e1 s1 v1 => ?_
  cases x with
  | tup xs =>
    simp only [VR] at v1
    obtain ⟨a, us, rfl, h3, h4⟩ := v1
    exact ⟨a, us, rfl, SqT.of h3, k _ _ _ _ q1 e1 s1 _ (WalkD.enumT h3 h4)⟩
  | _ => exact q1.elim
/-- xs[::k], k above 0 -/
def pickD (xs : List D) (k : Int) : List D := (sliceRange (sliceBounds none none (some k) xs.length).1 (sliceBounds none none (some k) xs.length).2.1 (sliceBounds none none (some k) xs.length).2.2).filterMap (xs[·]?)
theorem pickD_mem {xs : List D} {k : Int} {y : D} (h : y ∈ pickD xs k) : y ∈ xs := by
  obtain ⟨i, _, e⟩ := List.mem_filterMap.mp h
  exact List.mem_of_getElem? e
def lStep (w ws : WE) : WA := fun env S Q => w env S fun x S1 => ws env S1 fun y S2 => match x, y with | .ref p, .int k => ∃ xs, S2[p]? = some (.lst xs) ∧ 0 < k ∧ Q (pickD xs k) S2 | _, _ => False
def tStepL (K : PySem.W.Frag) (te ts : TE) : TE := fun σ H Q => te σ H fun x H1 => tPart ts σ H1 fun o H2 => ∃ a xs k, x = .ref a ∧ o = some k ∧ SqL K H2 a xs ∧ 0 < k ∧ ∀ p, H2 p = none → Q (.ref p) (upd H2 p (.lst ((sliceRange (sliceBounds none none (some k) xs.length).1 (sliceBounds none none (some k) xs.length).2.1 (sliceBounds none none (some k) xs.length).2.2).filterMap (xs[·]?))))
theorem vals_pick {xs : List V} {its : List Value} (r : Vals xs its) : ∀ l : List Nat, Vals (l.filterMap (xs[·]?)) (l.filterMap (its[·]?))
  | [] => .nil
  | i :: l => by
    have hl := r.length
    rw [List.filterMap_cons, List.filterMap_cons]
    by_cases hi : i < xs.length
    · obtain ⟨u, hu, ru⟩ := r.get (List.getElem?_eq_getElem hi)
      rw [List.getElem?_eq_getElem hi, hu]
      exact .cons ru (vals_pick r l)
    · rw [List.getElem?_eq_none (by omega), List.getElem?_eq_none (by omega)]
      exact vals_pick r l
theorem vrs_pick {K : Frag} {m : List Addr} {H : Hp} {xs : List D} {us : List V} (r : VRs K m H xs us) : ∀ l : List Nat, VRs K m H (l.filterMap (xs[·]?)) (l.filterMap (us[·]?))
  | [] => .nil
  | i :: l => by
    have hl := r.length
    rw [List.filterMap_cons, List.filterMap_cons]
    by_cases hi : i < xs.length
    · obtain ⟨u, hu, ru⟩ := r.get (List.getElem?_eq_getElem hi)
      rw [List.getElem?_eq_getElem hi, hu]
      exact .cons ru (vrs_pick r l)
    · rw [List.getElem?_eq_none (by omega), List.getElem?_eq_none (by omega)]
      exact vrs_pick r l
theorem pick_len {α : Type} (xs : List α) (k : Int) (hk : 0 < k) : ((sliceRange (sliceBounds none none (some k) xs.length).1 (sliceBounds none none (some k) xs.length).2.1 (sliceBounds none none (some k) xs.length).2.2).filterMap (xs[·]?)).length ≤ xs.length := by
  refine Nat.le_trans (List.length_filterMap_le _ _) (sliceRange_length_le _ _ _ _ (fun _ => ?_) fun h => ?_)
  · simp [sliceBounds, hk]
  · exact absurd hk h
theorem pe_stepL {te ts : TE} (he : PE X e te) (hk : PE X a ts) : PE X (.Subscript e (.Slice none none (some a) p) pos) (tStepL X.K te ts) := by
  refine ⟨fun pins s σ H Q I h => ?_⟩
  refine Subscript_ (thn (he.run pins s σ H _ I h) fun v s1 ⟨x, H1, I1, r1, q1⟩ => ?_)
  have hst : PO X (some a) (tPart ts) := po_some hk
  refine wpAny_Slice (thn (po_none.run pins s1 σ H1 (fun o H2 => o = none ∧ H2 = H1) I1 ⟨rfl, rfl⟩) fun vl s2 ⟨l, H2, I2, pl, el, e2⟩ => ?_)
  subst el e2
  refine thn (po_none.run pins s2 σ H2 (fun o H3 => o = none ∧ H3 = H2) I2 ⟨rfl, rfl⟩) fun vu s3 ⟨u, H3, I3, pu, eu, e3⟩ => ?_
  subst eu e3
  refine thn (hst.run pins s3 σ H3 _ I3 q1) fun vs s4 ⟨o, H4, I4, ps, b, xs, k, ex, eo, hx, hk0, q⟩ => ?_
  subst eo ex
  cases r1
  have I5 : Inv X pins σ H4 { s4 with heap := s4.heap.push { cls := .type "slice", data := .fields #[vl, vu, vs] } } := I4.kept (t' := s4.toks) fun b ob q => Heap.get?_push_of_some _ q
  obtain ⟨its, r, ht, hz⟩ := I5.list hx
  have hlen := r.length
  show wpAny (model X.prog X.w) X.A (subscriptTail e (.Slice none none (some a) p) (.ref b) (.ref s4.heap.objs.size)) (EP X pins σ Q) X.xe { s4 with heap := s4.heap.push { cls := .type "slice", data := .fields #[vl, vu, vs] } }
  refine tail_any (ops := [.ref b, .ref s4.heap.objs.size]) ht.isList.typeIs (PySem.slot_list_getitem.lookup) ?_ (by with_unfolding_all rfl)
  refine wpAny_getItem_list_slice ht.isList (Heap.IsSliceOf.new _ vl vu vs) pl pu ps (by intro z; cases z; omega) ?_ (by rw [List.size_toArray]; omega)
  have e5 : slicePick its.toArray none none (some k) = (((sliceRange (sliceBounds none none (some k) xs.length).1 (sliceBounds none none (some k) xs.length).2.1 (sliceBounds none none (some k) xs.length).2.2).filterMap (its[·]?))).toArray := by
    unfold slicePick
    rw [List.size_toArray, ← hlen]; simp
  rw [e5]
  refine ⟨.ref _, _, I5.laid (t' := s4.toks) (fun b ob q => Heap.get?_push_of_some _ q) (Nat.le_refl _) ?_, rfl, q _ (I5.hok.fresh (Nat.le_refl _))⟩
  exact ⟨Nat.le_trans (pick_len xs k hk0) hz, _, 0, vals_pick r _, Heap.get?_push_size _ rfl⟩
theorem fl_step (he : FE X e w) (hk : FE X a wa) : FL X (.Subscript e (.Slice none none (some a) p) pos) (lStep w wa) := by
  refine ⟨PE.imp (pe_stepL he.p hk.p) fun σ H Q ⟨env, S, m, Q0, s, r, h, k⟩ => ?_⟩
  refine lift_k s r h fun x S1 u H1 m1 q1 e1 s1 v1 => ?_
  refine lift_k s1 (r.ext e1.toEx) q1 fun y S2 v H2 m2 q2 e2 s2 v2 => ?_
  have v1 := v1.ext e2.toEx
  match x, y, q2 with
  | .ref i, .int j, ⟨xs, h3, hj, q⟩ =>
    simp only [VR] at v1 v2; subst v2
    obtain ⟨a, rfl, h2⟩ := v1
    obtain ⟨us, h4, h5⟩ := s2.lst h2 h3
    refine ⟨j, rfl, a, us, j, rfl, rfl, SqL.of h4, hj, fun p hp => k.lst (e1.trans e2) s2 ?_ hp ((e1.trans e2).back s2 hp) q⟩
    have := vrs_pick h5 (sliceRange (sliceBounds none none (some j) xs.length).1 (sliceBounds none none (some j) xs.length).2.1 (sliceBounds none none (some j) xs.length).2.2)
    rw [← h5.length]; exact this
end
end Z
namespace Z
open PySem PySem.Spec PyProof.Rows L2 RZ

/-! tuples of numbers and texts, sorted -/
def agreeK : List Key → List Key → Prop
  | x :: xs, y :: ys => (match x, y with | .inl _, .inl _ => True | .inr _, .inr _ => True | _, _ => False) ∧ agreeK xs ys
  | _, _ => True
theorem lex_kD : ∀ (ks ls : List Key), agreeK ks ls → lexD (ks.map kD) (ls.map kD) = some (ltK ks ls)
  | [], [], _ => rfl
  | [], _ :: _, _ => rfl
  | _ :: _, [], _ => rfl
  | x :: xs, y :: ys, h => by
    have ih := lex_kD xs ys h.2
    have h1 := h.1
    show cond (D.eqv (kD x) (kD y)) (lexD (xs.map kD) (ys.map kD)) (ltD (kD x) (kD y)) = some (if x = y then ltK xs ys else kLt x y)
    rw [ih]
    cases x <;> cases y <;> first | exact h1.elim | skip
    · rename_i i j
      by_cases e : i = j
      · subst e; simp [D.eqv, kD]
      · rw [if_neg (fun z => e (Sum.inl.inj z))]
        have : D.eqv (kD (.inl i)) (kD (.inl j)) = false := by simp [D.eqv, kD, e]
        rw [this]; rfl
    · rename_i i j
      by_cases e : i = j
      · subst e; simp [D.eqv, kD]
      · rw [if_neg (fun z => e (Sum.inr.inj z))]
        have : D.eqv (kD (.inr i)) (kD (.inr j)) = false := by simp [D.eqv, kD, e]
        rw [this]; rfl
theorem keyD_kD (k : Key) : keyD (kD k) = k := by cases k <;> rfl
theorem keysD_kD (ks : List Key) : keysD (ks.map kD) = ks := by
  unfold keysD; rw [List.map_map]
  conv => rhs; rw [← List.map_id ks]
  exact List.map_congr_left fun k _ => keyD_kD k
theorem flat_kD (k : Key) : (kD k).flat = true := by cases k <;> rfl
/-- rows told by keys -/
theorem sortD_rows {α : Type} (f : α → List Key) (xs : List α) (hd : (∀ x ∈ xs, ∃ i r, f x = .inl i :: r) ∨ (∀ x ∈ xs, ∃ i r, f x = .inr i :: r)) (ha : ∀ x ∈ xs, ∀ y ∈ xs, agreeK (f x) (f y)) : SortD (xs.map fun x => D.tup ((f x).map kD)) := by
  refine ⟨fun d hd' => ?_, hd.imp (fun h d hd' => ?_) fun h d hd' => ?_, fun d hd' e he => ?_⟩
  · obtain ⟨x, _, rfl⟩ := List.mem_map.mp hd'
    refine ⟨_, rfl, ?_⟩
    rw [List.all_map]; exact List.all_eq_true.mpr fun k _ => flat_kD k
  · obtain ⟨x, hx, rfl⟩ := List.mem_map.mp hd'
    obtain ⟨i, r, e⟩ := h x hx
    exact ⟨i, r.map kD, by rw [e]; rfl⟩
  · obtain ⟨x, hx, rfl⟩ := List.mem_map.mp hd'
    obtain ⟨i, r, e⟩ := h x hx
    exact ⟨i, r.map kD, by rw [e]; rfl⟩
  · obtain ⟨x, hx, rfl⟩ := List.mem_map.mp hd'
    obtain ⟨y, hy, rfl⟩ := List.mem_map.mp he
    show lexD ((f x).map kD) ((f y).map kD) = some (ltK (keysD ((f x).map kD)) (keysD ((f y).map kD)))
    rw [keysD_kD, keysD_kD]
    exact lex_kD _ _ (ha x hx y hy)
theorem perm_map {α β : Type} (f : α → β) {xs : List α} {ys : List β} (h : ys.Perm (xs.map f)) : ∃ zs : List α, ys = zs.map f ∧ zs.Perm xs := by
  generalize hl : xs.map f = ls at h
  induction h generalizing xs with
  | nil =>
    cases xs with
    | nil => exact ⟨[], rfl, .nil⟩
    | cons _ _ => cases hl
  | @cons a l1 l2 p ih =>
    cases xs with
    | nil => cases hl
    | cons x xs =>
      rw [List.map_cons] at hl
      injection hl with h1 h2
      obtain ⟨zs, e, q⟩ := ih h2
      exact ⟨x :: zs, by rw [List.map_cons, h1, e], q.cons x⟩
  | swap a b l =>
    match xs, hl with
    | x :: y :: xs, hl =>
      rw [List.map_cons, List.map_cons] at hl
      injection hl with h1 h2
      injection h2 with h2 h3
      exact ⟨y :: x :: xs, by rw [List.map_cons, List.map_cons, h1, h2, h3], .swap x y xs⟩
  | trans p1 p2 ih1 ih2 =>
    obtain ⟨zs, e, q⟩ := ih2 hl
    obtain ⟨zs2, e2, q2⟩ := ih1 e.symm
    exact ⟨zs2, e2, q2.trans q⟩
theorem rising_perm {α : Type} (lt : α → α → Prop) (irr : ∀ a, ¬ lt a a) (tr : ∀ a b c, lt a b → lt b c → lt a c) : ∀ {xs ys : List α}, xs.Perm ys → xs.Pairwise lt → ys.Pairwise lt → xs = ys
  | [], ys, p, _, _ => by rw [p.nil_eq]
  | x :: xs, [], p, _, _ => by have := p.length_eq; simp at this
  | x :: xs, y :: ys, p, h1, h2 => by
    have c1 := List.pairwise_cons.mp h1
    have c2 := List.pairwise_cons.mp h2
    have e : x = y := by
      rcases List.mem_cons.mp (p.mem_iff.mp (List.mem_cons_self : x ∈ x :: xs)) with e | hx
      · exact e
      · rcases List.mem_cons.mp (p.mem_iff.mpr (List.mem_cons_self : y ∈ y :: ys)) with e | hy
        · exact e.symm
        · exact absurd (tr _ _ _ (c1.1 y hy) (c2.1 x hx)) (irr x)
    subst e
    rw [rising_perm lt irr tr (p.cons_inv) c1.2 c2.2]
def tieKs (t : Tie) : List Key := [.inr (T t.1), .inl (t.2.1 : Int), .inl (t.2.2.1 : Int), .inl t.2.2.2]
theorem tieD_ks (t : Tie) : tieD t = .tup ((tieKs t).map kD) := rfl
theorem sort_ties (ts : List Tie) : SortD (ts.map tieD) :=
  sortD_rows tieKs ts (.inr fun t _ => ⟨_, _, rfl⟩) fun x _ y _ => ⟨trivial, trivial, trivial, trivial, trivial⟩
abbrev ltT (s t : Tie) : Prop := s.1 < t.1
theorem ltT_irr (a : Tie) : ¬ ltT a a := List.lt_irrefl _
theorem ltT_tr (a b c : Tie) : ltT a b → ltT b c → ltT a c := List.lt_trans
/-- a row of ties, rising -/
def Rises (us ts : List Tie) : Prop := us.Perm ts ∧ us.Pairwise ltT
theorem Rises.eq {us vs ts : List Tie} (h : Rises us ts) (h' : Rises vs ts) : us = vs := rising_perm ltT ltT_irr ltT_tr (h.1.trans h'.1.symm) h.2 h'.2
noncomputable def srtT (ts : List Tie) : List Tie := @dite _ (∃ us, Rises us ts) (Classical.propDecidable _) (fun h => Classical.choose h) fun _ => ts
theorem srtT_eq {us ts : List Tie} (h : Rises us ts) : srtT ts = us := by
  unfold srtT
  rw [dif_pos ⟨us, h⟩]
  exact (Classical.choose_spec (⟨us, h⟩ : ∃ us, Rises us ts)).eq h
theorem ltK_tie {a b : Tie} (h : a.1 ≠ b.1) : ltK (keyT (tieD a)) (keyT (tieD b)) = decide (a.1 < b.1) := by
  have : ltK (tieKs a) (tieKs b) = decide (a.1 < b.1) := by
    show (if (Sum.inr (T a.1) : Key) = .inr (T b.1) then _ else decide ((T a.1).cps.toList < (T b.1).cps.toList)) = _
    rw [if_neg (fun z => h (T_inj (Sum.inr.inj z))), T_toList, T_toList]
  exact this
/-- sorted(ties) -/
theorem sorted_ties {ts : List Tie} (nd : (ts.map (·.1)).Nodup) {ys : List D} (p : ys.Perm (ts.map tieD)) (h : ys.Pairwise (fun a b => ltK (keyT b) (keyT a) = false)) : ys = (srtT ts).map tieD ∧ Rises (srtT ts) ts := by
  obtain ⟨us, rfl, q⟩ := perm_map tieD p
  have nd' : (us.map (·.1)).Nodup := (q.map _).nodup_iff.mpr nd
  have hR : Rises us ts := by
    refine ⟨q, ?_⟩
    rw [List.pairwise_map] at h
    rw [List.Nodup, List.pairwise_map] at nd'
    refine (h.and nd').imp fun {a b} ⟨h1, h2⟩ => ?_
    rw [ltK_tie (Ne.symm h2)] at h1
    have h1 := of_decide_eq_false h1
    have := (list_tri b.1 a.1 (Ne.symm h2))
    exact Classical.byContradiction fun z => h1 (this.mpr z)
  rw [srtT_eq hR]
  exact ⟨rfl, hR⟩

/-! histories -/
inductive Deed where
  | come (mo : Nat) (t : Tie)
  | go (mo : Nat) (nm : List Nat)
def Deed.mo : Deed → Nat
  | .come m _ => m
  | .go m _ => m
def Deed.nm : Deed → List Nat
  | .come _ t => t.1
  | .go _ n => n
def deedD : Deed → D
  | .come m t => .tup [.str "come", .int (m : Int), .str (T t.1), .int (t.2.1 : Int), .int (t.2.2.1 : Int), .int t.2.2.2]
  | .go m n => .tup [.str "go", .int (m : Int), .str (T n)]
abbrev dsD (ds : List Deed) : D := .tup (ds.map deedD)
def histD (m : Nat) (ds : List Deed) : D := .tup [.int (m : Int), dsD ds]
instance (d : Deed) : Pur (deedD d) := by cases d <;> (unfold deedD; infer_instance)
instance (m : Nat) (ds : List Deed) : Pur (histD m ds) := by unfold histD; infer_instance
def stepT (ts : List Tie) : Deed → List Tie
  | .come _ t => ts ++ [t]
  | .go _ n => ts.filter fun t => decide (t.1 ≠ n)
def okStep (m : Nat) (ts : List Tie) : Deed → Prop
  | .come _ t => GoodTie m t ∧ t.1 ∉ ts.map (·.1)
  | .go _ n => okName n ∧ n ∈ ts.map (·.1)
def standF (ds : List Deed) : List Tie := ds.foldl stepT []
theorem standF_snoc (ds : List Deed) (d : Deed) : standF (ds ++ [d]) = stepT (standF ds) d := by unfold standF; rw [List.foldl_append]; rfl
inductive OkH (m : Nat) : List Deed → Prop where
  | nil : OkH m []
  | snoc {ds : List Deed} {d : Deed} : OkH m ds → (∀ e ∈ ds, e.mo ≤ d.mo) → d.mo ≤ 1000000000 → okStep m (standF ds) d → OkH m (ds ++ [d])
theorem OkH.snoc_inv {m : Nat} {ds : List Deed} {d : Deed} (h : OkH m (ds ++ [d])) : OkH m ds ∧ (∀ e ∈ ds, e.mo ≤ d.mo) ∧ d.mo ≤ 1000000000 ∧ okStep m (standF ds) d := by
  generalize hl : ds ++ [d] = l at h
  cases h with
  | nil => simp at hl
  | snoc h1 h2 h3 h4 =>
    obtain ⟨e1, e2⟩ := List.append_inj' hl rfl
    subst e1
    injection e2 with e2
    subst e2
    exact ⟨h1, h2, h3, h4⟩
theorem OkH.take {m : Nat} {ds : List Deed} (h : OkH m ds) : ∀ n, OkH m (ds.take n) := by
  induction h with
  | nil => intro n; simp; exact .nil
  | @snoc ds d h1 h2 h3 h4 ih =>
    intro n
    by_cases hn : n ≤ ds.length
    · rw [List.take_append_of_le_length hn]; exact ih n
    · rw [List.take_of_length_le (by simp; omega)]; exact .snoc h1 h2 h3 h4
theorem take_succ_eq {α : Type} {l : List α} {i : Nat} {d : α} (h : l[i]? = some d) : l.take (i + 1) = l.take i ++ [d] := by
  rw [List.take_add_one, h]; rfl
theorem OkH.at_ {m : Nat} {ds : List Deed} (h : OkH m ds) {i : Nat} {d : Deed} (e : ds[i]? = some d) : OkH m (ds.take i) ∧ (∀ e ∈ ds.take i, e.mo ≤ d.mo) ∧ d.mo ≤ 1000000000 ∧ okStep m (standF (ds.take i)) d := by
  have := h.take (i + 1)
  rw [take_succ_eq e] at this
  exact this.snoc_inv
/-- a stand on its way: unlike names, right ties -/
structure OkSt (m : Nat) (ts : List Tie) : Prop where
  tie : ∀ t ∈ ts, GoodTie m t
  nd : (ts.map (·.1)).Nodup
theorem OkSt.step {m : Nat} {ts : List Tie} {d : Deed} (h : OkSt m ts) (s : okStep m ts d) : OkSt m (stepT ts d) ∧ (stepT ts d).length ≤ ts.length + 1 := by
  cases d with
  | come mo t =>
    refine ⟨⟨fun u hu => ?_, ?_⟩, by simp [stepT]⟩
    · rcases List.mem_append.mp hu with hu | hu
      · exact h.tie u hu
      · rw [List.mem_singleton.mp hu]; exact s.1
    · show ((ts ++ [t]).map (·.1)).Nodup
      rw [List.map_append, List.nodup_append]
      exact ⟨h.nd, by simp, fun a ha b hb e => s.2 (by
        have : b = t.1 := by simpa using hb
        rw [← this, ← e]; exact ha)⟩
  | go mo n =>
    refine ⟨⟨fun u hu => h.tie u (List.mem_filter.mp hu).1, ?_⟩, Nat.le_succ_of_le (List.length_filter_le _ _)⟩
    exact h.nd.sublist ((List.filter_sublist).map _)
theorem OkH.st {m : Nat} {ds : List Deed} (h : OkH m ds) : OkSt m (standF ds) ∧ (standF ds).length ≤ ds.length := by
  induction h with
  | nil => exact ⟨⟨fun _ h => (by cases h), List.nodup_nil⟩, Nat.le_refl _⟩
  | @snoc ds d h1 h2 h3 h4 ih =>
    rw [standF_snoc]
    obtain ⟨a, b⟩ := ih.1.step h4
    exact ⟨a, by simp; omega⟩
structure GoodHist (m : Nat) (ds : List Deed) : Prop where
  m1 : 1 ≤ m
  m2 : m ≤ 24
  len : ds.length ≤ 60
  ok : OkH m ds
theorem GoodHist.take {m : Nat} {ds : List Deed} (h : GoodHist m ds) (n : Nat) : GoodHist m (ds.take n) := ⟨h.m1, h.m2, by rw [List.length_take]; have := h.len; omega, h.ok.take n⟩
/-- the stand behind n deeds -/
noncomputable def behL (ds : List Deed) (n : Nat) : List Tie := srtT (standF (ds.take n))
theorem dict_pop {ts : List Tie} {n : List Nat} : dropX (dictD ts) (.inr (T n)) = dictD (ts.filter fun t => decide (t.1 ≠ n)) := by
  unfold dropX dictD
  rw [List.filter_map]
  congr 1
  refine List.filter_congr fun t _ => ?_
  show decide ((Sum.inr (T t.1) : Key) ≠ .inr (T n)) = decide (t.1 ≠ n)
  refine decide_eq_decide.mpr ⟨fun h e => h (by rw [e]), fun h e => h (T_inj (Sum.inr.inj e))⟩
end Z
namespace Z
open PySem PySem.Spec PyProof.Rows L2 RZ
theorem cut_take {α : Type} (f : α → D) (xs : List α) (n : Nat) : cutD (xs.map f) none (some (n : Int)) = (xs.take n).map f := by rw [cutD_to (by omega), Int.toNat_natCast, List.map_take]
theorem cut_drop {α : Type} (f : α → D) (xs : List α) (n : Nat) : cutD (xs.map f) (some (n : Int)) none = (xs.drop n).map f := by rw [cutD_from (by omega), Int.toNat_natCast, List.map_drop]
theorem cutD_mem {xs : List D} {lo hi : Option Int} {y : D} (h : y ∈ cutD xs lo hi) : y ∈ xs := by
  unfold cutD at h
  exact List.mem_of_mem_drop (List.mem_of_mem_take h)
/-- the walk from the last deed back -/
def backG : List Deed → List (List Nat) → List Tie
  | [], _ => []
  | .come _ t :: r, met => (if t.1 ∈ met then [] else [t]) ++ backG r (met ++ [t.1])
  | .go _ n :: r, met => backG r (met ++ [n])
theorem backG_perm {m : Nat} {ds : List Deed} (h : OkH m ds) : ∀ met : List (List Nat), (backG ds.reverse met).Perm ((standF ds).filter fun t => decide (t.1 ∉ met)) := by
  induction h with
  | nil => intro met; exact .nil
  | @snoc ds d h1 h2 h3 h4 ih =>
    intro met
    rw [List.reverse_append, standF_snoc]
    cases d with
    | come mo t =>
      show ((if t.1 ∈ met then [] else [t]) ++ backG ds.reverse (met ++ [t.1])).Perm ((standF ds ++ [t]).filter _)
      rw [List.filter_append]
      have e : (standF ds).filter (fun u => decide (u.1 ∉ met ++ [t.1])) = (standF ds).filter fun u => decide (u.1 ∉ met) := by
        refine List.filter_congr fun u hu => decide_eq_decide.mpr ?_
        have : u.1 ≠ t.1 := fun e => h4.2 (by rw [← e]; exact List.mem_map_of_mem hu)
        simp [this]
      have p := ih (met ++ [t.1])
      rw [e] at p
      have e2 : [t].filter (fun u => decide (u.1 ∉ met)) = if t.1 ∈ met then [] else [t] := by
        by_cases hm : t.1 ∈ met
        · rw [if_pos hm, List.filter_cons_of_neg (by simpa using hm)]; rfl
        · rw [if_neg hm, List.filter_cons_of_pos (by simpa using hm)]; rfl
      rw [e2]
      exact (p.append_left _).trans List.perm_append_comm
    | go mo n =>
      show (backG ds.reverse (met ++ [n])).Perm (((standF ds).filter fun t => decide (t.1 ≠ n)).filter _)
      rw [List.filter_filter]
      have p := ih (met ++ [n])
      have e : (standF ds).filter (fun u => decide (u.1 ∉ met ++ [n])) = (standF ds).filter fun u => decide (u.1 ∉ met) && decide (u.1 ≠ n) := by
        refine List.filter_congr fun u _ => ?_
        rw [← Bool.decide_and]
        exact decide_eq_decide.mpr (by simp)
      rw [e] at p; exact p
/-- how many deeds have no greater moment -/
def byL (ds : List Deed) (x : Int) : Nat := (ds.filter fun d => decide ((d.mo : Int) ≤ x)).length
theorem byL_le (ds : List Deed) (x : Int) : byL ds x ≤ ds.length := List.length_filter_le _ _
theorem byL_snoc (ds : List Deed) (d : Deed) (x : Int) : byL (ds ++ [d]) x = byL ds x + if (d.mo : Int) ≤ x then 1 else 0 := by
  unfold byL
  rw [List.filter_append, List.length_append]
  by_cases h : (d.mo : Int) ≤ x
  · rw [if_pos h, List.filter_cons_of_pos (by simpa using h)]; rfl
  · rw [if_neg h, List.filter_cons_of_neg (by simpa using h)]; rfl
theorem come_at1 (mo : Nat) (t : Tie) : ∃ us, deedD (.come mo t) = .tup us ∧ us.length = 6 := ⟨_, rfl, rfl⟩
/-- behL is a stand -/
theorem Rises.good {m : Nat} {us ts : List Tie} (h : Rises us ts) (o : OkSt m ts) (l : ts.length ≤ 60) : GoodStand m us :=
  ⟨by rw [h.1.length_eq]; exact l, fun t ht => o.tie t (h.1.mem_iff.mp ht), h.2⟩
theorem rises_ex (ts : List Tie) (nd : (ts.map (·.1)).Nodup) : ∃ us, Rises us ts := by
  induction ts with
  | nil => exact ⟨[], .nil, .nil⟩
  | cons t ts ih =>
    have nd := List.nodup_cons.mp nd
    obtain ⟨us, h1, h2⟩ := ih nd.2
    have ht : ∀ u ∈ us, u.1 ≠ t.1 := fun u hu e => nd.1 (by
      show t.1 ∈ ts.map (·.1)
      rw [← e]; exact List.mem_map_of_mem (h1.mem_iff.mp hu))
    refine ⟨us.filter (fun u => decide (u.1 < t.1)) ++ t :: us.filter (fun u => !decide (u.1 < t.1)), ?_, ?_⟩
    · refine (List.perm_middle).trans (.cons t ?_)
      exact (List.filter_append_perm (fun u : Tie => decide (u.1 < t.1)) us).trans h1
    · rw [List.pairwise_append, List.pairwise_cons]
      refine ⟨h2.filter _, ⟨fun u hu => ?_, h2.filter _⟩, fun a ha b hb => ?_⟩
      · obtain ⟨h3, h4⟩ := List.mem_filter.mp hu
        have h4 : ¬ u.1 < t.1 := by simpa using h4
        exact Classical.byContradiction fun z => h4 ((list_tri u.1 t.1 (ht u h3)).mpr z)
      · obtain ⟨h3, h4⟩ := List.mem_filter.mp ha
        have h4 : a.1 < t.1 := by simpa using h4
        rcases List.mem_cons.mp hb with rfl | hb
        · exact h4
        · obtain ⟨h5, h6⟩ := List.mem_filter.mp hb
          have h6 : ¬ b.1 < t.1 := by simpa using h6
          exact List.lt_trans h4 (Classical.byContradiction fun z => h6 ((list_tri b.1 t.1 (ht b h5)).mpr z))
theorem srtT_rises {ts : List Tie} (nd : (ts.map (·.1)).Nodup) : Rises (srtT ts) ts := by
  obtain ⟨us, h⟩ := rises_ex ts nd
  rw [srtT_eq h]; exact h
theorem beh_rises {m : Nat} {ds : List Deed} (h : OkH m ds) (n : Nat) : Rises (behL ds n) (standF (ds.take n)) := srtT_rises (h.take n).st.1.nd
theorem beh_good {m : Nat} {ds : List Deed} (h : GoodHist m ds) (n : Nat) : GoodStand m (behL ds n) :=
  (beh_rises h.ok n).good (h.ok.take n).st.1 (by have := (h.ok.take n).st.2; have := h.len; rw [List.length_take] at *; omega)
/-- things of truths, numbers, texts, None, in tuples, n deep -/
def Sm : Nat → D → Prop
  | 0, _ => False
  | n + 1, .tup xs => xs.length ≤ 1000 ∧ ∀ x ∈ xs, Sm n x
  | _ + 1, .non => True
  | _ + 1, .bl _ => True
  | _ + 1, .int _ => True
  | _ + 1, .str _ => True
  | _, _ => False
theorem sm_tie (n : Nat) (t : Tie) : Sm (n + 2) (tieD t) := by
  refine ⟨by simp, fun x hx => ?_⟩
  simp only [List.mem_cons, List.not_mem_nil, or_false] at hx
  rcases hx with rfl | rfl | rfl | rfl <;> trivial
theorem sm_st (n : Nat) {ts : List Tie} (h : ts.length ≤ 1000) : Sm (n + 3) (stD ts) := by
  refine ⟨by simpa using h, fun x hx => ?_⟩
  obtain ⟨t, _, rfl⟩ := List.mem_map.mp hx
  exact sm_tie n t
theorem str_ne1 : decide (("go" : Str) = "come") = false := by decide +kernel
theorem str_ne2 : decide (("come" : Str) = "go") = false := by decide +kernel
theorem any_names (xs : List (List Nat)) (x : List Nat) : ((xs.map fun x => D.str (T x)).any fun y => D.eqv y (.str (T x))) = decide (x ∈ xs) := by
  induction xs with
  | nil => rfl
  | cons a xs ih =>
    rw [List.map_cons, List.any_cons, ih]
    have e : D.eqv (.str (T a)) (.str (T x)) = decide (a = x) := by
      show (T a == T x) = _
      rw [← T_dec a x]; exact (Bool.beq_eq_decide_eq _ _)
    rw [e, ← Bool.decide_or]
    exact decide_eq_decide.mpr (by rw [List.mem_cons]; exact or_congr_left eq_comm)
end Z
namespace Z
open PySem PySem.Spec PyProof.Rows L2 RZ
/-! dicts of rows, by a key of each -/
def dicG {α : Type} (kf : α → Key) (vf : α → D) (xs : List α) : List (Key × D) := xs.map fun a => (kf a, vf a)
section
variable {α : Type} {kf : α → Key} {vf : α → D} {xs : List α}
theorem dicG_len : (dicG kf vf xs).length = xs.length := by simp [dicG]
theorem dicG_vals : (dicG kf vf xs).map (·.2) = xs.map vf := by simp [dicG, Function.comp_def]
theorem dicG_keys : (dicG kf vf xs).map (fun kv => kD kv.1) = (xs.map kf).map kD := by simp [dicG, Function.comp_def]
theorem dicG_val (k : Key) : valX (dicG kf vf xs) k = (xs.find? fun a => decide (kf a = k)).map vf := by
  unfold valX dicG
  rw [List.find?_map, Option.map_map]; rfl
theorem dicG_some (k : Key) : (valX (dicG kf vf xs) k).isSome = true ↔ k ∈ xs.map kf := by
  rw [dicG_val, Option.isSome_map, List.find?_isSome, List.mem_map]
  exact ⟨fun ⟨a, h, e⟩ => ⟨a, h, of_decide_eq_true e⟩, fun ⟨a, h, e⟩ => ⟨a, h, decide_eq_true e⟩⟩
theorem dicG_get {a : α} (h : a ∈ xs) (hu : ∀ b ∈ xs, kf b = kf a → vf b = vf a) : valX (dicG kf vf xs) (kf a) = some (vf a) := by
  rw [dicG_val]
  cases e : xs.find? fun b => decide (kf b = kf a) with
  | none => exact absurd (decide_eq_true rfl) (List.find?_eq_none.mp e a h)
  | some b =>
    show some (vf b) = some (vf a)
    rw [hu b (List.mem_of_find?_eq_some e) (of_decide_eq_true (by have := List.find?_some e; exact this))]
theorem dicG_none {k : Key} (h : k ∉ xs.map kf) : valX (dicG kf vf xs) k = none := by
  cases e : valX (dicG kf vf xs) k with
  | none => rfl
  | some v => exact absurd ((dicG_some (kf := kf) (vf := vf) (xs := xs) k).mp (by rw [e]; rfl)) h
theorem dicG_put {a : α} (h : kf a ∉ xs.map kf) : putX (dicG kf vf xs) (kf a) (vf a) = dicG kf vf (xs ++ [a]) := by
  have : ((dicG kf vf xs).any fun kv => decide (kv.1 = kf a)) = false := by
    rw [List.any_eq_false]
    intro kv hkv
    obtain ⟨b, hb, rfl⟩ := List.mem_map.mp hkv
    simp only [decide_eq_true_eq]
    exact fun e => h (by rw [← e]; exact List.mem_map_of_mem hb)
  unfold putX
  rw [this]
  simp [dicG]
theorem dicG_drop (k : Key) : dropX (dicG kf vf xs) k = dicG kf vf (xs.filter fun a => decide (kf a ≠ k)) := by
  unfold dropX dicG
  rw [List.filter_map]; rfl
end
instance {α : Type} {kf : α → Key} {vf : α → D} {xs : List α} [h : ∀ a, Pur (vf a)] : PurK (dicG kf vf xs) := ⟨by unfold dicG; exact purK_map (fun a => (h a).p) xs⟩
def tieK (t : Tie) : Key := .inr (T t.1)
theorem tieK_inj {s t : Tie} (h : tieK s = tieK t) : s.1 = t.1 := T_inj (Sum.inr.inj h)
theorem tieK_mem {ts : List Tie} {n : List Nat} : (.inr (T n) : Key) ∈ ts.map tieK ↔ n ∈ ts.map (·.1) := by
  rw [List.mem_map, List.mem_map]
  exact ⟨fun ⟨t, h, e⟩ => ⟨t, h, T_inj (Sum.inr.inj e)⟩, fun ⟨t, h, e⟩ => ⟨t, h, by rw [tieK, e]⟩⟩
theorem tieK_filter {ts : List Tie} {n : List Nat} : (ts.filter fun t => decide (tieK t ≠ .inr (T n))) = ts.filter fun t => decide (t.1 ≠ n) := by
  refine List.filter_congr fun t _ => decide_eq_decide.mpr ⟨fun h e => h (by rw [tieK, e]), fun h e => h (T_inj (Sum.inr.inj e))⟩
theorem nodup_tie {ts : List Tie} (nd : (ts.map (·.1)).Nodup) {a b : Tie} (ha : a ∈ ts) (hb : b ∈ ts) (e : a.1 = b.1) : a = b := by
  obtain ⟨i, hi, ei⟩ := List.mem_iff_getElem.mp ha
  obtain ⟨j, hj, ej⟩ := List.mem_iff_getElem.mp hb
  have h1 : (ts.map (·.1))[i]? = some a.1 := by rw [List.getElem?_map, List.getElem?_eq_getElem hi, ei]; rfl
  have h2 : (ts.map (·.1))[j]? = some a.1 := by rw [List.getElem?_map, List.getElem?_eq_getElem hj, ej, e]; rfl
  have := nodup_get nd h1 h2
  subst this
  rw [← ei, ← ej]
end Z
namespace Z
open PySem PySem.Spec PyProof.Rows L2 RZ
mutual
theorem eqv_refl : ∀ {d : D}, d.plain = true → D.eqv d d = true
  | .non, _ => by simp [D.eqv]
  | .bl _, _ => by simp [D.eqv]
  | .int _, _ => by simp [D.eqv]
  | .str _, _ => by simp [D.eqv]
  | .tup xs, h => by simp only [D.plain] at h; simp only [D.eqv]; exact eqvs_refl h
  | .rol xs, h => by simp only [D.plain] at h; simp only [D.eqv]; exact eqvs_refl h
  | .ref _, h => by simp [D.plain] at h
  | .ty _, h => by simp [D.plain] at h
  | .cst _, h => by simp [D.plain] at h
theorem eqvs_refl : ∀ {xs : List D}, D.plains xs = true → D.eqvs xs xs = true
  | [], _ => by simp [D.eqvs]
  | x :: xs, h => by
    simp only [D.plains, Bool.and_eq_true] at h
    simp [D.eqvs, eqv_refl h.1, eqvs_refl h.2]
end
/-- data that may be compared, n deep at most -/
def FitN (n : Nat) (d : D) : Prop := d.fit ∧ d.dep ≤ n
theorem FitN.ok {n : Nat} {d : D} (h : FitN n d) (hn : n ≤ 60 := by decide) : okD d := okD_fit h.1 (by have := h.2; omega)
theorem FitN.eqv {n : Nat} {d : D} (h : FitN n d) : D.eqv d d = true := eqv_refl (fit_plain h.1).1
theorem fitN_int (n : Nat) (i : Int) : FitN n (.int i) := ⟨by simp [D.fit], by simp [D.dep]⟩
theorem fitN_non (n : Nat) : FitN n .non := ⟨by simp [D.fit], by simp [D.dep]⟩
theorem fitN_bl (n : Nat) (b : Bool) : FitN n (.bl b) := ⟨by simp [D.fit], by simp [D.dep]⟩
theorem fitN_T (n : Nat) {x : List Nat} (h : ∀ c ∈ x, c < 1114112) : FitN n (.str (T x)) := ⟨by simp only [D.fit]; intro c hc; exact h c (by simpa using hc), by simp [D.dep]⟩
theorem fitN_name (n : Nat) {x : List Nat} (h : okName x) : FitN n (.str (T x)) := fitN_T n fun c hc => by have := letters_mem.mp (h.2.2 c hc); omega
theorem fitN_lit (n : Nat) (s : Str) (h : s.cps.toList.all (fun c => decide (c < 1114112)) = true) : FitN n (.str s) := ⟨by simp only [D.fit]; intro c hc; exact of_decide_eq_true (List.all_eq_true.mp h c hc), by simp [D.dep]⟩
theorem fitN_tup {n : Nat} {xs : List D} (h : ∀ x ∈ xs, FitN n x) : FitN (n + 1) (.tup xs) := by
  have h2 : D.fits xs ∧ D.deps xs ≤ n := by
    induction xs with
    | nil => exact ⟨trivial, by simp [D.deps]⟩
    | cons x xs ih =>
      have := ih fun y hy => h y (List.mem_cons_of_mem _ hy)
      have h1 := h x List.mem_cons_self
      exact ⟨⟨h1.1, this.1⟩, by simp only [D.deps]; have := h1.2; omega⟩
  exact ⟨by simp only [D.fit]; exact h2.1, by simp only [D.dep]; omega⟩
theorem fitN_map {α : Type} {n : Nat} {f : α → D} {xs : List α} (h : ∀ x ∈ xs, FitN n (f x)) : FitN (n + 1) (.tup (xs.map f)) := fitN_tup fun d hd => by
  obtain ⟨x, hx, rfl⟩ := List.mem_map.mp hd
  exact h x hx
theorem okL_of_fit {n : Nat} {xs : List D} (h : ∀ x ∈ xs, FitN n x) (hn : n ≤ 58 := by decide) : okL xs := by
  have := fitN_tup h
  obtain ⟨h1, h2⟩ := this
  simp only [D.fit] at h1
  simp only [D.dep] at h2
  exact okL_fit h1 (by omega)
theorem fitN_tie (n : Nat) {t : Tie} (h : okName t.1) : FitN (n + 1) (tieD t) := fitN_tup fun x hx => by
  simp only [List.mem_cons, List.not_mem_nil, or_false] at hx
  rcases hx with rfl | rfl | rfl | rfl
  · exact fitN_name n h
  · exact fitN_int n _
  · exact fitN_int n _
  · exact fitN_int n _
theorem fitN_st (n : Nat) {ts : List Tie} (h : ∀ t ∈ ts, okName t.1) : FitN (n + 2) (stD ts) := fitN_map fun t ht => fitN_tie n (h t ht)
theorem behL_take (ds : List Deed) (n : Nat) : behL (ds.take n) n = behL ds n := by unfold behL; rw [List.take_take, Nat.min_self]
theorem behL_name {m : Nat} {ds : List Deed} (h : OkH m ds) (n : Nat) : ∀ t ∈ behL ds n, okName t.1 := fun t ht => ((h.take n).st.1.tie t ((beh_rises h n).1.mem_iff.mp ht)).nm
theorem behL_len {m : Nat} {ds : List Deed} (h : OkH m ds) (n : Nat) : (behL ds n).length = (standF (ds.take n)).length := (beh_rises h n).1.length_eq
theorem filter_name_len {ts : List Tie} (nd : (ts.map (·.1)).Nodup) {n : List Nat} (h : n ∈ ts.map (·.1)) : (ts.filter fun t => decide (t.1 ≠ n)).length + 1 = ts.length := by
  induction ts with
  | nil => cases h
  | cons t ts ih =>
    have nd := List.nodup_cons.mp nd
    by_cases e : t.1 = n
    · rw [List.filter_cons_of_neg (by simpa using e), List.filter_eq_self.mpr (fun u hu => by
        have : u.1 ≠ n := fun z => nd.1 (by
          show t.1 ∈ ts.map (·.1)
          rw [e, ← z]; exact List.mem_map_of_mem hu)
        simpa using this)]
      rfl
    · rw [List.filter_cons_of_pos (by simpa using e)]
      have h : n ∈ ts.map (·.1) := by
        rcases List.mem_cons.mp h with z | z
        · exact absurd z.symm e
        · exact z
      have := ih nd.2 h
      simp only [List.length_cons]; omega
/-- behind a coming one more, behind a going one less -/
theorem behL_step {m : Nat} {ds : List Deed} (h : OkH m ds) {n : Nat} {d : Deed} (e : ds[n]? = some d) : ((behL ds (n + 1)).length : Int) - (behL ds n).length = match d with | .come _ _ => 1 | .go _ _ => -1 := by
  rw [behL_len h, behL_len h, take_succ_eq e, standF_snoc]
  have hs := (h.at_ e).2.2.2
  have nd := (h.take n).st.1.nd
  cases d with
  | come mo t => show ((standF (ds.take n) ++ [t]).length : Int) - _ = 1; simp; omega
  | go mo nm =>
    show (((standF (ds.take n)).filter fun t => decide (t.1 ≠ nm)).length : Int) - _ = -1
    have := filter_name_len nd hs.2
    omega
end Z
namespace Z
open PySem PySem.Spec PyProof.Rows L2
/-! things with numbers of the store in them -/
class BelO (k : Nat) (o : O) : Prop where p : o.bel k = true
class BelOs (k : Nat) (L : Sto) : Prop where p : ∀ o ∈ L, o.bel k = true
class RenO (ρ : Nat → Nat) (o : O) (o' : outParam O) : Prop where eq : renO ρ o = o'
class RenOs (ρ : Nat → Nat) (L : Sto) (L' : outParam Sto) : Prop where eq : L.map (renO ρ) = L'
instance (priority := low) {k : Nat} {o : O} [h : PurO o] : BelO k o := ⟨purO_bel h.p⟩
instance {k : Nat} : BelOs k [] := ⟨fun _ h => by cases h⟩
instance {k : Nat} {o : O} {L : Sto} [h : BelO k o] [t : BelOs k L] : BelOs k (o :: L) := ⟨fun x hx => by
  rcases List.mem_cons.mp hx with rfl | hx
  · exact h.p
  · exact t.p x hx⟩
instance (priority := low) {ρ : Nat → Nat} {o : O} [h : PurO o] : RenO ρ o o := ⟨renO_pur h.p⟩
instance {ρ : Nat → Nat} : RenOs ρ [] [] := ⟨rfl⟩
instance {ρ : Nat → Nat} {o o' : O} {L L' : Sto} [h : RenO ρ o o'] [t : RenOs ρ L L'] : RenOs ρ (o :: L) (o' :: L') := ⟨by rw [List.map_cons, h.eq, t.eq]⟩
theorem embR {ρ : Nat → Nat} {S : Sto} {q : Nat} {o o' : O} [h : RenO ρ o o'] (e : S[q]? = some o') : S[q]? = some (renO ρ o) := by rw [h.eq]; exact e
section
variable {π : List Nat} {S : Sto} {D0 : WEnds} {L' : Sto}
theorem kept_bel {k : Nat} {L1 N : Sto} {js : List Nat} (hk : k ≤ L'.length) (h1 : L'.take k = L1) (hN : js.map (fun j => L'[j]?) = N.map some) (nd : js.Nodup) (hj : ∀ j ∈ js, k ≤ j) [hb : BelOs k L1] [hp : PurOs N] :
    Kept k (List.range k ++ js) (L1 ++ N) L' := kept_of hk h1 hb.p nd hj hN hp.p
/-- out of a part: the result holds no number -/
theorem out_rtG {d : D} (L1 : Sto) {Lr : Sto} [hr : RenOs (rho π S.length) L1 Lr] (q : D0.rt d (puts S π Lr)) (h1 : L'.take π.length = L1 := by rfl) (hk : π.length ≤ L'.length := by simp) [hd : Pur d] [hb : BelOs π.length L1] : (locE π S D0).rt d L' := by
  unfold locE
  refine ⟨List.range π.length ++ [], L1 ++ [], d, kept_of hk h1 hb.p List.nodup_nil (fun j h => by cases h) rfl (fun o h => by cases h), (ren_pur hd.p).symm, ?_⟩
  show D0.rt (ren (rho π S.length) d) (put (rho π S.length) S π (L1 ++ []))
  rw [ren_pur hd.p, put_puts, List.append_nil, hr.eq]
  exact q
/-- .. is one new thing -/
theorem out_newG {j : Nat} (L1 : Sto) (o : O) {Lr : Sto} [hr : RenOs (rho π S.length) L1 Lr] (q : D0.rt (.ref S.length) (puts S π (Lr ++ [o]))) (hN : L'[j]? = some o := by rfl) (h1 : L'.take π.length = L1 := by rfl) (hkj : π.length ≤ j := by simp) (hk : π.length ≤ L'.length := by simp) [ho : PurO o] [hb : BelOs π.length L1] : (locE π S D0).rt (.ref j) L' := by
  have hl : L1.length = π.length := by rw [← h1, List.length_take]; omega
  unfold locE
  refine ⟨List.range π.length ++ [j], L1 ++ [o], .ref π.length, kept_of hk h1 hb.p (by simp) (by simpa using hkj) (by simp [hN]) (by simpa using ho.p), by simp [ren, rho], ?_⟩
  have e : ren (rho π S.length) (.ref π.length) = .ref S.length := by simp [ren, rho]
  show D0.rt (ren (rho π S.length) (.ref π.length)) (put (rho π S.length) S π (L1 ++ [o]))
  rw [e, put_puts, List.map_append, hr.eq]
  simpa [renO_pur ho.p] using q
/-- on behind a part: the first things (L1) and those at js (N) are kept; le2: the slots kept, told by these; env': what they are outside -/
theorem out_nxG {le' : En} (js : List Nat) (L1 N : Sto) (le2 : En) {env' : En} {Lr : Sto} [hr : RenOs (rho π S.length) L1 Lr] (q : D0.nx env' (puts S π (Lr ++ N))) (h1 : L'.take π.length = L1) (hN : js.map (fun j => L'[j]?) = N.map some) (nd : js.Nodup) (hj : ∀ j ∈ js, π.length ≤ j)
    (he : EnvLe (rho (List.range π.length ++ js) L'.length) le2 le') (he' : renE (rho π S.length) le2 = env') (hk : π.length ≤ L'.length := by simp) [hb : BelOs π.length L1] [hp : PurOs N] : (locE π S D0).nx le' L' := by
  unfold locE
  refine ⟨List.range π.length ++ js, L1 ++ N, le2, kept_of hk h1 hb.p nd hj hN hp.p, he, ?_⟩
  show D0.nx (renE (rho π S.length) le2) (put (rho π S.length) S π (L1 ++ N))
  rw [put_puts, List.map_append, hr.eq, renOs_pur hp.p, he']
  exact q
theorem out_n0G {le' : En} (L1 : Sto) (le2 : En) {env' : En} {Lr : Sto} [hr : RenOs (rho π S.length) L1 Lr] (q : D0.nx env' (puts S π Lr)) (h1 : L'.take π.length = L1 := by rfl) (he : EnvLe (rho (List.range π.length ++ []) L'.length) le2 le') (he' : renE (rho π S.length) le2 = env') (hk : π.length ≤ L'.length := by simp) [hb : BelOs π.length L1] : (locE π S D0).nx le' L' := by
  refine out_nxG [] L1 [] le2 (Lr := Lr) ?_ h1 rfl List.nodup_nil (fun j h => by cases h) he he' hk
  rw [List.append_nil]; exact q
theorem out_b0G {le' : En} (L1 : Sto) (le2 : En) {env' : En} {Lr : Sto} [hr : RenOs (rho π S.length) L1 Lr] (q : D0.bk env' (puts S π Lr)) (h1 : L'.take π.length = L1 := by rfl) (he : EnvLe (rho (List.range π.length ++ []) L'.length) le2 le') (he' : renE (rho π S.length) le2 = env') (hk : π.length ≤ L'.length := by simp) [hb : BelOs π.length L1] : (locE π S D0).bk le' L' := by
  unfold locE
  refine ⟨List.range π.length ++ [], L1 ++ [], le2, kept_of hk h1 hb.p List.nodup_nil (fun j h => by cases h) rfl (fun o h => by cases h), he, ?_⟩
  show D0.bk (renE (rho π S.length) le2) (put (rho π S.length) S π (L1 ++ []))
  rw [put_puts, List.append_nil, hr.eq, he']
  exact q
end
end Z
namespace Z
open PySem PySem.Spec PyProof.Rows L2 RZ
/-! lives -/
theorem filterMap_eq {α β : Type} {f g : α → Option β} : ∀ {l : List α}, (∀ x ∈ l, f x = g x) → l.filterMap f = l.filterMap g
  | [], _ => rfl
  | x :: l, h => by rw [List.filterMap_cons, List.filterMap_cons, h x List.mem_cons_self, filterMap_eq fun y hy => h y (List.mem_cons_of_mem _ hy)]
def isGo (ds : List Deed) (nm : List Nat) (e : Nat) : Bool := match ds[e]? with | some (.go _ n) => decide (n = nm) | _ => false
/-- where a tie that came at s goes, as far as deed i; else how many deeds there are -/
def endA (ds : List Deed) (i s : Nat) (nm : List Nat) : Nat := ((List.range i).find? fun e => decide (s < e) && isGo ds nm e).getD ds.length
theorem endA_succ (ds : List Deed) (i s : Nat) (nm : List Nat) : endA ds (i + 1) s nm = if (∃ e, e < i ∧ s < e ∧ isGo ds nm e = true) then endA ds i s nm else if s < i ∧ isGo ds nm i = true then i else ds.length := by
  unfold endA
  rw [List.range_succ, List.find?_append]
  cases h : (List.range i).find? fun e => decide (s < e) && isGo ds nm e with
  | some e =>
    have h1 := List.mem_of_find?_eq_some h
    have h2 := List.find?_some h
    simp only [Bool.and_eq_true, decide_eq_true_eq] at h2
    rw [if_pos ⟨e, List.mem_range.mp h1, h2.1, h2.2⟩]; rfl
  | none =>
    have hn : ¬ ∃ e, e < i ∧ s < e ∧ isGo ds nm e = true := fun ⟨e, h1, h2, h3⟩ => by
      have := List.find?_eq_none.mp h e (List.mem_range.mpr h1)
      exact this (by simp [h2, h3])
    rw [if_neg hn]
    by_cases hc : s < i ∧ isGo ds nm i = true
    · rw [if_pos hc, List.find?_cons, show (decide (s < i) && isGo ds nm i) = true by simp [hc.1, hc.2]]; rfl
    · rw [if_neg hc, List.find?_cons, show (decide (s < i) && isGo ds nm i) = false by
        cases h1 : decide (s < i) <;> cases h2 : isGo ds nm i <;> first | rfl | exact absurd ⟨of_decide_eq_true h1, h2⟩ hc]; rfl
/-- name, from, to, places, weight -/
abbrev Life := List Nat × Nat × Nat × Nat × Nat × Int
def lifeD (l : Life) : D := .tup [.str (T l.1), .int (l.2.1 : Int), .int (l.2.2.1 : Int), .int (l.2.2.2.1 : Int), .int (l.2.2.2.2.1 : Int), .int l.2.2.2.2.2]
instance (l : Life) : Pur (lifeD l) := by unfold lifeD; infer_instance
def lifeAt (ds : List Deed) (i s : Nat) (t : Tie) : Life := (t.1, s, endA ds i s t.1, t.2.1, t.2.2.1, t.2.2.2)
def lifeO (ds : List Deed) (i s : Nat) : Option Deed → Option Life
  | some (.come _ t) => some (lifeAt ds i s t)
  | _ => none
def livesA (ds : List Deed) (i k : Nat) : List Life := (List.range k).filterMap fun s => lifeO ds i s ds[s]?
def livesL (ds : List Deed) : List Life := livesA ds ds.length ds.length
theorem livesA_succ (ds : List Deed) (i k : Nat) : livesA ds i (k + 1) = livesA ds i k ++ (lifeO ds i k ds[k]?).toList := by
  unfold livesA
  rw [List.range_succ, List.filterMap_append]
  congr 1
theorem livesA_mem {ds : List Deed} {i k : Nat} {l : Life} : l ∈ livesA ds i k ↔ ∃ s mo t, s < k ∧ ds[s]? = some (.come mo t) ∧ l = lifeAt ds i s t := by
  unfold livesA
  rw [List.mem_filterMap]
  constructor
  · rintro ⟨s, hs, h⟩
    cases hd : ds[s]? with
    | none => rw [hd] at h; cases h
    | some d =>
      rw [hd] at h
      cases d with
      | come mo t => exact ⟨s, mo, t, List.mem_range.mp hs, hd, (Option.some.inj h).symm⟩
      | go mo n => cases h
  · rintro ⟨s, mo, t, hs, hd, rfl⟩
    exact ⟨s, List.mem_range.mpr hs, by rw [hd]; rfl⟩
theorem livesA_len (ds : List Deed) (i k : Nat) : (livesA ds i k).length ≤ k := by
  unfold livesA
  exact Nat.le_trans (List.length_filterMap_le _ _) (by simp)
/-- ties that are there came at a deed behind which none is of their name -/
theorem stand_from {m : Nat} {ds : List Deed} (h : OkH m ds) : ∀ (i : Nat), i ≤ ds.length → ∀ t ∈ standF (ds.take i), ∃ s mo, s < i ∧ ds[s]? = some (.come mo t) ∧ ∀ e d, s < e → e < i → ds[e]? = some d → d.nm ≠ t.1 := by
  intro i
  induction i with
  | zero => intro _ t ht; simp [standF] at ht
  | succ i ih =>
    intro hi t ht
    obtain ⟨d, hd⟩ : ∃ d, ds[i]? = some d := ⟨_, List.getElem?_eq_getElem (by omega)⟩
    have hs := (h.at_ hd).2.2.2
    rw [take_succ_eq hd, standF_snoc] at ht
    cases d with
    | come mo u =>
      rcases List.mem_append.mp ht with ht | ht
      · obtain ⟨s, mo', h1, h2, h3⟩ := ih (by omega) t ht
        refine ⟨s, mo', by omega, h2, fun e d' a b c => ?_⟩
        by_cases he : e = i
        · subst he
          rw [hd] at c; cases c
          exact fun z => hs.2 (by show u.1 ∈ _; rw [show u.1 = t.1 from z]; exact List.mem_map_of_mem ht)
        · exact h3 e d' a (by omega) c
      · rw [List.mem_singleton.mp ht]
        exact ⟨i, mo, by omega, hd, fun e d' a b c => by omega⟩
    | go mo n =>
      obtain ⟨ht, hn⟩ := List.mem_filter.mp ht
      have hn : t.1 ≠ n := of_decide_eq_true hn
      obtain ⟨s, mo', h1, h2, h3⟩ := ih (by omega) t ht
      refine ⟨s, mo', by omega, h2, fun e d' a b c => ?_⟩
      by_cases he : e = i
      · subst he
        rw [hd] at c; cases c
        exact Ne.symm hn
      · exact h3 e d' a (by omega) c
/-- a tie that came stays till a going of its name -/
theorem stand_till {m : Nat} {ds : List Deed} (h : OkH m ds) {s mo : Nat} {t : Tie} (hs : ds[s]? = some (.come mo t)) : ∀ (i : Nat), s < i → i ≤ ds.length → (∀ e, s < e → e < i → isGo ds t.1 e = false) → t ∈ standF (ds.take i) := by
  intro i
  induction i with
  | zero => intro h1; omega
  | succ i ih =>
    intro h1 h2 h3
    obtain ⟨d, hd⟩ : ∃ d, ds[i]? = some d := ⟨_, List.getElem?_eq_getElem (by omega)⟩
    rw [take_succ_eq hd, standF_snoc]
    by_cases hsi : s = i
    · subst hsi
      rw [hs] at hd; cases hd
      exact List.mem_append_right _ (List.mem_singleton.mpr rfl)
    · have ht := ih (by omega) (by omega) fun e a b => h3 e a (by omega)
      cases d with
      | come mo' u => exact List.mem_append_left _ ht
      | go mo' n =>
        refine List.mem_filter.mpr ⟨ht, decide_eq_true fun e => ?_⟩
        have := h3 i (by omega) (by omega)
        unfold isGo at this
        rw [hd] at this
        exact absurd e.symm (of_decide_eq_false this)
/-- a name that comes twice has gone between -/
theorem gone_between {m : Nat} {ds : List Deed} (h : OkH m ds) {s s' mo mo' : Nat} {t t' : Tie} (h1 : ds[s]? = some (.come mo t)) (h2 : ds[s']? = some (.come mo' t')) (hn : t.1 = t'.1) (hlt : s < s') : ∃ e, s < e ∧ e < s' ∧ isGo ds t.1 e = true := by
  apply Classical.byContradiction
  intro hc
  have hl := (List.getElem?_eq_some_iff.mp h2).1
  have := stand_till h h1 s' hlt (by omega) fun e a b => by
    cases hg : isGo ds t.1 e with
    | false => rfl
    | true => exact absurd ⟨e, a, b, hg⟩ hc
  have h4 := (h.at_ h2).2.2.2
  exact h4.2 (by rw [← hn]; exact List.mem_map_of_mem this)
theorem isGo_nm {ds : List Deed} {nm : List Nat} {e : Nat} (h : isGo ds nm e = true) : ∃ mo, ds[e]? = some (.go mo nm) := by
  unfold isGo at h
  cases hd : ds[e]? with
  | none => rw [hd] at h; cases h
  | some d =>
    rw [hd] at h
    cases d with
    | come mo t => cases h
    | go mo n =>
      have h : n = nm := of_decide_eq_true h
      exact ⟨mo, by rw [h]⟩
theorem endA_lt {ds : List Deed} {i s : Nat} {nm : List Nat} (h : ¬ ∃ e, e < i ∧ s < e ∧ isGo ds nm e = true) : endA ds i s nm = ds.length := by
  unfold endA
  rw [List.find?_eq_none.mpr fun e he => ?_]
  · rfl
  · intro hc
    simp only [Bool.and_eq_true, decide_eq_true_eq] at hc
    exact h ⟨e, List.mem_range.mp he, hc.1, hc.2⟩
theorem endA_some {ds : List Deed} {i s e : Nat} {nm : List Nat} (h1 : s < e) (h2 : e < i) (h3 : isGo ds nm e = true) (h4 : ∀ e', s < e' → e' < e → isGo ds nm e' = false) : endA ds i s nm = e := by
  unfold endA
  have : (List.range i).find? (fun e => decide (s < e) && isGo ds nm e) = some e := by
    rw [List.find?_eq_some_iff_append]
    refine ⟨by simp [h1, h3], List.range e, (List.range' (e + 1) (i - e - 1)), ?_, fun a ha => ?_⟩
    · apply List.ext_getElem?
      intro j
      by_cases hj : j < e
      · rw [List.getElem?_range (by omega), List.getElem?_append_left (by simpa using hj), List.getElem?_range hj]
      · by_cases hj2 : j < i
        · rw [List.getElem?_range hj2, List.getElem?_append_right (by simp; omega), List.length_range]
          by_cases hj3 : j = e
          · subst hj3; simp
          · rw [show j - e = (j - e - 1) + 1 by omega, List.getElem?_cons_succ, List.getElem?_range' (by omega)]
            congr 1; omega
        · rw [List.getElem?_eq_none (by simp; omega), List.getElem?_eq_none (by simp; omega)]
    · have ha := List.mem_range.mp ha
      by_cases hs : s < a
      · simp [h4 a hs ha]
      · simp [hs]
  rw [this]; rfl
/-- a going: the one life ends, the others stay -/
theorem endA_go {m : Nat} {ds : List Deed} (h : OkH m ds) {i s mo mo' : Nat} {nm : List Nat} {t : Tie} (hi : ds[i]? = some (.go mo nm)) (hs : ds[s]? = some (.come mo' t)) (ht : t.1 = nm) (hsi : s < i) (hb : ∀ e d, s < e → e < i → ds[e]? = some d → d.nm ≠ t.1)
    {s' mo2 : Nat} {t' : Tie} (hs' : ds[s']? = some (.come mo2 t')) (hsi' : s' < i) : endA ds (i + 1) s' t'.1 = if s' = s then i else endA ds i s' t'.1 := by
  have gi : isGo ds nm i = true := by unfold isGo; rw [hi]; simp
  by_cases e : s' = s
  · subst e
    rw [hs] at hs'; cases hs'
    rw [if_pos rfl, ht]
    refine endA_some hsi' (by omega) gi fun e a b => ?_
    cases hg : isGo ds nm e with
    | false => rfl
    | true =>
      obtain ⟨m2, hd⟩ := isGo_nm hg
      exact absurd ht.symm (hb e _ a b hd)
  · rw [if_neg e, endA_succ]
    by_cases hc : ∃ e, e < i ∧ s' < e ∧ isGo ds t'.1 e = true
    · rw [if_pos hc]
    · rw [if_neg hc, endA_lt hc]
      refine if_neg fun ⟨_, h2⟩ => ?_
      obtain ⟨m2, hd⟩ := isGo_nm h2
      rw [hi] at hd
      injection hd with hd
      injection hd with _ hnm
      have hn : t'.1 = t.1 := by rw [← hnm, ht]
      by_cases hlt : s' < s
      · obtain ⟨e, a, b, c⟩ := gone_between h hs' hs hn hlt
        exact hc ⟨e, by omega, a, c⟩
      · exact hb s' _ (by omega) hsi' hs' hn
theorem livesA_go {m : Nat} {ds : List Deed} (h : OkH m ds) {i s mo mo' : Nat} {nm : List Nat} {t : Tie} (hi : ds[i]? = some (.go mo nm)) (hs : ds[s]? = some (.come mo' t)) (ht : t.1 = nm) (hsi : s < i) (hb : ∀ e d, s < e → e < i → ds[e]? = some d → d.nm ≠ t.1) :
    livesA ds (i + 1) i = (livesA ds i i).map fun l => if l.2.1 = s then (t.1, s, i, t.2.1, t.2.2.1, t.2.2.2) else l := by
  unfold livesA
  rw [List.map_filterMap]
  refine filterMap_eq fun s' hs'r => ?_
  have hsi' := List.mem_range.mp hs'r
  cases hd : ds[s']? with
  | none => rfl
  | some d =>
    cases d with
    | go mo n => rfl
    | come mo2 t' =>
      have := endA_go h hi hs ht hsi hb hd hsi'
      show some (t'.1, s', endA ds (i + 1) s' t'.1, t'.2.1, t'.2.2.1, t'.2.2.2) = some (if s' = s then _ else _)
      rw [this]
      by_cases e : s' = s
      · subst e
        rw [hs] at hd; cases hd
        rw [if_pos rfl, if_pos rfl]
      · rw [if_neg e, if_neg e]; rfl
theorem livesA_come {ds : List Deed} {i mo : Nat} {t : Tie} (hi : ds[i]? = some (.come mo t)) : livesA ds (i + 1) (i + 1) = livesA ds i i ++ [(t.1, i, ds.length, t.2.1, t.2.2.1, t.2.2.2)] := by
  have hg : ∀ nm, isGo ds nm i = false := fun nm => by unfold isGo; rw [hi]
  have he : ∀ s nm, endA ds (i + 1) s nm = endA ds i s nm := fun s nm => by
    rw [endA_succ]
    by_cases hc : ∃ e, e < i ∧ s < e ∧ isGo ds nm e = true
    · rw [if_pos hc]
    · rw [if_neg hc, endA_lt hc, if_neg (by rw [hg]; simp)]
  rw [livesA_succ, hi]
  congr 1
  · unfold livesA
    refine filterMap_eq fun s' _ => ?_
    cases ds[s']? with
    | none => rfl
    | some d => cases d <;> simp [lifeO, lifeAt, he]
  · show [lifeAt ds (i + 1) i t] = _
    unfold lifeAt
    rw [endA_lt fun ⟨e, a, b, _⟩ => by omega]
def tieL (l : Life) : Tie := (l.1, l.2.2.2.1, l.2.2.2.2.1, l.2.2.2.2.2)
theorem endA_spec (ds : List Deed) (i s : Nat) (nm : List Nat) : (endA ds i s nm = ds.length ∨ (s < endA ds i s nm ∧ endA ds i s nm < i ∧ isGo ds nm (endA ds i s nm) = true)) ∧ ∀ e, s < e → e < i → isGo ds nm e = true → endA ds i s nm ≤ e ∨ ds.length ≤ e := by
  unfold endA
  cases h : (List.range i).find? fun e => decide (s < e) && isGo ds nm e with
  | none =>
    refine ⟨.inl rfl, fun e a b c => ?_⟩
    have := List.find?_eq_none.mp h e (List.mem_range.mpr b)
    exact absurd (by simp [a, c]) this
  | some e0 =>
    have h2 := List.find?_some h
    simp only [Bool.and_eq_true, decide_eq_true_eq] at h2
    refine ⟨.inr ⟨h2.1, List.mem_range.mp (List.mem_of_find?_eq_some h), h2.2⟩, fun e a b c => .inl ?_⟩
    show e0 ≤ e
    rw [List.find?_eq_some_iff_append] at h
    obtain ⟨_, as, bs, e1, e2⟩ := h
    apply Classical.byContradiction
    intro hlt
    have hlt : e < e0 := by omega
    have hlen : as.length = e0 := by
      have h1 : (List.range i)[as.length]? = some e0 := by rw [e1, List.getElem?_append_right (Nat.le_refl _)]; simp
      have h3 := (List.getElem?_eq_some_iff.mp h1).1
      rw [List.getElem?_range (by simpa using h3)] at h1
      exact Option.some.inj h1
    have hm : e ∈ as := by
      have h1 : (List.range i)[e]? = some e := List.getElem?_range b
      rw [e1, List.getElem?_append_left (by omega)] at h1
      exact List.mem_of_getElem? h1
    have := e2 e hm
    simp [a, c] at this
def liveG (ds : List Deed) (n s : Nat) : Option Deed → Option Tie
  | some (.come _ t) => if s < n ∧ n ≤ endA ds ds.length s t.1 then some t else none
  | _ => none
theorem liveG_none {ds : List Deed} {n s : Nat} (h : n ≤ s) (d : Option Deed) : liveG ds n s d = none := by
  cases d with
  | none => rfl
  | some d => cases d with
    | come mo t => exact if_neg fun z => by omega
    | go mo n => rfl
theorem lives_filter (ds : List Deed) (n : Nat) (hn : n ≤ ds.length) : ((livesL ds).filter fun l => decide (l.2.1 < n) && decide (n ≤ l.2.2.1)).map tieL = (List.range n).filterMap fun s => liveG ds n s ds[s]? := by
  have e : ((livesL ds).filter fun l => decide (l.2.1 < n) && decide (n ≤ l.2.2.1)).map tieL = (List.range ds.length).filterMap fun s => liveG ds n s ds[s]? := by
    unfold livesL livesA
    rw [List.filter_filterMap, List.map_filterMap]
    refine filterMap_eq fun s _ => ?_
    cases ds[s]? with
    | none => rfl
    | some d => cases d with
      | go mo n => rfl
      | come mo t =>
        show ((some (lifeAt ds ds.length s t)).filter _).map tieL = if s < n ∧ n ≤ endA ds ds.length s t.1 then some t else none
        by_cases hc : s < n ∧ n ≤ endA ds ds.length s t.1
        · rw [if_pos hc, Option.filter_some, if_pos (by simp [lifeAt, hc])]; rfl
        · have hz : (decide ((lifeAt ds ds.length s t).2.1 < n) && decide (n ≤ (lifeAt ds ds.length s t).2.2.1)) = false := by rw [← Bool.decide_and]; exact decide_eq_false hc
          rw [if_neg hc, Option.filter_some, hz]; rfl
  rw [e]
  obtain ⟨k, hk⟩ : ∃ k, ds.length = n + k := ⟨ds.length - n, by omega⟩
  rw [hk, List.range_add, List.filterMap_append, List.filterMap_eq_nil_iff (l := (List.range k).map _) |>.mpr fun s hs => ?_, List.append_nil]
  obtain ⟨j, _, rfl⟩ := List.mem_map.mp hs
  exact liveG_none (by omega) _
/-- the lives that are there behind n deeds are the stand -/
theorem lives_stand {m : Nat} {ds : List Deed} (h : OkH m ds) : ∀ n, n ≤ ds.length → ((livesL ds).filter fun l => decide (l.2.1 < n) && decide (n ≤ l.2.2.1)).map tieL = standF (ds.take n) := by
  intro n
  induction n with
  | zero =>
    intro _
    rw [List.filter_eq_nil_iff.mpr (by simp)]; rfl
  | succ n ih =>
    intro hn
    have ih := ih (by omega)
    obtain ⟨d, hd⟩ : ∃ d, ds[n]? = some d := ⟨_, List.getElem?_eq_getElem (by omega)⟩
    rw [take_succ_eq hd, standF_snoc, ← ih, lives_filter ds n (by omega), lives_filter ds (n + 1) hn, List.range_succ, List.filterMap_append]
    cases d with
    | come mo t =>
      have hg : ∀ nm, isGo ds nm n = false := fun nm => by unfold isGo; rw [hd]
      have e1 : [n].filterMap (fun s => liveG ds (n + 1) s ds[s]?) = [t] := by
        have := (endA_spec ds ds.length n t.1).1
        have : n + 1 ≤ endA ds ds.length n t.1 := by omega
        simp [hd, liveG, this]
      rw [e1]
      show _ = _ ++ [t]
      congr 1
      refine filterMap_eq fun s hs => ?_
      have hs := List.mem_range.mp hs
      cases ds[s]? with
      | none => rfl
      | some d => cases d with
        | go mo n => rfl
        | come mo u =>
          have := (endA_spec ds ds.length s u.1).1
          have hne : endA ds ds.length s u.1 ≠ n := fun e => by
            rcases this with h1 | ⟨_, _, h1⟩
            · omega
            · rw [e, hg] at h1; cases h1
          show (if s < n + 1 ∧ n + 1 ≤ _ then some u else none) = if s < n ∧ n ≤ _ then some u else none
          by_cases hc : s < n ∧ n ≤ endA ds ds.length s u.1
          · rw [if_pos hc, if_pos (by omega)]
          · rw [if_neg hc, if_neg (by omega)]
    | go mo nm =>
      have e1 : [n].filterMap (fun s => liveG ds (n + 1) s ds[s]?) = [] := by simp [hd, liveG]
      rw [e1, List.append_nil]
      show _ = List.filter (fun t : Tie => decide (t.1 ≠ nm)) _
      rw [List.filter_filterMap]
      refine filterMap_eq fun s hs => ?_
      have hs := List.mem_range.mp hs
      cases ds[s]? with
      | none => rfl
      | some d => cases d with
        | go mo n => rfl
        | come mo u =>
          show (if s < n + 1 ∧ n + 1 ≤ _ then some u else none) = (if s < n ∧ n ≤ _ then some u else none).filter _
          have sp := endA_spec ds ds.length s u.1
          by_cases hc : s < n ∧ n ≤ endA ds ds.length s u.1
          · rw [if_pos hc, Option.filter_some]
            by_cases hn2 : u.1 = nm
            · have hg : isGo ds u.1 n = true := by unfold isGo; rw [hd]; simp [hn2]
              have := sp.2 n hs (by omega) hg
              rw [if_neg (by omega), if_neg (by simpa using hn2)]
            · have hg : isGo ds u.1 n = false := by unfold isGo; rw [hd]; simp [Ne.symm hn2]
              have hne : endA ds ds.length s u.1 ≠ n := fun e => by
                rcases sp.1 with h1 | ⟨_, _, h1⟩
                · omega
                · rw [e, hg] at h1; cases h1
              rw [if_pos (by omega), if_pos (by simpa using hn2)]
          · rw [if_neg hc, if_neg (by omega)]; rfl
theorem putX_map {κ : Type} [DecidableEq κ] {kvs : List (κ × D)} {k : κ} {v : D} (h : ∃ kv ∈ kvs, kv.1 = k) : putX kvs k v = kvs.map fun kv => if kv.1 = k then (kv.1, v) else kv := by
  have : (kvs.any fun kv => decide (kv.1 = k)) = true := by
    obtain ⟨kv, h1, h2⟩ := h
    exact List.any_eq_true.mpr ⟨kv, h1, decide_eq_true h2⟩
  unfold putX
  rw [this, if_pos rfl]
theorem putX_new {κ : Type} [DecidableEq κ] {kvs : List (κ × D)} {k : κ} {v : D} (h : ¬ ∃ kv ∈ kvs, kv.1 = k) : putX kvs k v = kvs ++ [(k, v)] := by
  have : (kvs.any fun kv => decide (kv.1 = k)) = false := by
    rw [List.any_eq_false]
    intro kv h1 h2
    exact h ⟨kv, h1, of_decide_eq_true h2⟩
  unfold putX
  rw [this, if_neg Bool.false_ne_true]
theorem val_put {κ : Type} [DecidableEq κ] (kvs : List (κ × D)) (k j : κ) (v : D) : valX (putX kvs k v) j = if j = k then some v else valX kvs j := by
  by_cases h : ∃ kv ∈ kvs, kv.1 = k
  · rw [putX_map h]
    by_cases hj : j = k
    · rw [if_pos hj]
      subst hj
      induction kvs with
      | nil => obtain ⟨kv, h1, _⟩ := h; cases h1
      | cons p r ih =>
        rw [List.map_cons]
        by_cases hp : p.1 = j
        · rw [if_pos hp]; exact valX_pos hp
        · rw [if_neg hp, valX_neg hp]
          refine ih ?_
          obtain ⟨kv, h1, h2⟩ := h
          rcases List.mem_cons.mp h1 with rfl | h1
          · exact absurd h2 hp
          · exact ⟨kv, h1, h2⟩
    · rw [if_neg hj]
      clear h
      induction kvs with
      | nil => rfl
      | cons p r ih =>
        rw [List.map_cons]
        by_cases hp : p.1 = k
        · rw [if_pos hp, valX_neg (fun z => hj (by rw [← hp]; exact z.symm)), valX_neg (fun z => hj (by rw [← hp]; exact z.symm)), ih]
        · rw [if_neg hp]
          by_cases hpj : p.1 = j
          · rw [valX_pos hpj, valX_pos hpj]
          · rw [valX_neg hpj, valX_neg hpj, ih]
  · rw [putX_new h]
    by_cases hj : j = k
    · rw [if_pos hj]
      subst hj
      induction kvs with
      | nil => exact valX_pos rfl
      | cons p r ih =>
        rw [List.cons_append, valX_neg (fun z => h ⟨p, List.mem_cons_self, z⟩)]
        exact ih fun ⟨kv, h1, h2⟩ => h ⟨kv, List.mem_cons_of_mem _ h1, h2⟩
    · rw [if_neg hj]
      clear h
      induction kvs with
      | nil => exact valX_neg fun z => hj z.symm
      | cons p r ih =>
        rw [List.cons_append]
        by_cases hpj : p.1 = j
        · rw [valX_pos hpj, valX_pos hpj]
        · rw [valX_neg hpj, valX_neg hpj, ih]
theorem putX_len {κ : Type} [DecidableEq κ] (kvs : List (κ × D)) (k : κ) (v : D) : (putX kvs k v).length ≤ kvs.length + 1 := by
  by_cases h : ∃ kv ∈ kvs, kv.1 = k
  · rw [putX_map h, List.length_map]; omega
  · rw [putX_new h]; simp
theorem putX_pur {κ : Type} [DecidableEq κ] {kvs : List (κ × D)} {k : κ} {v : D} (h : purK kvs = true) (hv : v.pur = true) : purK (putX kvs k v) = true := by
  by_cases hk : ∃ kv ∈ kvs, kv.1 = k
  · rw [putX_map hk]
    clear hk
    induction kvs with
    | nil => rfl
    | cons p r ih =>
      obtain ⟨k', x⟩ := p
      simp only [purK, Bool.and_eq_true] at h
      rw [List.map_cons]
      by_cases e : k' = k
      · rw [if_pos e]; simp only [purK, hv, ih h.2, Bool.and_self]
      · rw [if_neg e]; simp only [purK, h.1, ih h.2, Bool.and_self]
  · rw [putX_new hk]
    clear hk
    induction kvs with
    | nil => simp only [List.nil_append, purK, hv, Bool.and_self]
    | cons p r ih =>
      obtain ⟨k', x⟩ := p
      simp only [purK, Bool.and_eq_true] at h
      simp only [List.cons_append, purK, h.1, ih h.2, Bool.and_self]
theorem livesA_rise (ds : List Deed) (i k : Nat) : (livesA ds i k).Pairwise fun a b => a.2.1 < b.2.1 := by
  induction k with
  | zero => exact .nil
  | succ k ih =>
    rw [livesA_succ, List.pairwise_append]
    refine ⟨ih, ?_, fun a ha b hb => ?_⟩
    · cases lifeO ds i k ds[k]? <;> simp
    · obtain ⟨s, mo, t, h1, h2, rfl⟩ := livesA_mem.mp ha
      cases hd : ds[k]? with
      | none => rw [hd] at hb; simp [lifeO] at hb
      | some d =>
        rw [hd] at hb
        cases d with
        | go mo n => simp [lifeO] at hb
        | come mo u =>
          have : b = lifeAt ds i k u := by simpa [lifeO] using hb
          rw [this]; exact h1
end Z
namespace Z
open PySem PySem.Spec PyProof.Rows L2
/-- a comprehension that names nothing from without: its scope is well wherever it stands -/
theorem blkIn {sc scope : Scope} {own : List (Str × Nat)} {N : List Str} (h : blkC N { kind := .function, names := [], isGenerator := false, isCoroutine := false } scope own = true) : BlkOk N sc scope own := by
  refine blkOk_by ?_
  unfold blkC at h ⊢
  simp only [Bool.and_eq_true, List.all_eq_true] at h ⊢
  refine ⟨h.1, fun y hy => ?_⟩
  have := h.2 y hy
  revert this
  cases y.2 <;> simp
end Z
namespace Z
open PySem PySem.Spec PyProof.Rows L2 RZ
/-! spans -/
abbrev Spn := Nat × Option Nat
def okSp (p : Spn) : Prop := ∀ h, p.2 = some h → p.1 < h
def befS (x y : Spn) : Prop := ∃ h, x.2 = some h ∧ h < y.1
structure Canon (s : List Spn) : Prop where
  ok : ∀ p ∈ s, okSp p
  pw : s.Pairwise befS
def inP (p : Spn) (m : Nat) : Prop := p.1 ≤ m ∧ ∀ h, p.2 = some h → m < h
def InS (s : List Spn) (m : Nat) : Prop := ∃ p ∈ s, inP p m
instance (p : Spn) (m : Nat) : Decidable (inP p m) := by
  unfold inP
  cases e : p.2 with
  | none => exact decidable_of_iff (p.1 ≤ m) ⟨fun h => ⟨h, fun _ h => nomatch h⟩, fun h => h.1⟩
  | some k => exact decidable_of_iff (p.1 ≤ m ∧ m < k) ⟨fun h => ⟨h.1, fun x e => by cases e; exact h.2⟩, fun h => ⟨h.1, h.2 _ rfl⟩⟩
instance (s : List Spn) (m : Nat) : Decidable (InS s m) := inferInstanceAs (Decidable (∃ p ∈ s, inP p m))
theorem inP_low {p : Spn} (h : okSp p) : inP p p.1 := ⟨Nat.le_refl _, h⟩
theorem inS_nil (m : Nat) : ¬ InS [] m := fun ⟨_, h, _⟩ => nomatch h
theorem inS_cons {p : Spn} {s : List Spn} {m : Nat} : InS (p :: s) m ↔ inP p m ∨ InS s m := by
  unfold InS; simp
theorem inS_append {s t : List Spn} {m : Nat} : InS (s ++ t) m ↔ InS s m ∨ InS t m := by
  unfold InS
  constructor
  · rintro ⟨p, h, q⟩
    rcases List.mem_append.mp h with h | h
    · exact .inl ⟨p, h, q⟩
    · exact .inr ⟨p, h, q⟩
  · rintro (⟨p, h, q⟩ | ⟨p, h, q⟩)
    · exact ⟨p, List.mem_append_left _ h, q⟩
    · exact ⟨p, List.mem_append_right _ h, q⟩
theorem canon_nil : Canon [] := ⟨fun _ h => (nomatch h), List.Pairwise.nil⟩
theorem Canon.tail {p : Spn} {s : List Spn} (h : Canon (p :: s)) : Canon s := ⟨fun q hq => h.ok q (List.mem_cons_of_mem _ hq), (List.pairwise_cons.mp h.pw).2⟩
theorem Canon.head {p : Spn} {s : List Spn} (h : Canon (p :: s)) : okSp p := h.ok p List.mem_cons_self
theorem Canon.bef {p : Spn} {s : List Spn} (h : Canon (p :: s)) : ∀ q ∈ s, befS p q := (List.pairwise_cons.mp h.pw).1
theorem Canon.low {p : Spn} {s : List Spn} (h : Canon (p :: s)) {m : Nat} (hm : InS (p :: s) m) : p.1 ≤ m := by
  rcases inS_cons.mp hm with h1 | ⟨q, h1, h2⟩
  · exact h1.1
  · obtain ⟨k, e, hk⟩ := h.bef q h1
    have := h.head k e
    have := h2.1
    omega
theorem Canon.at_high {p : Spn} {s : List Spn} (h : Canon (p :: s)) {k : Nat} (e : p.2 = some k) : ¬ InS (p :: s) k := fun hm => by
  rcases inS_cons.mp hm with h1 | ⟨q, h1, h2⟩
  · have := h1.2 k e; omega
  · obtain ⟨k', e', hk⟩ := h.bef q h1
    rw [e] at e'; cases e'
    have := h2.1
    omega
theorem Canon.ext : ∀ {s t : List Spn}, Canon s → Canon t → (∀ m, InS s m ↔ InS t m) → s = t := by
  intro s
  induction s with
  | nil =>
    intro t hs ht h
    cases t with
    | nil => rfl
    | cons y u => exact (inS_nil _ ((h y.1).mpr (inS_cons.mpr (.inl (inP_low ht.head))))).elim
  | cons x r ih =>
    intro t hs ht h
    cases t with
    | nil => exact (inS_nil _ ((h x.1).mp (inS_cons.mpr (.inl (inP_low hs.head))))).elim
    | cons y u =>
      have a1 : y.1 ≤ x.1 := ht.low ((h x.1).mp (inS_cons.mpr (.inl (inP_low hs.head))))
      have a2 : x.1 ≤ y.1 := hs.low ((h y.1).mpr (inS_cons.mpr (.inl (inP_low ht.head))))
      have e2 : x.2 = y.2 := by
        cases ex : x.2 with
        | none =>
          cases ey : y.2 with
          | none => rfl
          | some k =>
            have := ht.head k ey
            exact (ht.at_high ey ((h k).mp (inS_cons.mpr (.inl ⟨by omega, fun _ h => by rw [ex] at h; cases h⟩)))).elim
        | some j =>
          have hj := hs.head j ex
          cases ey : y.2 with
          | none => exact (hs.at_high ex ((h j).mpr (inS_cons.mpr (.inl ⟨by omega, fun _ h => by rw [ey] at h; cases h⟩)))).elim
          | some k =>
            have hk := ht.head k ey
            by_cases c1 : j < k
            · exact (hs.at_high ex ((h j).mpr (inS_cons.mpr (.inl ⟨by omega, fun _ h => by rw [ey] at h; cases h; exact c1⟩)))).elim
            · by_cases c2 : k < j
              · exact (ht.at_high ey ((h k).mp (inS_cons.mpr (.inl ⟨by omega, fun _ h => by rw [ex] at h; cases h; exact c2⟩)))).elim
              · rw [show j = k by omega]
      have exy : x = y := Prod.ext (by omega) e2
      subst exy
      congr 1
      refine ih hs.tail ht.tail fun m => ?_
      have go : ∀ {a b : List Spn}, Canon (x :: a) → (InS (x :: a) m → InS (x :: b) m) → InS a m → InS b m := by
        rintro a b ha hab ⟨q, h1, h2⟩
        obtain ⟨k, e, hk⟩ := ha.bef q h1
        rcases inS_cons.mp (hab (inS_cons.mpr (.inr ⟨q, h1, h2⟩))) with h3 | h3
        · have := h3.2 k e; have := h2.1; omega
        · exact h3
      exact ⟨go hs (h m).mp, go ht (h m).mpr⟩
/-- all other moments -/
def lowS (low : Option Nat) (a : Nat) : List Spn := match low with | some l => if l < a then [(l, some a)] else [] | none => []
def othS : Option Nat → List Spn → List Spn
  | none, [] => []
  | some l, [] => [(l, none)]
  | low, p :: r => lowS low p.1 ++ othS p.2 r
theorem othS_spec : ∀ (s : List Spn) (l : Nat), Canon s → (∀ p ∈ s, l ≤ p.1) → Canon (othS (some l) s) ∧ (∀ p ∈ othS (some l) s, l ≤ p.1) ∧ ∀ m, InS (othS (some l) s) m ↔ l ≤ m ∧ ¬ InS s m := by
  intro s
  induction s with
  | nil =>
    intro l _ _
    refine ⟨⟨fun p hp h e => ?_, List.pairwise_singleton _ _⟩, fun p hp => ?_, fun m => ?_⟩
    · rw [List.mem_singleton.mp hp] at e; cases e
    · rw [List.mem_singleton.mp hp]; exact Nat.le_refl _
    · show InS [(l, none)] m ↔ _
      rw [inS_cons]
      exact ⟨fun h => by
        rcases h with h | h
        · exact ⟨h.1, inS_nil m⟩
        · exact (inS_nil _ h).elim, fun h => .inl ⟨h.1, fun _ h => nomatch h⟩⟩
  | cons p r ih =>
    intro l hc hl
    have hlp := hl p List.mem_cons_self
    have lows : ∀ q ∈ lowS (some l) p.1, q = (l, some p.1) ∧ l < p.1 := by
      intro q hq
      unfold lowS at hq
      simp only at hq
      split at hq
      · exact ⟨List.mem_singleton.mp hq, by assumption⟩
      · cases hq
    have inl : ∀ m, InS (lowS (some l) p.1) m ↔ l ≤ m ∧ m < p.1 := by
      intro m
      unfold lowS
      simp only
      split
      · rw [inS_cons]
        exact ⟨fun h => by
          rcases h with h | h
          · exact ⟨h.1, h.2 _ rfl⟩
          · exact (inS_nil _ h).elim, fun h => .inl ⟨h.1, fun _ e => by cases e; exact h.2⟩⟩
      · exact ⟨fun h => (inS_nil _ h).elim, fun h => by omega⟩
    have cl : Canon (lowS (some l) p.1) := by
      unfold lowS
      simp only
      split
      · exact ⟨fun q hq h e => by rw [List.mem_singleton.mp hq] at e ⊢; cases e; assumption, List.pairwise_singleton _ _⟩
      · exact canon_nil
    cases e : p.2 with
    | none =>
      have hr : r = [] := by
        cases r with
        | nil => rfl
        | cons q r' =>
          obtain ⟨k, e', _⟩ := hc.bef q List.mem_cons_self
          rw [e] at e'; cases e'
      subst hr
      have eo : othS (some l) [p] = lowS (some l) p.1 := by
        show lowS (some l) p.1 ++ othS p.2 [] = _
        rw [e]; exact List.append_nil _
      rw [eo]
      refine ⟨cl, fun q hq => by rw [(lows q hq).1]; exact Nat.le_refl _, fun m => ?_⟩
      rw [inl, inS_cons]
      constructor
      · rintro ⟨h1, h2⟩
        refine ⟨h1, ?_⟩
        rintro (h | h)
        · have := h.1; omega
        · exact inS_nil _ h
      · rintro ⟨h1, h2⟩
        refine ⟨h1, ?_⟩
        by_cases h3 : m < p.1
        · exact h3
        · exact (h2 (.inl ⟨by omega, fun _ h => by rw [e] at h; cases h⟩)).elim
    | some k =>
      have hk := hc.head k e
      have hb : ∀ q ∈ r, k < q.1 := fun q hq => by
        obtain ⟨k', e', h⟩ := hc.bef q hq
        rw [e] at e'; cases e'; exact h
      obtain ⟨i1, i2, i3⟩ := ih k hc.tail fun q hq => by have := hb q hq; omega
      have eo : othS (some l) (p :: r) = lowS (some l) p.1 ++ othS (some k) r := by
        show lowS (some l) p.1 ++ othS p.2 r = _
        rw [e]
      rw [eo]
      refine ⟨⟨fun q hq => ?_, List.pairwise_append.mpr ⟨cl.pw, i1.pw, fun x hx y hy => ?_⟩⟩, fun q hq => ?_, fun m => ?_⟩
      · rcases List.mem_append.mp hq with h | h
        · exact cl.ok q h
        · exact i1.ok q h
      · have := i2 y hy
        obtain ⟨e1, _⟩ := lows x hx
        exact ⟨p.1, by rw [e1], by omega⟩
      · rcases List.mem_append.mp hq with h | h
        · rw [(lows q h).1]; exact Nat.le_refl _
        · have := i2 q h; omega
      · rw [inS_append, inl, i3, inS_cons]
        constructor
        · rintro (⟨h1, h2⟩ | ⟨h1, h2⟩)
          · refine ⟨h1, ?_⟩
            rintro (h | ⟨q, h, h'⟩)
            · have := h.1; omega
            · have := hb q h; have := h'.1; omega
          · refine ⟨by omega, ?_⟩
            rintro (h | h)
            · have := h.2 k e; omega
            · exact h2 h
        · rintro ⟨h1, h2⟩
          by_cases h3 : m < p.1
          · exact .inl ⟨h1, h3⟩
          · refine .inr ⟨?_, fun h => h2 (.inr h)⟩
            by_cases h4 : m < k
            · exact (h2 (.inl ⟨by omega, fun _ h => by rw [e] at h; cases h; exact h4⟩)).elim
            · omega
def minH : Option Nat → Option Nat → Option Nat
  | none, b => b
  | some a, none => some a
  | some a, some b => some (min a b)
def cutP (p q : Spn) : Option Spn := match minH p.2 q.2 with
  | none => some (max p.1 q.1, none)
  | some h => if max p.1 q.1 < h then some (max p.1 q.1, some h) else none
def comS (s t : List Spn) : List Spn := s.flatMap fun p => t.filterMap fun q => cutP p q
theorem minH_lt {a b : Option Nat} {m : Nat} : (∀ h, minH a b = some h → m < h) ↔ (∀ h, a = some h → m < h) ∧ ∀ h, b = some h → m < h := by
  cases a with
  | none => simp [minH]
  | some a =>
    cases b with
    | none => simp [minH]
    | some b => simp [minH]; omega
theorem cutP_in {p q : Spn} {m : Nat} : (∃ x, cutP p q = some x ∧ inP x m) ↔ inP p m ∧ inP q m := by
  have key : (inP p m ∧ inP q m) ↔ (max p.1 q.1 ≤ m ∧ ∀ h, minH p.2 q.2 = some h → m < h) := by
    rw [minH_lt]
    unfold inP
    constructor
    · rintro ⟨⟨a, b⟩, c, d⟩; exact ⟨by omega, b, d⟩
    · rintro ⟨a, b, d⟩; exact ⟨⟨by omega, b⟩, by omega, d⟩
  rw [key]
  unfold cutP
  cases e : minH p.2 q.2 with
  | none => exact ⟨fun ⟨x, h1, h2⟩ => by cases h1; exact h2, fun h => ⟨_, rfl, h⟩⟩
  | some k =>
    simp only
    split
    · exact ⟨fun ⟨x, h1, h2⟩ => by cases h1; exact h2, fun h => ⟨_, rfl, h⟩⟩
    · exact ⟨fun ⟨x, h1, h2⟩ => (nomatch h1), fun h => by have := h.2 k rfl; omega⟩
theorem cutP_spec {p q x : Spn} (h : cutP p q = some x) : okSp x ∧ p.1 ≤ x.1 ∧ q.1 ≤ x.1 ∧ (∀ k, p.2 = some k → ∃ k', x.2 = some k' ∧ k' ≤ k) ∧ ∀ k, q.2 = some k → ∃ k', x.2 = some k' ∧ k' ≤ k := by
  unfold cutP at h
  have h1 : x.1 = max p.1 q.1 ∧ x.2 = minH p.2 q.2 ∧ okSp x := by
    cases e : minH p.2 q.2 with
    | none => rw [e] at h; simp only [Option.some.injEq] at h; subst h; exact ⟨rfl, rfl, fun _ h => nomatch h⟩
    | some k =>
      rw [e] at h
      simp only at h
      split at h
      · simp only [Option.some.injEq] at h; subst h; exact ⟨rfl, rfl, fun _ h => by cases h; assumption⟩
      · cases h
  obtain ⟨a, b, c⟩ := h1
  refine ⟨c, by omega, by omega, fun k e => ?_, fun k e => ?_⟩
  · rw [b, e]
    cases q.2 with
    | none => exact ⟨k, rfl, Nat.le_refl _⟩
    | some j => exact ⟨_, rfl, Nat.min_le_left _ _⟩
  · rw [b, e]
    cases p.2 with
    | none => exact ⟨k, rfl, Nat.le_refl _⟩
    | some j => exact ⟨_, rfl, Nat.min_le_right _ _⟩
theorem comS_in {s t : List Spn} {m : Nat} : InS (comS s t) m ↔ InS s m ∧ InS t m := by
  constructor
  · rintro ⟨x, hx, hm⟩
    obtain ⟨p, hp, hx⟩ := List.mem_flatMap.mp hx
    obtain ⟨q, hq, hx⟩ := List.mem_filterMap.mp hx
    have := cutP_in.mp ⟨x, hx, hm⟩
    exact ⟨⟨p, hp, this.1⟩, q, hq, this.2⟩
  · rintro ⟨⟨p, hp, h1⟩, q, hq, h2⟩
    obtain ⟨x, hx, hm⟩ := cutP_in.mpr ⟨h1, h2⟩
    exact ⟨x, List.mem_flatMap.mpr ⟨p, hp, List.mem_filterMap.mpr ⟨q, hq, hx⟩⟩, hm⟩
theorem comS_canon {s t : List Spn} (hs : Canon s) (ht : Canon t) : Canon (comS s t) := by
  refine ⟨fun x hx => ?_, ?_⟩
  · obtain ⟨p, hp, hx⟩ := List.mem_flatMap.mp hx
    obtain ⟨q, hq, hx⟩ := List.mem_filterMap.mp hx
    exact (cutP_spec hx).1
  · refine List.pairwise_flatMap.mpr ⟨fun p hp => ?_, hs.pw.imp fun {p p'} h x hx y hy => ?_⟩
    · refine List.pairwise_filterMap.mpr (ht.pw.imp fun {q q'} h x hx y hy => ?_)
      obtain ⟨k, e, hk⟩ := h
      obtain ⟨k', e', hk'⟩ := (cutP_spec hx).2.2.2.2 k e
      have := (cutP_spec hy).2.2.1
      exact ⟨k', e', by omega⟩
    · obtain ⟨q, hq, hx⟩ := List.mem_filterMap.mp hx
      obtain ⟨q', hq', hy⟩ := List.mem_filterMap.mp hy
      obtain ⟨k, e, hk⟩ := h
      obtain ⟨k', e', hk'⟩ := (cutP_spec hx).2.2.2.1 k e
      have := (cutP_spec hy).2.1
      exact ⟨k', e', by omega⟩
def otherS (s : List Spn) : List Spn := othS (some 0) s
theorem otherS_canon {s : List Spn} (h : Canon s) : Canon (otherS s) := (othS_spec s 0 h fun _ _ => Nat.zero_le _).1
theorem otherS_in {s : List Spn} (h : Canon s) {m : Nat} : InS (otherS s) m ↔ ¬ InS s m := by
  rw [show InS (otherS s) m ↔ _ from (othS_spec s 0 h fun _ _ => Nat.zero_le _).2.2 m]
  exact ⟨fun h => h.2, fun h => ⟨Nat.zero_le _, h⟩⟩
def jointS (s t : List Spn) : List Spn := otherS (comS (otherS s) (otherS t))
theorem jointS_canon {s t : List Spn} (hs : Canon s) (ht : Canon t) : Canon (jointS s t) := otherS_canon (comS_canon (otherS_canon hs) (otherS_canon ht))
theorem jointS_in {s t : List Spn} (hs : Canon s) (ht : Canon t) {m : Nat} : InS (jointS s t) m ↔ InS s m ∨ InS t m := by
  unfold jointS
  rw [otherS_in (comS_canon (otherS_canon hs) (otherS_canon ht)), comS_in, otherS_in hs, otherS_in ht]
  by_cases a : InS s m <;> by_cases b : InS t m <;> simp [a, b]
/-- one more stretch behind spans, laid together with the last one where they touch -/
def layS (F : List Spn) (low : Nat) (high : Option Nat) : List Spn := match F.getLast? with
  | some (a, some h) => if h = low then F.dropLast ++ [(a, high)] else F ++ [(low, high)]
  | _ => F ++ [(low, high)]
def UpTo (F : List Spn) (b : Nat) : Prop := ∀ p ∈ F, ∃ h, p.2 = some h ∧ h ≤ b
theorem layS_spec {F : List Spn} {low : Nat} {high : Option Nat} (hc : Canon F) (hu : UpTo F low) (hh : okSp (low, high)) :
    Canon (layS F low high) ∧ (∀ m, InS (layS F low high) m ↔ InS F m ∨ inP (low, high) m) ∧ ∀ h, high = some h → UpTo (layS F low high) h := by
  have app : (∀ p ∈ F, ∃ h, p.2 = some h ∧ h < low) → Canon (F ++ [(low, high)]) ∧ (∀ m, InS (F ++ [(low, high)]) m ↔ InS F m ∨ inP (low, high) m) ∧ ∀ h, high = some h → UpTo (F ++ [(low, high)]) h := by
    intro hl
    refine ⟨⟨fun p hp => ?_, List.pairwise_append.mpr ⟨hc.pw, List.pairwise_singleton _ _, fun x hx y hy => ?_⟩⟩, fun m => ?_, fun h e p hp => ?_⟩
    · rcases List.mem_append.mp hp with h | h
      · exact hc.ok p h
      · rw [List.mem_singleton.mp h]; exact hh
    · rw [List.mem_singleton.mp hy]
      exact hl x hx
    · rw [inS_append, inS_cons]
      exact ⟨fun h => h.imp id fun h => h.elim id fun h => (inS_nil _ h).elim, fun h => h.imp id .inl⟩
    · have := hh h e
      rcases List.mem_append.mp hp with h' | h'
      · obtain ⟨k, e', hk⟩ := hl p h'
        exact ⟨k, e', by simp only at this; omega⟩
      · rw [List.mem_singleton.mp h']; exact ⟨h, e, Nat.le_refl _⟩
  rcases List.eq_nil_or_concat F with rfl | ⟨G, x, hF⟩
  · exact app fun p hp => nomatch hp
  rw [List.concat_eq_append] at hF
  subst hF
  obtain ⟨a, xh⟩ := x
  obtain ⟨k, ek, hk⟩ := hu (a, xh) (by simp)
  have ek : xh = some k := ek
  subst ek
  have pw := List.pairwise_append.mp hc.pw
  have hG : ∀ p ∈ G, ∃ h, p.2 = some h ∧ h < a := fun p hp => pw.2.2 p hp _ List.mem_cons_self
  have ha : a < k := hc.ok (a, some k) (by simp) k rfl
  by_cases e : k = low
  · subst e
    have el : layS (G ++ [(a, some k)]) k high = G ++ [(a, high)] := by
      unfold layS
      rw [List.getLast?_append, List.getLast?_singleton]
      simp only [Option.some_or, if_true]
      rw [List.dropLast_concat]
    rw [el]
    refine ⟨⟨fun p hp => ?_, List.pairwise_append.mpr ⟨pw.1, List.pairwise_singleton _ _, fun x hx y hy => ?_⟩⟩, fun m => ?_, fun h e p hp => ?_⟩
    · rcases List.mem_append.mp hp with h | h
      · exact hc.ok p (List.mem_append_left _ h)
      · rw [List.mem_singleton.mp h]
        intro h e
        have := hh h e
        simp only at this ⊢
        omega
    · rw [List.mem_singleton.mp hy]
      exact hG x hx
    · rw [inS_append, inS_append, inS_cons, inS_cons]
      constructor
      · rintro (h | h | h)
        · exact .inl (.inl h)
        · by_cases hm : m < k
          · exact .inl (.inr (.inl ⟨h.1, fun _ e => by cases e; exact hm⟩))
          · exact .inr ⟨by simp only; omega, h.2⟩
        · exact (inS_nil _ h).elim
      · rintro ((h | h | h) | h)
        · exact .inl h
        · refine .inr (.inl ⟨h.1, fun h' e => ?_⟩)
          have := hh h' e
          have := h.2 k rfl
          simp only at *
          omega
        · exact (inS_nil _ h).elim
        · exact .inr (.inl ⟨by have := h.1; simp only at *; omega, h.2⟩)
    · have := hh h e
      rcases List.mem_append.mp hp with h' | h'
      · obtain ⟨j, e', hj⟩ := hG p h'
        exact ⟨j, e', by simp only at this; omega⟩
      · rw [List.mem_singleton.mp h']; exact ⟨h, e, Nat.le_refl _⟩
  · have el : layS (G ++ [(a, some k)]) low high = (G ++ [(a, some k)]) ++ [(low, high)] := by
      unfold layS
      rw [List.getLast?_append, List.getLast?_singleton]
      simp only [Option.some_or, if_neg e]
    rw [el]
    refine app fun p hp => ?_
    rcases List.mem_append.mp hp with h | h
    · obtain ⟨j, e', hj⟩ := hG p h
      exact ⟨j, e', by omega⟩
    · rw [List.mem_singleton.mp h]; exact ⟨k, rfl, by omega⟩
def highD : Option Nat → D
  | none => .non
  | some h => .int (h : Int)
def spD (p : Spn) : D := .tup [.int (p.1 : Int), highD p.2]
def spansD (s : List Spn) : D := .tup (s.map spD)
instance (h : Option Nat) : Pur (highD h) := by cases h <;> (unfold highD; infer_instance)
instance (p : Spn) : Pur (spD p) := by unfold spD; infer_instance
instance (s : List Spn) : Pur (spansD s) := by unfold spansD; infer_instance
end Z
namespace Z
open PySem PySem.Spec PyProof.Rows L2 RZ
/-! spans and moments of a history -/
def moAt (ds : List Deed) (i : Nat) : Nat := match ds[i]? with | some d => d.mo | none => 0
theorem moAt_some {ds : List Deed} {i : Nat} {d : Deed} (h : ds[i]? = some d) : moAt ds i = d.mo := by unfold moAt; rw [h]
/-- how many deeds are not later -/
def atN (ds : List Deed) (x : Nat) : Nat := (ds.filter fun d => decide (d.mo ≤ x)).length
theorem atN_le (ds : List Deed) (x : Nat) : atN ds x ≤ ds.length := List.length_filter_le _ _
theorem atN_filter {m : Nat} {ds : List Deed} (h : OkH m ds) (x : Nat) : (ds.filter fun d => decide (d.mo ≤ x)) = ds.take (atN ds x) := by
  induction h with
  | nil => rfl
  | @snoc ds d h1 h2 h3 h4 ih =>
    unfold atN at ih ⊢
    rw [List.filter_append]
    by_cases e : d.mo ≤ x
    · have e1 : (ds.filter fun d => decide (d.mo ≤ x)) = ds := List.filter_eq_self.mpr fun a ha => decide_eq_true (Nat.le_trans (h2 a ha) e)
      rw [e1, List.filter_cons_of_pos (by simp [e]), List.filter_nil, List.take_length]
    · rw [List.filter_cons_of_neg (by simp [e]), List.filter_nil, List.append_nil, List.take_append_of_le_length (List.length_filter_le _ _)]
      exact ih
theorem atN_lt {m : Nat} {ds : List Deed} (h : OkH m ds) {i : Nat} {d : Deed} (e : ds[i]? = some d) (x : Nat) : i < atN ds x ↔ d.mo ≤ x := by
  have hf := atN_filter h x
  constructor
  · intro hi
    have : (ds.take (atN ds x))[i]? = some d := by rw [List.getElem?_take, if_pos hi]; exact e
    rw [← hf] at this
    have := (List.mem_filter.mp (List.mem_of_getElem? this)).2
    simpa using this
  · intro hm
    have o := (h.at_ e).2.1
    have e2 : ((ds.take (i + 1)).filter fun d => decide (d.mo ≤ x)) = ds.take (i + 1) := List.filter_eq_self.mpr fun a ha => by
      rw [take_succ_eq e] at ha
      rcases List.mem_append.mp ha with ha | ha
      · exact decide_eq_true (Nat.le_trans (o a ha) hm)
      · rw [List.mem_singleton.mp ha]; exact decide_eq_true hm
    have hl := (List.getElem?_eq_some_iff.mp e).1
    have : ((ds.take (i + 1)).filter fun d => decide (d.mo ≤ x)).length ≤ atN ds x := ((List.take_sublist _ _).filter _).length_le
    rw [e2, List.length_take] at this
    omega
def lifeSp (ds : List Deed) (l : Z.Life) : List Spn :=
  if l.2.2.1 = ds.length then [(moAt ds l.2.1, none)] else if moAt ds l.2.1 < moAt ds l.2.2.1 then [(moAt ds l.2.1, some (moAt ds l.2.2.1))] else []
theorem lifeSp_len (ds : List Deed) (l : Z.Life) : (lifeSp ds l).length ≤ 1 := by
  unfold lifeSp
  split
  · simp
  · split <;> simp
theorem lifeSp_canon (ds : List Deed) (l : Z.Life) : Canon (lifeSp ds l) := by
  unfold lifeSp
  split
  · exact ⟨fun p hp h e => (by rw [List.mem_singleton.mp hp] at e; cases e), List.pairwise_singleton _ _⟩
  · split
    · exact ⟨fun p hp h e => by rw [List.mem_singleton.mp hp] at e ⊢; cases e; assumption, List.pairwise_singleton _ _⟩
    · exact canon_nil
theorem inS_one {p : Spn} {x : Nat} : InS [p] x ↔ inP p x := by rw [inS_cons]; exact ⟨fun h => h.elim id fun h => (inS_nil _ h).elim, .inl⟩
theorem life_of {ds : List Deed} {l : Z.Life} (h : l ∈ livesL ds) : (∃ mo t, ds[l.2.1]? = some (.come mo t) ∧ tieL l = t ∧ l.1 = t.1) ∧ l.2.1 < l.2.2.1 ∧ (l.2.2.1 = ds.length ∨ ∃ d, ds[l.2.2.1]? = some d) := by
  obtain ⟨s, mo, t, hs, h1, rfl⟩ := livesA_mem.mp h
  refine ⟨⟨mo, t, h1, rfl, rfl⟩, ?_⟩
  have sp := (endA_spec ds ds.length s t.1).1
  show s < endA ds ds.length s t.1 ∧ (endA ds ds.length s t.1 = ds.length ∨ ∃ d, ds[endA ds ds.length s t.1]? = some d)
  rcases sp with h | ⟨h2, h3, _⟩
  · exact ⟨by omega, .inl h⟩
  · exact ⟨h2, .inr ⟨_, List.getElem?_eq_getElem h3⟩⟩
theorem lifeSp_in {m : Nat} {ds : List Deed} (ok : OkH m ds) {l : Z.Life} (h : l ∈ livesL ds) (x : Nat) : InS (lifeSp ds l) x ↔ l.2.1 < atN ds x ∧ atN ds x ≤ l.2.2.1 := by
  obtain ⟨⟨mo, t, h1, _, _⟩, h2, h3⟩ := life_of h
  have a1 : l.2.1 < atN ds x ↔ moAt ds l.2.1 ≤ x := by rw [moAt_some h1]; exact atN_lt ok h1 x
  unfold lifeSp
  rw [a1]
  by_cases e : l.2.2.1 = ds.length
  · rw [if_pos e, inS_one]
    have := atN_le ds x
    exact ⟨fun h => ⟨h.1, by omega⟩, fun h => ⟨h.1, fun _ e => nomatch e⟩⟩
  · obtain ⟨d, h4⟩ : ∃ d, ds[l.2.2.1]? = some d := h3.resolve_left e
    have a2 : atN ds x ≤ l.2.2.1 ↔ x < moAt ds l.2.2.1 := by
      have := atN_lt ok h4 x
      rw [moAt_some h4]
      omega
    rw [if_neg e, a2]
    split
    · rw [inS_one]
      exact ⟨fun h => ⟨h.1, h.2 _ rfl⟩, fun h => ⟨h.1, fun _ e => by cases e; exact h.2⟩⟩
    · exact ⟨fun h => (inS_nil _ h).elim, fun h => by omega⟩
/-- whether a tie of a name is there at a moment -/
def ThereAt (ds : List Deed) (nm : List Nat) (x : Nat) : Prop := nm ∈ (standF (ds.take (atN ds x))).map (·.1)
def thereI (ds : List Deed) (nm : List Nat) (ls : List Z.Life) : List Spn := (ls.filter fun l => decide (l.1 = nm)).flatMap (lifeSp ds)
theorem thereI_len (ds : List Deed) (nm : List Nat) (ls : List Z.Life) : (thereI ds nm ls).length ≤ ls.length := by
  unfold thereI
  induction ls with
  | nil => simp
  | cons l ls ih =>
    have h1 := lifeSp_len ds l
    rw [List.filter_cons]
    split
    · rw [List.flatMap_cons, List.length_append, List.length_cons]; omega
    · rw [List.length_cons]; omega
theorem thereI_in {m : Nat} {ds : List Deed} (ok : OkH m ds) (nm : List Nat) (x : Nat) : InS (thereI ds nm (livesL ds)) x ↔ ThereAt ds nm x := by
  have e := lives_stand ok (atN ds x) (atN_le ds x)
  unfold ThereAt
  rw [← e]
  constructor
  · rintro ⟨p, hp, hx⟩
    obtain ⟨l, hl, hp⟩ := List.mem_flatMap.mp hp
    obtain ⟨hl, hn⟩ := List.mem_filter.mp hl
    have h := (lifeSp_in ok hl x).mp ⟨p, hp, hx⟩
    have hn : l.1 = nm := of_decide_eq_true hn
    rw [List.map_map]
    exact List.mem_map.mpr ⟨l, List.mem_filter.mpr ⟨hl, by simp [h.1, h.2]⟩, hn⟩
  · intro h
    rw [List.map_map] at h
    obtain ⟨l, hl, hn⟩ := List.mem_map.mp h
    obtain ⟨hl, hb⟩ := List.mem_filter.mp hl
    rw [Bool.and_eq_true] at hb
    obtain ⟨p, hp, hx⟩ := (lifeSp_in ok hl x).mpr ⟨of_decide_eq_true hb.1, of_decide_eq_true hb.2⟩
    exact ⟨p, List.mem_flatMap.mpr ⟨l, List.mem_filter.mpr ⟨hl, decide_eq_true hn⟩, hp⟩, hx⟩
theorem Canon.before {s : List Spn} (h : Canon s) {p : Spn} (hp : p ∈ s) : p.1 = 0 ∨ ¬ InS s (p.1 - 1) := by
  by_cases e : p.1 = 0
  · exact .inl e
  refine .inr ?_
  rintro ⟨q, hq, h1, h2⟩
  by_cases e2 : q = p
  · subst e2; omega
  have key : befS q p ∨ befS p q := by
    obtain ⟨i, hi, rfl⟩ := List.getElem_of_mem hp
    obtain ⟨j, hj, rfl⟩ := List.getElem_of_mem hq
    have pw := List.pairwise_iff_getElem.mp h.pw
    rcases Nat.lt_trichotomy i j with c | c | c
    · exact .inr (pw i j hi hj c)
    · subst c; exact (e2 rfl).elim
    · exact .inl (pw j i hj hi c)
  rcases key with ⟨k, ek, hk⟩ | ⟨k, ek, hk⟩
  · have := h2 k ek; omega
  · have := h.ok p hp k ek; omega
theorem Canon.lows {s : List Spn} (h : Canon s) : (s.map (·.1)).Nodup := by
  refine List.pairwise_map.mpr (List.Pairwise.imp_of_mem (fun {p q} hp hq hb => ?_) h.pw)
  obtain ⟨k, ek, hk⟩ := hb
  have := h.ok p hp k ek
  omega
theorem canon_len {s I : List Spn} (h : Canon s) (e : ∀ x, InS s x ↔ InS I x) : s.length ≤ I.length := by
  have := nodup_len (s.map (·.1)) (I.map (·.1)) h.lows fun a ha => by
    obtain ⟨p, hp, rfl⟩ := List.mem_map.mp ha
    obtain ⟨q, hq, hx⟩ := (e p.1).mp ⟨p, hp, inP_low (h.ok p hp)⟩
    refine List.mem_map.mpr ⟨q, hq, ?_⟩
    rcases h.before hp with h0 | h0
    · have := hx.1; omega
    · by_cases c : q.1 = p.1
      · exact c
      · have c1 := hx.1
        exact (h0 ((e _).mpr ⟨q, hq, by omega, fun k ek => by have := hx.2 k ek; omega⟩)).elim
  simpa using this
/-- spans laid stretch by stretch between rising borders -/
structure LaidTo (B : List Nat) (P : Nat → Prop) (k : Nat) (F : List Spn) : Prop where
  can : Canon F
  set : ∀ x, InS F x ↔ P x ∧ ∀ b, B[k]? = some b → x < b
  up : ∀ b, B[k]? = some b → UpTo F b
  len : F.length ≤ k
theorem laid_zero {B : List Nat} (h : B[0]? = some 0) (P : Nat → Prop) : LaidTo B P 0 [] :=
  ⟨canon_nil, fun x => ⟨fun h => (inS_nil _ h).elim, fun hx => by have := hx.2 0 h; omega⟩, fun _ _ _ hp => (nomatch hp), Nat.le_refl _⟩
theorem layS_len (F : List Spn) (low : Nat) (high : Option Nat) : (layS F low high).length ≤ F.length + 1 := by
  have h1 : (F ++ [(low, high)]).length ≤ F.length + 1 := by simp
  have h2 : ∀ a : Nat, (F.dropLast ++ [(a, high)]).length ≤ F.length + 1 := by intro a; simp
  unfold layS
  split
  · split
    · exact h2 _
    · exact h1
  · exact h1
theorem laid_step {B : List Nat} {P : Nat → Prop} {k b : Nat} {F : List Spn} (hr : B.Pairwise (· < ·)) (hb : B[k]? = some b) (h : LaidTo B P k F) (hP : ∀ x, b ≤ x → (∀ c, B[k + 1]? = some c → x < c) → (P x ↔ P b)) :
    (P b → LaidTo B P (k + 1) (layS F b B[k + 1]?)) ∧ (¬ P b → LaidTo B P (k + 1) F) := by
  have hh : okSp (b, B[k + 1]?) := fun c e => by
    obtain ⟨i1, e1⟩ := List.getElem?_eq_some_iff.mp hb
    obtain ⟨i2, e2⟩ := List.getElem?_eq_some_iff.mp e
    have := List.pairwise_iff_getElem.mp hr k (k + 1) i1 i2 (by omega)
    rw [e1, e2] at this
    exact this
  constructor
  · intro p
    obtain ⟨h1, h2, h3⟩ := layS_spec h.can (h.up b hb) hh
    refine ⟨h1, fun x => ?_, h3, Nat.le_trans (layS_len _ _ _) (by have := h.len; omega)⟩
    rw [h2, h.set]
    constructor
    · rintro (⟨a1, a2⟩ | ⟨a1, a2⟩)
      · have := a2 b hb
        exact ⟨a1, fun c e => by have := hh c e; simp only at this; omega⟩
      · exact ⟨(hP x a1 a2).mpr p, a2⟩
    · rintro ⟨a1, a2⟩
      by_cases c : x < b
      · exact .inl ⟨a1, fun b' e => by rw [hb] at e; cases e; exact c⟩
      · exact .inr ⟨by simp only; omega, a2⟩
  · intro p
    refine ⟨h.can, fun x => ?_, fun c e q hq => ?_, by have := h.len; omega⟩
    · rw [h.set]
      constructor
      · rintro ⟨a1, a2⟩
        have := a2 b hb
        exact ⟨a1, fun c e => by have := hh c e; simp only at this; omega⟩
      · rintro ⟨a1, a2⟩
        refine ⟨a1, fun b' e => ?_⟩
        rw [hb] at e; cases e
        by_cases c : x < b
        · exact c
        · exact (p ((hP x (by omega) a2).mp a1)).elim
    · obtain ⟨j, e1, e2⟩ := h.up b hb q hq
      have := hh c e
      exact ⟨j, e1, by simp only at this; omega⟩
theorem laid_end {B : List Nat} {P : Nat → Prop} {F : List Spn} {k : Nat} (h : LaidTo B P k F) (hk : B.length ≤ k) : Canon F ∧ ∀ x, InS F x ↔ P x :=
  ⟨h.can, fun x => by rw [h.set]; exact ⟨fun a => a.1, fun a => ⟨a, fun b e => by rw [List.getElem?_eq_none hk] at e; cases e⟩⟩⟩
theorem rise_next {B : List Nat} (hr : B.Pairwise (· < ·)) {k b c : Nat} (hb : B[k]? = some b) (hc : c ∈ B) (h : b < c) : ∃ c', B[k + 1]? = some c' ∧ c' ≤ c := by
  obtain ⟨j, hj, e⟩ := List.getElem_of_mem hc
  obtain ⟨i1, e1⟩ := List.getElem?_eq_some_iff.mp hb
  have pw := List.pairwise_iff_getElem.mp hr
  have hkj : k < j := by
    rcases Nat.lt_trichotomy k j with x | x | x
    · exact x
    · subst x; omega
    · have := pw j k hj i1 x; omega
  have h2 : k + 1 < B.length := by omega
  refine ⟨_, List.getElem?_eq_getElem h2, ?_⟩
  by_cases x : k + 1 = j
  · subst x; omega
  · have := pw (k + 1) j h2 hj (by omega); omega
theorem borders_of {ds : List Deed} {ns : List Int} (hr : ns.Pairwise (· < ·)) (hm : ∀ k, k ∈ ns ↔ k ∈ (0 : Int) :: ds.map fun d => (d.mo : Int)) :
    ∃ B : List Nat, ns = B.map (fun b : Nat => (b : Int)) ∧ B.Pairwise (· < ·) ∧ B[0]? = some 0 ∧ (∀ b, b ∈ B ↔ b = 0 ∨ ∃ d ∈ ds, d.mo = b) ∧ B.length ≤ ds.length + 1 := by
  have pos : ∀ k ∈ ns, 0 ≤ k := fun k hk => by
    rcases List.mem_cons.mp ((hm k).mp hk) with h | h
    · omega
    · obtain ⟨d, _, rfl⟩ := List.mem_map.mp h; omega
  have e : ns = (ns.map Int.toNat).map fun b : Nat => (b : Int) := by
    rw [List.map_map]
    refine ((List.map_congr_left fun k hk => ?_).trans (List.map_id ns)).symm
    have := pos k hk
    show (k.toNat : Int) = k
    omega
  have mem : ∀ b : Nat, b ∈ ns.map Int.toNat ↔ b = 0 ∨ ∃ d ∈ ds, d.mo = b := fun b => by
    rw [List.mem_map]
    constructor
    · rintro ⟨k, hk, rfl⟩
      rcases List.mem_cons.mp ((hm k).mp hk) with h | h
      · exact .inl (by omega)
      · obtain ⟨d, hd, rfl⟩ := List.mem_map.mp h; exact .inr ⟨d, hd, by omega⟩
    · rintro (rfl | ⟨d, hd, rfl⟩)
      · exact ⟨0, (hm 0).mpr List.mem_cons_self, rfl⟩
      · exact ⟨d.mo, (hm _).mpr (List.mem_cons_of_mem _ (List.mem_map_of_mem hd)), by omega⟩
  have rise : (ns.map Int.toNat).Pairwise (· < ·) := List.pairwise_map.mpr (List.Pairwise.imp_of_mem (fun {a b} ha hb h => by have := pos a ha; have := pos b hb; omega) hr)
  refine ⟨ns.map Int.toNat, e, rise, ?_, mem, ?_⟩
  · have h0 : 0 ∈ ns.map Int.toNat := (mem 0).mpr (.inl rfl)
    cases hn : ns.map Int.toNat with
    | nil => rw [hn] at h0; cases h0
    | cons b r =>
      rw [hn] at h0 rise
      rcases List.mem_cons.mp h0 with h | h
      · rw [← h]; rfl
      · have := (List.pairwise_cons.mp rise).1 0 h; omega
  · have := nodup_len (ns.map Int.toNat) (0 :: ds.map Deed.mo) (rise.imp fun h => by omega) fun b hb => by
      rcases (mem b).mp hb with h | ⟨d, hd, h⟩
      · rw [h]; exact List.mem_cons_self
      · rw [← h]; exact List.mem_cons_of_mem _ (List.mem_map_of_mem hd)
    simpa using this
theorem there_stretch {ds : List Deed} {nm : List Nat} {B : List Nat} (hr : B.Pairwise (· < ·)) (hB : ∀ b, b ∈ B ↔ b = 0 ∨ ∃ d ∈ ds, d.mo = b) {k b : Nat} (hb : B[k]? = some b) (x : Nat) (h1 : b ≤ x) (h2 : ∀ c, B[k + 1]? = some c → x < c) :
    atN ds x = atN ds b := by
  unfold atN
  congr 1
  refine List.filter_congr fun d hd => ?_
  by_cases c : d.mo ≤ b
  · rw [decide_eq_true c, decide_eq_true (show d.mo ≤ x by omega)]
  · obtain ⟨c', e, hc⟩ := rise_next hr hb ((hB d.mo).mpr (.inr ⟨d, hd, rfl⟩)) (by omega)
    have := h2 c' e
    rw [decide_eq_false c, decide_eq_false (show ¬ d.mo ≤ x by omega)]
end Z
namespace Z
open PySem PySem.Spec PyProof.Rows L2 RZ
/-! sets of texts, and sorted(set(texts)) -/
def keyS (e : Int × Value) : Str := sv e.2
def GoodS (w : World) (e : Int × Value) : Prop := ∃ k tk, e.2 = Value.str k tk ∧ e.1 = hashStr w k
/-- the set of texts at a -/
def SetRS (w : World) (h : Heap) (a : Addr) (S : Str → Bool) (n : Nat) : Prop :=
  ∃ o es ep t, (h.get? a = some o ∧ o.ExactSet ∧ o.data = .set es ep t) ∧ ((∀ e ∈ es.toList, GoodS w e) ∧ (es.toList.map keyS).Nodup ∧ ∀ k, S k = true ↔ k ∈ es.toList.map keyS) ∧
    (es.size < scanBound ∧ t.fits es.size = true ∧ es.size = n) ∧ Ris t.place.toList ∧ (w.params.followText "set-order" = true ∨ t.led = true)
section
variable {P : Program} {w : World} {A : Around} {E : Value → Shared → Prop} {s : Shared} {a : Addr} {S : Str → Bool} {n : Nat}
theorem SetRS.at {h h' : Heap} (R : SetRS w h a S n) (k : ∀ o, h.get? a = some o → h'.get? a = some o) : SetRS w h' a S n := by
  obtain ⟨o, es, ep, t, ⟨ho, r1⟩, r⟩ := R
  exact ⟨o, es, ep, t, ⟨k o ho, r1⟩, r⟩
theorem SetRS.congr {h : Heap} {S' : Str → Bool} (R : SetRS w h a S n) (e : ∀ k, S' k = S k) : SetRS w h a S' n := by
  rw [show S' = S from funext e]; exact R
theorem goodS_elems {l : List (Int × Value)} (g : ∀ e ∈ l, GoodS w e) : ElemsOf (strKind P w) l := fun e he => by
  obtain ⟨k, tk, h1, h2⟩ := g e he
  exact ⟨⟨k, by rw [h1]; exact strKind_is P w k tk, h2⟩, by rw [h1] <;> rfl⟩
theorem goodS_is {e : Int × Value} (g : GoodS w e) (k : Str) : (strKind P w).is k e.2 = true ↔ keyS e = k := by
  obtain ⟨k0, tk, h1, _⟩ := g
  unfold keyS
  rw [h1]
  constructor
  · intro h
    have h : Value.isStrOf k (.str k0 tk) = true := h
    obtain ⟨t, ht⟩ := Value.isStrOf_shape h
    injection ht
  · intro h
    have h : k0 = k := h
    rw [h]; exact strKind_is P w k tk
theorem goodS_mem {l : List (Int × Value)} (g : ∀ e ∈ l, GoodS w e) (k : Str) : k ∈ l.map keyS ↔ ∃ e ∈ l, (strKind P w).is k e.2 = true := by
  rw [List.mem_map]
  exact ⟨fun ⟨e, he, q⟩ => ⟨e, he, (goodS_is (g e he) k).2 q⟩, fun ⟨e, he, q⟩ => ⟨e, he, (goodS_is (g e he) k).1 q⟩⟩
theorem setRS_tail {g : Bool → Sem Unit} (hg : ∀ (b : Bool) (s₁ : Shared) (Q' : Unit → Shared → Prop), Q' () s₁ → wpAny (model P w) A (g b) Q' E s₁)
    {o : Obj} {es : Array (Int × Value)} {ep : Nat} {t : SetTable} (ho : s.heap.get? a = some o) (hex : o.ExactSet) (hd : o.data = .set es ep t)
    {es1 : Array (Int × Value)} {t2 : SetTable} {S' : Str → Bool} (g1 : (∀ e ∈ es1.toList, GoodS w e) ∧ (es1.toList.map keyS).Nodup ∧ ∀ k, S' k = true ↔ k ∈ es1.toList.map keyS)
    (hb1 : es1.size < scanBound) (hf2 : t2.fits es1.size = true) (hr : Ris t2.place.toList) (hl : w.params.followText "set-order" = true ∨ t2.led = true) {wasDummy : Bool} {R : Option Bool → Shared → Prop}
    (hR : ∀ h', Heap.SameBut a s.heap h' → SetRS w h' a S' es1.size → R (some true) { s with heap := h' }) :
    wpAny (model P w) A (do
        storeSet a es1 t2
        if (!wasDummy && t2.tooFull) = true then do
            g (relayAll t2 es1 (SetTable.grown es1.size)).2.2
            storeSet a (relayAll t2 es1 (SetTable.grown es1.size)).1 (relayAll t2 es1 (SetTable.grown es1.size)).2.1
            pure (some true)
          else pure (some true)) R E s := by
  refine wpAny_bind (wpAny_storeSet_of ho hd ?_ (fits_of_scanBound hb1))
  have ho1 := store_at (es' := es1) (t' := t2) ho hd
  have sb1 := Heap.SameBut.update s.heap a (Obj.putSet es1 t2)
  split
  · have pm := relayAll_perm t2 es1 (SetTable.grown es1.size)
    have hf3 := relayAll_fits t2 es1 (SetTable.grown es1.size)
    have hr3 := relayAll_ris t2 es1 (SetTable.grown es1.size)
    have hl3 := relayAll_led t2 es1 (SetTable.grown es1.size)
    generalize relayAll t2 es1 (SetTable.grown es1.size) = Z at pm hf3 hr3 hl3 ⊢
    obtain ⟨es2, t3, gave⟩ := Z
    dsimp only at pm hf3 hr3 hl3 ⊢
    have hsz : es2.size = es1.size := by rw [← Array.length_toList, pm.length_eq, Array.length_toList]
    refine wpAny_bind (hg _ _ _ ?_)
    refine wpAny_bind (wpAny_storeSet_of ho1 rfl ?_ (fits_of_scanBound (by rw [hsz]; exact hb1)))
    have ho2 := store_at (es' := es2) (t' := t3) ho1 rfl
    refine wpAny_pure (hR _ (sb1.trans (Heap.SameBut.update _ a _)) ⟨_, es2, _, t3, ⟨ho2, hex, rfl⟩, ⟨fun e he => g1.1 e (pm.mem_iff.mp he), (pm.map keyS).nodup_iff.mpr g1.2.1, fun k => (g1.2.2 k).trans (pm.map keyS).mem_iff.symm⟩, ⟨by rw [hsz]; exact hb1, hf3, hsz⟩, hr3, hl.imp id fun z => by rw [hl3]; exact z⟩)
  · exact wpAny_pure (hR _ sb1 ⟨_, es1, _, t2, ⟨ho1, hex, rfl⟩, g1, ⟨hb1, hf2, rfl⟩, hr, hl⟩)
theorem setRS_add {k : Str} {tk : Tok} {Q : Bool → Shared → Prop} (R : SetRS w s.heap a S n) (room : n + 1 < scanBound)
    (hQ : ∀ h', Heap.SameBut a s.heap h' → SetRS w h' a (fun j => S j || decide (j = k)) (if S k = true then n else n + 1) → Q (!S k) { s with heap := h' }) :
    wpAny (model P w) A (setAddHashed a (.str k tk) (hashStr w k)) Q E s := by
  obtain ⟨o, es, ep, t, ⟨ho, hex, hd⟩, ⟨g, nd, hm⟩, ⟨hb, hf, hn⟩, hr, hl⟩ := R
  have hkey : (strKind P w).is k (.str k tk) = true := strKind_is P w k tk
  have hsc : (Value.str k tk).scannable = true := rfl
  have hel : ElemsOf (strKind P w) es.toList := goodS_elems g
  unfold setAddHashed setAddHashedIn
  refine wpAny_holding (wpAny_bind (wpAny_setState_of ho hd hf ?_))
  dsimp only
  rw [byScan_of hsc hb hel]
  simp only [↓reduceIte]
  unfold setAddByScan
  refine wpAny_bind ?_
  refine wpAny_bind (wpAny_rule ?_)
  refine wpAny_bind (wpAny_setScan_of (knd := strKind P w) (k := k) hkey ho hd hf hel ?_)
  cases hfi : List.findIdx? (fun e => (strKind P w).is k e.2) es.toList with
  | some j =>
    dsimp only
    obtain ⟨hj, pj, _⟩ := List.findIdx?_eq_some_iff_getElem.mp hfi
    have hSk : S k = true := (hm k).2 ((goodS_mem (P := P) (w := w) g k).2 ⟨es.toList[j], List.getElem_mem hj, pj⟩)
    refine wpAny_pure (wpAny_pure ?_)
    have q := hQ s.heap (Heap.SameBut.refl a s.heap) ⟨o, es, ep, t, ⟨ho, hex, hd⟩, ⟨g, nd, fun i => by
      rw [Bool.or_eq_true, decide_eq_true_eq, ← hm i]
      exact ⟨fun z => z.elim id (fun e => e ▸ hSk), .inl⟩⟩, ⟨hb, hf, by rw [if_pos hSk]; exact hn⟩, hr, hl⟩
    rw [hSk] at q
    exact q
  | none =>
    dsimp only
    have hnk : k ∉ es.toList.map keyS := fun z => by
      obtain ⟨e, he, q⟩ := (goodS_mem (P := P) (w := w) g k).1 z
      have c := List.findIdx?_eq_none_iff.mp hfi e he
      rw [q] at c
      cases c
    have hSk : S k = false := by
      cases q : S k with
      | false => rfl
      | true => exact absurd ((hm k).1 q) hnk
    have hgw : ∀ (b : Bool) {s₁ : Shared} {Q' : Unit → Shared → Prop}, Q' () s₁ → wpAny (model P w) A (match b with | true => rule "set.scan.the-table-gave-way" | false => pure ()) Q' E s₁ :=
      fun b s₁ Q' q => by cases b <;> first | exact wpAny_pure q | exact wpAny_rule q
    have pm := layNew_perm t es (hashStr w k) (.str k tk)
    have hf1 := layNew_fits t es (hashStr w k) (.str k tk)
    have hr1 := layNew_ris t es (hashStr w k) (.str k tk) hr
    have hl1 := layNew_led t es (hashStr w k) (.str k tk)
    generalize layNew t es (hashStr w k) (.str k tk) = Z at pm hf1 hr1 hl1 ⊢
    obtain ⟨es1, t1, wasDummy, gave⟩ := Z
    dsimp only at pm hf1 hr1 hl1 ⊢
    rw [Array.toList_push] at pm
    have pc : es1.toList.Perm ((hashStr w k, Value.str k tk) :: es.toList) := pm.trans (List.perm_append_singleton _ _)
    have pk : (es1.toList.map keyS).Perm (k :: es.toList.map keyS) := pc.map keyS
    have g1 : (∀ e ∈ es1.toList, GoodS w e) ∧ (es1.toList.map keyS).Nodup ∧ ∀ i, (S i || decide (i = k)) = true ↔ i ∈ es1.toList.map keyS := ⟨fun e he => by
      rcases List.mem_cons.mp (pc.mem_iff.mp he) with z | z
      · rw [z]; exact ⟨k, tk, rfl, rfl⟩
      · exact g e z, pk.nodup_iff.mpr (List.nodup_cons.mpr ⟨hnk, nd⟩), fun i => by
      rw [Bool.or_eq_true, decide_eq_true_eq, hm i, pk.mem_iff, List.mem_cons]
      exact Or.comm⟩
    have hsz : es1.size = n + 1 := by rw [← Array.length_toList, pc.length_eq, List.length_cons, Array.length_toList, hn]
    have hb1 : es1.size < scanBound := by rw [hsz]; exact room
    have hled : w.params.followText "set-order" = true ∨ t1.led = true := hl.imp id fun z => by rw [hl1]; exact z
    have fin : ∀ h', Heap.SameBut a s.heap h' → SetRS w h' a (fun j => S j || decide (j = k)) es1.size → Q true { s with heap := h' } := fun h' sb r => by
      have q := hQ h' sb
      rw [hSk] at q
      rw [hsz] at r
      exact q r
    refine wpAny_bind (hgw _ ?_)
    split
    · refine wpAny_bind ?_
      rw [hashByValue_scannable 8 hsc]
      refine wpAny_pure ?_
      refine setRS_tail ?_ ho hex hd g1 hb1 ?_ ?_ ?_ ?_
      · intro b s₁ Q' q; cases b <;> first | exact wpAny_pure q | exact wpAny_rule q
      · first | (split <;> first | exact hf1 | exact SetTable.fits_plain_off hf1) | exact hf1
      · first | (split <;> exact hr1) | exact hr1
      · first | (split <;> exact hled) | exact hled
      · intro h' sb r; dsimp only; exact wpAny_pure (fin h' sb r)
    · refine wpAny_bind (wpAny_pure ?_)
      simp only [↓reduceIte]
      refine setRS_tail ?_ ho hex hd g1 hb1 hf1 hr1 hled ?_
      · intro b s₁ Q' q; cases b <;> first | exact wpAny_pure q | exact wpAny_rule q
      · intro h' sb r; dsimp only; exact wpAny_pure (fin h' sb r)
theorem setRS_new {h : Heap} {xs : List Str} (ho : h.get? a = some { cls := .type "set", dict := none, data := .set #[] 0 (.fresh 0 0 (!w.params.followText "set-order")) }) : SetRS w h a (fun j => decide (j ∈ xs.take 0)) 0 :=
  ⟨_, #[], 0, _, ⟨ho, ⟨rfl, rfl, rfl⟩, rfl⟩, ⟨(fun e he => by simp at he), (by simp), (fun k => by simp)⟩, ⟨(by decide), (by rfl), rfl⟩, List.Pairwise.nil, by
    show _ ∨ (!w.params.followText "set-order") = true
    cases w.params.followText "set-order"
    · exact .inr rfl
    · exact .inl rfl⟩
theorem set_update_strs {I : Addr} {fp wr : List Addr} {G : Array GenState → Array GenState → Prop} {n : Nat} {Pv : Nat → Value → Prop} {St : Nat → Shared → Prop} {R : Result → Shared → Prop}
    (W : WalksS P w A.in1 I fp wr G n Pv St) (S : Addr) (hSf : S ∉ fp) (ns : List Str) (hn : n = ns.length) (hb : ns.length + 1 < scanBound) (hval : ∀ i v, Pv i v → ∃ k t, ns[i]? = some k ∧ v = .str k t) :
    ∀ (k i : Nat) (s : Shared), n - i = k → i ≤ n → St i s → (∃ c, c ≤ i ∧ SetRS w s.heap S (fun j => decide (j ∈ ns.take i)) c) →
      (∀ s' c, Moved (S :: wr) G s s' → c ≤ n → SetRS w s'.heap S (fun j => decide (j ∈ ns)) c → R (.ok (.ret .none)) s') →
      codeAny (model P w) A (.builtin "set.update.loop" ⟨[.ref S, .ref I], []⟩) R s := by
  have hSw : S ∉ wr := fun h => hSf (W.sub _ h)
  have hsub : ∀ b ∈ wr, b ∈ S :: wr := fun b hb => List.mem_cons_of_mem _ hb
  intro k
  induction k with
  | zero =>
    intro i s hk' hi hst ⟨c, hc, hS⟩ hR
    have hin : i = n := by omega
    subst hin
    refine codeAny_builtin F.entry_set_update_loop ?_
    rw [Around.under_plainId F.plain_set_update_loop _]
    show wpAny _ A.in1 (pyNext (.ref I) >>= _) _ _ s
    refine wpAny_bind (W.done s _ _ hst fun s' hm => ?_)
    show wpAny _ A.in1 (ret Value.none) _ _ s'
    have e : ns.take i = ns := List.take_of_length_le (by omega)
    rw [e] at hS
    exact wpAny_pure (hR s' c (hm.mono hsub) hc (hS.at fun o e => hm.heap S o hSw e))
  | succ k ih =>
    intro i s hk' hi hst ⟨c, hc, hS⟩ hR
    have hlt : i < n := by omega
    refine codeAny_builtin F.entry_set_update_loop ?_
    rw [Around.under_plainId F.plain_set_update_loop _]
    show wpAny _ A.in1 (pyNext (.ref I) >>= _) _ _ s
    refine wpAny_bind (W.item i s _ _ hlt hst fun v s' hP hst' hm => ?_)
    obtain ⟨z, t, hz, rfl⟩ := hval i v hP
    have hS' : SetRS w s'.heap S (fun j => decide (j ∈ ns.take i)) c := hS.at fun o e => hm.heap S o hSw e
    show wpAny _ A.in1 (holding [Value.str z t] (setAdd S (.str z t)) >>= _) _ _ s'
    refine wpAny_bind (wpAny_holding ?_)
    unfold setAdd
    refine wpAny_holding ?_
    refine wpAny_bind ((strKind P w).pyHash (k := z) (strKind_is _ _ _ _) ?_)
    refine setRS_add (s := { s' with toks := s'.toks + 1 }) hS' (by omega) fun h' hsb hS2 => ?_
    have hS3 : SetRS w h' S (fun j => decide (j ∈ ns.take (i + 1))) (if decide (z ∈ ns.take i) = true then c else c + 1) := hS2.congr fun j => by
      rw [List.take_add_one, hz]
      simp [List.mem_append]
    have hc3 : (if decide (z ∈ ns.take i) = true then c else c + 1) ≤ i + 1 := by
      split <;> omega
    refine wpAny_pure ⟨plainId_quiet F.plain_set_update_loop _, ih (i + 1) _ (by omega) hlt (W.frame _ s' _ _ hst' (Nat.le_succ _) fun b hb o e => ?_) ⟨_, hc3, hS3⟩ fun s'' c2 hm'' hc'' hS'' => ?_⟩
    · rw [hsb.2 b (fun h : b = S => hSf (by rw [← h]; exact hb))]; exact e
    · refine hR s'' c2 (Moved.trans W.gtrans ((hm.mono hsub).then_heap (Nat.le_succ _) fun b o hb e => ?_) hm'') hc'' hS''
      rw [hsb.2 b (fun h : b = S => hb (by rw [h]; exact List.mem_cons_self))]; exact e
end
section
variable {P : Program} {w : World} {A : Around} {E : Value → Shared → Prop} {s : Shared}
set_option maxHeartbeats 3200000 in
/-- set(list of texts): its members, with the order that the world keeps -/
theorem call_set_lstS {l : Addr} {items : Array Value} (ns : List Str) {Q : Value → Shared → Prop} (hh : A.handled = none) (hl : s.heap.IsList l items) (hit : StrsAre items.toList ns) (hb : ns.length + 1 < scanBound)
    (h : ∀ (h' : Heap) (tk c : Nat), SetRS w h' s.heap.objs.size (fun j => decide (j ∈ ns)) c → c ≤ ns.length → (∀ b o, s.heap.get? b = some o → h'.get? b = some o) → Q (.ref s.heap.objs.size) { s with heap := h', toks := tk }) :
    wpAny (model P w) A (call (.type "set") [.ref l]) Q E s := by
  have hisz : items.size = ns.length := by
    have q := StrsAre.length hit
    rw [Array.length_toList] at q
    exact q
  have hval : ∀ (i : Nat) (v : Value), items[i]? = some v → ∃ k t, ns[i]? = some k ∧ v = .str k t := fun i v hv => by
    have hi : i < ns.length := by rw [← hisz]; exact (Array.getElem?_eq_some_iff.mp hv).1
    obtain ⟨t, e⟩ := SS.strs_at hit i v (by rw [Array.getElem?_toList]; exact hv)
    refine ⟨ns[i], t, List.getElem?_eq_getElem hi, ?_⟩
    rw [e, List.getD_eq_getElem?_getD, List.getElem?_eq_getElem hi] <;> rfl
  have hz1 : (s.heap.push { cls := .type "set", dict := none, data := .set #[] 0 (.fresh 0 0 (!w.params.followText "set-order")) }).objs.size = s.heap.objs.size + 1 := Heap.size_push ..
  have hS : (s.heap.push { cls := .type "set", dict := none, data := .set #[] 0 (.fresh 0 0 (!w.params.followText "set-order")) }).get? s.heap.objs.size = some { cls := .type "set", dict := none, data := .set #[] 0 (.fresh 0 0 (!w.params.followText "set-order")) } := Heap.get?_push_size _ rfl
  have hlS : l < s.heap.objs.size := let ⟨_, hol, _⟩ := hl; Heap.lt_size hol
  obtain ⟨c, tl, hmro⟩ := F.called_set.mro
  have hmade := F.called_set.made
  have hsub := F.called_set.sub
  refine wpAny_call (codeAny_of_tree ?_)
  show wpAny _ _ (callAny (.type "set") _) _ _ _
  refine wpAny_pure ⟨Code.quiet_builtin _ (by decide +kernel), codeAny_builtin F.entry_type_call ?_⟩
  rw [Around.under_plain (weight_type_call_type "set" [.ref l] []) rfl]
  have h1 := F.called_set.notType
  have h2 := F.called_set.canCreate
  have hct := F.typeCall_set_1 (.ref l)
  repeat (any_goals (first | assumption | wp_step))
  refine codeAny_mono (code_set_led1 (.ref l) (E := E) (Q₁ := fun obj s₁ => obj = .ref s.heap.objs.size ∧ s₁ = { s with heap := s.heap.push { cls := .type "set", dict := none, data := .set #[] 0 (.fresh 0 0 (!w.params.followText "set-order")) } }) ⟨rfl, rfl⟩) fun r s₁ hr => ?_
  cases r with
  | error e => exact hr
  | ok fl =>
    cases fl with
    | ret obj =>
      obtain ⟨rfl, rfl⟩ := hr
      have hT : Shared.TypeIs { s with heap := s.heap.push { cls := .type "set", dict := none, data := .set #[] 0 (.fresh 0 0 (!w.params.followText "set-order")) } } (.ref s.heap.objs.size) "set" := ⟨_, hS, rfl⟩
      have hli := F.called_set.init.lookup
      have hbi := F.called_set.init.bind (.ref s.heap.objs.size)
      repeat (any_goals (first | assumption | wp_step))
      refine codeAny_mono (codeAny_call_builtin (R := wants (fun r s₂ => r = .none ∧ ∃ h' tk c, s₂ = { s with heap := h', toks := tk } ∧ SetRS w h' s.heap.objs.size (fun j => decide (j ∈ ns)) c ∧ c ≤ ns.length ∧
          (∀ b o, s.heap.get? b = some o → h'.get? b = some o)) E) F.called_set.init.plain F.entry_set_init (check_set_init_1 hT ?_)) fun r₂ s₂ hr₂ => ?_
      · obtain ⟨⟨ocls, odict, odata, oslots⟩, hol, hcl, nl, hdl⟩ := hl
        simp only at hcl hdl
        subst hcl; subst hdl
        have hol' : (s.heap.push { cls := .type "set", dict := none, data := .set #[] 0 (.fresh 0 0 (!w.params.followText "set-order")) }).get? l = some { cls := .type "list", dict := odict, data := .seq items nl, slots := oslots } := Heap.get?_push_of_some _ hol
        have hl1 : (s.heap.push { cls := .type "set", dict := none, data := .set #[] 0 (.fresh 0 0 (!w.params.followText "set-order")) }).IsList l items := ⟨_, hol', rfl, nl, rfl⟩
        have hsls := F.sub_list_set
        have hslf := F.sub_list_frozenset
        have hne : (Value.type "list" == Value.type "dict") = false := by decide
        unfold Builtin.«set.__init__» noKeywords Builtin.Frozenset.updateFrom
        generalize hPI : pyIter = PI
        wp_walk
        subst hPI
        refine wpAny_pyIter_list hl1 ?_
        refine wpAny_bind (wpAny_runValue ?_)
        have hh3 : A.in1.in1.in1.handled = none := by simp [hh]
        have hneI : l ≠ (s.heap.push { cls := .type "set", dict := none, data := .set #[] 0 (.fresh 0 0 (!w.params.followText "set-order")) }).objs.size := by rw [hz1]; exact Nat.ne_of_lt (Nat.lt_succ_of_lt hlS)
        refine set_update_strs ((Walks.list hh3 _ l hneI items).toS) s.heap.objs.size (by
            rw [hz1]; simp only [List.mem_cons, List.mem_singleton, List.not_mem_nil, or_false, not_or]
            exact ⟨Nat.ne_of_lt (Nat.lt_succ_self _), Nat.ne_of_gt hlS⟩) ns hisz hb hval (items.size - 0) 0 _ (by omega) (Nat.zero_le _)
          ⟨⟨_, Heap.get?_push_size _ rfl, rfl, rfl⟩, (hl1.push _)⟩ ⟨0, Nat.le_refl 0, setRS_new (xs := ns) (Heap.get?_push_of_some _ hS)⟩ fun s' c' hm hc' hS' => ?_
        obtain ⟨h', g2, d', tk', os'⟩ := s'
        have eg : g2 = s.gens := hm.gens
        have ed : d' = s.drawn := hm.drawn
        have eo : os' = s.os := hm.os
        subst eg; subst ed; subst eo
        show wpAny _ _ _ _ _ _
        refine wpAny_pure ?_
        show wpAny _ _ (ret Value.none) _ _ _
        rw [hisz] at hc'
        refine wpAny_pure ⟨rfl, h', tk', c', rfl, hS', hc', fun b o e => ?_⟩
        have hb0 : b < s.heap.objs.size := Heap.lt_size e
        refine hm.heap b o ?_ (Heap.get?_push_of_some _ (Heap.get?_push_of_some _ e))
        simp only [List.mem_cons, List.mem_singleton, List.not_mem_nil, or_false, not_or, hz1]
        exact ⟨Nat.ne_of_lt hb0, Nat.ne_of_lt (Nat.lt_succ_of_lt hb0)⟩
      · cases r₂ with
        | error e => exact hr₂
        | ok fl₂ =>
          cases fl₂ with
          | ret r =>
            obtain ⟨rfl, h', tk, c', rfl, hS', hc', hk'⟩ := hr₂
            repeat (any_goals (first | assumption | wp_step))
            exact h _ _ _ hS' hc' hk'
          | _ => exact hr₂.elim
    | _ => exact hr.elim
end

def tSortSetS (ta : TE) : TE := fun σ H Q => ta σ H fun x H1 => ∃ (l : Addr) (xs : List Str), x = .ref l ∧ H1 l = some (.lst (xs.map V.str)) ∧ xs.length ≤ 4000 ∧
  ∀ (ys : List Str) (p : Addr), ys.Nodup → ys.Pairwise (fun a b => ¬ b.cps.toList < a.cps.toList) → (∀ k, k ∈ ys ↔ k ∈ xs) → H1 p = none → Q (.ref p) (upd H1 p (.lst (ys.map V.str)))
theorem strs_pair {es : List (Int × Value)} {w : World} (g : ∀ e ∈ es, GoodS w e) : ∀ {its : List Value}, its.Perm (es.map (·.2)) → Vals ((its.map sv).map V.str) its := by
  intro its hp
  have h : ∀ v ∈ its, ∃ k t, v = Value.str k t := fun v hv => by
    obtain ⟨e, he, q⟩ := List.mem_map.mp (hp.mem_iff.mp hv)
    obtain ⟨k, t, h1, _⟩ := g e he
    exact ⟨k, t, by rw [← q]; exact h1⟩
  clear hp
  induction its with
  | nil => exact .nil
  | cons v vs ih =>
    obtain ⟨k, t, rfl⟩ := h v List.mem_cons_self
    exact .cons ⟨t, rfl⟩ (ih fun u hu => h u (List.mem_cons_of_mem _ hu))
theorem pe_sortSetS {X : Cx} {a : Expr} {ta : TE} {p p2 q pos : Pos} (hg : Gl X "sorted") (hm : X.mg "sorted" = none) (hg2 : Gl X "set") (hm2 : X.mg "set" = none) (ha : PE X a ta) (hc : X.calm = true := by rfl)
    (na : starEach [a] X.env = (false, eval a X.env) :: starEach [] X.env := by rfl) : PE X (.Call (.Name "sorted" p) [.Call (.Name "set" p2) [a] [] q] [] pos) (tSortSetS ta) := by
  refine ⟨fun pins s σ H Q I h => ?_⟩
  refine Call_ (ld_blt I hg hm (u := .builtin "sorted") (by decide +kernel) ?_)
  refine PyProof.Rows.callWith_builtin1 (PyProof.Rows.args_cons ?_ rfl) rfl rfl
  refine Call_ (ld_blt I hg2 hm2 boot_set ?_)
  refine PyProof.Rows.callWith_type1 (PyProof.Rows.args_cons (thn (ha.run pins s σ H _ I h) fun v s1 ⟨x, H1, I1, r1, q1⟩ => PyProof.Rows.args_nil ?_) na) na rfl
  obtain ⟨l, xs, rfl, hq, hl, q1⟩ := q1
  cases r1
  obtain ⟨its0, r, pl, hz⟩ := I1.list (SqL.of hq)
  refine call_set_lstS (A := X.A) xs (I1.ok.hd hc) pl.isList (by simpa using r.strs) (by unfold scanBound; omega) fun h' tk c R hcn hk => PyProof.Rows.args_nil ?_
  have I2 : Inv X pins σ H1 { s1 with heap := h', toks := tk } := I1.kept hk
  obtain ⟨o, es, ep, t, ⟨ho, hex, hd⟩, ⟨g, nd, hm'⟩, ⟨hb, hf, hn⟩, hr, hl'⟩ := R
  have hsz : es.toList.length = c := by rw [Array.length_toList]; exact hn
  refine sorted_gen (Pv := fun its => its.Perm (es.toList.map (·.2))) (ltK_swo kvS) (fun R' hR => ?_) (fun its hp => ?_) (fun its hp h2 s2 a' kk => strs_sortable (strs_pair g hp).strs h2) fun s' p' out c' its hp k g' o' hp' hg' a1 a2 => ?_
  · refine collect_set (I2.ok.hd hc) ⟨o, ho, hex.1, hd⟩ hf hb hr hl' fun s3 vs k1 hz g1 o1 pm => hR s3 vs k1 g1 o1 pm
  · rw [hp.length_eq, List.length_map, hsz]; rw [sizeLine_eq]; omega
  · have po : out.Perm (es.toList.map (·.2)) := a2.perm.trans hp
    have vo := strs_pair g po
    have pk : (out.map sv).Perm (es.toList.map keyS) := by
      have := po.map sv
      rw [List.map_map] at this
      exact this
    refine srt_end I2 k g' o' hp' hg' vo ?_ fun hnn => q1 _ _ (pk.nodup_iff.mpr nd) ?_ (fun k' => ?_) hnn
    · rw [List.length_map, pk.length_eq, List.length_map, hsz]; rw [sizeLine_eq]; omega
    · rw [List.pairwise_map]
      refine List.Pairwise.imp (fun {x y} z => ?_) a1
      intro hlt
      have z : (if (Sum.inr (sv y) : Key) = Sum.inr (sv x) then false else decide ((sv y).cps.toList < (sv x).cps.toList)) = false := z
      by_cases e4 : sv y = sv x
      · rw [e4] at hlt; exact List.lt_irrefl _ hlt
      · rw [if_neg (fun z => e4 (Sum.inr.inj z))] at z
        exact of_decide_eq_false z hlt
    · rw [pk.mem_iff, ← hm' k']; simp
def lSortSetS (wr : WA) : WA := fun env S Q => wr env S fun ds S1 => ∃ xs : List Str, ds = xs.map D.str ∧ xs.length ≤ 4000 ∧ ∀ ys : List Str, ys.Nodup → ys.Pairwise (fun a b => ¬ b.cps.toList < a.cps.toList) → (∀ k, k ∈ ys ↔ k ∈ xs) → Q (ys.map D.str) S1
theorem fl_sortSetS {X : Cx} {a : Expr} {wr : WA} {p p2 q pos : Pos} (hg : Gl X "sorted") (hm : X.mg "sorted" = none) (hg2 : Gl X "set") (hm2 : X.mg "set" = none) (hc : X.calm = true) (ha : FL X a wr)
    (na : starEach [a] X.env = (false, eval a X.env) :: starEach [] X.env := by rfl) : FL X (.Call (.Name "sorted" p) [.Call (.Name "set" p2) [a] [] q] [] pos) (lSortSetS wr) := by
  refine ⟨PE.imp (pe_sortSetS hg hm hg2 hm2 ha.p hc na) fun σ H Q ⟨env, S, m, Q0, s, r, h, k⟩ => ?_⟩
  refine ⟨env, S, m, _, s, r, h, fun ds S1 a us H1 m1 q1 e1 s1 h0 nm ha v1 => ?_⟩
  obtain ⟨xs, rfl, h4, q⟩ := q1
  rw [v1.strs] at ha
  exact ⟨a, xs, rfl, ha, h4, fun ys p h1 h2 h3 hp => k.lst e1 s1 (VRs.of_strs ys) hp (e1.back s1 hp) (q ys h1 h2 h3)⟩
end Z
namespace Z
open PySem PySem.Spec PyProof.Rows L2 RZ
/-! sum(a list of lists, a list) -/
def preL (rows : Nat → List Value) (i : Nat) : List Value := ((List.range i).map rows).flatten
theorem preL_succ (rows : Nat → List Value) (i : Nat) : preL rows (i + 1) = preL rows i ++ rows i := by
  unfold preL; rw [List.range_succ, List.map_append, List.flatten_append]; simp
theorem preL_mono (rows : Nat → List Value) : ∀ {i n : Nat}, i ≤ n → (preL rows i).length ≤ (preL rows n).length := by
  intro i n h
  induction h with
  | refl => exact Nat.le_refl _
  | step _ ih => rw [preL_succ, List.length_append]; omega
section
variable {P : Program} {w : World} {A : Around}
theorem loop_sum_lists {R : Result → Shared → Prop} {I : Addr} {fp wr : List Addr} {G : Array GenState → Array GenState → Prop} {n : Nat} {Pv : Nat → Value → Prop} {St : Nat → Shared → Prop}
    (W : WalksS P w A.in1 I fp wr G n Pv St) (S m0 : Addr) (hSf : ∀ b ∈ fp, b < S) (hS0 : m0 ≤ S) (hwr : ∀ b ∈ wr, m0 ≤ b) (h0 : Heap) (rows : Nat → List Value)
    (hval : ∀ i v, Pv i v → ∃ p c, v = .ref p ∧ p < m0 ∧ h0.get? p = some (seqObj "list" (rows i).toArray c)) (hz : (preL rows n).length ≤ sizeLine) :
    ∀ (k i : Nat) (s : Shared) (tot : Addr) (c d : Nat), n - i = k → i ≤ n → St i s → s.heap.get? S = some (seqObj "list" #[.ref tot] c) → s.heap.get? tot = some (seqObj "list" (preL rows i).toArray d) →
      tot ∉ wr → (0 < i → m0 ≤ tot) → (∀ b o, b < m0 → h0.get? b = some o → s.heap.get? b = some o) →
      (∀ s' tot' d', Moved (S :: wr) G s s' → s'.heap.get? tot' = some (seqObj "list" (preL rows n).toArray d') → (0 < n → m0 ≤ tot') → R (.ok (.ret (.ref tot'))) s') →
      codeAny (model P w) A (.builtin "sum.loop" ⟨[.ref I, .ref S, rawInt 2, rawInt 0], []⟩) R s := by
  have hSw : S ∉ wr := fun h => Nat.lt_irrefl _ (hSf _ (W.sub _ h))
  have hsub : ∀ b ∈ wr, b ∈ S :: wr := fun b hb => List.mem_cons_of_mem _ hb
  intro k
  induction k with
  | zero =>
    intro i s tot c d hk hi hst hS ht htw ht0 hold hR
    have hin : i = n := by omega
    subst hin
    refine codeAny_builtin F.entry_sum_loop ?_
    rw [Around.under_plainId F.plain_sum_loop _]
    show wpAny _ A.in1 (seqItems? (.ref S) >>= _) _ _ s
    refine wpAny_bind (wpAny_seqItems hS rfl ?_)
    show wpAny _ A.in1 (tryCatch (pyNext (.ref I)) _ >>= _) _ _ s
    refine wpAny_bind (wpAny_tryCatch (W.done s _ _ hst fun s' hm => ?_))
    exact wpAny_pure (hR s' tot d (hm.mono hsub) (hm.heap tot _ htw ht) ht0)
  | succ k ih =>
    intro i s tot c d hk hi hst hS ht htw ht0 hold hR
    have hlt : i < n := by omega
    refine codeAny_builtin F.entry_sum_loop ?_
    rw [Around.under_plainId F.plain_sum_loop _]
    show wpAny _ A.in1 (seqItems? (.ref S) >>= _) _ _ s
    refine wpAny_bind (wpAny_seqItems hS rfl ?_)
    show wpAny _ A.in1 (tryCatch (pyNext (.ref I)) _ >>= _) _ _ s
    refine wpAny_bind (wpAny_tryCatch (W.item i s _ _ hlt hst fun v s' hP hst' hm => ?_))
    obtain ⟨p, cp, rfl, hp0, hp⟩ := hval i v hP
    have hS' := hm.heap S _ hSw hS
    have ht' := hm.heap tot _ htw ht
    have hpw : p ∉ wr := fun h => Nat.not_lt.mpr (hwr p h) hp0
    have hp' := hm.heap p _ hpw (hold p _ hp0 hp)
    show wpAny _ A.in1 ((holding [Value.ref p] (binaryOp .Add (.ref tot) (.ref p))).attempt >>= _) _ _ _
    have hsz : (preL rows i).toArray.size + (rows i).toArray.size ≤ sizeLine := by
      have := preL_mono rows (show i + 1 ≤ n by omega)
      rw [preL_succ, List.length_append] at this
      simp only [List.size_toArray]; omega
    refine wpAny_bind (wpAny_attempt (wpAny_holding (PySem.P.add_list ht' hp' ?_ hsz)))
    have hSlt : S < s'.heap.objs.size := Heap.lt_size hS'
    have hne : s'.heap.objs.size ≠ S := Nat.ne_of_gt hSlt
    have ho1 : (s'.heap.push { cls := .type "list", data := .seq ((preL rows i).toArray ++ (rows i).toArray) }).get? S = some (seqObj "list" #[.ref tot] c) := Heap.get?_push_of_some _ hS'
    have hn1 : (s'.heap.push { cls := .type "list", data := .seq ((preL rows i).toArray ++ (rows i).toArray) }).get? s'.heap.objs.size = some { cls := .type "list", data := .seq ((preL rows i).toArray ++ (rows i).toArray) } := Heap.get?_push_size _ rfl
    show wpAny _ A.in1 (updateSeq S (fun _ => #[.ref s'.heap.objs.size]) >>= _) _ _ _
    refine wpAny_bind (wpAny_updateSeq ho1 rfl ?_)
    have ho2 := Heap.get?_update_self (Obj.mapSeq fun _ => #[Value.ref s'.heap.objs.size]) ho1 rfl
    refine wpAny_bind (wpAny_letGo ?_)
    refine wpAny_bind (wpAny_updateSeq ho2 rfl (wpAny_pure ⟨plainId_quiet F.plain_sum_loop _, ih (i + 1) _ s'.heap.objs.size _ 0 (by omega) hlt (W.frame _ s' _ _ hst' (Nat.le_refl _) fun b hb o e => ?_) (Heap.get?_update_self _ ho2 rfl) ?_ (fun h => ?_) (fun _ => Nat.le_trans hS0 (Nat.le_of_lt hSlt)) (fun b o hb e => ?_) fun s'' t'' d'' hm'' h1 h2 => ?_⟩))
    · have hbS : S ≠ b := Nat.ne_of_gt (hSf b hb)
      exact (Heap.get?_update_other _ _ hbS).trans ((Heap.get?_update_other _ _ hbS).trans (Heap.get?_push_of_some _ e))
    · refine (Heap.get?_update_other _ _ (Ne.symm hne)).trans ((Heap.get?_update_other _ _ (Ne.symm hne)).trans (hn1.trans ?_))
      rw [preL_succ]
      show some _ = some _
      congr 2
      simp
    · exact Nat.lt_asymm hSlt (hSf _ (W.sub _ h))
    · have hbS : S ≠ b := Nat.ne_of_gt (Nat.lt_of_lt_of_le hb hS0)
      exact (Heap.get?_update_other _ _ hbS).trans ((Heap.get?_update_other _ _ hbS).trans (Heap.get?_push_of_some _ (hm.heap b _ (fun h => Nat.not_lt.mpr (hwr b h) hb) (hold b o hb e))))
    · refine hR s'' t'' d'' (Moved.trans W.gtrans ((hm.mono hsub).then_heap (Nat.le_refl _) fun b o hb e => ?_) hm'') h1 h2
      have hbS : S ≠ b := fun h : S = b => hb (by rw [h]; exact List.mem_cons_self)
      exact (Heap.get?_update_other _ _ hbS).trans ((Heap.get?_update_other _ _ hbS).trans (Heap.get?_push_of_some _ e))
theorem args_sum2 (a b : Value) : argsOk "sum" ⟨[a, b], []⟩ := by unfold argsOk; kernel_rfl
theorem call_sum_lists {E : Value → Shared → Prop} {s : Shared} {l b : Addr} {items : Array Value} {Q : Value → Shared → Prop} (hh : A.handled = none) (hl : s.heap.IsList l items) {cb : Nat} (hb : s.heap.get? b = some (seqObj "list" #[] cb)) (rows : Nat → List Value)
    (hval : ∀ i v, items[i]? = some v → ∃ p c, v = .ref p ∧ s.heap.get? p = some (seqObj "list" (rows i).toArray c)) (hn : 0 < items.size) (hz : (preL rows items.size).length ≤ sizeLine)
    (h : ∀ s' p c, (∀ b o, s.heap.get? b = some o → s'.heap.get? b = some o) → s'.gens = s.gens → s'.os = s.os → s.heap.objs.size ≤ p → s'.heap.get? p = some (seqObj "list" (preL rows items.size).toArray c) → Q (.ref p) s') :
    wpAny (model P w) A (call (.builtin "sum") [.ref l, .ref b]) Q E s := by
  refine call_function_tree F.kind_sum F.plain_sum F.entry_sum (args_sum2 _ _) ?_
  unfold Builtin.«sum»
  simp only [List.length_cons, List.length_nil]
  rw [if_neg (by decide)]
  refine wpAny_bind (wpAny_of_eq (show Builtin.Builtins.bindParams "sum" ["start"] 0 ⟨[.ref b], []⟩ = pure [some (.ref b)] from rfl) ?_)
  refine wpAny_bind (wpAny_pyIter_list hl ?_)
  have hlt : l < s.heap.objs.size := let ⟨_, ho, _⟩ := hl; Heap.lt_size ho
  have hblt : b < s.heap.objs.size := Heap.lt_size hb
  have hb1 : (s.heap.push { cls := .type "list_iterator", data := .fields #[.ref l, .int 0 0] }).get? b = some (seqObj "list" #[] cb) := Heap.get?_push_of_some _ hb
  have hT : Shared.TypeIs { s with heap := s.heap.push { cls := .type "list_iterator", data := .fields #[.ref l, .int 0 0] } } (.ref b) "list" := ⟨_, hb1, rfl⟩
  refine wpAny_bind (wpAny_pure ?_)
  simp only [List.forIn_cons, List.forIn_nil]
  refine wpAny_bind (wpAny_bind (wpAny_bind (wpAny_isInstance (T := "list") (b := false) hT F.sub_list_str ?_)))
  simp only [Bool.false_eq_true, if_false]
  refine wpAny_pure (wpAny_bind (wpAny_bind (wpAny_isInstance (T := "list") (b := false) hT F.sub_list_bytes ?_)))
  simp only [Bool.false_eq_true, if_false]
  refine wpAny_pure (wpAny_bind (wpAny_bind (wpAny_isInstance (T := "list") (b := false) hT F.sub_list_bytearray ?_)))
  simp only [Bool.false_eq_true, if_false]
  refine wpAny_pure (wpAny_pure ?_)
  refine wpAny_bind (wpAny_newObj_type ?_)
  have hz1 : (s.heap.push { cls := .type "list_iterator", data := .fields #[.ref l, .int 0 0] }).objs.size = s.heap.objs.size + 1 := Heap.size_push ..
  have keep : ∀ b o, s.heap.get? b = some o → ((s.heap.push { cls := .type "list_iterator", data := .fields #[.ref l, .int 0 0] }).push { cls := .type "list", dict := none, data := .seq [Value.ref b].toArray }).get? b = some o := fun b o e => Heap.get?_push_of_some _ (Heap.get?_push_of_some _ e)
  have keep2 : ∀ (X : Obj) b o, s.heap.get? b = some o → ((s.heap.push { cls := .type "list_iterator", data := .fields #[.ref l, .int 0 0] }).push X).get? b = some o := fun X b o e => Heap.get?_push_of_some _ (Heap.get?_push_of_some _ e)
  have hneI : l ≠ s.heap.objs.size := Nat.ne_of_lt hlt
  have hh1 : A.in1.handled = none := by simp [hh]
  have W := (Walks.list (prog := P) (w := w) (A := A.in1) hh1 s.heap.objs.size l hneI items).toS
  refine wpAny_pure ⟨plainId_quiet F.plain_sum_loop _, loop_sum_lists W (s.heap.push { cls := .type "list_iterator", data := .fields #[.ref l, .int 0 0] }).objs.size s.heap.objs.size (fun b hb => ?_) (by rw [hz1]; exact Nat.le_succ _) (fun b hb => ?_) s.heap rows (fun i v hv => ?_) hz items.size 0 _ b 0 cb (by omega) (Nat.zero_le _) ⟨⟨_, Heap.get?_push_of_some _ (Heap.get?_push_size _ rfl), rfl, rfl⟩, (hl.push _).push _⟩ (Heap.get?_push_size _ rfl) (keep2 _ _ _ hb) ?_ (fun h => absurd h (Nat.lt_irrefl _)) (fun c o _ e => keep2 _ _ _ e) fun s' t' d' hm h1 h2 => ?_⟩
  · rw [hz1]
    simp only [List.mem_cons, List.not_mem_nil, or_false] at hb
    rcases hb with rfl | rfl
    · exact Nat.lt_succ_self _
    · exact Nat.lt_succ_of_lt hlt
  · simp only [List.mem_cons, List.not_mem_nil, or_false] at hb
    rw [hb]; exact Nat.le_refl _
  · obtain ⟨p, c, h1, h2⟩ := hval i v hv
    exact ⟨p, c, h1, Heap.lt_size h2, h2⟩
  · simp only [List.mem_cons, List.not_mem_nil, or_false]
    exact Nat.ne_of_lt hblt
  · refine h s' t' d' (fun c o e => hm.heap c o ?_ (keep2 _ _ _ e)) hm.gens hm.os (h2 hn) h1
    have hc : c < s.heap.objs.size := Heap.lt_size e
    simp only [List.mem_cons, List.not_mem_nil, or_false, hz1]
    rintro (rfl | rfl)
    · exact Nat.lt_asymm hc (Nat.lt_succ_self _)
    · exact Nat.lt_irrefl _ hc
end
def valsAt (s : Shared) (p : Addr) : List Value := match s.heap.get? p with
  | some o => (match o.data with | .seq its _ => its.toList | _ => [])
  | none => []
def rowAt (s : Shared) (R : List (Addr × List V)) (i : Nat) : List Value := match R[i]? with | some r => valsAt s r.1 | none => []
theorem preL_rows (s : Shared) (R : List (Addr × List V)) : preL (rowAt s R) R.length = (R.map fun r => valsAt s r.1).flatten := by
  unfold preL
  congr 1
  refine List.ext_getElem (by simp) fun i h1 h2 => ?_
  have h3 : i < R.length := by simpa using h2
  simp only [List.getElem_map, List.getElem_range]
  unfold rowAt
  rw [List.getElem?_eq_getElem h3]
def rSumL : List V → Hp → VK → Prop := fun vs H Q => ∃ (a b : Addr) (R : List (Addr × List V)), vs = [.ref a, .ref b] ∧ H a = some (.lst (R.map fun r => V.ref r.1)) ∧ H b = some (.lst []) ∧ 0 < R.length ∧ (∀ r ∈ R, H r.1 = some (.lst r.2)) ∧ (R.map (·.2)).flatten.length ≤ sizeLine ∧
  ∀ p, H p = none → Q (.ref p) (upd H p (.lst (R.map (·.2)).flatten))
section
variable {X : Cx}
theorem vals2' {a b : V} {us : List Value} (r : Vals [a, b] us) : ∃ u v, us = [u, v] ∧ RelV a u ∧ RelV b v := by
  cases r with
  | cons h1 t => cases t with
    | cons h2 t2 => cases t2; exact ⟨_, _, rfl, h1, h2⟩
theorem cr_sumL (hc : X.calm = true) : CallR X (.builtin "sum") rSumL := by
  intro pins s σ H vs us Q I r ⟨a, b, R, e, ha, hb, hn, hR, hz, q⟩
  subst e
  obtain ⟨u, v, rfl, ru, rv⟩ := vals2' r
  cases ru
  cases rv
  obtain ⟨z1, its, n1, r1, l1, e1⟩ := I.lstM ha
  obtain ⟨z2, its2, n2, r2, l2, e2⟩ := I.lstM hb
  cases r2
  have hrow : ∀ r ∈ R, (∃ c, s.heap.get? r.1 = some (seqObj "list" (valsAt s r.1).toArray c)) ∧ Vals r.2 (valsAt s r.1) := fun r hr => by
    obtain ⟨z, it, n, rr, ll, e⟩ := I.lstM (hR r hr)
    have ev : valsAt s r.1 = it := by unfold valsAt; rw [e]
    rw [ev]
    exact ⟨⟨n, e⟩, rr⟩
  have hvals : ∀ (R' : List (Addr × List V)), (∀ r ∈ R', r ∈ R) → Vals (R'.map (·.2)).flatten (R'.map fun r => valsAt s r.1).flatten := by
    intro R' h
    induction R' with
    | nil => exact .nil
    | cons r R' ih =>
      rw [List.map_cons, List.map_cons, List.flatten_cons, List.flatten_cons]
      exact (hrow r (h r List.mem_cons_self)).2.append (ih fun x hx => h x (List.mem_cons_of_mem _ hx))
  have hV := hvals R fun _ h => h
  have hsz : its.toArray.size = R.length := by rw [List.size_toArray, ← l1, List.length_map]
  have hp : preL (rowAt s R) its.toArray.size = (R.map fun r => valsAt s r.1).flatten := by rw [hsz, preL_rows]
  refine call_sum_lists (I.ok.hd hc) ⟨_, e1, rfl, n1, rfl⟩ e2 (rowAt s R) (fun i v hv => ?_) (by rw [hsz]; exact hn) (by rw [hp, ← hV.length]; exact hz) fun s' p c k g o hm hg => ?_
  · have hv : its[i]? = some v := by rw [← List.getElem?_toArray]; exact hv
    have hi : i < R.length := by
      have := (List.getElem?_eq_some_iff.mp hv).1
      rw [← l1, List.length_map] at this; exact this
    have hri : R[i]? = some R[i] := List.getElem?_eq_getElem hi
    have hx : ∀ {xs : List V} {us : List Value} {i : Nat} {x : V} {u : Value}, Vals xs us → xs[i]? = some x → us[i]? = some u → RelV x u := by
      intro xs us i x u h
      induction h generalizing i with
      | nil => intro h1; simp at h1
      | cons h1 _ ih =>
        intro h2 h3
        cases i with
        | zero => simp at h2 h3; subst h2; subst h3; exact h1
        | succ i => exact ih (by simpa using h2) (by simpa using h3)
    have := hx r1 (i := i) (x := V.ref R[i].1) (u := v) (by rw [List.getElem?_map, hri]; rfl) hv
    cases this
    obtain ⟨⟨c, hc⟩, _⟩ := hrow R[i] (List.getElem_mem hi)
    refine ⟨R[i].1, c, rfl, ?_⟩
    unfold rowAt
    rw [hri]; exact hc
  · rw [hp] at hg
    exact srt_end I k g o ⟨s.heap, fun _ _ e => e, hm⟩ hg hV hz fun hnn => q _ hnn
end
def lSumL (wr : WA) : WA := fun env S Q => wr env S fun xs S1 => match xs with
  | [.ref p, .ref q] => ∃ (js : List Nat) (xss : List (List D)), S1[p]? = some (.lst (js.map D.ref)) ∧ S1[q]? = some (.lst []) ∧ 0 < js.length ∧ xss.length = js.length ∧ (∀ (i j : Nat) (xs : List D), js[i]? = some j → xss[i]? = some xs → S1[j]? = some (.lst xs)) ∧ xss.flatten.length ≤ sizeLine ∧ Q xss.flatten S1
  | _ => False
theorem rows_of {K : Frag} {m : List Addr} {H : Hp} {S : Sto} (s : SR K m H S) : ∀ (js : List Nat) (xss : List (List D)) (us : List V), VRs K m H (js.map D.ref) us → xss.length = js.length → (∀ (i j : Nat) (xs : List D), js[i]? = some j → xss[i]? = some xs → S[j]? = some (.lst xs)) →
    ∃ R : List (Addr × List V), us = R.map (fun r => V.ref r.1) ∧ R.length = js.length ∧ (∀ r ∈ R, H r.1 = some (.lst r.2)) ∧ VRs K m H xss.flatten (R.map (·.2)).flatten := by
  intro js
  induction js with
  | nil =>
    intro xss us h hl _
    cases xss with
    | nil => exact ⟨[], h.nil_inv, rfl, (fun _ h => nomatch h), .nil⟩
    | cons _ _ => simp at hl
  | cons j js ih =>
    intro xss us h hl hS
    cases xss with
    | nil => simp at hl
    | cons xs xss =>
      obtain ⟨u, t, rfl, h1, h2⟩ := h.cons_inv
      simp only [VR] at h1
      obtain ⟨a, rfl, h3⟩ := h1
      obtain ⟨ws, h4, h5⟩ := s.lst h3 (hS 0 j xs rfl rfl)
      obtain ⟨R, rfl, h6, h7, h8⟩ := ih xss t h2 (by simpa using hl) fun i j' xs' e1 e2 => hS (i + 1) j' xs' (by simpa using e1) (by simpa using e2)
      refine ⟨(a, ws) :: R, rfl, by simp [h6], fun r hr => ?_, ?_⟩
      · rcases List.mem_cons.mp hr with rfl | hr
        · exact h4
        · exact h7 r hr
      · rw [List.flatten_cons, List.map_cons, List.flatten_cons]
        exact h5.app h8
theorem fl_sumL {X : Cx} {a : Expr} {es : List Expr} {wr : WA} {p pos : Pos} (hc : X.calm = true) (hg : Gl X "sum") (hm : X.mg "sum" = none) (ha : FA X (a :: es) wr) (he : starEach (a :: es) X.env = (false, eval a X.env) :: starEach es X.env := by rfl) (hpl : (backTo pos (starEach es X.env)).any (·.1) = false := by rfl) : FL X (.Call (.Name "sum" p) (a :: es) [] pos) (lSumL wr) := by
  refine ⟨PE.imp (pe_callB (cr_sumL hc) hg hm (by decide +kernel) ha.p (by decide) (by decide) he hpl) fun σ H Q ⟨env, S, m, Q0, s, r, h, k⟩ => ?_⟩
  refine ⟨env, S, m, _, s, r, h, fun xs S1 us H1 m1 q1 e1 s1 v1 => ?_⟩
  match xs, q1 with
  | [.ref p, .ref q], ⟨js, xss, hp, hq, hn, hl, hS, hz, q1⟩ =>
    obtain ⟨u, t, rfl, h1, h2⟩ := v1.cons_inv
    obtain ⟨u2, t2, rfl, h3, h4⟩ := h2.cons_inv
    cases h4.nil_inv
    simp only [VR] at h1 h3
    obtain ⟨x, rfl, hx⟩ := h1
    obtain ⟨y, rfl, hy⟩ := h3
    obtain ⟨us, hu, vu⟩ := s1.lst hx hp
    obtain ⟨ws, hw, vw⟩ := s1.lst hy hq
    cases vw.nil_inv
    obtain ⟨R, rfl, hl2, hR, vR⟩ := rows_of s1 js xss us vu hl hS
    exact ⟨x, y, R, rfl, hu, hw, by rw [hl2]; exact hn, hR, by rw [← vR.length]; exact hz, fun p hp => k.lst e1 s1 vR hp (e1.back s1 hp) q1⟩
end Z
namespace Z
open PySem PySem.Spec PyProof.Rows L2 RZ
/-! truths over rising borders -/
def cntB (B : List Nat) (x : Nat) : Nat := (B.filter fun b => decide (b ≤ x)).length
theorem cnt_at : ∀ {B : List Nat} {k b x : Nat}, B.Pairwise (· < ·) → B[k]? = some b → b ≤ x → (∀ c, B[k + 1]? = some c → x < c) → cntB B x = k + 1 := by
  intro B
  induction B with
  | nil => intro k b x _ h; simp at h
  | cons a r ih =>
    intro k b x hr hb h1 h2
    obtain ⟨p1, p2⟩ := List.pairwise_cons.mp hr
    cases k with
    | zero =>
      have e : a = b := by simpa using hb
      subst e
      have hall : r.filter (fun b => decide (b ≤ x)) = [] := by
        refine List.filter_eq_nil_iff.mpr fun c hc => ?_
        cases r with
        | nil => cases hc
        | cons c0 r' =>
          have h0 := h2 c0 (by simp)
          rcases List.mem_cons.mp hc with rfl | hc
          · simp; omega
          · have := (List.pairwise_cons.mp p2).1 c hc
            simp; omega
      unfold cntB
      rw [List.filter_cons_of_pos (by simp [h1]), hall]; rfl
    | succ k =>
      have hb' : r[k]? = some b := by simpa using hb
      have hab := p1 b (List.mem_of_getElem? hb')
      unfold cntB
      rw [List.filter_cons_of_pos (by simp; omega), List.length_cons]
      have := ih (k := k) (b := b) (x := x) p2 hb' h1 fun c hc => h2 c (by simpa using hc)
      unfold cntB at this
      omega
/-- whether a moment's stretch is so -/
def TrAt (B : List Nat) (t : List Bool) (x : Nat) : Prop := t[cntB B x - 1]? = some true
instance (B : List Nat) (t : List Bool) (x : Nat) : Decidable (TrAt B t x) := by unfold TrAt; infer_instance
theorem tr_at {B : List Nat} {t : List Bool} {k b x : Nat} (hr : B.Pairwise (· < ·)) (hb : B[k]? = some b) (h1 : b ≤ x) (h2 : ∀ c, B[k + 1]? = some c → x < c) : TrAt B t x ↔ t[k]? = some true := by
  unfold TrAt
  rw [cnt_at hr hb h1 h2]; rfl
theorem next_lt {B : List Nat} (hr : B.Pairwise (· < ·)) {k b c : Nat} (hb : B[k]? = some b) (hc : B[k + 1]? = some c) : b < c := by
  obtain ⟨i1, e1⟩ := List.getElem?_eq_some_iff.mp hb
  obtain ⟨i2, e2⟩ := List.getElem?_eq_some_iff.mp hc
  have := List.pairwise_iff_getElem.mp hr k (k + 1) i1 i2 (by omega)
  rw [e1, e2] at this; exact this
theorem tr_stretch {B : List Nat} {t : List Bool} (hr : B.Pairwise (· < ·)) {k b : Nat} (hb : B[k]? = some b) (x : Nat) (h1 : b ≤ x) (h2 : ∀ c, B[k + 1]? = some c → x < c) : TrAt B t x ↔ TrAt B t b := by
  rw [tr_at hr hb h1 h2, tr_at hr hb (Nat.le_refl _) fun c hc => next_lt hr hb hc]
theorem cnt_pos {B : List Nat} (h0 : B[0]? = some 0) (x : Nat) : 0 < cntB B x ∧ cntB B x ≤ B.length := by
  refine ⟨?_, List.length_filter_le _ _⟩
  cases B with
  | nil => simp at h0
  | cons a r =>
    have : a = 0 := by simpa using h0
    subst this
    unfold cntB
    rw [List.filter_cons_of_pos (by simp)]; simp
theorem tr_zip {B : List Nat} (f : Bool → Bool → Bool) (h0 : B[0]? = some 0) {t u : List Bool} (ht : t.length = B.length) (hu : u.length = B.length) (x : Nat) :
    TrAt B (t.zipWith f u) x ↔ f (decide (TrAt B t x)) (decide (TrAt B u x)) = true := by
  obtain ⟨h1, h2⟩ := cnt_pos h0 x
  have i1 : cntB B x - 1 < t.length := by omega
  have i2 : cntB B x - 1 < u.length := by omega
  have e1 : t[cntB B x - 1]? = some t[cntB B x - 1] := List.getElem?_eq_getElem i1
  have e2 : u[cntB B x - 1]? = some u[cntB B x - 1] := List.getElem?_eq_getElem i2
  generalize t[cntB B x - 1] = a at e1
  generalize u[cntB B x - 1] = b at e2
  have e3 : (t.zipWith f u)[cntB B x - 1]? = some (f a b) := by simp [List.getElem?_zipWith, e1, e2]
  have d1 : decide (TrAt B t x) = a := by
    have : TrAt B t x ↔ a = true := by show t[cntB B x - 1]? = some true ↔ _; rw [e1]; simp
    rw [decide_eq_decide.mpr this]; cases a <;> rfl
  have d2 : decide (TrAt B u x) = b := by
    have : TrAt B u x ↔ b = true := by show u[cntB B x - 1]? = some true ↔ _; rw [e2]; simp
    rw [decide_eq_decide.mpr this]; cases b <;> rfl
  rw [d1, d2]
  show (t.zipWith f u)[cntB B x - 1]? = some true ↔ _
  rw [e3]; simp
theorem tr_and {B : List Nat} (h0 : B[0]? = some 0) {t u : List Bool} (ht : t.length = B.length) (hu : u.length = B.length) (x : Nat) : TrAt B (t.zipWith and u) x ↔ TrAt B t x ∧ TrAt B u x := by
  rw [tr_zip and h0 ht hu]; simp
theorem tr_or {B : List Nat} (h0 : B[0]? = some 0) {t u : List Bool} (ht : t.length = B.length) (hu : u.length = B.length) (x : Nat) : TrAt B (t.zipWith or u) x ↔ TrAt B t x ∨ TrAt B u x := by
  rw [tr_zip or h0 ht hu]; simp
/-- what borders are -/
structure Bord (B : List Nat) : Prop where
  rise : B.Pairwise (· < ·)
  zero : B[0]? = some 0
  len : B.length ≤ 500
  hi : ∀ b ∈ B, b ≤ 1000000000
end Z
namespace Z
open PySem PySem.Spec PyProof.Rows L2 RZ
/-! lists made by a comprehension that leaves the store as it is -/
theorem lc_map {α : Type} {xs : List α} {items : List D} {S1 : Sto} {R : List D → Sto → Prop} {ok : Sto → Prop} {st : (Nat → List D → Sto → Prop) → Nat → D → List D → Sto → Prop} (dOf f : α → D) (hi : items = xs.map dOf) (hok : ok S1) (hl : xs.length ≤ 60000)
    (step : ∀ i a acc (P : Nat → List D → Sto → Prop), xs[i]? = some a → acc.length < sizeLine → P (i + 1) (acc ++ [f a]) S1 → st P i (dOf a) acc S1) (hR : R (xs.map f) S1) :
    ∃ P : Nat → List D → Sto → Prop, P 0 [] S1 ∧ (∀ i acc S, i ≤ items.length → P i acc S → ok S) ∧ (∀ i d acc S, items[i]? = some d → P i acc S → st P i d acc S) ∧ (∀ acc S, P items.length acc S → R acc S) := by
  subst hi
  refine ⟨fun i acc S => acc = (xs.take i).map f ∧ S = S1, ⟨rfl, rfl⟩, ?_, ?_, ?_⟩
  · rintro i acc S _ ⟨_, rfl⟩; exact hok
  · rintro i d acc S hd ⟨rfl, rfl⟩
    obtain ⟨a, ha, rfl⟩ := map_get hd
    refine step i a _ _ ha (sizeL (by rw [List.length_map, List.length_take]; omega)) ⟨?_, rfl⟩
    rw [take_succ_eq ha, List.map_append]; rfl
  · rintro acc S ⟨rfl, rfl⟩
    rw [List.length_map, List.take_length]; exact hR
theorem lc_filter {α : Type} {xs : List α} {items : List D} {S1 : Sto} {R : List D → Sto → Prop} {ok : Sto → Prop} {st : (Nat → List D → Sto → Prop) → Nat → D → List D → Sto → Prop} (dOf f : α → D) (p : α → Bool) (hi : items = xs.map dOf) (hok : ok S1) (hl : xs.length ≤ 60000)
    (step : ∀ i a acc (P : Nat → List D → Sto → Prop), xs[i]? = some a → acc.length < sizeLine → (p a = true → P (i + 1) (acc ++ [f a]) S1) → (p a = false → P (i + 1) acc S1) → st P i (dOf a) acc S1) (hR : R ((xs.filter p).map f) S1) :
    ∃ P : Nat → List D → Sto → Prop, P 0 [] S1 ∧ (∀ i acc S, i ≤ items.length → P i acc S → ok S) ∧ (∀ i d acc S, items[i]? = some d → P i acc S → st P i d acc S) ∧ (∀ acc S, P items.length acc S → R acc S) := by
  subst hi
  refine ⟨fun i acc S => acc = ((xs.take i).filter p).map f ∧ S = S1, ⟨rfl, rfl⟩, ?_, ?_, ?_⟩
  · rintro i acc S _ ⟨_, rfl⟩; exact hok
  · rintro i d acc S hd ⟨rfl, rfl⟩
    obtain ⟨a, ha, rfl⟩ := map_get hd
    have hf : ((xs.take i).filter p).length ≤ xs.length := Nat.le_trans (List.length_filter_le _ _) (by rw [List.length_take]; omega)
    refine step i a _ _ ha (sizeL (by rw [List.length_map]; omega)) (fun h => ⟨?_, rfl⟩) (fun h => ⟨?_, rfl⟩)
    · rw [take_succ_eq ha, List.filter_append, List.filter_cons_of_pos h, List.map_append]; rfl
    · rw [take_succ_eq ha, List.filter_append, List.filter_cons_of_neg (by simp [h])]; simp
  · rintro acc S ⟨rfl, rfl⟩
    rw [List.length_map, List.take_length]; exact hR
/-- each thing some thing of a kind, the store as it is -/
theorem lc_some {α : Type} {xs : List α} {items : List D} {S1 : Sto} {R : List D → Sto → Prop} {ok : Sto → Prop} {st : (Nat → List D → Sto → Prop) → Nat → D → List D → Sto → Prop} (dOf : α → D) {β : Type} (f : β → D) (C : α → β → Prop) (hi : items = xs.map dOf) (hok : ok S1) (hl : xs.length ≤ 60000)
    (step : ∀ i a acc (P : Nat → List D → Sto → Prop), xs[i]? = some a → acc.length < sizeLine → (∀ b, C a b → P (i + 1) (acc ++ [f b]) S1) → st P i (dOf a) acc S1)
    (hR : ∀ ys : List β, ys.length = xs.length → (∀ (i : Nat) (a : α) (b : β), xs[i]? = some a → ys[i]? = some b → C a b) → R (ys.map f) S1) :
    ∃ P : Nat → List D → Sto → Prop, P 0 [] S1 ∧ (∀ i acc S, i ≤ items.length → P i acc S → ok S) ∧ (∀ i d acc S, items[i]? = some d → P i acc S → st P i d acc S) ∧ (∀ acc S, P items.length acc S → R acc S) := by
  subst hi
  refine ⟨fun i acc S => ∃ ys : List β, acc = ys.map f ∧ ys.length = i ∧ (∀ (j : Nat) (a : α) (b : β), xs[j]? = some a → ys[j]? = some b → C a b) ∧ S = S1, ⟨[], rfl, rfl, fun _ _ _ _ h => by simp at h, rfl⟩, ?_, ?_, ?_⟩
  · rintro i acc S _ ⟨_, _, _, _, rfl⟩; exact hok
  · rintro i d acc S hd ⟨ys, rfl, hy, hC, rfl⟩
    obtain ⟨a, ha, rfl⟩ := map_get hd
    have hil := (List.getElem?_eq_some_iff.mp ha).1
    refine step i a _ _ ha (sizeL (by rw [List.length_map]; omega)) fun b hb => ⟨ys ++ [b], by rw [List.map_append]; rfl, by simp [hy], fun j a' b' h1 h2 => ?_, rfl⟩
    by_cases h : j < ys.length
    · rw [List.getElem?_append_left h] at h2; exact hC j a' b' h1 h2
    · have := (List.getElem?_eq_some_iff.mp h2).1
      rw [List.length_append, List.length_singleton] at this
      have e : j = i := by omega
      subst e
      rw [ha] at h1; cases h1
      rw [List.getElem?_append_right (by omega), hy, Nat.sub_self] at h2
      simp at h2; subst h2; exact hb
  · rintro acc S ⟨ys, rfl, hy, hC, rfl⟩
    exact hR ys (by rw [hy, List.length_map]) hC
theorem map_bl {α : Type} {p : α → Bool} {xs : List α} : (xs.map fun a => D.bl (p a)) = (xs.map p).map D.bl := by rw [List.map_map]; rfl
theorem rangeD_map (n : Nat) : rangeD 0 n = (List.range n).map fun k : Nat => D.int (k : Int) := by
  unfold rangeD
  refine List.map_congr_left fun x _ => ?_
  rw [Int.zero_add]
/-! how many moments below -/
def minF (h : Option Nat) (x : Nat) : Nat := match h with | none => x | some k => min k x
def lenB (s : List Spn) (x : Nat) : Nat := (s.map fun p => minF p.2 x - p.1).sum
theorem minF_step (p : Spn) (h : okSp p) (x : Nat) : minF p.2 (x + 1) - p.1 = (minF p.2 x - p.1) + if inP p x then 1 else 0 := by
  obtain ⟨l, e⟩ := p
  cases e with
  | none =>
    show x + 1 - l = x - l + _
    by_cases h1 : l ≤ x
    · rw [if_pos ⟨h1, fun _ h => nomatch h⟩]; omega
    · rw [if_neg fun h => h1 h.1]; omega
  | some k =>
    have hk : l < k := h k rfl
    show min k (x + 1) - l = min k x - l + _
    by_cases h1 : l ≤ x ∧ x < k
    · rw [if_pos ⟨h1.1, fun k' e => by cases e; exact h1.2⟩]; omega
    · rw [if_neg fun h => h1 ⟨h.1, h.2 k rfl⟩]; omega
theorem lenB_step : ∀ {s : List Spn}, Canon s → ∀ x, lenB s (x + 1) = lenB s x + if InS s x then 1 else 0 := by
  intro s
  induction s with
  | nil => intro _ x; rw [if_neg (inS_nil x)]; rfl
  | cons p r ih =>
    intro h x
    have e : ∀ y, lenB (p :: r) y = (minF p.2 y - p.1) + lenB r y := fun y => by unfold lenB; rw [List.map_cons, List.sum_cons]
    rw [e, e, minF_step p h.head, ih h.tail]
    by_cases h1 : inP p x
    · have h2 : ¬ InS r x := fun ⟨q, hq, hx⟩ => by
        obtain ⟨k, e1, e2⟩ := h.bef q hq
        have := h1.2 k e1
        have := hx.1
        omega
      rw [if_pos h1, if_neg h2, if_pos (inS_cons.mpr (.inl h1))]; omega
    · by_cases h2 : InS r x
      · rw [if_neg h1, if_pos h2, if_pos (inS_cons.mpr (.inr h2))]; omega
      · rw [if_neg h1, if_neg h2, if_neg fun h => (inS_cons.mp h).elim h1 h2]; omega
theorem lenB_zero (s : List Spn) : lenB s 0 = 0 := by
  unfold lenB
  induction s with
  | nil => rfl
  | cons p r ih =>
    rw [List.map_cons, List.sum_cons, ih]
    cases p.2 <;> simp [minF]
/-- a stretch's moments below x -/
def strB (B : List Nat) (t : List Bool) (x k : Nat) : Nat := match B[k]?, t[k]? with
  | some b, some true => minF B[k + 1]? x - b
  | _, _ => 0
def sumB (B : List Nat) (t : List Bool) (x n : Nat) : Nat := ((List.range n).map (strB B t x)).sum
theorem sumB_succ (B : List Nat) (t : List Bool) (x n : Nat) : sumB B t x (n + 1) = sumB B t x n + strB B t x n := by
  unfold sumB; rw [List.range_succ, List.map_append, List.sum_append]; simp
theorem cnt_spec {B : List Nat} (hr : B.Pairwise (· < ·)) (h0 : B[0]? = some 0) (x : Nat) : ∃ b, B[cntB B x - 1]? = some b ∧ b ≤ x ∧ ∀ c, B[cntB B x - 1 + 1]? = some c → x < c := by
  -- the last border that is not greater
  have key : ∀ n, n < B.length → (∃ k b, k ≤ n ∧ B[k]? = some b ∧ b ≤ x ∧ ∀ c, k + 1 ≤ n → B[k + 1]? = some c → x < c) := by
    intro n
    induction n with
    | zero => intro _; exact ⟨0, 0, Nat.le_refl _, h0, Nat.zero_le _, fun _ h => by omega⟩
    | succ n ih =>
      intro hn
      obtain ⟨b, hb⟩ : ∃ b, B[n + 1]? = some b := ⟨_, List.getElem?_eq_getElem hn⟩
      by_cases h : b ≤ x
      · exact ⟨n + 1, b, Nat.le_refl _, hb, h, fun _ h => by omega⟩
      · obtain ⟨k, b', h1, h2, h3, h4⟩ := ih (by omega)
        refine ⟨k, b', by omega, h2, h3, fun c hk hc => ?_⟩
        by_cases e : k + 1 ≤ n
        · exact h4 c e hc
        · have : k = n := by omega
          subst this
          rw [hb] at hc; cases hc; omega
  have hp : 0 < B.length := (List.getElem?_eq_some_iff.mp h0).1
  obtain ⟨k, b, h1, h2, h3, h4⟩ := key (B.length - 1) (by omega)
  have h5 : ∀ c, B[k + 1]? = some c → x < c := fun c hc => h4 c (by have := (List.getElem?_eq_some_iff.mp hc).1; omega) hc
  have := cnt_at hr h2 h3 h5
  rw [this]
  exact ⟨b, h2, h3, h5⟩
theorem strB_step {B : List Nat} {t : List Bool} (hr : B.Pairwise (· < ·)) (h0 : B[0]? = some 0) (x k : Nat) : strB B t (x + 1) k = strB B t x k + if k = cntB B x - 1 ∧ TrAt B t x then 1 else 0 := by
  unfold strB
  cases hb : B[k]? with
  | none =>
    have : ¬ (k = cntB B x - 1 ∧ TrAt B t x) := fun ⟨h, _⟩ => by
      obtain ⟨b, h1, _⟩ := cnt_spec hr h0 x
      rw [← h, hb] at h1; cases h1
    rw [if_neg this]
  | some b =>
    have tk : t[k]? = some true ∨ (∀ (b : Nat), (match some b, t[k]? with | some b, some true => (0 : Nat) | _, _ => 1) = 1) ∧ t[k]? ≠ some true := by
      cases e : t[k]? with
      | none => exact .inr ⟨fun _ => rfl, by simp⟩
      | some v => cases v with
        | true => exact .inl rfl
        | false => exact .inr ⟨fun _ => rfl, by simp⟩
    rcases tk with tk | ⟨_, tk⟩
    · rw [tk]
      show minF B[k + 1]? (x + 1) - b = (minF B[k + 1]? x - b) + _
      have hok : okSp (b, B[k + 1]?) := fun c hc => next_lt hr hb hc
      have := minF_step (b, B[k + 1]?) hok x
      rw [show (b, B[k + 1]?).2 = B[k + 1]? from rfl, show (b, B[k + 1]?).1 = b from rfl] at this
      rw [this]
      congr 1
      by_cases h : inP (b, B[k + 1]?) x
      · have e := cnt_at hr hb h.1 h.2
        rw [if_pos h, if_pos ⟨by omega, (tr_at hr hb h.1 h.2).mpr tk⟩]
      · have hn : ¬ (k = cntB B x - 1 ∧ TrAt B t x) := fun ⟨h1, _⟩ => by
          obtain ⟨b', h2, h3, h4⟩ := cnt_spec hr h0 x
          rw [← h1, hb] at h2; cases h2
          rw [← h1] at h4
          exact h ⟨h3, h4⟩
        rw [if_neg h, if_neg hn]
    · have e0 : ∀ y, (match some b, t[k]? with | some b, some true => minF B[k + 1]? y - b | _, _ => 0) = 0 := fun y => by
        cases e : t[k]? with
        | none => rfl
        | some v => cases v with
          | true => exact (tk e).elim
          | false => rfl
      have hn : ¬ (k = cntB B x - 1 ∧ TrAt B t x) := fun ⟨h1, h2⟩ => by
        unfold TrAt at h2
        rw [← h1] at h2
        exact tk h2
      rw [e0, e0, if_neg hn]
theorem sumB_step {B : List Nat} {t : List Bool} (hr : B.Pairwise (· < ·)) (h0 : B[0]? = some 0) (x : Nat) : ∀ n, sumB B t (x + 1) n = sumB B t x n + if cntB B x - 1 < n ∧ TrAt B t x then 1 else 0 := by
  intro n
  induction n with
  | zero => rw [if_neg fun h => by omega]; rfl
  | succ n ih =>
    rw [sumB_succ, sumB_succ, ih, strB_step hr h0]
    by_cases hT : TrAt B t x
    · by_cases h1 : n = cntB B x - 1
      · rw [if_neg fun h => by omega, if_pos ⟨h1, hT⟩, if_pos ⟨by omega, hT⟩]; omega
      · by_cases h2 : cntB B x - 1 < n
        · rw [if_pos ⟨h2, hT⟩, if_neg fun h => h1 h.1, if_pos ⟨by omega, hT⟩]; omega
        · rw [if_neg fun h => h2 h.1, if_neg fun h => h1 h.1, if_neg fun h => by omega]; omega
    · rw [if_neg fun h => hT h.2, if_neg fun h => hT h.2, if_neg fun h => hT h.2]; omega
theorem sumB_zero (B : List Nat) (t : List Bool) : ∀ n, sumB B t 0 n = 0 := by
  intro n
  induction n with
  | zero => rfl
  | succ n ih =>
    rw [sumB_succ, ih, Nat.zero_add]
    unfold strB
    split
    · cases B[n + 1]? <;> simp [minF]
    · rfl
theorem lenB_sum {B : List Nat} {t : List Bool} {s : List Spn} (hr : B.Pairwise (· < ·)) (h0 : B[0]? = some 0) (hs : Canon s) (hi : ∀ x, InS s x ↔ TrAt B t x) : ∀ x, sumB B t x B.length = lenB s x := by
  intro x
  induction x with
  | zero => rw [sumB_zero, lenB_zero]
  | succ x ih =>
    rw [sumB_step hr h0, lenB_step hs, ih]
    congr 1
    obtain ⟨b, h1, _⟩ := cnt_spec hr h0 x
    have hl := (List.getElem?_eq_some_iff.mp h1).1
    by_cases h : TrAt B t x
    · rw [if_pos ⟨hl, h⟩, if_pos ((hi x).mpr h)]
    · rw [if_neg fun h2 => h h2.2, if_neg fun h2 => h ((hi x).mp h2)]
theorem lenB_oth : ∀ (s : List Spn) (l x : Nat), Canon s → (∀ p ∈ s, l ≤ p.1) → lenB s x + lenB (othS (some l) s) x = x - l := by
  intro s
  induction s with
  | nil => intro l x _ _; simp [lenB, othS, minF]
  | cons p r ih =>
    intro l x hc hl
    have hlp := hl p List.mem_cons_self
    have low : lenB (lowS (some l) p.1) x = min p.1 x - l := by
      unfold lowS
      simp only
      split
      · simp [lenB, minF]
      · simp [lenB]; omega
    have app : ∀ a b : List Spn, lenB (a ++ b) x = lenB a x + lenB b x := fun a b => by unfold lenB; rw [List.map_append, List.sum_append]
    have hd : lenB (p :: r) x = (minF p.2 x - p.1) + lenB r x := by unfold lenB; rw [List.map_cons, List.sum_cons]
    have eo : othS (some l) (p :: r) = lowS (some l) p.1 ++ othS p.2 r := rfl
    rw [eo, app, low, hd]
    cases e : p.2 with
    | none =>
      have hr : r = [] := by
        cases r with
        | nil => rfl
        | cons q r' =>
          obtain ⟨k, e', _⟩ := hc.bef q List.mem_cons_self
          rw [e] at e'; cases e'
      subst hr
      simp [lenB, othS, minF]; omega
    | some k =>
      have hk := hc.head k e
      have := ih k x hc.tail fun q hq => by
        obtain ⟨k', e', h⟩ := hc.bef q hq
        rw [e] at e'; cases e'; omega
      simp only [minF]
      omega
theorem lenB_other {s : List Spn} (h : Canon s) (x : Nat) : lenB s x + lenB (otherS s) x = x := lenB_oth s 0 x h fun _ _ => Nat.zero_le _
end Z
namespace Z
open PySem PySem.Spec PyProof.Rows L2 RZ
/-! comprehensions whose store grows -/
theorem lc_filterG {α : Type} {xs : List α} {items : List D} {S1 : Sto} {R : List D → Sto → Prop} {ok : Sto → Prop} {st : (Nat → List D → Sto → Prop) → Nat → D → List D → Sto → Prop} (dOf f : α → D) (p : α → Bool) (hi : items = xs.map dOf) (hok : ∀ g, ok (S1 ++ g)) (hl : xs.length ≤ 60000)
    (step : ∀ i a acc g (P : Nat → List D → Sto → Prop), xs[i]? = some a → acc.length < sizeLine → (p a = true → ∀ g', P (i + 1) (acc ++ [f a]) (S1 ++ g')) → (p a = false → ∀ g', P (i + 1) acc (S1 ++ g')) → st P i (dOf a) acc (S1 ++ g)) (hR : ∀ g, R ((xs.filter p).map f) (S1 ++ g)) :
    ∃ P : Nat → List D → Sto → Prop, P 0 [] S1 ∧ (∀ i acc S, i ≤ items.length → P i acc S → ok S) ∧ (∀ i d acc S, items[i]? = some d → P i acc S → st P i d acc S) ∧ (∀ acc S, P items.length acc S → R acc S) := by
  subst hi
  refine ⟨fun i acc S => acc = ((xs.take i).filter p).map f ∧ ∃ g, S = S1 ++ g, ⟨rfl, [], (List.append_nil _).symm⟩, ?_, ?_, ?_⟩
  · rintro i acc S _ ⟨_, g, rfl⟩; exact hok g
  · rintro i d acc S hd ⟨rfl, g, rfl⟩
    obtain ⟨a, ha, rfl⟩ := map_get hd
    have hf : ((xs.take i).filter p).length ≤ xs.length := Nat.le_trans (List.length_filter_le _ _) (by rw [List.length_take]; omega)
    refine step i a _ g _ ha (sizeL (by rw [List.length_map]; omega)) (fun h g' => ⟨?_, g', rfl⟩) (fun h g' => ⟨?_, g', rfl⟩)
    · rw [take_succ_eq ha, List.filter_append, List.filter_cons_of_pos h, List.map_append]; rfl
    · rw [take_succ_eq ha, List.filter_append, List.filter_cons_of_neg (by simp [h])]; simp
  · rintro acc S ⟨rfl, g, rfl⟩
    rw [List.length_map, List.take_length]; exact hR g
theorem lc_mapG {α : Type} {xs : List α} {items : List D} {S1 : Sto} {R : List D → Sto → Prop} {ok : Sto → Prop} {st : (Nat → List D → Sto → Prop) → Nat → D → List D → Sto → Prop} (dOf f : α → D) (hi : items = xs.map dOf) (hok : ∀ g, ok (S1 ++ g)) (hl : xs.length ≤ 60000)
    (step : ∀ i a acc g (P : Nat → List D → Sto → Prop), xs[i]? = some a → acc.length < sizeLine → (∀ g', P (i + 1) (acc ++ [f a]) (S1 ++ g')) → st P i (dOf a) acc (S1 ++ g)) (hR : ∀ g, R (xs.map f) (S1 ++ g)) :
    ∃ P : Nat → List D → Sto → Prop, P 0 [] S1 ∧ (∀ i acc S, i ≤ items.length → P i acc S → ok S) ∧ (∀ i d acc S, items[i]? = some d → P i acc S → st P i d acc S) ∧ (∀ acc S, P items.length acc S → R acc S) := by
  refine lc_filterG dOf f (fun _ => true) hi hok hl (fun i a acc g P ha hl h1 _ => step i a acc g P ha hl (h1 rfl)) ?_
  rw [List.filter_eq_self.mpr fun _ _ => rfl]; exact hR
theorem zip_filter {α β γ : Type} (p : α → Bool) (f : α → γ) : ∀ (l : List α) (js : List β), js.length = l.length → ((l.zip js).filter fun x => p x.1).map (fun x => f x.1) = (l.filter p).map f
  | [], [], _ => rfl
  | [], _ :: _, h => by simp at h
  | _ :: _, [], h => by simp at h
  | a :: l, j :: js, h => by
    have ih := zip_filter p f l js (by simpa using h)
    rw [List.zip_cons_cons]
    cases hp : p a with
    | true => rw [List.filter_cons_of_pos (by exact hp), List.filter_cons_of_pos hp, List.map_cons, List.map_cons, ih]
    | false => rw [List.filter_cons_of_neg (by simp [hp]), List.filter_cons_of_neg (by simp [hp]), ih]
/-! small things -/
theorem set_id {S : Sto} {r : Nat} {o : O} (h : S[r]? = some o) : S.set r o = S := by
  obtain ⟨h1, h2⟩ := List.getElem?_eq_some_iff.mp h
  rw [← h2]; exact List.set_getElem_self h1
theorem ixN_lst (n : Nat) : ixN (n + 1) (-1) = some n := by
  unfold ixN
  rw [if_neg (by decide), if_pos (by omega)]
  congr 1
  omega
theorem atI_lst {α : Type} (xs : List α) (x : α) : atI (xs ++ [x]) (-1) = some x := by
  unfold atI
  rw [List.length_append, show [x].length = 1 from rfl, ixN_lst]
  show (xs ++ [x])[xs.length]? = some x
  simp
theorem okL_spn (F : List Spn) : okL (F.map spD) := okL_of_fit (n := 1) fun d hd => by
  obtain ⟨p, _, rfl⟩ := List.mem_map.mp hd
  refine fitN_tup fun x hx => ?_
  simp only [List.mem_cons, List.not_mem_nil, or_false] at hx
  rcases hx with rfl | rfl
  · exact fitN_int 0 _
  · cases p.2 with
    | none => exact fitN_non 0
    | some h => exact fitN_int 0 _
abbrev prN (x : Nat × Nat) : D := .tup [natD x.1, natD x.2]
/-! stretches -/
def strS (B : List Nat) : List Spn := B.zip (B.tail.map some ++ [none])
theorem strS_len (B : List Nat) : (strS B).length = B.length := by
  unfold strS
  rw [List.length_zip, List.length_append, List.length_map, List.length_tail, List.length_singleton]; omega
theorem strS_get {B : List Nat} {k b : Nat} (h : B[k]? = some b) : (strS B)[k]? = some (b, B[k + 1]?) := by
  have hk := (List.getElem?_eq_some_iff.mp h).1
  unfold strS
  rw [List.getElem?_zip_eq_some]
  refine ⟨h, ?_⟩
  cases e : B[k + 1]? with
  | none =>
    have := List.getElem?_eq_none_iff.mp e
    rw [List.getElem?_append_right (by rw [List.length_map, List.length_tail]; omega), List.length_map, List.length_tail, show k - (B.length - 1) = 0 by omega]; rfl
  | some c =>
    have := (List.getElem?_eq_some_iff.mp e).1
    rw [List.getElem?_append_left (by rw [List.length_map, List.length_tail]; omega), List.getElem?_map, List.getElem?_tail, e]; rfl
theorem strS_inv {B : List Nat} {k : Nat} {p : Spn} (h : (strS B)[k]? = some p) : B[k]? = some p.1 ∧ p.2 = B[k + 1]? := by
  have hk := (List.getElem?_eq_some_iff.mp h).1
  rw [strS_len] at hk
  have e : B[k]? = some B[k] := List.getElem?_eq_getElem hk
  rw [strS_get e] at h
  cases h
  exact ⟨e, rfl⟩
theorem str_zip (B : List Nat) : zipD (B.map natD) (cutD (B.map natD) (some 1) none ++ [.non]) = (strS B).map spD := by
  have e : cutD (B.map natD) (some 1) none = (B.tail.map some).map highD := by
    rw [show (1 : Int) = ((1 : Nat) : Int) from rfl, cut_drop, List.drop_one, List.map_map]; rfl
  rw [e, show [D.non] = [(none : Option Nat)].map highD from rfl, ← List.map_append]
  unfold zipD strS
  rw [List.zip_map, List.map_map]; rfl
def layAll (P : List Spn) : List Spn := P.foldl (fun F p => layS F p.1 p.2) []
theorem lay_snoc (P : List Spn) (p : Spn) : layAll (P ++ [p]) = layS (layAll P) p.1 p.2 := by unfold layAll; rw [List.foldl_append]; rfl
theorem layAll_len (P : List Spn) : (layAll P).length ≤ P.length := by
  rcases List.eq_nil_or_concat P with rfl | ⟨Q, p, rfl⟩
  · exact Nat.le_refl _
  · rw [List.concat_eq_append, lay_snoc, List.length_append]
    have := layAll_len Q
    have := layS_len (layAll Q) p.1 p.2
    simp; omega
termination_by P.length
decreasing_by simp_wf; subst_vars; simp
theorem lay_str {B : List Nat} (T : Nat → Bool) (hr : B.Pairwise (· < ·)) (h0 : B[0]? = some 0) (hP : ∀ (k b : Nat), B[k]? = some b → ∀ x, b ≤ x → (∀ c, B[k + 1]? = some c → x < c) → T x = T b) :
    ∀ k, k ≤ B.length → LaidTo B (fun x => T x = true) k (layAll (((strS B).take k).filter fun p => T p.1)) := by
  intro k
  induction k with
  | zero => intro _; exact laid_zero h0 _
  | succ k ih =>
    intro hk
    obtain ⟨b, hb⟩ : ∃ b, B[k]? = some b := ⟨_, List.getElem?_eq_getElem (by omega)⟩
    have := laid_step (P := fun x => T x = true) hr hb (ih (by omega)) fun x h1 h2 => by rw [hP k b hb x h1 h2]
    rw [take_succ_eq (strS_get hb), List.filter_append]
    cases hT : T b with
    | true => rw [List.filter_cons_of_pos (by exact hT), List.filter_nil, lay_snoc]; exact this.1 hT
    | false => rw [List.filter_cons_of_neg (by simp [hT]), List.filter_nil, List.append_nil]; exact this.2 (by rw [hT]; decide)
theorem lay_spec {B : List Nat} (T : Nat → Bool) (hr : B.Pairwise (· < ·)) (h0 : B[0]? = some 0) (hP : ∀ (k b : Nat), B[k]? = some b → ∀ x, b ≤ x → (∀ c, B[k + 1]? = some c → x < c) → T x = T b) :
    Canon (layAll ((strS B).filter fun p => T p.1)) ∧ (∀ x, InS (layAll ((strS B).filter fun p => T p.1)) x ↔ T x = true) ∧ (layAll ((strS B).filter fun p => T p.1)).length ≤ B.length := by
  have h := lay_str T hr h0 hP B.length (Nat.le_refl _)
  rw [List.take_of_length_le (by rw [strS_len]; exact Nat.le_refl _)] at h
  exact ⟨(laid_end h (Nat.le_refl _)).1, (laid_end h (Nat.le_refl _)).2, h.len⟩
/-! joined at a moment -/
noncomputable def connB (ts : List Tie) (p o : Nat) : Bool := @decide (Conn ts p o) (Classical.propDecidable _)
theorem connB_iff {ts : List Tie} {p o : Nat} : connB ts p o = true ↔ Conn ts p o := by unfold connB; exact @decide_eq_true_iff _ (Classical.propDecidable _)
noncomputable def joinB (ds : List Deed) (p o x : Nat) : Bool := connB (behL ds (byL ds (x : Int))) p o
theorem byL_at (ds : List Deed) (x : Nat) : byL ds (x : Int) = atN ds x := by
  unfold byL atN
  congr 1
  exact List.filter_congr fun d _ => decide_eq_decide.mpr (by omega)
/-- the borders of a history -/
structure IsB (ds : List Deed) (B : List Nat) : Prop where
  rise : B.Pairwise (· < ·)
  zero : B[0]? = some 0
  mem : ∀ b, b ∈ B ↔ b = 0 ∨ ∃ d ∈ ds, d.mo = b
  len : B.length ≤ ds.length + 1
theorem IsB.same {ds : List Deed} {B : List Nat} (h : IsB ds B) {k b : Nat} (hb : B[k]? = some b) (x : Nat) (h1 : b ≤ x) (h2 : ∀ c, B[k + 1]? = some c → x < c) : byL ds (x : Int) = byL ds (b : Int) := by
  rw [byL_at, byL_at]; exact there_stretch (nm := []) h.rise h.mem hb x h1 h2
theorem IsB.join {ds : List Deed} {B : List Nat} (h : IsB ds B) (p o : Nat) (k b : Nat) (hb : B[k]? = some b) (x : Nat) (h1 : b ≤ x) (h2 : ∀ c, B[k + 1]? = some c → x < c) : joinB ds p o x = joinB ds p o b := by
  unfold joinB; rw [h.same hb x h1 h2]
theorem isB_of {ds : List Deed} {ns : List Int} (hr : ns.Pairwise (· < ·)) (hm : ∀ k, k ∈ ns ↔ k ∈ (0 : Int) :: ds.map fun d => (d.mo : Int)) : ∃ B : List Nat, ns.map D.int = B.map natD ∧ IsB ds B := by
  obtain ⟨B, rfl, h1, h2, h3, h4⟩ := borders_of hr hm
  exact ⟨B, by rw [List.map_map]; rfl, h1, h2, h3, h4⟩
/-! walks from a place on -/
theorem adj_snoc {ts : List Tie} {t : Tie} {x y : Nat} : Adj (ts ++ [t]) x y ↔ Adj ts x y ∨ (t.2.1 = x ∧ t.2.2.1 = y) ∨ (t.2.1 = y ∧ t.2.2.1 = x) := by
  unfold Adj
  constructor
  · rintro ⟨s, hs, h⟩
    rcases List.mem_append.mp hs with hs | hs
    · exact .inl ⟨s, hs, h⟩
    · rw [List.mem_singleton.mp hs] at h; exact .inr h
  · rintro (⟨s, hs, h⟩ | h)
    · exact ⟨s, List.mem_append_left _ hs, h⟩
    · exact ⟨t, by simp, h⟩
structure Bfs (ts : List Tie) (p j : Nat) (ws : List Nat) : Prop where
  nd : ws.Nodup
  has : p ∈ ws
  conn : ∀ x ∈ ws, Conn ts p x
  le : j ≤ ws.length
  cl : ∀ (i x y : Nat), i < j → ws[i]? = some x → Adj ts x y → y ∈ ws
theorem Bfs.first (ts : List Tie) (p : Nat) : Bfs ts p 0 [p] := ⟨by simp, by simp, fun x hx => by rw [List.mem_singleton.mp hx]; exact .refl _, by simp, fun i x y h => by omega⟩
theorem Bfs.len {ts : List Tie} {p j m : Nat} {ws : List Nat} (h : Bfs ts p j ws) (hp : p < m) (hts : ∀ t ∈ ts, t.2.1 < m ∧ t.2.2.1 < m) : ws.length ≤ m := by
  have := nodup_len ws (List.range m) h.nd fun x hx => List.mem_range.mpr ((h.conn x hx).lt hp hts)
  rwa [List.length_range] at this
theorem Bfs.done {ts : List Tie} {p j : Nat} {ws : List Nat} (h : Bfs ts p j ws) (hj : ws.length ≤ j) (x : Nat) : x ∈ ws ↔ Conn ts p x := by
  refine ⟨h.conn x, fun hx => ?_⟩
  induction hx with
  | refl => exact h.has
  | @step y z _ h2 ih =>
    obtain ⟨i, hi, e⟩ := List.mem_iff_getElem.mp ih
    exact h.cl i y z (by omega) (by rw [List.getElem?_eq_getElem hi, e]) h2
/-- while what is beside x is put to ws: us so far, ds gone through -/
structure Bfi (ts : List Tie) (p j : Nat) (ws us : List Nat) : Prop where
  nd : us.Nodup
  pre : ∃ vs, us = ws ++ vs
  conn : ∀ y ∈ us, Conn ts p y
theorem Bfs.start {ts : List Tie} {p j : Nat} {ws : List Nat} (h : Bfs ts p j ws) : Bfi ts p j ws ws := ⟨h.nd, ⟨[], by simp⟩, h.conn⟩
theorem Bfi.len {ts : List Tie} {p j m : Nat} {ws us : List Nat} (h : Bfi ts p j ws us) (hp : p < m) (hts : ∀ t ∈ ts, t.2.1 < m ∧ t.2.2.1 < m) : us.length ≤ m := by
  have := nodup_len us (List.range m) h.nd fun x hx => List.mem_range.mpr ((h.conn x hx).lt hp hts)
  rwa [List.length_range] at this
theorem Bfi.at_ {ts : List Tie} {p j : Nat} {ws us : List Nat} (h : Bfi ts p j ws us) {x : Nat} (hx : ws[j]? = some x) : us[j]? = some x := by
  obtain ⟨vs, rfl⟩ := h.pre
  rw [List.getElem?_append_left (List.getElem?_eq_some_iff.mp hx).1]; exact hx
theorem Bfi.put {ts : List Tie} {p j : Nat} {ws us : List Nat} (h : Bfi ts p j ws us) {x y : Nat} (hx : ws[j]? = some x) (hc : Conn ts p x) (ha : Adj ts x y) (hy : y ∉ us) : Bfi ts p j ws (us ++ [y]) := by
  obtain ⟨vs, rfl⟩ := h.pre
  refine ⟨?_, ⟨vs ++ [y], by rw [List.append_assoc]⟩, fun z hz => ?_⟩
  · rw [List.nodup_append]
    exact ⟨h.nd, by simp, fun a ha b hb e => hy (by rw [← List.mem_singleton.mp hb, ← e]; exact ha)⟩
  · rcases List.mem_append.mp hz with hz | hz
    · exact h.conn z hz
    · rw [List.mem_singleton.mp hz]; exact hc.step ha
theorem Bfs.next {ts : List Tie} {p j : Nat} {ws us : List Nat} (h : Bfs ts p j ws) (h' : Bfi ts p j ws us) {x : Nat} (hx : ws[j]? = some x) (hall : ∀ y, Adj ts x y → y ∈ us) : Bfs ts p (j + 1) us := by
  have hj := (List.getElem?_eq_some_iff.mp hx).1
  obtain ⟨vs, rfl⟩ := h'.pre
  refine ⟨h'.nd, List.mem_append_left _ h.has, h'.conn, by rw [List.length_append]; omega, fun i z y hi hz hzy => ?_⟩
  by_cases hij : i < j
  · rw [List.getElem?_append_left (by omega)] at hz
    exact List.mem_append_left _ (h.cl i z y hij hz hzy)
  · have : i = j := by omega
    subst this
    rw [List.getElem?_append_left hj, hx] at hz
    cases hz
    exact hall y hzy
theorem fitN_dd (n : Nat) {d : Deed} (h : okName d.nm) : FitN (n + 1) (deedD d) := by
  cases d with
  | come mo t =>
    refine fitN_tup fun x hx => ?_
    simp only [List.mem_cons, List.not_mem_nil, or_false] at hx
    rcases hx with rfl | rfl | rfl | rfl | rfl | rfl
    · exact fitN_lit n _ (by decide +kernel)
    · exact fitN_int n _
    · exact fitN_name n h
    · exact fitN_int n _
    · exact fitN_int n _
    · exact fitN_int n _
  | go mo nm =>
    refine fitN_tup fun x hx => ?_
    simp only [List.mem_cons, List.not_mem_nil, or_false] at hx
    rcases hx with rfl | rfl | rfl
    · exact fitN_lit n _ (by decide +kernel)
    · exact fitN_int n _
    · exact fitN_name n h
theorem deed_nm {m : Nat} {ds : List Deed} (h : OkH m ds) {i : Nat} {d : Deed} (e : ds[i]? = some d) : okName d.nm := by
  have := (h.at_ e).2.2.2
  cases d with
  | come mo t => exact this.1.nm
  | go mo n => exact this.1
theorem okL_deeds {m : Nat} {ds es : List Deed} (h : OkH m ds) (hs : ∀ d ∈ es, d ∈ ds) : okL (es.map deedD) := okL_of_fit (n := 1) fun d hd => by
  obtain ⟨x, hx, rfl⟩ := List.mem_map.mp hd
  obtain ⟨j, hj⟩ := List.getElem?_of_mem (hs x hx)
  exact fitN_dd 0 (deed_nm h hj)
theorem ok_deeds {m : Nat} {ds es : List Deed} (h : OkH m ds) (hs : ∀ d ∈ es, d ∈ ds) : okD (dsD es) := (fitN_map (n := 1) (f := deedD) (xs := es) fun x hx => by
  obtain ⟨j, hj⟩ := List.getElem?_of_mem (hs x hx)
  exact fitN_dd 0 (deed_nm h hj)).ok
theorem eqvs_none {α : Type} (f : α → D) (xs : List α) : D.eqvs (xs.map f) [] = xs.isEmpty := by cases xs <;> rfl
def isCome : Deed → Bool | .come _ _ => true | .go _ _ => false
end Z
namespace Z
open PySem PySem.Spec PyProof.Rows L2 RZ
/-! how long: laid together or not -/
theorem lenB_app (s t : List Spn) (x : Nat) : lenB (s ++ t) x = lenB s x + lenB t x := by unfold lenB; rw [List.map_append, List.sum_append]
theorem lenB_one (p : Spn) (x : Nat) : lenB [p] x = minF p.2 x - p.1 := by unfold lenB; simp
theorem lenB_layS {F : List Spn} {low : Nat} {high : Option Nat} (hc : ∀ p ∈ F, okSp p) (hh : okSp (low, high)) (x : Nat) : lenB (layS F low high) x = lenB F x + (minF high x - low) := by
  unfold layS
  rcases List.eq_nil_or_concat F with rfl | ⟨G, p, rfl⟩
  · simp only [List.getLast?_nil, List.nil_append]
    rw [lenB_one]; unfold lenB; simp
  · rw [List.concat_eq_append] at hc ⊢
    obtain ⟨a, e⟩ := p
    rw [List.getLast?_append, List.getLast?_singleton]
    cases e with
    | none =>
      simp only [Option.some_or]
      rw [lenB_app, lenB_one]
    | some h =>
      have h1 : a < h := hc (a, some h) (by simp) h rfl
      simp only [Option.some_or]
      by_cases e : h = low
      · subst e
        rw [if_pos rfl, List.dropLast_concat, lenB_app, lenB_app, lenB_one, lenB_one]
        show lenB G x + (minF high x - a) = lenB G x + (min h x - a) + (minF high x - h)
        have h2 : ∀ k, high = some k → h < k := fun k e => hh k e
        cases high with
        | none => show lenB G x + (x - a) = _ + (x - h); omega
        | some k => have := h2 k rfl; show lenB G x + (min k x - a) = _ + (min k x - h); omega
      · rw [if_neg e, lenB_app, lenB_one]
theorem lenB_lay {B : List Nat} (T : Nat → Bool) (hr : B.Pairwise (· < ·)) (h0 : B[0]? = some 0) (hP : ∀ (k b : Nat), B[k]? = some b → ∀ x, b ≤ x → (∀ c, B[k + 1]? = some c → x < c) → T x = T b) (x : Nat) :
    lenB (layAll ((strS B).filter fun p => T p.1)) x = lenB ((strS B).filter fun p => T p.1) x := by
  have key : ∀ k, k ≤ B.length → lenB (layAll (((strS B).take k).filter fun p => T p.1)) x = lenB (((strS B).take k).filter fun p => T p.1) x := by
    intro k
    induction k with
    | zero => intro _; rfl
    | succ k ih =>
      intro hk
      have hL := lay_str T hr h0 hP k (by omega)
      obtain ⟨b, hb⟩ : ∃ b, B[k]? = some b := ⟨_, List.getElem?_eq_getElem (by omega)⟩
      rw [take_succ_eq (strS_get hb), List.filter_append]
      cases hT : T b with
      | true =>
        rw [List.filter_cons_of_pos (by exact hT), List.filter_nil, lay_snoc, lenB_layS hL.can.ok (fun c e => next_lt hr hb e), ih (by omega), lenB_app, lenB_one]
      | false => rw [List.filter_cons_of_neg (by simp [hT]), List.filter_nil, List.append_nil]; exact ih (by omega)
  have := key B.length (Nat.le_refl _)
  rwa [List.take_of_length_le (by rw [strS_len]; exact Nat.le_refl _)] at this
theorem len_join {ds : List Deed} {B : List Nat} (hB : IsB ds B) {p o : Nat} {s : List Spn} (h : Canon s) (hs : ∀ x, InS s x ↔ joinB ds p o x = true) (x : Nat) : lenB s x = lenB ((strS B).filter fun y => joinB ds p o y.1) x := by
  rw [← lenB_lay (joinB ds p o) hB.rise hB.zero (hB.join p o)]
  obtain ⟨c1, c2, _⟩ := lay_spec (joinB ds p o) hB.rise hB.zero (hB.join p o)
  rw [Z.Canon.ext h c1 fun y => by rw [hs, c2]]
theorem spans_of {ds : List Deed} {B : List Nat} (hB : IsB ds B) (p o : Nat) : ∃ s, Canon s ∧ (∀ x, InS s x ↔ joinB ds p o x = true) ∧ s.length ≤ B.length := ⟨_, lay_spec (joinB ds p o) hB.rise hB.zero (hB.join p o)⟩
theorem lenB_all {s : List Spn} (h : Canon s) (ha : ∀ x, InS s x) (x : Nat) : lenB s x = x := by
  induction x with
  | zero => exact lenB_zero s
  | succ x ih => rw [lenB_step h, ih, if_pos (ha x)]
theorem joinB_self (ds : List Deed) (p x : Nat) : joinB ds p p x = true := by unfold joinB; rw [connB_iff]; exact .refl _
theorem joinB_symm (ds : List Deed) (p o x : Nat) : joinB ds p o x = joinB ds o p x := by
  unfold joinB
  rw [Bool.eq_iff_iff, connB_iff, connB_iff]
  exact ⟨fun h => h.symm, fun h => h.symm⟩
/-- the last moment below x -/
def lastF (s : List Spn) (x : Nat) : Option Nat := s.foldl (fun f p => if p.1 < x then some (minF p.2 x - 1) else f) none
theorem lastF_snoc (s : List Spn) (p : Spn) (x : Nat) : lastF (s ++ [p]) x = if p.1 < x then some (minF p.2 x - 1) else lastF s x := by unfold lastF; rw [List.foldl_append]; rfl
def firstD : List Spn → D
  | [] => .non
  | p :: _ => natD p.1
theorem deed_mo (x : Deed) : ∃ us, deedD x = .tup us ∧ atI us 1 = some (natD x.mo) := by cases x <;> exact ⟨_, rfl, rfl⟩
theorem deed_nm2 (x : Deed) : ∃ us, deedD x = .tup us ∧ atI us 2 = some (.str (T x.nm)) := by cases x <;> exact ⟨_, rfl, rfl⟩
end Z
namespace Z
open PySem PySem.Spec PyProof.Rows L2 RZ
/-! sorted(d), the keys of d are tuples -/
def rSrtK (X : Cx) : List V → Hp → VK → Prop := fun vs H Q => ∃ a kvs, vs = [.ref a] ∧ Rd H a (.dT kvs) ∧ ∀ bs : List Addr, IsKeys H kvs bs → SortV H (bs.map V.ref) ∧
  ∀ ys p, ys.Perm (bs.map V.ref) → ys.Pairwise (fun x y => ltK (keysV (tupOf H y)) (keysV (tupOf H x)) = false) → H p = none → Q (.ref p) (upd H p (.lst ys))
theorem cr_srtK {X : Cx} (hc : X.calm = true) : CallR X (.builtin "sorted") (rSrtK X) := by
  intro pins s σ H vs us Q I r ⟨a, kvs, e, hrd, hq⟩
  subst e
  obtain ⟨v, rfl, rv⟩ := vals1 r
  cases rv
  obtain ⟨hz, lo, xs, kt, o, es, ep, ho, hx, hd, he, hk, nd⟩ := dt_rd I.hok hrd
  have hl : kvs.length = xs.length := Paired.length kt
  have hes : es.size = xs.length := by rw [← Array.length_toList, he, List.length_map]
  obtain ⟨hS, q⟩ := hq _ (isKeys_of kt)
  refine srtT_of hc I (fun A E R hh k => ?_) hS q
  refine PySem.W.kdu_collect (kdl_raw lo hx hd) hh ho (by omega) fun h' tk acc hk' hacc => k _ _ hk' rfl rfl ?_ (by rw [List.length_map, List.length_map, ← hl]; exact hz)
  have e1 : acc.toList = (xs.map fun x => x.2.1).map Value.ref := by
    refine List.ext_getElem? fun i => ?_
    by_cases hi : i < xs.length
    · have hia : i < acc.size := by rw [hacc.1, hes]; exact hi
      have ga : acc[i]? = some acc[i] := Array.getElem?_eq_getElem hia
      obtain ⟨en, e2, e3⟩ := hacc.2 i acc[i] ga
      rw [entry_at he i, List.getElem?_eq_getElem hi] at e2
      rw [Array.getElem?_toList, ga, e3]
      rw [List.getElem?_map, List.getElem?_map, List.getElem?_eq_getElem hi]
      have e4 := Option.some.inj e2
      rw [← e4]; rfl
    · rw [List.getElem?_eq_none (by rw [Array.length_toList, hacc.1, hes]; omega), List.getElem?_eq_none (by rw [List.length_map, List.length_map]; omega)]
  rw [e1]
  exact vals_refs _
abbrev keyTup (k : List Key) : D := .tup (k.map kD)
def lSortKT (w : WE) : WA := fun env S Q => w env S fun x S1 => match x with
  | .ref p => ∃ kvs, S1[p]? = some (.dT kvs) ∧ SortD (kvs.map fun kv => keyTup kv.1) ∧ ∀ ys : List D, ys.Perm (kvs.map fun kv => keyTup kv.1) → ys.Pairwise (fun a b => ltK (keyT b) (keyT a) = false) → Q ys S1
  | _ => False
theorem vrs_kD {K : Frag} {m : List Addr} {H : Hp} : ∀ ks : List Key, VRs K m H (ks.map kD) (ks.map kV)
  | [] => .nil
  | k :: ks => .cons (by cases k <;> simp only [kD, kV, VR]) (vrs_kD ks)
theorem vrs_isKeys {K : Frag} {m : List Addr} {H : Hp} {kvs : List (List Key × D)} {us : List (List Key × V)} (h : KVR K m H kvs us) : ∀ {bs : List Addr}, IsKeys H us bs → VRs K m H (kvs.map fun kv => keyTup kv.1) (bs.map V.ref) := by
  induction h with
  | nil => intro bs hb; cases hb; exact .nil
  | @cons k d v r t _ _ ih =>
    intro bs hb
    cases hb with
    | cons h1 h2 => exact .cons (by simp only [VR]; exact ⟨_, _, rfl, h1, vrs_kD k⟩) (ih h2)
section
variable {X : Cx} {a b e o : Expr} {w wa wb : WE} {p p2 pos : Pos}
theorem fl_sortKT (hc : X.calm = true) (hg : Gl X "sorted") (hm : X.mg "sorted" = none) (h : FE X e w) (hs : starEach [e] X.env = (false, eval e X.env) :: starEach [] X.env := by rfl) : FL X (.Call (.Name "sorted" p) [e] [] pos) (lSortKT w) := by
  refine ⟨PE.imp (pe_callB (cr_srtK hc) hg hm (by decide +kernel) (pa_cons h.p pa_nil hs) (by decide) (by decide) hs rfl) fun σ H Q ⟨env, S, m, Q0, s, r, h, k⟩ => ?_⟩
  refine lift_k s r h fun x S1 u H1 m1 q1 e1 s1 v1 => ?_
  cases x with
  | ref i =>
    simp only [VR] at v1
    obtain ⟨a, rfl, h2⟩ := v1
    obtain ⟨kvs, h3, hS, q⟩ := q1
    obtain ⟨b, h4, us, h5, h6⟩ := s1.at_ i _ h3
    rw [h2] at h4; cases h4
    refine ⟨a, us, rfl, .inl h5, fun bs hb => ?_⟩
    have hv := vrs_isKeys h6 hb
    refine ⟨hS.v hv, fun ys p h1 h2 hp => ?_⟩
    obtain ⟨ds', h3, h4⟩ := perm_vrs hv h1
    have hS' : SortD ds' := ⟨fun x hx => hS.tup x (h3.mem_iff.mp hx), hS.hd.imp (fun h x hx => h x (h3.mem_iff.mp hx)) fun h x hx => h x (h3.mem_iff.mp hx), fun x hx y hy => hS.lex x (h3.mem_iff.mp hx) y (h3.mem_iff.mp hy)⟩
    exact k.lst e1 s1 h4 hp (e1.back s1 hp) (q ds' h3 (hS'.pw h4 h2))
  | _ => exact q1.elim
/-- a list that stands, so many times -/
def lRepE (w1 w2 : WE) : WA := fun env S Q => w1 env S fun x S1 => w2 env S1 fun y S2 => match x, y with
  | .ref p, .int j => ∃ xs, S2[p]? = some (.lst xs) ∧ (-(2 ^ 63) ≤ j ∧ j < 2 ^ 63 ∧ xs.length * j.toNat ≤ sizeLine) ∧ Q (List.replicate j.toNat xs).flatten S2
  | _, _ => False
theorem fl_repE {w1 w2 : WE} (h1 : FE X a w1) (h2 : FE X b w2) : FL X (.BinOp a .Mult b pos) (lRepE w1 w2) := by
  refine ⟨PE.imp (pe_op op_rep h1.p h2.p) fun σ H Q ⟨env, S, m, Q0, s, r, h, k⟩ => ?_⟩
  refine lift_k s r h fun x S1 u H1 m1 q1 e1 s1 v1 => ?_
  refine lift_k s1 (r.ext e1.toEx) q1 fun y S2 v H2 m2 q2 e2 s2 v2 => ?_
  have e12 := e1.trans e2
  have v1' := v1.ext e2.toEx
  cases x with
  | ref i =>
    cases y with
    | int j =>
      simp only [VR] at v1' v2
      obtain ⟨a, rfl, h2⟩ := v1'
      obtain ⟨xs, h3, hb, q⟩ := q2
      obtain ⟨us, h5, h6⟩ := s2.lst h2 h3
      exact ⟨a, j, us, rfl, v2, h5, hb.1, hb.2.1, by rw [← h6.length]; exact hb.2.2, fun p hp => k.lst e12 s2 (h6.rep _) hp (e12.back s2 hp) q⟩
    | _ => exact q2.elim
  | _ => exact q2.elim
end
end Z
namespace Z
open PySem PySem.Spec PyProof.Rows L2 RZ
/-! instances of the program's own classes; a class is told by its name -/
abbrev ClsAt (K : Frag) (cls : Str) (C : Addr) : Prop := PySem.W.nsIn K mainGlobals cls = some (some (.ref C))
def putFD (f : Str) (d : D) : List (Str × D) → List (Str × D)
  | [] => [(f, d)]
  | (g, x) :: r => if g = f then (g, d) :: r else (g, x) :: putFD f d r
section
variable {K : Frag} {m : List Addr} {H : Hp}
theorem KVR.look {fs : List (Str × D)} {us : List (Str × V)} {f : Str} {d : D} (h : KVR K m H fs us) (e : fs.lookup f = some d) : ∃ v, us.lookup f = some v ∧ VR K m H d v := by
  induction h with
  | nil => simp at e
  | @cons k x v r t hx _ ih =>
    rw [List.lookup_cons] at e ⊢
    cases hk : (f == k) with
    | true => rw [hk] at e; cases e; exact ⟨v, rfl, hx⟩
    | false => rw [hk] at e; exact ih e
theorem KVR.lookN {fs : List (Str × D)} {us : List (Str × V)} {f : Str} (h : KVR K m H fs us) (e : fs.lookup f = none) : us.lookup f = none := by
  induction h with
  | nil => rfl
  | @cons k x v r t hx _ ih =>
    rw [List.lookup_cons] at e ⊢
    cases hk : (f == k) with
    | true => rw [hk] at e; cases e
    | false => rw [hk] at e; exact ih e
theorem KVR.putF {fs : List (Str × D)} {us : List (Str × V)} {f : Str} {d : D} {v : V} (hv : VR K m H d v) (h : KVR K m H fs us) : KVR K m H (putFD f d fs) (L2.putF f v us) := by
  induction h with
  | nil => exact .cons hv .nil
  | @cons k x w r t hx ht ih =>
    show KVR K m H (if k = f then (k, d) :: r else (k, x) :: putFD f d r) (if k = f then (k, v) :: t else (k, w) :: L2.putF f v t)
    by_cases e : k = f
    · rw [if_pos e, if_pos e]; exact .cons hv ht
    · rw [if_neg e, if_neg e]; exact .cons hx ih
end
def wFld (cls f : Str) (w : WE) : WE := fun env S Q => w env S fun x S1 => match x with
  | .ref p => ∃ fs d, S1[p]? = some (.ins cls fs) ∧ fs.lookup f = some d ∧ Q d S1
  | _ => False
def sFldD (cls f : Str) (wo wv : WE) : WS := fun D env S => wv env S fun y S1 => wo env S1 fun x S2 => match x with
  | .ref p => ∃ fs, S2[p]? = some (.ins cls fs) ∧ fs.length < 1000 ∧ D.nx env (S2.set p (.ins cls (putFD f y fs)))
  | _ => False
def insOf (cls m : Str) (x : D) (S : Sto) : Prop := match x with
  | .ref p => ∃ fs, S[p]? = some (.ins cls fs) ∧ fs.lookup m = none
  | _ => False
def wMeth (cls m : Str) (sp : DSp) (wo : WE) (wr : WA) : WE := fun env S Q => wo env S fun x S1 => insOf cls m x S1 ∧ wr env S1 fun ds S2 => sp (x :: ds) S2 Q fun _ _ _ => False
def wMake (cls : Str) (sp : DSp) (wr : WA) : WE := fun env S Q => wr env S fun ds S1 => sp (.ref S1.length :: ds) (S1 ++ [.ins cls []]) (fun v S2 => v = .non ∧ Q (.ref S1.length) S2) fun _ _ _ => False
def sNever : WS := fun _ _ _ => False
def wNever : WE := fun _ _ _ => False
section
variable {X : Cx} {CX : CXT} {k : Nat} {f C : Addr} {fd : FuncData} {ps : List Str} {sp : DSp} {cls x g : Str} {p pos apos : Pos} {e o v : Expr} {es : List Expr} {wr : WA} {wo wv w : WE} {st : Stmt} {pl : Sem Bool}
theorem fs_never : FS X st sNever := ⟨PS.imp ps_never fun D σ H ⟨env, S, m, D0, s, r, h, k⟩ => h.elim⟩
theorem ins_rd {K : Frag} {m : List Addr} {H : Hp} {S : Sto} (hn : ClsAt K cls C) (s : SR K m H S) {i : Nat} {a : Addr} {fs : List (Str × D)} (hi : m[i]? = some a) (h : S[i]? = some (.ins cls fs)) : ∃ dx us, H a = some (.ins C dx us) ∧ KVR K m H fs us := by
  obtain ⟨b, h1, A, dx, us, n, h2, h3⟩ := s.at_ i _ h
  rw [hi] at h1; cases h1
  have e : A = C := by
    have := n.symm.trans hn
    injection this with e1
    injection e1 with e2
    injection e2
  subst e
  exact ⟨dx, us, h2, h3⟩
theorem fe_fld (hn : ClsAt X.K cls C) (hc : Cls X.K C) (hf : NoAttr X.K C g) (h : FE X e w) (hb : attributeBase e g X.env (eval e X.env) = eval e X.env := by rfl) : FE X (.Attribute e g pos) (wFld cls g w) := by
  refine ⟨PE.imp (pe_fld h.p hb) fun σ H Q ⟨env, S, m, Q0, s, r, h, k⟩ => ?_⟩
  refine lift_k s r h fun x S1 u H1 m1 q1 e1 s1 v1 => ?_
  cases x with
  | ref i =>
    simp only [VR] at v1
    obtain ⟨a, rfl, h2⟩ := v1
    obtain ⟨fs, d, h3, h4, q⟩ := q1
    obtain ⟨dx, us, ha, kv⟩ := ins_rd hn s1 h2 h3
    obtain ⟨y, hy, ry⟩ := kv.look h4
    exact ⟨a, C, dx, us, y, rfl, ha, hc, hf, hy, k _ _ _ _ _ q e1 s1 ry⟩
  | _ => exact q1.elim
theorem fs_fld (hn : ClsAt X.K cls C) (hc : Cls X.K C) (hf : NoAttr X.K C g) (ho : FE X o wo) (hv : FE X v wv) {pos' : Pos} (hs : swapsWith v (some (o.Attribute g pos')) pos.line X.env = pure false := by rfl) : FS X (.Assign [.Attribute o g pos'] v pos) (sFldD cls g wo wv) := by
  refine ⟨PS.imp (ps_fld ho.p hv.p hs) fun D σ H ⟨env, S, m, D0, s, r, h, k⟩ => ?_⟩
  refine lift_k s r h fun y S1 u H1 m1 q1 e1 s1 v1 => ?_
  refine lift_k s1 (r.ext e1.toEx) q1 fun x S2 w' H2 m2 q2 e2 s2 v2 => ?_
  cases x with
  | ref i =>
    simp only [VR] at v2
    obtain ⟨a, rfl, h2⟩ := v2
    obtain ⟨fs, h3, hl, q⟩ := q2
    obtain ⟨dx, us, ha, kv⟩ := ins_rd hn s2 h2 h3
    have e12 := e1.trans e2
    obtain ⟨e3, s3⟩ := s2.write (ho := .ins C dx (L2.putF g u us)) (o := .ins cls (putFD g y fs)) h2 fun H' e hh => ⟨C, dx, _, hn, hh, KVR.putF (v1.ext (e2.toEx)|>.ext e.toEx) (kv.ext e.toEx)⟩
    exact ⟨a, C, dx, us, rfl, ha, hc, hf, by rw [← kv.length]; exact hl, k.nx _ _ _ _ _ q (e12.trans e3) s3 (r.ext (e12.trans e3).toEx)⟩
  | _ => exact q2.elim
theorem lift_meth (hn : ClsAt X.K cls C) {tr : TA} {σ : L2.St} {H : Hp} {Q : VK} (hr : ∀ σ H Q, liftA X.K wr σ H Q → tr σ H Q) (h : lift X.K (wMeth cls g sp wo wr) σ H Q) : tMeth C g (liftSp X.K sp) [] E0 (lift X.K wo) tr σ H Q := by
  obtain ⟨env, S, m, Q0, s, r, h, k⟩ := h
  refine lift_k s r h fun x S1 u H1 m1 q1 e1 s1 v1 => ?_
  obtain ⟨hi, q1⟩ := q1
  cases x with
  | ref i =>
    have v1' := v1
    simp only [VR] at v1
    obtain ⟨a, rfl, h2⟩ := v1
    obtain ⟨fs, h3, h4⟩ := hi
    obtain ⟨dx, us, ha, kv⟩ := ins_rd hn s1 h2 h3
    refine ⟨a, dx, us, rfl, ha, kv.lookN h4, hr _ _ _ ⟨env, S1, m1, _, s1, r.ext e1.toEx, q1, fun ds S2 vs H2 m2 q2 e2 s2 v2 => ?_⟩⟩
    show liftSp X.K sp (.ref a :: (vs ++ [])) H2 Q E0
    rw [List.append_nil]
    exact ⟨.ref i :: ds, S2, m2, Q0, _, s2, .cons (v1'.ext e2.toEx) v2, q2, k.ext (e1.trans e2), fun _ _ _ _ _ _ z => z.elim⟩
  | _ => exact hi.elim
theorem fe_meth (hn : ClsAt X.K cls C) (hc : Cls X.K C) (hm : Meth X.K C g f) (F : FnOk X.prog X.w X.K X.mg X.base CX k f fd ps (liftSp X.K sp)) (hr : Room k X.A) (hb : Binds X.K fd ps []) (hx : Passes CX X E0) (ho : FE X o wo) (ha : FA X (e :: es) wr)
    (he : starEach (e :: es) X.env = (false, eval e X.env) :: starEach es X.env := by rfl) (hpl : (backTo pos (starEach es X.env)).any (·.1) = false := by rfl)
    (hev : eval (.Call (.Attribute o g apos) (e :: es) [] pos) X.env = (do
      let ov ← eval o X.env
      standAt apos.atName
      let (f, first) ← holding [ov] (getMethod ov g pl)
      callWith pos f first (backTo pos (starEach (e :: es) X.env)) (backToKw pos (keywordEach [] X.env))) := by rfl) :
    FE X (.Call (.Attribute o g apos) (e :: es) [] pos) (wMeth cls g sp wo wr) :=
  ⟨PE.imp (pe_meth (pl := pl) ho.p hc hm F hr hb .nil hx ha.p he hpl hev) fun σ H Q h => lift_meth hn (fun _ _ _ h => h) h⟩
theorem fe_meth0 (hn : ClsAt X.K cls C) (hc : Cls X.K C) (hm : Meth X.K C g f) (F : FnOk X.prog X.w X.K X.mg X.base CX k f fd ps (liftSp X.K sp)) (hr : Room k X.A) (hb : Binds X.K fd ps []) (hx : Passes CX X E0) (ho : FE X o wo)
    (hev : eval (.Call (.Attribute o g apos) [] [] pos) X.env = (do
      let ov ← eval o X.env
      standAt apos.atName
      let (f, first) ← holding [ov] (getMethod ov g pl)
      callWith pos f first (backTo pos (starEach [] X.env)) (backToKw pos (keywordEach [] X.env))) := by rfl) :
    FE X (.Call (.Attribute o g apos) [] [] pos) (wMeth cls g sp wo aNil) :=
  ⟨PE.imp (pe_meth0 (pl := pl) ho.p hc hm F hr hb .nil hx hev) fun σ H Q h => lift_meth hn (fun σ H Q ⟨env, S, m, Q0, s, r, h, k⟩ => k _ _ _ _ _ h Ext.refl s .nil) h⟩
theorem fe_make (hn : ClsAt X.K cls C) (M : Mk X.K C f) (F : FnOk X.prog X.w X.K X.mg X.base CX k f fd ps (liftSp X.K sp)) (hr : Room (k + 1) X.A) (hg : Gl X x) (hm : X.mg x = some (.ref C)) (hb : Binds X.K fd ps []) (hx : Passes CX X E0) (ha : FA X (e :: es) wr)
    (hd : (x == ("__debug__" : Str)) = false := by decide) (he : starEach (e :: es) X.env = (false, eval e X.env) :: starEach es X.env := by rfl) (hpl : (backTo pos (starEach es X.env)).any (·.1) = false := by rfl) :
    FE X (.Call (.Name x p) (e :: es) [] pos) (wMake cls sp wr) := by
  refine ⟨PE.imp (pe_make M F hr hg hm hb .nil hx ha.p hd he hpl) fun σ H Q ⟨env, S, m, Q0, s, r, h, k⟩ => ?_⟩
  refine ⟨env, S, m, _, s, r, h, fun ds S1 vs H1 m1 q1 e1 s1 v1 => ?_⟩
  intro y dx hy hdx hne
  obtain ⟨nm, e2, s2⟩ := s1.laid (ho := .own y) hdx
  have hy2 : (upd H1 dx (.own y)) y = none := by rw [upd_ne (Ne.symm hne)]; exact hy
  obtain ⟨e3, s3, h3⟩ := s2.new (ho := .ins C dx []) (o := .ins cls []) hy2 fun m' H' e hh => ⟨C, dx, [], hn, hh, .nil⟩
  have e123 := (e1.trans e2).trans e3
  show liftSp X.K sp (.ref y :: (vs ++ [])) _ _ E0
  rw [List.append_nil]
  refine ⟨.ref S1.length :: ds, _, _, _, _, s3, .cons (by simp only [VR]; exact ⟨y, rfl, h3⟩) (v1.ext (e2.trans e3).toEx), q1, fun d S' u H' m' q e4 s4 r4 => ?_, fun _ _ _ _ _ _ z => z.elim⟩
  obtain ⟨rfl, q⟩ := q
  simp only [VR] at r4
  exact ⟨r4, k _ _ _ _ _ q (e123.trans e4) s4 (by simp only [VR]; exact ⟨y, rfl, e4.pre _ _ h3⟩)⟩
end
end Z
namespace Z
open PySem PySem.Spec PyProof.Rows L2 RZ
/-! xs[lo:hi:k], k not 0 -/
def pickX {α : Type} (xs : List α) (lo hi : Option Int) (k : Int) : List α := (sliceRange (sliceBounds lo hi (some k) xs.length).1 (sliceBounds lo hi (some k) xs.length).2.1 (sliceBounds lo hi (some k) xs.length).2.2).filterMap (xs[·]?)
theorem pickX_mem {α : Type} {xs : List α} {lo hi : Option Int} {k : Int} {y : α} (h : y ∈ pickX xs lo hi k) : y ∈ xs := by
  obtain ⟨i, _, e⟩ := List.mem_filterMap.mp h
  exact List.mem_of_getElem? e
theorem pickX_len {α : Type} (xs : List α) (lo hi : Option Int) (k : Int) (hk : k ≠ 0) : (pickX xs lo hi k).length ≤ xs.length := by
  refine Nat.le_trans (List.length_filterMap_le _ _) (sliceRange_length_le _ _ _ _ (fun h => ?_) fun h => ?_)
  · have h : k > 0 := h
    constructor
    · cases lo with
      | none => simp only [sliceBounds, Option.getD_some, h, if_true]; omega
      | some i => simp only [sliceBounds, Option.getD_some, h, if_true]; split <;> omega
    · cases hi with
      | none => simp only [sliceBounds, Option.getD_some, h, if_true]; omega
      | some i => simp only [sliceBounds, Option.getD_some, h, if_true]; split <;> omega
  · have h : ¬ k > 0 := h
    constructor
    · cases lo with
      | none => simp only [sliceBounds, Option.getD_some, h, if_false]; omega
      | some i => simp only [sliceBounds, Option.getD_some, h, if_false]; split <;> omega
    · cases hi with
      | none => simp only [sliceBounds, Option.getD_some, h, if_false]; omega
      | some i => simp only [sliceBounds, Option.getD_some, h, if_false]; split <;> omega
theorem pickX_map {α β : Type} (f : α → β) (xs : List α) (lo hi : Option Int) (k : Int) : pickX (xs.map f) lo hi k = (pickX xs lo hi k).map f := by
  unfold pickX
  rw [List.length_map, List.map_filterMap]
  congr 1
  funext i
  rw [List.getElem?_map]
theorem filterMap_of {α β : Type} {f : α → Option β} {l : List α} {ys : List β} (h : l.map f = ys.map some) : l.filterMap f = ys := by
  have e : l.filterMap f = (l.map f).filterMap id := by rw [List.filterMap_map]; rfl
  rw [e, h, List.filterMap_map]
  exact List.filterMap_some ..
theorem map_rangeE {α : Type} {g : Nat → Nat} {xs ys : List α} {c : Nat} (hc : ys.length = c) (h : ∀ i, i < c → xs[g i]? = ys[i]?) : ((List.range c).map g).map (xs[·]?) = ys.map some := by
  refine List.ext_getElem? fun i => ?_
  rw [List.getElem?_map, List.getElem?_map, List.getElem?_map]
  by_cases hi : i < c
  · rw [List.getElem?_range hi, List.getElem?_eq_getElem (by omega : i < ys.length)]
    show some (xs[g i]?) = _
    rw [h i hi, List.getElem?_eq_getElem (by omega : i < ys.length)]; rfl
  · rw [List.getElem?_eq_none (by simpa using hi), List.getElem?_eq_none (by omega)]; rfl
theorem sr_up (n : Nat) : sliceRange 0 (n : Int) 1 = (List.range n).map fun (k : Nat) => ((0 : Int) + 1 * (k : Int)).toNat := by
  have e : (if (1 : Int) > 0 then if (0 : Int) < (n : Int) then ((n : Int) - 0 + 1 - 1) / 1 else 0 else if (0 : Int) > (n : Int) then ((0 : Int) - (n : Int) - 1 - 1) / -1 else 0).toNat = n := by
    rw [if_pos (by decide)]; split <;> omega
  unfold sliceRange
  simp only
  rw [e]
theorem sr_down (n : Nat) (b : Int) (hb : -1 ≤ b) (hb2 : b ≤ n) : sliceRange ((n : Int) - 1) b (-1) = (List.range ((n : Int) - 1 - b).toNat).map fun (k : Nat) => ((n : Int) - 1 + -1 * (k : Int)).toNat := by
  have e : (if (-1 : Int) > 0 then if (n : Int) - 1 < b then (b - ((n : Int) - 1) + -1 - 1) / -1 else 0 else if (n : Int) - 1 > b then ((n : Int) - 1 - b - -1 - 1) / - -1 else 0).toNat = ((n : Int) - 1 - b).toNat := by
    rw [if_neg (by decide), show (- -1 : Int) = 1 from rfl]; split <;> omega
  unfold sliceRange
  simp only
  rw [e]
theorem pickX_one {α : Type} (xs : List α) : pickX xs none none 1 = xs := by
  have hb : sliceBounds none none (some 1) xs.length = (0, (xs.length : Int), 1) := by simp [sliceBounds]
  unfold pickX
  rw [hb]
  refine filterMap_of ?_
  show (sliceRange 0 (xs.length : Int) 1).map _ = _
  rw [sr_up]
  exact map_rangeE (xs := xs) (g := fun (k : Nat) => ((0 : Int) + 1 * (k : Int)).toNat) rfl fun i hi => by
    show xs[((0 : Int) + 1 * (i : Int)).toNat]? = _
    rw [show ((0 : Int) + 1 * (i : Int)).toNat = i by omega]
theorem pickX_rev {α : Type} (xs : List α) : pickX xs none none (-1) = xs.reverse := by
  have hb : sliceBounds none none (some (-1)) xs.length = ((xs.length : Int) - 1, -1, -1) := by simp [sliceBounds]
  unfold pickX
  rw [hb]
  refine filterMap_of ?_
  show (sliceRange ((xs.length : Int) - 1) (-1) (-1)).map _ = _
  rw [sr_down _ _ (by omega) (by omega)]
  refine map_rangeE (xs := xs) (g := fun (k : Nat) => ((xs.length : Int) - 1 + -1 * (k : Int)).toNat) (by rw [List.length_reverse]; omega) fun i hi => ?_
  show xs[((xs.length : Int) - 1 + -1 * (i : Int)).toNat]? = _
  rw [List.getElem?_reverse (by omega)]
  congr 1
  omega
theorem pickX_down {α : Type} (xs : List α) : pickX xs none (some 0) (-1) = (xs.drop 1).reverse := by
  cases xs with
  | nil => rfl
  | cons x r =>
    have hb : sliceBounds none (some 0) (some (-1)) (x :: r).length = (((x :: r).length : Int) - 1, 0, -1) := by
      have e : max (-1 : Int) (min (if (0 : Int) < 0 then 0 + ((x :: r).length : Int) else 0) (((x :: r).length : Int) - 1)) = 0 := by
        rw [if_neg (by decide), List.length_cons]; omega
      simp only [sliceBounds, Option.getD_some]
      rw [if_neg (by decide), if_neg (by decide), e]
    unfold pickX
    rw [hb]
    refine filterMap_of ?_
    show (sliceRange (((x :: r).length : Int) - 1) 0 (-1)).map _ = _
    rw [sr_down _ _ (by omega) (by rw [List.length_cons]; omega)]
    refine map_rangeE (xs := x :: r) (g := fun (k : Nat) => (((x :: r).length : Int) - 1 + -1 * (k : Int)).toNat) (by rw [List.length_reverse, List.length_drop]; omega) fun i hi => ?_
    show (x :: r)[(((x :: r).length : Int) - 1 + -1 * (i : Int)).toNat]? = _
    rw [List.getElem?_reverse (by rw [List.length_drop]; omega), List.getElem?_drop, List.length_drop]
    congr 1
    omega
def lStepG (w : WE) (wl wu wo : WO) : WA := fun env S Q => w env S fun x S1 => wl env S1 fun lo S2 => wu env S2 fun hi S3 => wo env S3 fun st S4 => match x, st with
  | .ref p, some k => ∃ xs, S4[p]? = some (.lst xs) ∧ k ≠ 0 ∧ Q (pickX xs lo hi k) S4
  | _, _ => False
def tStepG (K : PySem.W.Frag) (te : TE) (tl tu ts : TO) : TE := fun σ H Q => te σ H fun x H1 => tl σ H1 fun lo H2 => tu σ H2 fun hi H3 => ts σ H3 fun o H4 => ∃ a xs k, x = .ref a ∧ o = some k ∧ SqL K H4 a xs ∧ k ≠ 0 ∧ ∀ p, H4 p = none → Q (.ref p) (upd H4 p (.lst (pickX xs lo hi k)))
section
variable {X : Cx} {a b e o : Expr} {w wa wb : WE} {p p2 pos : Pos} {lo hi st : Option Expr} {wl wu wo : WO}
theorem pe_stepG {te : TE} {tl tu ts : TO} (he : PE X e te) (hl : PO X lo tl) (hu : PO X hi tu) (ho : PO X st ts)
    (hs : ∀ u v : Value, subscripted (.Slice lo hi st p) false u v = operate [u, v] (getItem u v)) : PE X (.Subscript e (.Slice lo hi st p) pos) (tStepG X.K te tl tu ts) := by
  refine ⟨fun pins s σ H Q I h => ?_⟩
  refine Subscript_ (thn (he.run pins s σ H _ I h) fun v s1 ⟨x, H1, I1, r1, q1⟩ => ?_)
  refine wpAny_Slice (thn (hl.run pins s1 σ H1 _ I1 q1) fun vl s2 ⟨l, H2, I2, pl, q2⟩ => ?_)
  refine thn (hu.run pins s2 σ H2 _ I2 q2) fun vu s3 ⟨u, H3, I3, pu, q3⟩ => ?_
  refine thn (ho.run pins s3 σ H3 _ I3 q3) fun vs s4 ⟨o, H4, I4, ps, b, xs, k, ex, eo, hx, hk0, q⟩ => ?_
  subst eo ex
  cases r1
  have I5 : Inv X pins σ H4 { s4 with heap := s4.heap.push { cls := .type "slice", data := .fields #[vl, vu, vs] } } := I4.kept (t' := s4.toks) fun b ob q => Heap.get?_push_of_some _ q
  obtain ⟨its, r, ht, hz⟩ := I5.list hx
  have hlen := r.length
  show wpAny (model X.prog X.w) X.A (subscriptTail e (.Slice lo hi st p) (.ref b) (.ref s4.heap.objs.size)) (EP X pins σ Q) X.xe { s4 with heap := s4.heap.push { cls := .type "slice", data := .fields #[vl, vu, vs] } }
  refine tail_any (ops := [.ref b, .ref s4.heap.objs.size]) ht.isList.typeIs (PySem.slot_list_getitem.lookup) ?_ (hs _ _)
  refine wpAny_getItem_list_slice ht.isList (Heap.IsSliceOf.new _ vl vu vs) pl pu ps (by intro z; cases z; exact hk0 rfl) ?_ (by rw [List.size_toArray]; omega)
  have e5 : slicePick its.toArray l u (some k) = (((sliceRange (sliceBounds l u (some k) xs.length).1 (sliceBounds l u (some k) xs.length).2.1 (sliceBounds l u (some k) xs.length).2.2).filterMap (its[·]?))).toArray := by
    unfold slicePick
    rw [List.size_toArray, ← hlen]; simp
  rw [e5]
  refine ⟨.ref _, _, I5.laid (t' := s4.toks) (fun b ob q => Heap.get?_push_of_some _ q) (Nat.le_refl _) ?_, rfl, q _ (I5.hok.fresh (Nat.le_refl _))⟩
  exact ⟨Nat.le_trans (pickX_len xs l u k hk0) hz, _, 0, vals_pick r _, Heap.get?_push_size _ rfl⟩
theorem fl_stepG (he : FE X e w) (hl : FO X lo wl) (hu : FO X hi wu) (ho : FO X st wo)
    (hs : ∀ u v : Value, subscripted (.Slice lo hi st p) false u v = operate [u, v] (getItem u v) := by intro _ _; with_unfolding_all rfl) : FL X (.Subscript e (.Slice lo hi st p) pos) (lStepG w wl wu wo) := by
  refine ⟨PE.imp (pe_stepG he.p hl.p hu.p ho.p hs) fun σ H Q ⟨env, S, m, Q0, s, r, h, k⟩ => ?_⟩
  refine lift_k s r h fun x S1 u H1 m1 q1 e1 s1 v1 => ?_
  refine ⟨env, S1, m1, _, s1, r.ext e1.toEx, q1, fun lo S2 H2 m2 q2 e2 s2 => ?_⟩
  refine ⟨env, S2, m2, _, s2, r.ext (e1.trans e2).toEx, q2, fun hi S3 H3 m3 q3 e3 s3 => ?_⟩
  refine ⟨env, S3, m3, _, s3, r.ext ((e1.trans e2).trans e3).toEx, q3, fun st S4 H4 m4 q4 e4 s4 => ?_⟩
  have e14 := ((e1.trans e2).trans e3).trans e4
  have v1 := v1.ext ((e2.trans e3).trans e4).toEx
  match x, st, q4 with
  | .ref i, some j, ⟨xs, h3, hj, q⟩ =>
    simp only [VR] at v1
    obtain ⟨a, rfl, h2⟩ := v1
    obtain ⟨us, h4, h5⟩ := s4.lst h2 h3
    refine ⟨a, us, j, rfl, rfl, SqL.of h4, hj, fun p hp => k.lst e14 s4 ?_ hp (e14.back s4 hp) q⟩
    have := vrs_pick h5 (sliceRange (sliceBounds lo hi (some j) xs.length).1 (sliceBounds lo hi (some j) xs.length).2.1 (sliceBounds lo hi (some j) xs.length).2.2)
    unfold pickX
    rw [← h5.length]; exact this
end
end Z
namespace Z
open PySem PySem.Spec PyProof.Rows L2 RZ
noncomputable def bo (P : Prop) : Bool := @decide P (Classical.propDecidable P)
theorem bo_iff {P : Prop} : bo P = true ↔ P := by unfold bo; exact @decide_eq_true_iff _ (Classical.propDecidable _)
theorem bo_true {P : Prop} (h : P) : bo P = true := bo_iff.mpr h
theorem bo_false {P : Prop} (h : ¬ P) : bo P = false := by
  cases e : bo P with
  | true => exact (h (bo_iff.mp e)).elim
  | false => rfl
theorem bo_congr {P Q : Prop} (h : P ↔ Q) : bo P = bo Q := by rw [Bool.eq_iff_iff, bo_iff, bo_iff]; exact h
theorem bo_dec {P : Prop} [Decidable P] : bo P = decide P := by rw [Bool.eq_iff_iff, bo_iff, decide_eq_true_iff]
/-! a thing whose kind is told -/
def Tyd (S : Sto) (d : D) : Prop := ∃ t, tyIn d S fun t' => t' = t
theorem tyIn_app {d : D} {S : Sto} {R : Ty → Prop} (g : Sto) (h : tyIn d S R) : tyIn d (S ++ g) R := by
  cases d with
  | ref p => obtain ⟨o, h1, h2⟩ := h; exact ⟨o, getS_app h1, h2⟩
  | _ => exact h
theorem Tyd.app {d : D} {S : Sto} (g : Sto) (h : Tyd S d) : Tyd (S ++ g) d := let ⟨t, h⟩ := h; ⟨t, tyIn_app g h⟩
theorem Tyd.nstr {d : D} {S : Sto} (h : Tyd S d) (hn : ∀ x, d ≠ .str x) : tyIn d S fun t => Ty.sub t .str = false := by
  obtain ⟨t, h⟩ := h
  cases d with
  | str x => exact (hn x rfl).elim
  | non => exact rfl
  | bl b => exact rfl
  | int i => exact rfl
  | tup xs => exact rfl
  | rol xs => exact rfl
  | ref p =>
    obtain ⟨o, h1, h2⟩ := h
    refine ⟨o, h1, ?_⟩
    cases o with
    | lst xs => exact rfl
    | dK xs => exact rfl
    | dT xs => exact rfl
    | ins C fs => exact h2.elim
  | ty n => exact h.elim
  | cst a => exact h.elim
theorem Tyd.nint {d : D} {S : Sto} (h : Tyd S d) (hn : ∀ x, d ≠ .int x) (hb : ∀ x, d ≠ .bl x) : tyIn d S fun t => Ty.sub t .int = false := by
  obtain ⟨t, h⟩ := h
  cases d with
  | int x => exact (hn x rfl).elim
  | bl x => exact (hb x rfl).elim
  | non => exact rfl
  | str b => exact rfl
  | tup xs => exact rfl
  | rol xs => exact rfl
  | ref p =>
    obtain ⟨o, h1, h2⟩ := h
    refine ⟨o, h1, ?_⟩
    cases o with
    | lst xs => exact rfl
    | dK xs => exact rfl
    | dT xs => exact rfl
    | ins C fs => exact h2.elim
  | ty n => exact h.elim
  | cst a => exact h.elim
theorem Tyd.ntup {d : D} {S : Sto} (h : Tyd S d) (hn : ∀ xs, d ≠ .tup xs) : tyIn d S fun t => Ty.sub t .tuple = false := by
  obtain ⟨t, h⟩ := h
  cases d with
  | tup x => exact (hn x rfl).elim
  | bl x => exact rfl
  | int x => exact rfl
  | non => exact rfl
  | str b => exact rfl
  | rol xs => exact rfl
  | ref p =>
    obtain ⟨o, h1, h2⟩ := h
    refine ⟨o, h1, ?_⟩
    cases o with
    | lst xs => exact rfl
    | dK xs => exact rfl
    | dT xs => exact rfl
    | ins C fs => exact h2.elim
  | ty n => exact h.elim
  | cst a => exact h.elim
/-! ways by names -/
def nameEq (d : D) (t : Tie) : Bool := match d with | .str x => decide (T t.1 = x) | _ => false
def stepB (ts : List Tie) (here : Nat) (d : D) : Option Nat := match ts.find? (nameEq d) with
  | some t => if here = t.2.1 then some t.2.2.1 else if here = t.2.2.1 then some t.2.1 else none
  | none => none
def walkB (ts : List Tie) (p : Nat) (xs : List D) : Option Nat := xs.foldlM (stepB ts) p
def wayB (ts : List Tie) (p o : Nat) (xs : List D) : Bool := decide (xs.length ≤ 61) && decide (walkB ts p xs = some o)
theorem walkB_snoc (ts : List Tie) (p : Nat) (xs : List D) (d : D) : walkB ts p (xs ++ [d]) = (walkB ts p xs).bind fun h => stepB ts h d := by
  unfold walkB
  rw [List.foldlM_append]
  cases List.foldlM (stepB ts) p xs with
  | none => rfl
  | some h =>
    show (List.foldlM (stepB ts) h [d]) = stepB ts h d
    rw [List.foldlM_cons]
    cases stepB ts h d <;> rfl
theorem walkB_none (ts : List Tie) (p : Nat) (xs : List D) (i : Nat) (h : walkB ts p (xs.take i) = none) : walkB ts p xs = none := by
  rw [← List.take_append_drop i xs]
  unfold walkB at h ⊢
  rw [List.foldlM_append, h]; rfl
theorem find_name {ts : List Tie} (hn : ∀ s ∈ ts, ∀ t ∈ ts, s.1 = t.1 → s = t) {t : Tie} (ht : t ∈ ts) : ts.find? (nameEq (.str (T t.1))) = some t := by
  cases e : ts.find? (nameEq (.str (T t.1))) with
  | none => exact absurd (List.find?_eq_none.mp e t ht) (by simp [nameEq])
  | some s =>
    have h1 := List.find?_some e
    have h2 := List.mem_of_find?_eq_some e
    have h1 : decide (T s.1 = T t.1) = true := h1
    rw [hn s h2 t ht (T_inj (of_decide_eq_true h1))]
theorem way_walk {ts : List Tie} (hn : ∀ s ∈ ts, ∀ t ∈ ts, s.1 = t.1 → s = t) (he : ∀ t ∈ ts, t.2.1 ≠ t.2.2.1) {p : Nat} {ws : List (List Nat)} {x : Nat} (h : Way ts p ws x) : walkB ts p (ws.map fun w => D.str (T w)) = some x := by
  induction h with
  | nil => rfl
  | @snoc ws nm y x _ hj ih =>
    rw [List.map_append, show List.map (fun w => D.str (T w)) [nm] = [D.str (T nm)] from rfl, walkB_snoc, ih]
    show stepB ts y (.str (T nm)) = some x
    obtain ⟨t, ht, rfl, h⟩ := hj
    unfold stepB
    rw [find_name hn ht]
    rcases h with ⟨h1, h2⟩ | ⟨h1, h2⟩
    · simp only [h1, h2, if_true]
    · have := he t ht
      simp only [h1, h2, if_true]
      rw [if_neg (by rw [← h2, ← h1]; exact fun e => this e.symm)]
theorem way_ok {ts : List Tie} (hn : ∀ s ∈ ts, ∀ t ∈ ts, s.1 = t.1 → s = t) (he : ∀ t ∈ ts, t.2.1 ≠ t.2.2.1) {p x : Nat} {ws : List (List Nat)} (h : Way ts p ws x) (hl : ws.length ≤ 61) : wayB ts p x (ws.map fun w => D.str (T w)) = true := by
  unfold wayB
  rw [way_walk hn he h, List.length_map]
  simp [hl]
/-! cuts -/
structure CutOk (m : Nat) (ts : List Tie) (p o : Nat) (xs : List D) (ns : List Nat) : Prop where
  e : xs = ns.map natD
  rise : ns.Pairwise (· < ·)
  lt : ∀ n ∈ ns, n < m
  has : p ∈ ns
  no : o ∉ ns
  cl : ∀ t ∈ ts, (t.2.1 ∈ ns ↔ t.2.2.1 ∈ ns)
noncomputable def cutB (m : Nat) (ts : List Tie) (p o : Nat) (xs : List D) : Bool := bo (∃ ns, CutOk m ts p o xs ns)
theorem natD_inj : ∀ {a b : List Nat}, a.map natD = b.map natD → a = b
  | [], [], _ => rfl
  | [], _ :: _, h => by simp at h
  | _ :: _, [], h => by simp at h
  | x :: a, y :: b, h => by
    rw [List.map_cons, List.map_cons] at h
    injection h with h1 h2
    injection h1 with h1
    rw [natD_inj h2, show x = y by omega]
theorem cutB_eq {m : Nat} {ts : List Tie} {p o : Nat} {ns : List Nat} (hr : ns.Pairwise (· < ·)) (hl : ∀ n ∈ ns, n < m) : cutB m ts p o (ns.map natD) = (decide (p ∈ ns) && !decide (o ∈ ns) && ts.all fun t => decide (t.2.1 ∈ ns) == decide (t.2.2.1 ∈ ns)) := by
  unfold cutB
  rw [Bool.eq_iff_iff, bo_iff]
  simp only [Bool.and_eq_true, decide_eq_true_eq, Bool.not_eq_true', decide_eq_false_iff_not, List.all_eq_true, beq_iff_eq, decide_eq_decide]
  constructor
  · rintro ⟨ns', h⟩
    have e := natD_inj h.e
    subst e
    exact ⟨⟨h.has, h.no⟩, h.cl⟩
  · rintro ⟨⟨h1, h2⟩, h3⟩
    exact ⟨ns, rfl, hr, hl, h1, h2, h3⟩
theorem part_cut {m : Nat} {ts : List Tie} {p o : Nat} (hp : p < m) (hts : ∀ t ∈ ts, t.2.1 < m ∧ t.2.2.1 < m) (h : ¬ Conn ts p o) : cutB m ts p o ((partL m ts p).map natD) = true := by
  unfold cutB
  refine bo_true ⟨_, rfl, ?_, fun n hn => (partL_mem.mp hn).1, partL_mem.mpr ⟨hp, .refl _⟩, fun ho => h (partL_mem.mp ho).2, fun t ht => ?_⟩
  · have := partL_rising m ts p
    rw [List.pairwise_map] at this
    exact this.imp fun h => by omega
  · rw [partL_mem, partL_mem]
    have h1 := hts t ht
    exact ⟨fun h => ⟨h1.2, h.2.step ⟨t, ht, .inl ⟨rfl, rfl⟩⟩⟩, fun h => ⟨h1.1, h.2.step ⟨t, ht, .inr ⟨rfl, rfl⟩⟩⟩⟩
/-! papers -/
def wayX (ts : List Tie) (p o : Nat) : D → Bool
  | .tup xs => wayB ts p o xs
  | _ => false
noncomputable def cutX (m : Nat) (ts : List Tie) (p o : Nat) : D → Bool
  | .tup xs => cutB m ts p o xs
  | _ => false
noncomputable def paperB (m : Nat) (ts : List Tie) (p o : Nat) : D → Bool
  | .tup [.str w, x] => if w = "joined" then wayX ts p o x else decide (w = "parted") && cutX m ts p o x
  | _ => false
def TydD (S : Sto) (x : D) : Prop := Tyd S x ∧ ∀ xs, x = .tup xs → ∀ d ∈ xs, Tyd S d
theorem TydD.app {d : D} {S : Sto} (g : Sto) (h : TydD S d) : TydD (S ++ g) d := ⟨h.1.app g, fun xs e x hx => (h.2 xs e x hx).app g⟩
theorem TydD.tup {S : Sto} {xs : List D} (h : ∀ d ∈ xs, Tyd S d) : TydD S (.tup xs) := ⟨⟨_, rfl⟩, fun _ e => by cases e; exact h⟩
theorem tyd_str (S : Sto) (x : Str) : Tyd S (.str x) := ⟨_, rfl⟩
theorem tyd_int (S : Sto) (x : Int) : Tyd S (.int x) := ⟨_, rfl⟩
mutual
theorem eqv_self : ∀ {d : D}, d.plain = true → D.eqv d d = true
  | .non, _ => by simp [D.eqv]
  | .bl _, _ => by simp [D.eqv]
  | .int _, _ => by simp [D.eqv]
  | .str _, _ => by simp [D.eqv]
  | .tup xs, h => by
    simp only [D.plain] at h
    simp only [D.eqv]; exact eqvs_self h
  | .rol xs, h => by
    simp only [D.plain] at h
    simp only [D.eqv]; exact eqvs_self h
  | .ref _, h => by simp [D.plain] at h
  | .ty _, h => by simp [D.plain] at h
  | .cst _, h => by simp [D.plain] at h
theorem eqvs_self : ∀ {xs : List D}, D.plains xs = true → D.eqvs xs xs = true
  | [], _ => by simp [D.eqvs]
  | x :: xs, h => by
    simp only [D.plains, Bool.and_eq_true] at h
    simp only [D.eqvs, eqv_self h.1, eqvs_self h.2, Bool.and_self]
end
theorem take_one {S : Sto} {o : O} (h : S[0]? = some o) : S.take 1 = [o] := by
  cases S with
  | nil => simp at h
  | cons x r => simp at h; rw [h]; rfl
end Z
namespace Z
open PySem PySem.Spec PyProof.Rows L2 RZ
/-! dict(a new list of pairs) -/
def prK (kv : Key × D) : D := .tup [kD kv.1, kv.2]
def wDictOf (wq : WA) : WE := fun env S Q => wq env S fun ds S1 => ∃ kvs : List (Key × D), ds = kvs.map prK ∧ Q (.ref S1.length) (S1 ++ [.dK (mergeX [] kvs)])
theorem vrs_pairs {K : Frag} {m : List Addr} {H : Hp} : ∀ {kvs : List (Key × D)} {us : List V}, VRs K m H (kvs.map prK) us → ∃ (ps : List Addr) (ks : List (Key × V)), us = ps.map V.ref ∧ Paired (fun p kv => SqT K H p [kV kv.1, kv.2]) ps ks ∧ KVR K m H kvs ks
  | [], us, h => by
    have h : us = [] := by simpa only [List.map_nil, VRs] using h
    exact ⟨[], [], h, .nil, .nil⟩
  | kv :: kvs, us, h => by
    rw [List.map_cons] at h
    obtain ⟨u, r, rfl, h1, h2⟩ : ∃ u r, us = u :: r ∧ VR K m H (prK kv) u ∧ VRs K m H (kvs.map prK) r := by simpa only [VRs] using h
    obtain ⟨ps, ks, rfl, h3, h4⟩ := vrs_pairs h2
    obtain ⟨a, ws, rfl, h5, h6⟩ : ∃ a ws, u = .ref a ∧ H a = some (.tup ws) ∧ VRs K m H [kD kv.1, kv.2] ws := by simpa only [prK, VR] using h1
    obtain ⟨w1, r1, rfl, h7, h8⟩ : ∃ u r, ws = u :: r ∧ VR K m H (kD kv.1) u ∧ VRs K m H [kv.2] r := by simpa only [VRs] using h6
    obtain ⟨w2, r2, rfl, h9, h10⟩ : ∃ u r, r1 = u :: r ∧ VR K m H kv.2 u ∧ VRs K m H [] r := by simpa only [VRs] using h8
    have h10 : r2 = [] := by simpa only [VRs] using h10
    subst h10
    have hk := h7.key
    subst hk
    exact ⟨a :: ps, (kv.1, w2) :: ks, rfl, .cons (SqT.of h5) h3, .cons h9 h4⟩
theorem fe_dictOf {X : Cx} {e : Expr} {wq : WA} {p pos : Pos} (hc : X.calm = true) (hg : Gl X "dict") (hm : X.mg "dict" = none) (ha : FL X e wq) (hs : starEach [e] X.env = (false, eval e X.env) :: starEach [] X.env := by rfl) : FE X (.Call (.Name "dict" p) [e] [] pos) (wDictOf wq) := by
  refine ⟨PE.imp (pe_callTy (call_dictP hc) hg hm (by decide +kernel) (pa_cons ha.p pa_nil hs) (by decide) (by decide) hs rfl) fun σ H Q ⟨env, S, m, Q0, s, r, h, k⟩ => ?_⟩
  refine ⟨env, S, m, _, s, r, h, fun ds S1 a us H1 m1 q1 e1 s1 h0 nm ha v1 => ?_⟩
  obtain ⟨kvs, rfl, q⟩ := q1
  obtain ⟨ps, ks, rfl, h1, h2⟩ := vrs_pairs v1
  refine ⟨a, ps, ks, rfl, SqL.of ha, h1, fun p hp => ?_⟩
  obtain ⟨nm2, e0, s0⟩ := s1.laid (ho := .dK (mergeK [] ks)) hp
  obtain ⟨s3, g3⟩ := s0.adopt (p := p) (o := .dK (mergeX [] kvs)) nm2 ⟨_, upd_same, KVR.merge (KVR.ext Ex.app (KVR.ext e0.toEx h2)) .nil⟩
  refine k _ _ _ _ _ q ((e1.trans e0).adopt (e1.back s1 hp)) s3 ?_
  simp only [VR]
  exact ⟨p, rfl, g3⟩
/-! tuple(range(n)) -/
def wTupRg1 (w : WE) : WE := fun env S Q => w env S fun x S1 => match x with | .int j => RgOk 0 j ∧ Q (.tup (rangeD 0 j.toNat)) S1 | _ => False
theorem fe_tupRg1 {X : Cx} {a : Expr} {w : WE} {p p2 pos pos2 : Pos} (hc : X.calm = true) (hg : Gl X "tuple") (hm : X.mg "tuple" = none) (hg2 : Gl X "range") (hm2 : X.mg "range" = none) (ha : FE X a w) (na : starEach [a] X.env = (false, eval a X.env) :: starEach [] X.env := by rfl)
    (nb : starEach [.Call (.Name "range" p2) [a] [] pos2] X.env = (false, eval (.Call (.Name "range" p2) [a] [] pos2) X.env) :: starEach [] X.env := by rfl) : FE X (.Call (.Name "tuple" p) [.Call (.Name "range" p2) [a] [] pos2] [] pos) (wTupRg1 w) := by
  refine ⟨PE.imp (pe_tupRg hc hg hm (prg_1 hg2 hm2 ha.p na) nb) fun σ H Q ⟨env, S, m, Q0, s, r, h, k⟩ => ?_⟩
  refine lift_k s r h fun x S1 u H1 m1 q1 e1 s1 v1 => ?_
  cases x with
  | int j =>
    simp only [VR] at v1
    refine ⟨j, v1, q1.1, fun q hq => ?_⟩
    have v := vrs_range (K := X.K) (m := m1) (H := H1) 0 j
    rw [Int.sub_zero] at v
    exact (k.ext e1).tup s1 v hq q1.2
  | _ => exact q1.elim
end Z
namespace Z
open PySem PySem.Spec PyProof.Rows L2 RZ
/-! xs.remove(x) of a list of lists -/
/-- the first item that is == the data of y stands at j, and goes -/
def rOff (K : Frag) : V → List V → Hp → VK → Prop := fun x xs H Q => ∃ (a : Addr) (y : V) (us : List V) (dat : PyData) (all : List PyData) (j : Nat),
  (x = .ref a ∧ xs = [y] ∧ H a = some (.lst us)) ∧ DpAll K H us all ∧ Dp K H y dat ∧ (PyData.canLayAll0 all = true ∧ dat.canLay0 = true ∧ dat.depth ≤ 20) ∧
  (∃ z, all[j]? = some z ∧ PyData.eqv z dat = true) ∧ (∀ (n : Nat) (z : PyData), n < j → all[n]? = some z → PyData.eqv z dat = false) ∧ Q .non (upd H a (.lst (us.eraseIdx j)))
theorem mt_off {X : Cx} (room : X.A.units + 64 < cLine) : MtR X "list.remove" (rOff X.K) := by
  intro pins s σ H x xs v vals Q I hx hxs ⟨a, y, us, dat, all, j, ⟨e1, e2, hH⟩, hall, hdat, ⟨l1, l2, l3⟩, ⟨z, hz, hze⟩, hfirst, q⟩
  subst e1; subst e2
  cases hx
  obtain ⟨w, rfl, rw'⟩ := hxs.one
  obtain ⟨short, its, n, rits, sameLen, here⟩ := I.lstM hH
  obtain ⟨asY, readY⟩ := Dp.reads I dat y w hdat rw'
  obtain ⟨asAll, readAll⟩ := Dp.readsAll I all us its hall rits
  have count1 : its.length = all.length := SeqAt.ReadsAll.length all its asAll readAll
  have lookAt : ∀ (i : Nat) (hi : i < its.toArray.size) (z : PyData), all[i]? = some z → SeqAt.readOf s.heap its.toArray[i] = z := fun i hi z h => by
    have hi' : i < its.length := by rw [List.size_toArray] at hi; exact hi
    rw [← SeqAt.readsAll_map all its asAll l1 readAll, List.getElem?_map, List.getElem?_eq_getElem hi'] at h
    simpa using Option.some.inj h
  have inside : j < its.toArray.size := by
    rw [List.size_toArray, count1]; exact (List.getElem?_eq_some_iff.mp hz).1
  have roomy : X.A.units + 1 + min (PyData.depthAll all) dat.depth < cLine := by
    have := Nat.min_le_right (PyData.depthAll all) dat.depth
    omega
  have bound := sizeLine_eq
  refine call_meets PySem.F.slot_list_remove ⟨_, here, rfl⟩ PySem.F.entry_list_remove (PySem.F.args_list_remove_2 _ _)
    (SeqAt.list_removeAt a its.toArray n none #[] w (fun u => PyData.eqv (SeqAt.readOf s.heap u) dat) j inside ?_ ?_ (by rw [List.size_toArray]; omega))
    ⟨here, SeqAt.items_eqAt (vs := its.toArray) (by simpa using readAll) readY l1 l2 roomy, ?_⟩
  · show PyData.eqv (SeqAt.readOf s.heap its.toArray[j]) dat = true
    rw [lookAt j inside z hz]; exact hze
  · intro i hi hij
    have hi2 : i < all.length := by rw [← count1]; rw [List.size_toArray] at hi; exact hi
    show PyData.eqv (SeqAt.readOf s.heap its.toArray[i]) dat = false
    rw [lookAt i hi _ (List.getElem?_eq_getElem hi2)]
    exact hfirst i _ hij (List.getElem?_eq_getElem hi2)
  · refine ⟨.non, _, I.lset (its' := its.eraseIdx j) hH here ?_ (rits.eraseIdx j) ?_, rfl, q⟩
    · show its.toArray.eraseIdxIfInBounds j = (its.eraseIdx j).toArray
      rw [List.eraseIdxIfInBounds_toArray]
    · exact Nat.le_trans (List.length_eraseIdx_le us j) (by omega)
/-- by numbers: lists of plain things, of which the one at j is the first that is == the thing told -/
def dOff : RM := fun x ds S Q => match x, ds with
  | .ref p, [.ref o] => ∃ (ps : List Nat) (rows : List (List D)) (zs : List D) (j : Nat), S[p]? = some (.lst (ps.map D.ref)) ∧ S[o]? = some (.lst zs) ∧ rows.length = ps.length ∧ (∀ (i r : Nat) (ys : List D), ps[i]? = some r → rows[i]? = some ys → S[r]? = some (.lst ys) ∧ okL ys) ∧ okL zs ∧ (PyData.list (D.pds zs)).depth ≤ 20 ∧
    (∃ ys, rows[j]? = some ys ∧ D.eqvs ys zs = true) ∧ (∀ (n : Nat) (ys : List D), n < j → rows[n]? = some ys → D.eqvs ys zs = false) ∧ Q .non (S.set p (.lst ((ps.eraseIdx j).map D.ref)))
  | _, _ => False
theorem vrs_rows {K : Frag} {m : List Addr} {H : Hp} {S : Sto} (s : SR K m H S) : ∀ {ps : List Nat} {rows : List (List D)} {us : List V}, VRs K m H (ps.map D.ref) us → rows.length = ps.length → (∀ (i r : Nat) (ys : List D), ps[i]? = some r → rows[i]? = some ys → S[r]? = some (.lst ys) ∧ okL ys) →
    DpAll K H us (rows.map fun ys => .list (D.pds ys))
  | [], rows, us, h, hl, _ => by
    have : rows = [] := List.length_eq_zero_iff.mp hl
    subst this
    rw [h.nil_inv]; exact .nil
  | p :: ps, [], us, h, hl, _ => by simp at hl
  | p :: ps, ys :: rows, us, h, hl, hk => by
    obtain ⟨u, r, rfl, h2, h3⟩ := h.cons_inv
    simp only [VR] at h2
    obtain ⟨a, rfl, h4⟩ := h2
    obtain ⟨g, ok⟩ := hk 0 p ys rfl rfl
    obtain ⟨ws, t1, t2⟩ := s.lst h4 g
    exact .cons (.lst (SqL.of t1) (t2.dp ok.1)) (vrs_rows s h3 (by simpa using hl) fun i r z a b => hk (i + 1) r z (by simpa using a) (by simpa using b))
theorem VRs.cut1 {K : Frag} {m : List Addr} {H : Hp} : ∀ {xs : List D} {us : List V} (j : Nat), VRs K m H xs us → VRs K m H (xs.eraseIdx j) (us.eraseIdx j)
  | [], us, j, h => by rw [h.nil_inv]; exact .nil
  | x :: xs, us, j, h => by
    obtain ⟨u, r, rfl, h2, h3⟩ := h.cons_inv
    cases j with
    | zero => exact h3
    | succ j => exact .cons h2 (VRs.cut1 j h3)
theorem canLay_rows : ∀ {rows : List (List D)}, (∀ ys ∈ rows, okL ys) → PyData.canLayAll0 (rows.map fun ys => PyData.list (D.pds ys)) = true
  | [], _ => by simp [PyData.canLayAll0]
  | ys :: rows, h => by
    have h1 := SeqAt.canLay_of_shaped (h ys List.mem_cons_self).2
    have h2 := canLay_rows fun z hz => h z (List.mem_cons_of_mem _ hz)
    rw [List.map_cons]
    simp only [PyData.canLayAll0, h1, h2, Bool.and_self]
theorem map_cut1 {α β : Type} (f : α → β) : ∀ (xs : List α) (j : Nat), (xs.map f).eraseIdx j = (xs.eraseIdx j).map f
  | [], _ => rfl
  | x :: xs, 0 => rfl
  | x :: xs, j + 1 => congrArg (f x :: ·) (map_cut1 f xs j)
theorem sim_off {X : Cx} : SimM X.K (rOff X.K) dOff := by
  intro m H S x u ds us Q0 Q s r rs h k
  match x, ds, h with
  | .ref p, [.ref o], ⟨ps, rows, zs, j, g1, g2, hl, hk, oz, dz, ⟨ys, y1, y2⟩, hf, q⟩ =>
    simp only [VR] at r
    obtain ⟨a, rfl, h3⟩ := r
    obtain ⟨v, t, rfl, h4, h5⟩ := rs.cons_inv
    cases h5.nil_inv
    simp only [VR] at h4
    obtain ⟨b, rfl, h30⟩ := h4
    obtain ⟨ws, h6, h7⟩ := s.lst h3 g1
    obtain ⟨zw, h60, h70⟩ := s.lst h30 g2
    have hok : ∀ ys ∈ rows, okL ys := fun ys hy => by
      obtain ⟨i, hi⟩ := List.getElem?_of_mem hy
      have hil := (List.getElem?_eq_some_iff.mp hi).1
      exact (hk i _ ys (List.getElem?_eq_getElem (by omega)) hi).2
    have eqs : ∀ ys, okL ys → PyData.eqv (.list (D.pds ys)) (.list (D.pds zs)) = D.eqvs ys zs := fun ys oy => by
      simp only [PyData.eqv]; exact (D.eqvs_pd ys zs oy.1 oz.1).symm
    have hv := VRs.cut1 j h7
    rw [map_cut1] at hv
    obtain ⟨e, s'⟩ := s.lst_write h3 hv
    refine ⟨a, .ref b, ws, .list (D.pds zs), rows.map fun ys => .list (D.pds ys), j, ⟨rfl, rfl, h6⟩, vrs_rows s h7 hl hk, .lst (SqL.of h60) (h70.dp oz.1), ⟨canLay_rows hok, SeqAt.canLay_of_shaped oz.2, dz⟩, ⟨_, by rw [List.getElem?_map, y1]; rfl, ?_⟩, fun n z hn hz => ?_, k _ _ _ _ _ q e s' (by simp only [VR])⟩
    · show PyData.eqv (.list (D.pds ys)) (.list (D.pds zs)) = true
      rw [eqs ys (hok ys (List.mem_of_getElem? y1))]; exact y2
    · rw [List.getElem?_map] at hz
      cases hw : rows[n]? with
      | none => rw [hw] at hz; cases hz
      | some w =>
        rw [hw] at hz
        cases hz
        rw [eqs w (hok w (List.mem_of_getElem? hw))]
        exact hf n w hn hw
section
variable {X : Cx} {o e : Expr} {wo : WE} {wr : WA} {apos cpos : Pos}
theorem fe_off (room : X.A.units + 64 < cLine) (ho : FE X o wo) (ha : FA X [e] wr) (hbase : attributeBase o "remove" X.env (eval o X.env) = eval o X.env := by rfl) (hline : (apos.endLine == cpos.line) = true := by rfl) (hs : starEach [e] X.env = (false, eval e X.env) :: starEach [] X.env := by rfl) : FE X (.Call (.Attribute o "remove" apos) [e] [] cpos) (wM tyL dOff wo wr) :=
  fe_bm PySem.F.plainAttrs_list PySem.F.slot_list_remove PySem.F.type_list_remove (mt_off room) sim_off tyL_v ho ha hbase (by rw [hs]; rfl) hline hs
end
end Z
namespace Z
open PySem PySem.Spec PyProof.Rows L2
/-! name += number -/
def sAugI (i : Nat) (w : WE) : WS := fun D env S => match env[i]? with
  | some (some (.int x)) => w env S fun y S1 => (match y with | .int z => D.nx (env.set i (some (.int (x + z)))) S1 | _ => False)
  | _ => False
section
variable {X : Cx} {e : Expr} {w : WE} {pos : Pos}
theorem fs_augI {i : Nat} {x : Str} {pos' : Pos} (hN : X.N.Nodup) (he : FE X e w) (hi : X.N[i]? = some x := by rfl) (hx : Loc X.env.scope x := by first | exact Or.inl rfl | exact Or.inr rfl)
    (hf : X.fn x = true ∨ X.env.scope.names.lookup x = some .local := by first | exact .inl rfl | exact .inr rfl | assumption) : FS X (.AugAssign (.Name x pos') .Add e pos) (sAugI i w) := by
  refine ⟨PS.imp (ps_aug hN hi hx he.p ip_add hf) fun D σ H ⟨env, S, m, D0, s, r, h, k⟩ => ?_⟩
  unfold sAugI at h
  split at h
  · rename_i v hv
    obtain ⟨u, h1, h2⟩ := r.at_ _ _ hv
    simp only [VR] at h2
    subst h2
    refine ⟨_, h1, lift_k s r h fun d S1 x H1 m1 q1 e1 s1 v1 => ?_⟩
    cases d with
    | int z =>
      simp only [VR] at v1
      exact ⟨_, _, rfl, v1, k.nx _ _ _ _ _ q1 e1 s1 ((r.ext e1.toEx).set i (by simp only [VR]))⟩
    | _ => exact q1.elim
  · exact h.elim
end
/-! sum of a tuple of numbers -/
def rSumT (K : PySem.W.Frag) : List V → Hp → VK → Prop := fun vs H Q => ∃ (a : Addr) (ns : List Int), vs = [V.ref a] ∧ SqT K H a (ns.map V.int) ∧ Q (.int ns.sum) H
theorem cr_sumT {X : Cx} (hc : X.calm = true) : CallR X (.builtin "sum") (rSumT X.K) := by
  intro pins s σ H vs us Q I r h
  obtain ⟨a, ns, rfl, hs, q⟩ := h
  obtain ⟨its, rv, hl, _⟩ := I.tuple hs
  rw [Vals.ref1 r]
  have hi := rv.ints
  obtain ⟨xs, e⟩ := hi.allInts.items
  have hn : numsOf (intItems xs).toList = ns := by rw [← e]; exact hi.numsOf
  rw [nums_intItems] at hn
  rw [e] at hl
  have hlt : a < s.heap.objs.size := by obtain ⟨_, e, _⟩ := hl; exact Heap.lt_size e
  refine call_sum_walkG (iter_tuple hl ?_)
  obtain ⟨o, ho, hc2, n, hd⟩ := hl
  refine ⟨_, _, _, _, _, _, numAt xs, rfl, Walks.tuple (A := X.A.in1) (I.ok.hd hc) s.heap.objs.size a (Nat.ne_of_lt hlt) (intItems xs), ⟨⟨_, Heap.get?_push_size _ rfl, rfl, rfl⟩, ⟨_, Heap.get?_push_of_some _ ho, hc2, n, hd⟩⟩, fun b hb => ?_, (fun _ _ => intItems_at), fun h' tk t' hk => ?_⟩
  · show b < (s.heap.push _).objs.size
    rw [Heap.size_push]
    rcases List.mem_cons.mp hb with rfl | hb
    · exact Nat.lt_succ_self _
    · rw [List.mem_singleton.mp hb]; exact Nat.lt_succ_of_lt hlt
  · refine ⟨.int _, H, I.kept (fun b o e => hk b o (fun hm => ?_) (Heap.get?_push_of_some _ e)), ⟨_, rfl⟩, ?_⟩
    · exact absurd ((List.mem_singleton.mp hm) ▸ Heap.lt_size e) (Nat.lt_irrefl _)
    have e2 : preSum (numAt xs) (intItems xs).size = ns.sum := by
      rw [show (intItems xs).size = xs.size by simp [intItems], preSum_eq, List.take_of_length_le (by simp), hn]
    rw [e2]; exact q
def wSumT (w : WE) : WE := fun env S Q => w env S fun x S1 => match x with | .tup xs => ∃ ns : List Int, xs = ns.map D.int ∧ Q (.int ns.sum) S1 | _ => False
section
variable {X : Cx} {e : Expr} {w : WE} {pos p : Pos}
theorem fe_sumT (hc : X.calm = true) (hg : Gl X "sum") (hm : X.mg "sum" = none) (ha : FE X e w) (he : starEach [e] X.env = (false, eval e X.env) :: starEach [] X.env := by rfl) (hpl : (backTo pos (starEach [] X.env)).any (·.1) = false := by rfl) : FE X (.Call (.Name "sum" p) [e] [] pos) (wSumT w) := by
  refine ⟨PE.imp (pe_callB (cr_sumT hc) hg hm (by decide +kernel) (pa_cons ha.p pa_nil he) (by decide) (by decide) he hpl) fun σ H Q ⟨env, S, m, Q0, s, r, h, k⟩ => ?_⟩
  refine lift_k s r h fun y S1 u H1 m1 q1 e1 s1 v1 => ?_
  cases y with
  | tup xs =>
    simp only [VR] at v1
    obtain ⟨a, us, rfl, h2, h3⟩ := v1
    obtain ⟨ns, rfl, q⟩ := q1
    exact ⟨a, ns, rfl, by rw [← h3.ints]; exact SqT.of h2, (k.ext e1).v s1 q (by simp only [VR])⟩
  | _ => exact q1.elim
end
end Z
namespace Z
open PySem PySem.Spec PyProof.Rows L2
/-! x in xs, where the items are data of any depth -/
def rInA (K : PySem.W.Frag) (f : Bool → Bool) : R2 := fun x y H Q => ∃ d ds, Dp K H x d ∧ SeqAt.shaped d = true ∧ (Dp K H y (.list ds) ∧ SeqAt.shaped (.list ds) = true ∨ Dp K H y (.tuple ds) ∧ SeqAt.shaped (.tuple ds) = true) ∧ Q (.bl (f (ds.any fun z => PyData.eqv z d))) H
section
variable {X : Cx}
theorem op_inA (hu : X.A.units + 65 < cLine) : OpR X (compareOp .In) (rInA X.K id) := by
  intro pins s σ H x y v u Q I rx ry ⟨d, ds, hd, sd, he, q⟩
  obtain ⟨as, r1⟩ := Dp.reads I d x v hd rx
  rcases he with ⟨he, se⟩ | ⟨he, se⟩
  · obtain ⟨bs, r2⟩ := Dp.reads I (.list ds) y u he ry
    exact SeqAt.in_list_reads r2 r1 (SeqAt.canLay_of_shaped se) (SeqAt.canLay_of_shaped sd) (room_in_shaped sd hu) ⟨.bl _, H, I, rfl, q⟩
  · obtain ⟨bs, r2⟩ := Dp.reads I (.tuple ds) y u he ry
    exact SeqAt.in_tuple_reads r2 r1 (SeqAt.canLay_of_shaped se) (SeqAt.canLay_of_shaped sd) (room_in_shaped sd hu) ⟨.bl _, H, I, rfl, q⟩
theorem op_notInA (hu : X.A.units + 65 < cLine) : OpR X (compareOp .NotIn) (rInA X.K not) := by
  intro pins s σ H x y v u Q I rx ry ⟨d, ds, hd, sd, he, q⟩
  obtain ⟨as, r1⟩ := Dp.reads I d x v hd rx
  rcases he with ⟨he, se⟩ | ⟨he, se⟩
  · obtain ⟨bs, r2⟩ := Dp.reads I (.list ds) y u he ry
    exact SeqAt.notIn_list_reads r2 r1 (SeqAt.canLay_of_shaped se) (SeqAt.canLay_of_shaped sd) (room_in_shaped sd hu) ⟨.bl _, H, I, rfl, q⟩
  · obtain ⟨bs, r2⟩ := Dp.reads I (.tuple ds) y u he ry
    exact SeqAt.notIn_tuple_reads r2 r1 (SeqAt.canLay_of_shaped se) (SeqAt.canLay_of_shaped sd) (room_in_shaped sd hu) ⟨.bl _, H, I, rfl, q⟩
end
theorem units65 {k : Nat} {A : Around} (r : Room k A) : A.units + 65 < cLine := by have := r.un; omega
def dInA (f : Bool → Bool) : R2D := fun x y S Q => match y with
  | .tup ys => okD x ∧ okD (.tup ys) ∧ Q (.bl (f (ys.any fun z => D.eqv z x))) S
  | .rol ys => okD x ∧ okL ys ∧ Q (.bl (f (ys.any fun z => D.eqv z x))) S
  | .ref p => ∃ ys, S[p]? = some (.lst ys) ∧ okD x ∧ okL ys ∧ Q (.bl (f (ys.any fun z => D.eqv z x))) S
  | _ => False
theorem any_pds {x : D} (hx : x.plain = true) : ∀ {ys : List D}, D.plains ys = true → (D.pds ys).any (fun z => PyData.eqv z x.pd) = ys.any fun z => D.eqv z x
  | [], _ => by simp only [D.pds, List.any_nil]
  | y :: ys, h => by
    simp only [D.plains, Bool.and_eq_true] at h
    simp only [D.pds, List.any_cons]
    rw [← D.eqv_pd y x h.1 hx, any_pds hx h.2]
theorem sim_inA {X : Cx} (f : Bool → Bool) : Sim2 X.K (rInA X.K f) (dInA f) := by
  intro m H S x y u v Q0 Q s rx ry h k
  cases y with
  | tup ys =>
    obtain ⟨ox, oy, q⟩ := h
    simp only [VR] at ry
    obtain ⟨a, us, rfl, h2, h3⟩ := ry
    have op : D.plains ys = true := by have := oy.1; simpa only [D.plain] using this
    have os : SeqAt.shaped (.tuple (D.pds ys)) = true := by have := oy.2; simpa only [D.pd] using this
    refine ⟨x.pd, D.pds ys, rx.dp ox.1, ox.2, .inr ⟨.tup (SqT.of h2) (h3.dp op), os⟩, ?_⟩
    rw [any_pds ox.1 op]; exact k.v s q (by simp only [VR])
  | rol ys =>
    obtain ⟨ox, oy, q⟩ := h
    simp only [VR] at ry
    obtain ⟨a, us, rfl, h2, h3⟩ := ry
    refine ⟨x.pd, D.pds ys, rx.dp ox.1, ox.2, .inl ⟨.lst h2.sq (h3.dp oy.1), oy.2⟩, ?_⟩
    rw [any_pds ox.1 oy.1]; exact k.v s q (by simp only [VR])
  | ref p =>
    obtain ⟨ys, g1, ox, oy, q⟩ := h
    simp only [VR] at ry
    obtain ⟨a, rfl, e1⟩ := ry
    obtain ⟨us, t1, t2⟩ := s.lst e1 g1
    refine ⟨x.pd, D.pds ys, rx.dp ox.1, ox.2, .inl ⟨.lst (SqL.of t1) (t2.dp oy.1), oy.2⟩, ?_⟩
    rw [any_pds ox.1 oy.1]; exact k.v s q (by simp only [VR])
  | _ => exact h.elim
section
variable {X : Cx} {a b : Expr} {wa wb : WE} {pos : Pos}
theorem fe_inA (hu : X.A.units + 65 < cLine) (ha : FE X a wa) (hb : FE X b wb) (hm : behindInMarks .In b = false := by rfl) : FE X (.Compare a [.In] [b] pos) (wOp (dInA id) wa wb) := fe_cmp (op_inA hu) (sim_inA id) ha hb hm
theorem ft_inA (hu : X.A.units + 65 < cLine) (ha : FE X a wa) (hb : FE X b wb) (hm : behindInMarks .In b = false := by rfl) : FT X (.Compare a [.In] [b] pos) (tOf (wOp (dInA id) wa wb)) := ft_cmp (op_inA hu) (sim_inA id) ha hb hm
theorem fe_notinA (hu : X.A.units + 65 < cLine) (ha : FE X a wa) (hb : FE X b wb) (hm : behindInMarks .NotIn b = false := by rfl) : FE X (.Compare a [.NotIn] [b] pos) (wOp (dInA not) wa wb) := fe_cmp (op_notInA hu) (sim_inA not) ha hb hm
theorem ft_notinA (hu : X.A.units + 65 < cLine) (ha : FE X a wa) (hb : FE X b wb) (hm : behindInMarks .NotIn b = false := by rfl) : FT X (.Compare a [.NotIn] [b] pos) (tOf (wOp (dInA not) wa wb)) := ft_cmp (op_notInA hu) (sim_inA not) ha hb hm
end
end Z
namespace Z
open PySem PySem.Spec PyProof.Rows L2
/-! a tuple, so many times -/
def dMulT : R2D := fun x y S Q => match x, y with
  | .tup xs, .int k => xs ≠ [] ∧ 2 ≤ k ∧ k ≤ 1000 ∧ xs.length ≤ 1000 ∧ Q (.tup (List.replicate k.toNat xs).flatten) S
  | _, _ => False
section
variable {X : Cx}
theorem sim_mulT : Sim2 X.K (rRepT X.K) dMulT := by
  intro m H S x y u v Q0 Q s rx ry h k
  cases x <;> cases y <;> simp only [dMulT] at h <;> first | exact h.elim | skip
  simp only [VR] at rx ry
  obtain ⟨a, us, rfl, h2, h3⟩ := rx
  obtain ⟨g1, g2, g3, g4, q⟩ := h
  refine ⟨a, _, us, rfl, ry, SqT.of h2, fun e => g1 ?_, g2, g3, by rw [← h3.length]; exact g4, fun p hp => k.tup s (h3.rep _) hp q⟩
  subst e
  exact List.length_eq_zero_iff.mp h3.length
variable {a b : Expr} {wa wb : WE} {pos : Pos}
theorem fe_mulT (ha : FE X a wa) (hb : FE X b wb) : FE X (.BinOp a .Mult b pos) (wOp dMulT wa wb) := fe_op op_repT sim_mulT ha hb
end
end Z
namespace Z
open PySem PySem.Spec PyProof.Rows L2 HT
/-! a tuple, the other way round: xs[::-1] -/
section
variable {prog : Program} {w : World} {A : Around} {E : Value → Shared → Prop} {z : Shared}
/-- what a whole slice with the step -1 asks of n places -/
theorem places_back (n : Nat) : Builtin.Slice.slicePlaces ((n : Int) - 1) (-1) (-1) = n := by
  simp only [Builtin.Slice.slicePlaces]
  rw [if_neg (by decide)]
  by_cases h0 : (n : Int) - 1 > -1
  · rw [if_pos h0]
    show (((n : Int) - 1 - -1 - 1) / 1 + 1).toNat = n
    rw [Int.ediv_one]; omega
  · rw [if_neg h0]; omega
theorem applied_back {b : Addr} {v : Value} {n : Nat} {Q : Int × Int × Nat → Shared → Prop} (hb : z.heap.IsSliceOf b .none .none v) (pv : IsPart v (some (-1)))
    (q : Q ((n : Int) - 1, -1, n) z) : wpAny (model prog w) A (Builtin.Slice.sliceApplied (.ref b) (pure (n : Int))) Q E z := by
  obtain ⟨o, o1, _, o3⟩ := id hb
  unfold Builtin.Slice.sliceApplied; unfold Builtin.Slice.sliceFields
  have last : wpAny (model prog w) A (pure ((n : Int) - 1, (-1 : Int), Builtin.Slice.slicePlaces ((n : Int) - 1) (-1) (-1))) Q E z := by rw [places_back]; exact wpAny_pure q
  refine wpAny_bind (wpAny_bind (wpAny_field o1 o3 (x := .none) rfl (wpAny_bind (wpAny_field o1 o3 (x := .none) rfl (wpAny_bind (wpAny_field o1 o3 (x := v) rfl (wpAny_pure ?_)))))))
  refine wpAny_bind (slicePart_ pv ?_)
  show wpAny _ _ (if ((-1 : Int) == 0) = true then _ else _) _ _ z
  rw [if_neg (by decide)]
  exact wpAny_bind (slicePart_none (wpAny_bind (slicePart_none (wpAny_bind (wpAny_pure last)))))
theorem picked_back (xs : Array Value) : ((List.range xs.size).filterMap fun (m : Nat) => xs[((xs.size : Int) - 1 + (m : Int) * -1).toNat]?).toArray = xs.toList.reverse.toArray := by
  congr 1
  refine filterMap_of (List.ext_getElem? fun i => ?_)
  simp only [List.getElem?_map]
  by_cases hi : i < xs.size
  · rw [List.getElem?_range hi, List.getElem?_reverse (by rw [Array.length_toList]; exact hi), Array.length_toList]
    show some (xs[((xs.size : Int) - 1 + (i : Int) * -1).toNat]?) = _
    rw [show ((xs.size : Int) - 1 + (i : Int) * -1).toNat = xs.size - 1 - i by omega, Array.getElem?_toList, Array.getElem?_eq_getElem (by omega)]
    rfl
  · rw [List.getElem?_eq_none (by simpa using hi), List.getElem?_eq_none (by simpa using hi)]; rfl
theorem tuple_back {a b : Addr} {xs : Array Value} {v : Value} {Q : Value → Shared → Prop} (ha : IsTup z.heap a xs) (hb : z.heap.IsSliceOf b .none .none v) (pv : IsPart v (some (-1))) (hz : xs.size ≤ sizeLine)
    (q : Q (.ref z.heap.objs.size) { z with heap := z.heap.push { cls := .type "tuple", data := .seq xs.toList.reverse.toArray } }) : wpAny (model prog w) A (getItem (.ref a) (.ref b)) Q E z := by
  have fits : sizeOk (.seq xs.toList.reverse.toArray) := by
    show xs.toList.reverse.toArray.size ≤ sizeLine
    simpa using hz
  have tb : z.TypeIs (.ref b) "slice" := by obtain ⟨o, o1, o2, _⟩ := id hb; exact ⟨o, o1, o2⟩
  have fin : ¬ (((xs.size : Int) - 1 == 0 && (-1 : Int) == 1 && xs.size == xs.size) = true) := by simp
  unfold getItem; try with_reducible refine wpAny_holding ?_; try refine wpAny_bind (wpAny_pure ?_)
  refine wpAny_bind (wpAny_sequenceKey ha.typeIs (by decide) (wpAny_bind (wpAny_callSpecial?_slot (name := Str.ofString "__getitem__") ha.typeIs PyProof.Rows.slot_tuple_getitem
    (wpAny_call_entry PyProof.Rows.slot_tuple_getitem ha.typeIs entry_tuple_getitem ?_ (args_tuple_getitem _ _)))))
  show wpAny _ _ (Builtin.Tuple.tupleItemsOf (.ref a) >>= _) _ _ z
  refine wpAny_bind (tupleItemsOf_ ha (wpAny_bind (wpAny_typeOf tb ?_)))
  rw [if_pos (by decide)]
  refine wpAny_bind (applied_back hb pv ?_)
  show wpAny _ _ (if ((xs.size : Int) - 1 == 0 && (-1 : Int) == 1 && xs.size == xs.size) = true then _ else _) _ _ z
  rw [if_neg fin, picked_back]
  first
    | exact wpAny_bind (m := Builtin.Tuple.tupleExact _) (wpAny_newObj_type (wpAny_pure ⟨_, rfl, wpAny_pure q⟩) fits)
    | exact wpAny_bind (m := Builtin.Tuple.tupleExact _) (wpAny_newObj_type (wpAny_bind (wpAny_pure (wpAny_pure ⟨_, rfl, wpAny_pure q⟩))) fits)
    | exact wpAny_bind (wpAny_bind (m := Builtin.Tuple.tupleExact _) (wpAny_newObj_type (wpAny_pure (wpAny_pure ⟨_, rfl, wpAny_pure q⟩)) fits))
    | exact wpAny_bind (wpAny_bind (m := Builtin.Tuple.tupleExact _) (wpAny_newObj_type (wpAny_pure ⟨_, rfl, wpAny_pure q⟩) fits))
end
def wBackT (w : WE) (wl wu wo : WO) : WE := fun env S Q => w env S fun x S1 => wl env S1 fun lo S2 => wu env S2 fun hi S3 => wo env S3 fun st S4 => match x, lo, hi, st with
  | .tup xs, none, none, some k => k = -1 ∧ Q (.tup xs.reverse) S4
  | _, _, _, _ => False
def tBackT (K : PySem.W.Frag) (te : TE) (tl tu ts : TO) : TE := fun σ H Q => te σ H fun x H1 => tl σ H1 fun lo H2 => tu σ H2 fun hi H3 => ts σ H3 fun o H4 => ∃ a xs, x = .ref a ∧ lo = none ∧ hi = none ∧ o = some (-1) ∧ SqT K H4 a xs ∧ ∀ p, H4 p = none → Q (.ref p) (upd H4 p (.tup xs.reverse))
section
variable {X : Cx} {a b e o : Expr} {w wa wb : WE} {p p2 pos : Pos} {lo hi st : Option Expr} {wl wu wo : WO}
theorem vals_back {xs : List V} {us : List Value} (r : Vals xs us) : Vals xs.reverse us.reverse := by
  have app : ∀ {l1 : List V} {m1 : List Value} {l2 m2}, Vals l1 m1 → Vals l2 m2 → Vals (l1 ++ l2) (m1 ++ m2) := fun h1 h2 => by
    induction h1 with
    | nil => exact h2
    | cons h _ ih => exact .cons h ih
  induction r with
  | nil => exact .nil
  | cons h _ ih => rw [List.reverse_cons, List.reverse_cons]; exact app ih (.cons h .nil)
theorem pe_backT {te : TE} {tl tu ts : TO} (he : PE X e te) (hl : PO X lo tl) (hu : PO X hi tu) (ho : PO X st ts)
    (hs : ∀ u v : Value, subscripted (.Slice lo hi st p) false u v = operate [u, v] (getItem u v)) : PE X (.Subscript e (.Slice lo hi st p) pos) (tBackT X.K te tl tu ts) := by
  refine ⟨fun pins s σ H Q I h => Subscript_ (thn (he.run pins s σ H _ I h) fun v s1 ⟨x, H1, I1, r1, q1⟩ => ?_)⟩
  refine wpAny_Slice (thn (hl.run pins s1 σ H1 _ I1 q1) fun vl s2 ⟨l, H2, I2, pl, g2⟩ => thn (hu.run pins s2 σ H2 _ I2 g2) fun vu s3 ⟨u, H3, I3, pu, q3⟩ => ?_)
  refine thn (ho.run pins s3 σ H3 _ I3 q3) fun vs s4 ⟨o, H4, I4, ps, b, xs, ex, el, eu, eo, hx, q⟩ => ?_
  subst eo ex el eu
  cases r1
  cases pl
  cases pu
  have I5 : Inv X pins σ H4 { s4 with heap := s4.heap.push { cls := .type "slice", data := .fields #[.none, .none, vs] } } := I4.kept (t' := s4.toks) fun b ob q => Heap.get?_push_of_some _ q
  obtain ⟨its, r, ht, hz⟩ := I5.tuple hx
  have hlen := r.length
  refine tail_any (ops := [.ref b, .ref s4.heap.objs.size]) ht.typeIs PyProof.Rows.slot_tuple_getitem.lookup ?_ (hs _ _)
  refine tuple_back ht (Heap.IsSliceOf.new _ .none .none vs) ps (by rw [List.size_toArray]; omega) ?_
  refine ⟨.ref _, _, I5.laid (t' := s4.toks) (o := .tup xs.reverse) (fun b ob q => Heap.get?_push_of_some _ q) (Nat.le_refl _) ?_, rfl, q _ (I5.hok.fresh (Nat.le_refl _))⟩
  exact ⟨by rw [List.length_reverse]; exact hz, _, vals_back r, IsTup.new _ _⟩
theorem fe_backT (he : FE X e w) (hl : FO X lo wl) (hu : FO X hi wu) (ho : FO X st wo)
    (hs : ∀ u v : Value, subscripted (.Slice lo hi st p) false u v = operate [u, v] (getItem u v) := by intro _ _; with_unfolding_all rfl) : FE X (.Subscript e (.Slice lo hi st p) pos) (wBackT w wl wu wo) := by
  refine ⟨PE.imp (pe_backT he.p hl.p hu.p ho.p hs) fun σ H Q ⟨env, S, m, Q0, s, r, h, k⟩ => ?_⟩
  refine lift_k s r h fun x S1 u H1 m1 q1 e1 s1 v1 => ?_
  refine ⟨env, S1, m1, _, s1, r.ext e1.toEx, q1, fun lo S2 H2 m2 q2 e2 s2 => ?_⟩
  refine ⟨env, S2, m2, _, s2, r.ext (e1.trans e2).toEx, q2, fun hi S3 H3 m3 q3 e3 s3 => ?_⟩
  refine ⟨env, S3, m3, _, s3, r.ext ((e1.trans e2).trans e3).toEx, q3, fun st S4 H4 m4 q4 e4 s4 => ?_⟩
  have e14 := ((e1.trans e2).trans e3).trans e4
  have v1 := v1.ext ((e2.trans e3).trans e4).toEx
  match x, lo, hi, st, q4 with
  | .tup xs, none, none, some j, ⟨hj, q⟩ =>
    simp only [VR] at v1
    obtain ⟨a, us, rfl, h2, h3⟩ := v1
    exact ⟨a, us, rfl, rfl, rfl, by rw [hj], SqT.of h2, fun p hp => (k.ext e14).tup s4 h3.rev hp q⟩
end
end Z
namespace Z
open PySem PySem.Spec PyProof.Rows L2
/-! out of a part with a pair: a plain thing and a new one -/
section
variable {π : List Nat} {S : Sto} {D0 : WEnds} {L' : Sto}
theorem out_pair {x : D} {j : Nat} (L1 : Sto) (o : O) {Lr : Sto} [hr : RenOs (rho π S.length) L1 Lr] (q : D0.rt (.tup [x, .ref S.length]) (puts S π (Lr ++ [o]))) (hN : L'[j]? = some o := by rfl) (h1 : L'.take π.length = L1 := by rfl) (hkj : π.length ≤ j := by simp) (hk : π.length ≤ L'.length := by simp) [hx : Pur x] [ho : PurO o] [hb : BelOs π.length L1] :
    (locE π S D0).rt (.tup [x, .ref j]) L' := by
  have hl : L1.length = π.length := by rw [← h1, List.length_take]; omega
  unfold locE
  refine ⟨List.range π.length ++ [j], L1 ++ [o], .tup [x, .ref π.length], kept_of hk h1 hb.p (by simp) (by simpa using hkj) (by simp [hN]) (by simpa using ho.p), by simp [ren, rens, rho, ren_pur hx.p], ?_⟩
  have e : ren (rho π S.length) (.tup [x, .ref π.length]) = .tup [x, .ref S.length] := by simp [ren, rens, rho, ren_pur hx.p]
  show D0.rt (ren (rho π S.length) (.tup [x, .ref π.length])) (put (rho π S.length) S π (L1 ++ [o]))
  rw [e, put_puts, List.map_append, hr.eq]
  simpa [renO_pur ho.p] using q
end
/-! what stands behind a part -/
theorem puts_len : ∀ {π : List Nat} {S L : Sto}, π.length = L.length → (puts S π L).length = S.length
  | [], S, [], _ => by simp [puts]
  | q :: π, S, o :: L, h => by
    rw [puts, puts_len (by simpa using h), List.length_set]
theorem puts_other : ∀ {π : List Nat} {S L : Sto} {j : Nat}, π.length = L.length → j ∉ π → (puts S π L)[j]? = S[j]?
  | [], S, [], j, _, _ => by simp [puts]
  | q :: π, S, o :: L, j, h, hj => by
    have hj : ¬ j = q ∧ j ∉ π := by simpa using hj
    rw [puts, puts_other (by simpa using h) hj.2, List.getElem?_set_ne (Ne.symm hj.1)]
theorem puts_at : ∀ {π : List Nat} {S L : Sto} {i j : Nat} {o : O}, π.Nodup → (∀ q ∈ π, q < S.length) → π.length = L.length → π[i]? = some j → L[i]? = some o → (puts S π L)[j]? = some o
  | [], _, _, i, _, _, _, _, _, h, _ => by simp at h
  | q :: π, S, o :: L, 0, j, o', nd, lt, h, h1, h2 => by
    have nd := List.nodup_cons.mp nd
    have e1 : q = j := by simpa using h1
    have e2 : o = o' := by simpa using h2
    subst e1 e2
    rw [puts, puts_other (by simpa using h) nd.1, List.getElem?_set_self (lt _ List.mem_cons_self)]
  | q :: π, S, o :: L, i + 1, j, o', nd, lt, h, h1, h2 => by
    have nd := List.nodup_cons.mp nd
    rw [puts]
    exact puts_at (i := i) nd.2 (fun x hx => by rw [List.length_set]; exact lt x (List.mem_cons_of_mem _ hx)) (by simpa using h) (by simpa using h1) (by simpa using h2)
theorem puts_atN {π : List Nat} {S L N : Sto} {i j : Nat} {o : O} (nd : π.Nodup) (lt : ∀ q ∈ π, q < S.length) (h : π.length = L.length) (h1 : π[i]? = some j) (h2 : L[i]? = some o) : (puts S π (L ++ N))[j]? = some o := by
  rw [puts_app h]
  exact getS_app (puts_at nd lt h h1 h2)
theorem puts_new {π : List Nat} {S L N : Sto} (h : π.length = L.length) (i : Nat) : (puts S π (L ++ N))[S.length + i]? = N[i]? := by
  rw [puts_app h, List.getElem?_append_right (by rw [puts_len h]; omega), puts_len h]
  congr 1; omega
theorem puts_lenN {π : List Nat} {S L N : Sto} (h : π.length = L.length) : (puts S π (L ++ N)).length = S.length + N.length := by
  rw [puts_app h, List.length_append, puts_len h]
/-! min of three ints -/
def wMin3 (wr : WA) : WE := fun env S Q => wr env S fun xs S1 => match xs with | [.int i, .int j, .int l] => Q (.int (min (min i j) l)) S1 | _ => False
section
variable {X : Cx} {a : Expr} {es : List Expr} {wr : WA} {p pos : Pos}
theorem nu_min3 (i j l : Int) : nuMin3 (.int i) (.int j) (.int l) = some (.int (min (min i j) l)) := by
  have h2 : ∀ a b : Int, nuMin2 (.int a) (.int b) = some (.int (min a b)) := fun a b => by
    show some (if decide (b < a) = true then V.int b else .int a) = _
    by_cases h : b < a
    · rw [if_pos (decide_eq_true h), Int.min_eq_right (by omega)]
    · rw [if_neg (by simpa using h), Int.min_eq_left (by omega)]
  unfold nuMin3
  rw [h2]
  exact h2 _ _
theorem fe_min3 (hc : X.calm = true) (hg : Gl X "min") (hm : X.mg "min" = none) (ha : FA X (a :: es) wr) (he : starEach (a :: es) X.env = (false, eval a X.env) :: starEach es X.env := by rfl) (hpl : (backTo pos (starEach es X.env)).any (·.1) = false := by rfl) : FE X (.Call (.Name "min" p) (a :: es) [] pos) (wMin3 wr) := by
  refine ⟨PE.imp (pe_callB (call_min3Nu hc) hg hm (by decide +kernel) ha.p (by decide) (by decide) he hpl) fun σ H Q ⟨env, S, m, Q0, s, r, h, k⟩ => ?_⟩
  refine ⟨env, S, m, _, s, r, h, fun xs S1 us H1 m1 q1 e1 s1 v1 => ?_⟩
  match xs, q1 with
  | [.int i, .int j, .int l], q1 =>
    obtain ⟨u, t, rfl, h1, h2⟩ := v1.cons_inv
    obtain ⟨u2, t2, rfl, h3, h4⟩ := h2.cons_inv
    obtain ⟨u3, t3, rfl, h5, h6⟩ := h4.cons_inv
    cases h6.nil_inv
    simp only [VR] at h1 h3 h5
    exact ⟨_, _, _, _, by rw [h1, h3, h5], nu_min3 i j l, (k.ext e1).v s1 q1 (by simp only [VR])⟩
end
end Z
namespace Z
open PySem PySem.Spec PyProof.Rows L2 RZ
/-! sorted(xs, key=f), f a def of the program -/
section
variable {X : Cx} {pins : List (Addr × Obj)} {σ : L2.St} {H : Hp} {s : Shared}
/-- an untracked thing of ours that was laid behind the entry: the heap read without it -/
theorem inv_hide {a : Addr} (I : Inv X pins σ H s) (hf : FpOk X pins H a) : ∃ G : Heap, (∀ b o, G.get? b = some o → s.heap.get? b = some o) ∧ (∀ b o, b ≠ a → s.heap.get? b = some o → G.get? b = some o) ∧ G.get? a = none ∧ Inv X pins σ H { s with heap := G } := by
  obtain ⟨hn, hL, hF, h0, hc, hp⟩ := hf
  obtain ⟨G, g1, g2⟩ := L2.restrict s.heap fun b => decide (b ≠ a)
  have gk : ∀ b o, b ≠ a → s.heap.get? b = some o → G.get? b = some o := fun b o hb e => by
    rw [g1 b (decide_eq_true hb)]
    exact e
  have ga : G.get? a = none := g2 a (decide_eq_false fun z => z rfl)
  have gs : ∀ b o, G.get? b = some o → s.heap.get? b = some o := fun b o e => by
    by_cases hb : b = a
    · rw [hb, ga] at e
      cases e
    · rw [← g1 b (decide_eq_true hb)]
      exact e
  have ne0 : ∀ b o, X.s_0.heap.get? b = some o → b ∉ X.ex → b ≠ a := fun b o e hx z => by
    subst z
    rcases h0 with h0 | h0
    · exact hx h0
    · exact absurd (Nat.lt_of_lt_of_le (Heap.lt_size e) h0) (Nat.lt_irrefl _)
  have cellK : ∀ x c, X.env.cells.lookup x = some c → ∀ v, s.heap.IsCell c v → G.IsCell c v := fun x c e v ⟨o, ho, hd⟩ => ⟨o, gk c o (hc x c e) ho, hd⟩
  refine ⟨G, gs, gk, ga, ⟨I.ok, I.os, I.bare, ⟨fun b o e n hb hq => ?_, fun b o e n hb hq => ?_, I.base.free, fun b o e hq => ?_, I.base.tups, I.base.frzs, I.base.tbls⟩, ?_, fun x c e => ?_, I.free, I.freeC, fun p hp' => ?_, fun b u e => ?_, I.len⟩⟩
  · exact gk b o (ne0 b o e hq) (I.base.keep b o e n hb hq)
  · obtain ⟨sl, q⟩ := I.base.slot b o e n hb hq
    exact ⟨sl, gk b _ (ne0 b o e hq) q⟩
  · obtain ⟨o', q⟩ := I.base.there b o e hq
    exact ⟨o', gk b o' (ne0 b o e hq) q⟩
  · obtain ⟨m, ⟨o, es, ep, ho, r⟩, hl⟩ := I.loc
    refine ⟨m, ⟨o, es, ep, gk _ _ (Ne.symm hL) ho, r⟩, fun i x v e1 e2 e3 => ?_⟩
    obtain ⟨u, r', l⟩ := hl i x v e1 e2 e3
    refine ⟨u, r', ?_⟩
    rcases l with l | ⟨k, c, ec, z⟩
    · exact .inl l
    · exact .inr ⟨k, c, ec, cellK x c ec _ z⟩
  · obtain ⟨v, z⟩ := I.cell x c e
    exact ⟨v, cellK x c e v z⟩
  · obtain ⟨e, n, ne, nf, d⟩ := I.pin p hp'
    exact ⟨gk _ _ (hp p hp') e, n, ne, nf, d⟩
  · have hb : b ≠ a := fun z => by rw [z, hn] at e; cases e
    refine (I.hok b u e).stay (fun c v hc' q => gk c v ?_ q) (fun _ q => q) fun _ _ q => q
    intro z
    subst z
    rcases hc' with hc' | hc'
    · exact hb hc'.symm
    · rw [hn] at hc'; cases hc'
end
open SrtO Srt in
theorem keyed_end {prog : Program} {w : World} {A : Around} {E : Value → Shared → Prop} {s : Shared} {a kS : Addr} {vs : List Value} {keys : Array Value} {e e1 : Nat} {P : PySem.Fin → Shared → Prop} {ltv : Value → Value → Bool} (O : Swo ltv)
    (nk : s.heap.get? kS = some (seqObj "list" keys e)) (na : s.heap.get? a = some (seqObj "list" #[] e1)) (hka : kS ≠ a) (hS : 2 ≤ vs.length → SortableO prog w A s a keys.toList ltv) (hsz : keys.size = vs.length) (hZ : vs.length ≤ sizeLine)
    (h : ∀ h' tk c (ps : List Keyed), (∀ b o, b ≠ a → b ≠ kS → s.heap.get? b = some o → h'.get? b = some o) → ps.Perm (keys.toList.zip vs) → Srtd (lt2 ltv) ps → h'.get? a = some (seqObj "list" (ps.map (fun p => p.2)).toArray c) → P (.done (.ret .none)) { s with heap := h', toks := tk }) :
    wpAny (model prog w) A (ksk_end a false vs.toArray e1 (.ref kS) keys) P E s := by
  have hzl : (keys.zip vs.toArray).toList = keys.toList.zip vs := ksk_zip keys vs
  have tail : ∀ st' : SortSt, failedOf st' = none → (arrOf st').toList.Perm (keys.toList.zip vs) → Srtd (lt2 ltv) (arrOf st').toList → wpAny (model prog w) A (ksk_tail a false e1 (.ref kS) st') P E s := by
    intro st' hf hp hs
    have hl : ((arrOf st').toList.map (fun p : Keyed => p.2)).length = vs.length := by
      rw [List.length_map, hp.length_eq, List.length_zip, Array.length_toList, hsz, Nat.min_self]
    refine PySem.W.keyH_tail (h₁ := PySem.W.hideAll s.heap [kS]) (out := (arrOf st').toList.map (fun p : Keyed => p.2)) (fun b o _ e => PySem.W.of_hideAll _ e) (PySem.W.hideAll_none _ (by simp)) nk na hka (by rw [hsz]; exact hZ) (by rw [hl]; exact hZ) hf ?_ fun h' tk c kp ha => h h' tk c _ (fun b o hb hk e => kp b o hb (PySem.W.hideAll_get _ e (by simpa using hk))) hp hs ha
    rw [if_neg (by decide), ← Array.toList_map, Array.toArray_toList]
  unfold ksk_end
  try dsimp only
  rw [if_neg (by decide)]
  by_cases hl2 : vs.toArray.size < 2
  · rw [if_pos hl2, if_pos hl2]
    refine wpAny_bind (wpAny_pure ?_)
    rw [StateT.run_pure]
    refine wpAny_bind (wpAny_pure ?_)
    try dsimp only
    refine tail (SortSt.mk' general' (keys.zip vs.toArray) #[] 7 none) rfl (by show (keys.zip vs.toArray).toList.Perm _; rw [hzl]) ?_
    show Srtd _ (keys.zip vs.toArray).toList
    rw [hzl]
    have : (keys.toList.zip vs).length < 2 := by rw [List.length_zip, Array.length_toList, hsz, Nat.min_self]; simpa using hl2
    match keys.toList.zip vs, this with
    | [], _ => exact List.Pairwise.nil
    | [v], _ => exact List.pairwise_singleton _ _
    | _ :: _ :: l, h => exact absurd h (by rw [List.length_cons, List.length_cons]; omega)
  · rw [if_neg hl2, if_neg hl2]
    rw [List.size_toArray] at hl2
    obtain ⟨κ, hkind, hT⟩ := hS (by omega) s.heap (fun _ _ _ e => e)
    rw [Array.toArray_toList] at hkind
    refine wpAny_bind (hkind _ _ ?_)
    have hall : AllL (fun p : Keyed => p.1 ∈ keys.toList) (keys.zip vs.toArray).toList := fun p hm => by
      rw [hzl] at hm
      exact (List.of_mem_zip hm).1
    refine wpAny_bind (wpAny_mono (wpS_sortO (st0 := SortSt.mk' κ (keys.zip vs.toArray) #[] 7 none)
      (Q := fun _ st' => Srtd (lt2 ltv) (arrOf st').toList ∧ Stb (lt2 ltv) (arrOf st').toList (keys.zip vs.toArray).toList ∧ failedOf st' = none) (swo2 O) hT rfl hall rfl rfl fun st' a1 a2 a3 => ⟨a1, a2, a3⟩) ?_ fun _ _ e => e)
    rintro ⟨⟨⟩, st'⟩ s' ⟨rfl, hp1, hp2, hf⟩
    try dsimp only
    exact tail st' hf (by rw [← hzl]; exact hp2.perm) hp1
/-- what is known of the keys, row by row -/
theorem keyRows {K : Frag} {m : List Addr} {H : Hp} {kf : D → D} : ∀ {ds : List D} {us xs : List V} {ks vs : List Value}, VRs K m H (ds.map kf) us → Vals us ks → VRs K m H ds xs → Vals xs vs →
    ∃ rows : List (D × V × V × Value × Value), rows.map (fun r => r.1) = ds ∧ rows.map (fun r => (r.2.2.2.1, r.2.2.2.2)) = ks.zip vs ∧ ∀ r ∈ rows, VR K m H (kf r.1) r.2.1 ∧ RelV r.2.1 r.2.2.2.1 ∧ VR K m H r.1 r.2.2.1 ∧ RelV r.2.2.1 r.2.2.2.2
  | [], us, xs, ks, vs, h1, h2, h3, h4 => by
    rw [show (([] : List D).map kf) = [] from rfl] at h1
    have := h1.nil_inv; subst this
    have := h3.nil_inv; subst this
    cases h2; cases h4
    exact ⟨[], rfl, rfl, fun _ h => nomatch h⟩
  | d :: ds, us, xs, ks, vs, h1, h2, h3, h4 => by
    rw [List.map_cons] at h1
    obtain ⟨u, us', rfl, a1, a2⟩ := h1.cons_inv
    obtain ⟨x, xs', rfl, b1, b2⟩ := h3.cons_inv
    cases h2 with
    | cons r1 t1 =>
      cases h4 with
      | cons r2 t2 =>
        rename_i ku kt vu vt
        obtain ⟨rows, e1, e2, e3⟩ := keyRows a2 t1 b2 t2
        refine ⟨(d, u, x, _, _) :: rows, by rw [List.map_cons, e1], by rw [List.map_cons, e2]; rfl, fun r hr => ?_⟩
        rcases List.mem_cons.mp hr with rfl | hr
        · exact ⟨a1, r1, b1, r2⟩
        · exact e3 r hr
section
variable {X : Cx} {pins : List (Addr × Obj)} {σ : L2.St} {H : Hp} {s : Shared} {k : Nat} {fa : Addr} {fd : FuncData} {p1 : Str} {sp : DSp} {kf : D → D} {S1 : Sto} {m : List Addr}
theorem run_key {H : Hp} {s : Shared} {u : Value} {v : V} {Q : VK} (F : FnOk X.prog X.w X.K X.mg X.base CX0 k fa fd [p1] (liftSp X.K sp)) (hr : Room (k + 2) X.A) (hb : Binds X.K fd [p1] []) (I : Inv X pins σ H s) (r : RelV v u) (h : liftSp X.K sp [v] H Q (fun _ _ _ => False)) :
    wpAny (model X.prog X.w) X.A.in1.in1 (call (.ref fa) [u]) (EP X pins σ Q) (fun _ _ => False) s := by
  have b := hb s [u] I.kIn rfl
  rw [List.append_nil] at b
  refine wpAny_call (codeAny_mono (F.run X.A.in1.in1 X.stack s H ⟨[u], []⟩ [u] [v] Q _ (Room.in1 (Room.in1 hr)) I.env0.in1.in1 b (.cons r .nil) h) fun r s' hq => ?_)
  cases r with
  | error e => exact hq.elim
  | ok fl =>
    cases fl with
    | ret u => exact I.after hq
    | next => exact hq.elim
    | brk => exact hq.elim
    | cont => exact hq.elim
theorem fp_of {pins : List (Addr × Obj)} {H H' : Hp} {b : Addr} (h : FpOk X pins H b) (hn : H' b = none) : FpOk X pins H' b := ⟨hn, h.2⟩
theorem fp_turned {b : Addr} {h' : Heap} (I : Inv X pins σ H s) (hf : FpOk X pins H b) (k : ∀ c o, c ≠ b → s.heap.get? c = some o → h'.get? c = some o) {t' : Nat} : Inv X pins σ H { s with heap := h', toks := t' } :=
  I.turned k hf.1 hf.2.1 hf.2.2.2.1 hf.2.2.2.2.1 hf.2.2.2.2.2
/-- what stands when j keys are made -/
structure KeyAt (X : Cx) (pins : List (Addr × Obj)) (σ : L2.St) (m : List Addr) (H : Hp) (S1 : Sto) (kf : D → D) (ds : List D) (a kS : Addr) (e1 : Nat) (j : Nat) (s' : Shared) (H' : Hp) (m' : List Addr) (us : List V) (kA : Array Value) (e : Nat) : Prop where
  ext : Ext X.K m H m' H'
  sr : SR X.K m' H' S1
  vrs : VRs X.K m' H' ((ds.take j).map kf) us
  vals : Vals us kA.toList
  inv : Inv X pins σ H' s'
  fa : FpOk X pins H' a
  fk : FpOk X pins H' kS
  na : s'.heap.get? a = some (seqObj "list" #[] e1)
  nk : s'.heap.get? kS = some (seqObj "list" kA e)
theorem vrs_snoc {K : Frag} {m : List Addr} {H : Hp} {xs : List D} {us : List V} {x : D} {u : V} (h : VRs K m H xs us) (hx : VR K m H x u) : VRs K m H (xs ++ [x]) (us ++ [u]) := h.app (.cons hx .nil)
theorem key_turn {a kS : Addr} {e1 : Nat} {ds : List D} {j : Nat} {s' : Shared} {H' : Hp} {m' : List Addr} {us : List V} {kA : Array Value} {e : Nat} {d : D} {v : V} {u : Value} (F : FnOk X.prog X.w X.K X.mg X.base CX0 k fa fd [p1] (liftSp X.K sp)) (hr : Room (k + 2) X.A) (hb : Binds X.K fd [p1] [])
    (K : KeyAt X pins σ m H S1 kf ds a kS e1 j s' H' m' us kA e) (hka : kS ≠ a) (hd : ds[j]? = some d) (hv : VR X.K m H d v) (ru : RelV v u) (hsp : sp [d] S1 (fun kd S' => S' = S1 ∧ kd = kf d) (fun _ _ _ => False)) :
    wpAny (model X.prog X.w) X.A.in1.in1 (call (.ref fa) [u]) (fun w s'' => ∃ H'' m'' ku, Ext X.K m H m'' H'' ∧ SR X.K m'' H'' S1 ∧ VRs X.K m'' H'' ((ds.take (j + 1)).map kf) (us ++ [ku]) ∧ RelV ku w ∧ Inv X pins σ H'' s'' ∧ FpOk X pins H'' a ∧ FpOk X pins H'' kS ∧ s''.heap.get? a = some (seqObj "list" #[] e1) ∧ s''.heap.get? kS = some (seqObj "list" kA e)) (fun _ _ => False) s' := by
  have I2 : Inv X (pins ++ [(a, seqObj "list" #[] e1), (kS, seqObj "list" kA e)]) σ H' s' := K.inv.pins_of fun p hp => by
    rcases List.mem_append.mp hp with hp | hp
    · exact K.inv.pin p (List.mem_append_right _ hp)
    · simp only [List.mem_cons, List.not_mem_nil, or_false] at hp
      rcases hp with rfl | rfl
      · exact ⟨K.na, K.fa.1, K.fa.2.1, K.fa.2.2.1, fun v z => by cases z⟩
      · exact ⟨K.nk, K.fk.1, K.fk.2.1, K.fk.2.2.1, fun v z => by cases z⟩
  refine wpAny_mono (run_key F hr hb I2 ru ⟨[d], S1, m', _, _, K.sr, .cons (hv.ext K.ext.toEx) .nil, hsp, fun kd S' w H'' m'' q e' s' r' => ?_, fun _ _ _ _ _ _ z => z.elim⟩ (Q := fun w H'' => ∃ m'', Ext X.K m' H' m'' H'' ∧ SR X.K m'' H'' S1 ∧ VR X.K m'' H'' (kf d) w)) (fun w s'' hw => ?_) fun _ _ z => z
  · obtain ⟨rfl, rfl⟩ := q
    exact ⟨m'', e', s', r'⟩
  · obtain ⟨ku, H'', I3, rk, m'', e', sr', vk⟩ := hw
    have pa := I3.pin (a, seqObj "list" #[] e1) (List.mem_append_right _ (List.mem_append_right _ (by simp)))
    have pk := I3.pin (kS, seqObj "list" kA e) (List.mem_append_right _ (List.mem_append_right _ (by simp)))
    refine ⟨H'', m'', ku, K.ext.trans e', sr', ?_, rk, I3.unpinned, fp_of K.fa pa.2.1, fp_of K.fk pk.2.1, pa.1, pk.1⟩
    rw [List.take_add_one, hd, List.map_append]
    exact vrs_snoc (K.vrs.ext e'.toEx) vk
open SrtO Srt in
theorem key_rest {a kS : Addr} {e1 : Nat} {ds : List D} {xs : List V} {vs : List Value} {P : PySem.Fin → Shared → Prop} {E : Value → Shared → Prop} (F : FnOk X.prog X.w X.K X.mg X.base CX0 k fa fd [p1] (liftSp X.K sp)) (hr : Room (k + 2) X.A) (hb : Binds X.K fd [p1] [])
    (K0 : KeyAt X pins σ m H S1 kf ds a kS e1 0 s H m [] #[] 0) (hka : kS ≠ a) (rv : VRs X.K m H ds xs) (rvs : Vals xs vs) (hsp : ∀ d ∈ ds, sp [d] S1 (fun kd S' => S' = S1 ∧ kd = kf d) (fun _ _ _ => False)) (hSD : SortD (ds.map kf)) (hZ : vs.length ≤ sizeLine)
    (h : ∀ s' H' m' c (ys : List D) (ws : List V) (out : List Value), Inv X pins σ H' s' → FpOk X pins H' a → Ext X.K m H m' H' → SR X.K m' H' S1 → s'.heap.get? a = some (seqObj "list" out.toArray c) → ys.Perm ds → VRs X.K m' H' ys ws → Vals ws out → ys.Pairwise (fun x y => ltK (keyT (kf y)) (keyT (kf x)) = false) → out.length = vs.length → P (.done (.ret .none)) s') :
    wpAny (model X.prog X.w) X.A.in1.in1 (ksk_rest a (.ref fa) false vs.toArray e1 (.ref kS)) P E s := by
  have hlen : vs.length = ds.length := by rw [rv.length, rvs.length]
  unfold ksk_rest
  refine wpAny_bind (wpAny_rule ?_)
  first
    | rw [List.forIn_toArray]
    | (rw [← Array.forIn_toList]; simp only [List.toList_toArray])
    | rw [← Array.forIn_toList]
  refine wpAny_bind (ksk_fold (fun j s' => ∃ H' m' us kA e, KeyAt X pins σ m H S1 kf ds a kS e1 j s' H' m' us kA e) vs 0 s ⟨H, m, [], #[], 0, K0⟩ ?step ?done)
  case step =>
    rintro j x s' hx ⟨H', m', us, kA, e, K⟩
    simp only [Nat.zero_add] at K ⊢
    have hj : j < vs.length := (List.getElem?_eq_some_iff.mp hx).1
    have hd : ds[j]? = some ds[j] := List.getElem?_eq_getElem (by omega)
    obtain ⟨v, hv, rvd⟩ := rv.get hd
    obtain ⟨u, hu, ru⟩ := rvs.get hv
    rw [hx] at hu; cases hu
    have hz : kA.size ≤ vs.length := by
      have h1 : us.length = kA.toList.length := K.vals.length
      have h2 := K.vrs.length
      have h3 : kA.toList.length = kA.size := Array.length_toList
      rw [List.length_map, List.length_take] at h2
      omega
    refine wpAny_bind (wpAny_attempt (wpAny_mono (key_turn F hr hb K hka hd rvd ru (hsp _ (List.getElem_mem _))) (fun w s'' hw => ?_) fun _ _ hF => hF.elim))
    obtain ⟨H'', m'', ku, x1, x2, x3, x4, x5, x6, x7, x8, x9⟩ := hw
    try dsimp only
    have s1 := Heap.SameBut.update s''.heap kS (Obj.mapSeq (·.push w))
    obtain ⟨c2, hc2⟩ : ∃ c2, (s''.heap.update kS (Obj.mapSeq (·.push w))).get? kS = some (seqObj "list" (kA.push w) c2) := ⟨_, get?_update_seq x9 (·.push w)⟩
    refine wpAny_bind (listUpdate_at x9 rfl ?_ (Nat.le_trans hz hZ) (Nat.le_trans (Nat.le_of_eq (Array.size_push ..)) (Nat.succ_le_succ (Nat.le_trans hz hZ))))
    refine wpAny_pure ⟨rfl, H'', m'', us ++ [ku], kA.push w, c2, x1, x2, x3, ?_, fp_turned (t' := s''.toks) x5 x7 fun c o hc q => (s1.2 c hc).trans q, x6, x7, (s1.2 a hka.symm).trans x8, hc2⟩
    rw [Array.toList_push]
    exact K.vals.append (.cons x4 .nil)
  case done =>
    rintro s' ⟨H', m', us, kA, e, K⟩
    have K : KeyAt X pins σ m H S1 kf ds a kS e1 (0 + vs.length) s' H' m' us kA e := K
    have vrs : VRs X.K m' H' (ds.map kf) us := by
      have := K.vrs
      rwa [List.take_of_length_le (by omega)] at this
    have hsz : kA.size = vs.length := by
      have h1 : us.length = kA.toList.length := K.vals.length
      have h2 := vrs.length
      have h3 : kA.toList.length = kA.size := Array.length_toList
      rw [List.length_map] at h2
      omega
    have hS := hSD.v vrs
    try dsimp only
    refine wpAny_bind (listItems_at K.nk rfl ?_)
    have back : ∀ {its : List Value} {zs : List V}, (∀ x ∈ zs, ∃ t us, x = .ref t ∧ H' t = some (.tup us) ∧ us.all flatV = true) → Vals zs its → zs = its.map backV := by
      intro its
      induction its with
      | nil => intro zs _ h; cases zs with | nil => rfl | cons _ _ => cases h
      | cons v vs ih =>
        intro zs hz h
        cases h with
        | @cons x _ xs' _ rx tx =>
          obtain ⟨t, us, e, _⟩ := hz x List.mem_cons_self
          subst e
          cases rx
          rw [List.map_cons, ← ih (fun y hy => hz y (List.mem_cons_of_mem _ hy)) tx]; rfl
    obtain ⟨rows, q1, q2, q3⟩ := keyRows vrs K.vals (rv.ext K.ext.toEx) rvs
    refine keyed_end (ltv := fun v u => ltK (keysV (backT H' v)) (keysV (backT H' u))) (ltK_swo fun v => keysV (backT H' v)) K.nk K.na hka (fun h2 => ?_) hsz hZ fun h' tk c ps keep hperm hsrt hget => ?_
    · have e1 := back hS.tup K.vals
      refine tups_sortable (by rw [Array.length_toList]; omega) (fun v hv => ?_) (hS.hd.imp (fun hd v hv => hd _ ?_) fun hd v hv => hd _ ?_) fun v hv u hu => hS.lex _ ?_ _ ?_
      · have hm : backV v ∈ us := by rw [e1]; exact List.mem_map.mpr ⟨v, hv, rfl⟩
        obtain ⟨t, us', e2, h3, h4⟩ := hS.tup _ hm
        obtain ⟨z, its2, r2, ⟨cls, dd, data, sl⟩, ho, hcl, n, hd⟩ := K.inv.hok _ _ h3
        have e5 : tupOf H' (backV v) = us' := by rw [e2]; exact tupOf_ref h3
        have hv' : v = .ref t := by
          obtain ⟨x, hx, rx⟩ := vals_mem K.vals hv
          obtain ⟨t', us'', e6, _⟩ := hS.tup _ hx
          subst e6
          cases rx
          cases e2
          rfl
        exact ⟨t, _, its2, n, ⟨hv', ho, hcl, hd, by show Vals (tupOf H' (backV v)) _; rw [e5]; exact r2⟩, fun z => (by rw [z, K.fa.1] at h3; cases h3), by show (tupOf H' (backV v)).all flatV = true; rw [e5]; exact h4⟩
      all_goals (rw [e1]; exact List.mem_map.mpr ⟨_, by assumption, rfl⟩)
    · obtain ⟨rows', e2, e3⟩ := perm_map (xs := rows) (ys := ps) (fun r : D × V × V × Value × Value => (r.2.2.2.1, r.2.2.2.2)) (by rw [q2]; exact hperm)
      have hr' : ∀ r ∈ rows', VR X.K m' H' (kf r.1) r.2.1 ∧ RelV r.2.1 r.2.2.2.1 ∧ VR X.K m' H' r.1 r.2.2.1 ∧ RelV r.2.2.1 r.2.2.2.2 := fun r hr => q3 r (e3.mem_iff.mp hr)
      have keyV_of : ∀ r ∈ rows', keysV (backT H' r.2.2.2.1) = keyT (kf r.1) := fun r hr => by
        obtain ⟨a1, a2, _, _⟩ := hr' r hr
        have hm : r.1 ∈ ds := by rw [← q1]; exact List.mem_map_of_mem (e3.mem_iff.mp hr)
        obtain ⟨us', e, fl⟩ := hSD.tup _ (List.mem_map_of_mem (f := kf) hm)
        rw [e] at a1
        have hk := a1.tupOf.keysV
        have hb : backV r.2.2.2.1 = r.2.1 := by
          simp only [VR] at a1
          obtain ⟨t, ws, e6, _, _⟩ := a1
          rw [e6] at a2 ⊢
          have a2 : r.2.2.2.1 = Value.ref t := a2
          rw [a2]; rfl
        show keysV (tupOf H' (backV r.2.2.2.1)) = _
        rw [hb, hk, e]; rfl
      have I2 : Inv X pins σ H' { s' with heap := h', toks := tk } := Inv.turnedL (ch := [a, kS]) K.inv (fun b o hb q => keep b o (fun z => hb (by simp [z])) (fun z => hb (by simp [z])) q) fun b hb => by
        simp only [List.mem_cons, List.not_mem_nil, or_false] at hb
        rcases hb with rfl | rfl
        · exact K.fa
        · exact K.fk
      refine h _ H' m' c (rows'.map fun r => r.1) (rows'.map fun r => r.2.2.1) (rows'.map fun r => r.2.2.2.2) I2 K.fa K.ext K.sr ?_ ?_ ?_ ?_ ?_ ?_
      · rw [e2, List.map_map] at hget; exact hget
      · rw [← q1]; exact e3.map _
      · clear e2 e3 keyV_of
        induction rows' with
        | nil => exact .nil
        | cons r rs ih => exact .cons (hr' r List.mem_cons_self).2.2.1 (ih fun q hq => hr' q (List.mem_cons_of_mem _ hq))
      · clear e2 e3 keyV_of
        induction rows' with
        | nil => exact .nil
        | cons r rs ih => exact .cons (hr' r List.mem_cons_self).2.2.2 (ih fun q hq => hr' q (List.mem_cons_of_mem _ hq))
      · rw [e2] at hsrt
        rw [List.pairwise_map]
        refine List.Pairwise.imp_of_mem (fun {x y} hx hy hxy => ?_) (List.pairwise_map.mp hsrt)
        have hxy : ltK (keysV (backT H' y.2.2.2.1)) (keysV (backT H' x.2.2.2.1)) = false := hxy
        rwa [keyV_of y hy, keyV_of x hx] at hxy
      · have h1 := e3.length_eq
        have h2 := congrArg List.length q1
        rw [List.length_map] at h2 ⊢
        omega
def rSortKey (X : Cx) (fa : Addr) (sp : DSp) : List V → List V → Hp → VK → Prop := fun vs zs H Q => ∃ (u : V) (xs : List V) (ds : List D) (S1 : Sto) (m : List Addr) (kf : D → D), vs = [u] ∧ zs = [.ref fa] ∧ CollOk X H u xs ∧ SR X.K m H S1 ∧ VRs X.K m H ds xs ∧ (∀ d ∈ ds, sp [d] S1 (fun kd S' => S' = S1 ∧ kd = kf d) (fun _ _ _ => False)) ∧ SortD (ds.map kf) ∧
  ∀ (p : Addr) (H' : Hp) (m' : List Addr) (ys : List D) (ws : List V), H' p = none → H p = none → Ext X.K m H m' H' → SR X.K m' H' S1 → ys.Perm ds → VRs X.K m' H' ys ws → ys.Pairwise (fun x y => ltK (keyT (kf y)) (keyT (kf x)) = false) → Q (.ref p) (upd H' p (.lst ws))
theorem cr_sortKey (hc : X.calm = true) (F : FnOk X.prog X.w X.K X.mg X.base CX0 k fa fd [p1] (liftSp X.K sp)) (hr : Room (k + 2) X.A) (hb : Binds X.K fd [p1] []) : CallRK X (.builtin "sorted") [Str.ofString "key"] (rSortKey X fa sp) := by
  intro pins s σ H vs zs us ws Q I r rz ⟨u, xs, ds, S1, m, kf, e1, e2, hcol, sr, rv, hsp, hSD, q⟩
  subst e1 e2
  obtain ⟨v, rfl, ru⟩ := vals1 r
  obtain ⟨w, rfl, rw'⟩ := vals1 rz
  obtain rfl : w = Value.ref fa := rw'
  show wpAny (model X.prog X.w) X.A (call (.builtin "sorted") [v] [(Str.ofString "key", .ref fa)]) (EP X pins σ Q) X.xe s
  refine call_function_entry_kw kind_sorted plain_sorted entry_sorted (ksk_s1 _ _) ?_
  unfold Builtin.«sorted»
  refine wpAny_bind (m := checkCount "sorted" 1 1 _) (wpAny_pure ?_)
  refine wpAny_bind (hcol pins σ s X.A.in1 _ v _ (I.ok.hd hc) I ru fun s1 its k1 g1 o1 hv hz => ?_)
  have hlen : its.length = xs.length := hv.length.symm
  have I1 : Inv X pins σ H s1 := I.call' (ch := []) o1 (Un.kept k1) (I.hok.kept k1) (by rw [g1]; exact I.bare) (fun _ z => nomatch z)
  refine wpAny_bind (wpAny_newList ?_ (by rw [hlen]; exact hz))
  have hoL : (s1.heap.push (seqObj "list" its.toArray 0)).get? s1.heap.objs.size = some (seqObj "list" its.toArray 0) := Heap.get?_push_size _ rfl
  refine wpAny_bind (wpAny_holding (wpAny_call_entry_kw slot_list_sort ⟨_, hoL, rfl⟩ entry_list_sort ?_ (ksk_l1 _ _)))
  show wpAny (model X.prog X.w) X.A.in1.in1 (Builtin.«list.sort» ⟨[.ref s1.heap.objs.size], [(Str.ofString "key", .ref fa)]⟩) _ _ { s1 with heap := s1.heap.push (seqObj "list" its.toArray 0) }
  rw [ksk_t1]
  unfold ksk_tree
  refine wpAny_bind (listItems_at hoL rfl ?_)
  refine wpAny_bind (listUpdate_at hoL rfl ?_ (by rw [List.size_toArray, hlen]; exact hz) (Nat.zero_le _))
  obtain ⟨ep, ho1⟩ : ∃ ep, ((s1.heap.push (seqObj "list" its.toArray 0)).update s1.heap.objs.size (Obj.mapSeq fun _ => #[])).get? s1.heap.objs.size = some (seqObj "list" #[] ep) := ⟨_, get?_update_seq hoL fun _ => #[]⟩
  refine wpAny_bind (seqEpoch_at ho1 rfl ?_)
  refine wpAny_bind (wpAny_newTuple ?_ (by show its.length ≤ _; rw [hlen]; exact hz))
  refine wpAny_bind (wpAny_newList ?_ (Nat.zero_le _))
  refine wpAny_holding ?_
  have hk2 : (((s1.heap.push (seqObj "list" its.toArray 0)).update s1.heap.objs.size (Obj.mapSeq fun _ => #[])).push (seqObj "tuple" its.toArray 0)).objs.size = s1.heap.objs.size + 2 := by rw [size_push', Heap.size_update, size_push']
  have keep : ∀ b o, s1.heap.get? b = some o → ((((s1.heap.push (seqObj "list" its.toArray 0)).update s1.heap.objs.size (Obj.mapSeq fun _ => #[])).push (seqObj "tuple" its.toArray 0)).push (seqObj "list" #[] 0)).get? b = some o := fun b o e =>
    Heap.get?_push_of_some _ (Heap.get?_push_of_some _ ((Heap.get?_update_ne _ _ _ _ (Nat.ne_of_lt (Heap.lt_size e))).trans (Heap.get?_push_of_some _ e)))
  have fp : ∀ b, s1.heap.objs.size ≤ b → FpOk X pins H b := fun b hb => I1.fpOk hb (I1.hok.fresh hb)
  have I2 : Inv X pins σ H { s1 with heap := ((((s1.heap.push (seqObj "list" its.toArray 0)).update s1.heap.objs.size (Obj.mapSeq fun _ => #[])).push (seqObj "tuple" its.toArray 0)).push (seqObj "list" #[] 0)), toks := s1.toks } := I1.kept keep
  refine key_rest (a := s1.heap.objs.size) (kS := (((s1.heap.push (seqObj "list" its.toArray 0)).update s1.heap.objs.size (Obj.mapSeq fun _ => #[])).push (seqObj "tuple" its.toArray 0)).objs.size) F hr hb
    ⟨Ext.refl, sr, .nil, .nil, I2, fp _ (Nat.le_refl _), fp _ (by rw [hk2]; omega), Heap.get?_push_of_some _ (Heap.get?_push_of_some _ ho1), Heap.get?_push_size _ rfl⟩ (fun z => absurd (hk2.symm.trans z) (by show ¬ s1.heap.objs.size + 2 = s1.heap.objs.size; exact fun z => absurd z (by simp))) rv hv hsp hSD (by rw [hlen]; exact hz) fun s' H' m' c ys ws out I3 f3 x3 sr3 hget hp hvr hvl hpw hol => ⟨_, rfl, ?_⟩
  obtain ⟨G, g3, g4, g5, I4⟩ := inv_hide I3 f3
  refine wpAny_pure ⟨_, rfl, ⟨.ref _, _, I4.laidN (t' := s'.toks) (o := .lst ws) (fun b u e => g3 b u e) g5 f3.1 ?_, rfl, q _ H' m' ys ws f3.1 (I1.hok.fresh (Nat.le_refl _)) x3 sr3 hp hvr hpw⟩⟩
  refine ⟨?_, out, c, hvl, hget⟩
  rw [hvl.length, hol, hlen]; exact hz
end
/-- sorted(xs, key=f) -/
def lSortKey (sp : DSp) (wq : WA) : WA := fun env S Q => wq env S fun ds S1 => ∃ kf : D → D, (∀ d ∈ ds, sp [d] S1 (fun kd S' => S' = S1 ∧ kd = kf d) fun _ _ _ => False) ∧ SortD (ds.map kf) ∧ ∀ ys : List D, ys.Perm ds → ys.Pairwise (fun x y => ltK (keyT (kf y)) (keyT (kf x)) = false) → Q ys S1
section
variable {X : Cx} {e : Expr} {wq : WA} {g p1 : Str} {k : Nat} {fa : Addr} {fd : FuncData} {sp : DSp} {p p2 kpos pos : Pos}
theorem fl_sortKey (hc : X.calm = true) (hg : Gl X "sorted") (hm : X.mg "sorted" = none) (F : FnOk X.prog X.w X.K X.mg X.base CX0 k fa fd [p1] (liftSp X.K sp)) (hr : Room (k + 2) X.A) (hgg : Gl X g) (hmg : X.mg g = some (.ref fa)) (hb : Binds X.K fd [p1] []) (ha : FC X e wq)
    (hs : starEach [e] X.env = (false, eval e X.env) :: starEach [] X.env := by rfl) (hdb : (g == ("__debug__" : Str)) = false := by decide) : FL X (.Call (.Name "sorted" p) [e] [⟨some "key", .Name g p2, kpos⟩] pos) (lSortKey sp wq) := by
  refine ⟨PE.imp (pe_callBK (ks := [Str.ofString "key"]) (cr_sortKey hc F hr hb) hg hm (by decide +kernel) (pa_cons ha.p pa_nil hs) (pk_cons (pe_glob (v := .ref fa) hgg hmg rfl hdb) pk_nil) (he := by rw [hs]; rfl) (hpl := by rw [hs]; rfl)) fun σ H Q ⟨env, S, m, Q0, s, r, h, k⟩ => ?_⟩
  refine ⟨env, S, m, _, s, r, h, fun ds S1 u us H1 m1 q1 e1 s1 hcol v1 => ?_⟩
  obtain ⟨kf, hsp, hSD, q⟩ := q1
  refine ⟨u, us, ds, S1, m1, kf, rfl, rfl, hcol, s1, v1, hsp, hSD, fun p H' m' ys ws hp hp0 x2 s2 h1 h2 h3 => ?_⟩
  have e2 := e1.trans x2
  exact k.lst e2 s2 h2 hp (e2.back s2 hp) (q ys h1 h3)
end
end Z
namespace Z
open PySem PySem.Spec PyProof.Rows L2 RZ
/-! xs == [], xs != [] where xs is a list of things of any kind -/
def rEqE (f : Bool → Bool) : R2 := fun x y H Q => ∃ a b ks, x = .ref a ∧ y = .ref b ∧ H a = some (.lst ks) ∧ H b = some (.lst []) ∧ Q (.bl (f ks.isEmpty)) H
section
variable {X : Cx}
theorem isList_of {P : Program} {w : World} {H : Hp} {h : Heap} {a : Addr} {ks : List V} (hok : HOk P w H h) (e : H a = some (.lst ks)) : ∃ its : List Value, Vals ks its ∧ h.IsList a its.toArray := by
  obtain ⟨_, its, n, rv, g⟩ := (show ObjOk P w H h a (.lst ks) from hok a _ e)
  exact ⟨its, rv, _, g, rfl, n, rfl⟩
theorem op_eqE (hu : X.A.units < cLine) : OpR X (compareOp .Eq) (rEqE id) := by
  intro pins s σ H x y v u Q I rx ry ⟨a, b, ks, ex, ey, ea, eb, q⟩
  subst ex
  subst ey
  have e1 : v = Value.ref a := rx
  have e2 : u = Value.ref b := ry
  subst e1
  subst e2
  obtain ⟨ia, ra, la⟩ := isList_of I.hok ea
  obtain ⟨ib, rb, lb⟩ := isList_of I.hok eb
  cases rb
  cases ra with
  | nil => exact SeqAt.eq_listAt (e := fun _ => true) la lb rfl hu (fun j h1 _ => absurd h1 (Nat.not_lt_zero j)) ⟨.bl true, H, I, rfl, q⟩
  | cons r t => exact SeqAt.eq_list_lengthsAt la lb (by simp) hu ⟨.bl false, H, I, rfl, q⟩
theorem op_neE (hu : X.A.units < cLine) : OpR X (compareOp .NotEq) (rEqE not) := by
  intro pins s σ H x y v u Q I rx ry ⟨a, b, ks, ex, ey, ea, eb, q⟩
  subst ex
  subst ey
  have e1 : v = Value.ref a := rx
  have e2 : u = Value.ref b := ry
  subst e1
  subst e2
  obtain ⟨ia, ra, la⟩ := isList_of I.hok ea
  obtain ⟨ib, rb, lb⟩ := isList_of I.hok eb
  cases rb
  cases ra with
  | nil => exact SeqAt.RcNeAt.lists (e := fun _ => true) la lb rfl hu (fun j h1 _ => absurd h1 (Nat.not_lt_zero j)) _ _ _ _ ⟨.bl false, H, I, rfl, q⟩
  | cons r t => exact SeqAt.RcNeAt.lists_lengths la lb (by simp) hu _ _ _ _ ⟨.bl true, H, I, rfl, q⟩
def dEqE (f : Bool → Bool) : R2D := fun x y S Q => match x, y with | .ref p, .ref q => ∃ ks, S[p]? = some (.lst ks) ∧ S[q]? = some (.lst []) ∧ Q (.bl (f ks.isEmpty)) S | _, _ => False
theorem sim_eqE (f : Bool → Bool) : Sim2 X.K (rEqE f) (dEqE f) := by
  intro m H S x y u v Q0 Q s rx ry h k
  cases x <;> cases y <;> simp only [dEqE] at h <;> first | exact h.elim | skip
  simp only [VR] at rx ry
  obtain ⟨a, rfl, h1⟩ := rx
  obtain ⟨b, rfl, h2⟩ := ry
  obtain ⟨ks, h3, h4, q⟩ := h
  obtain ⟨us, h5, h6⟩ := s.lst h1 h3
  obtain ⟨ws, h7, h8⟩ := s.lst h2 h4
  have hw := h8.nil_inv
  subst hw
  refine ⟨a, b, us, rfl, rfl, h5, h7, k.v s q ?_⟩
  have : ks.isEmpty = us.isEmpty := by
    have := h6.length
    cases ks <;> cases us <;> simp at this ⊢
  rw [this]
  simp only [VR]
end
end Z
namespace Z
open PySem PySem.Spec PyProof.Rows L2 RZ
/-! str(int) -/
def strI (i : Int) : Str := Str.ofString (toString i)
def wStrI (w : WE) : WE := fun env S Q => w env S fun x S1 => match x with | .int i => i.natAbs < 10 ^ 100 ∧ Q (.str (strI i)) S1 | _ => False
section
variable {X : Cx} {e : Expr} {w : WE} {p pos : Pos}
theorem log_small {n : Nat} (h : n < 10 ^ 100) : n.log2 < 1920 := by
  by_cases h0 : n = 0
  · rw [h0]; decide
  · have h1 : (10 : Nat) ^ 100 < 16 ^ 100 := Nat.pow_lt_pow_left (by decide) (by decide)
    have h2 : (16 : Nat) ^ 100 = 2 ^ (4 * 100) := by rw [show (16 : Nat) = 2 ^ 4 by decide, ← Nat.pow_mul]
    rw [h2] at h1
    have h3 : n.log2 < 4 * 100 := (Nat.log2_lt h0).mpr (Nat.lt_trans h h1)
    omega
theorem fe_strI (hg : Gl X "str") (hm : X.mg "str" = none) (ha : FE X e w) (hs : starEach [e] X.env = (false, eval e X.env) :: starEach [] X.env := by rfl) : FE X (.Call (.Name "str" p) [e] [] pos) (wStrI w) := by
  refine ⟨PE.imp (pe_callTy call_str_int hg hm (by decide +kernel) (pa_cons ha.p pa_nil hs) (by decide) (by decide) hs rfl) fun σ H Q ⟨env, S, m, Q0, s, r, h, k⟩ => ?_⟩
  refine lift_k s r h fun y S1 u H1 m1 q1 e1 s1 v1 => ?_
  cases y with
  | int i =>
    simp only [VR] at v1
    subst v1
    exact ⟨i, rfl, log_small q1.1, (k.ext e1).v s1 q1.2 (by simp only [VR]; rfl)⟩
  | _ => exact q1.elim
theorem strI_len {n : Nat} (h : n < 10 ^ 40) : (strI (n : Int)).length ≤ 40 := by
  unfold strI
  have e : (Str.ofString (toString (n : Int))).length = (Nat.repr n).toList.length := by
    rw [PyProof.Rows.ofString_length]
    rfl
  rw [e]
  exact PySem.Flt.repr_len (by decide) h
end
end Z
namespace Z
open PySem PySem.Spec PyProof.Rows L2 RZ
/-! defs run where no repr is under way -/
structure FnG (P : Program) (w : World) (K : Frag) (mg : Str → Option Value) (base : Heap) (k : Nat) (f : Addr) (fd : FuncData) (ps : List Str) (sp : Sp) : Prop where
  len : ∀ vs H Q E, sp vs H Q E → vs.length = ps.length
  run : ∀ (A : Around) (st : List Env) (s : Shared) (H : Hp) (as : Args) (us : List Value) (vs : List V) (Q : VK) (E : XK), A.guards = some [] → Room k A → Env0 P w K mg base A st s H → BindsTo s fd as (ps.zip us) → Vals vs us → sp vs H Q E → codeAny (model P w) A (.call (.ref f) as) (CR CX0 st P w H s Q E) s
theorem FnG.of {P : Program} {w : World} {K : Frag} {mg : Str → Option Value} {base : Heap} {k : Nat} {f : Addr} {fd : FuncData} {ps : List Str} {sp : Sp} (F : FnOk P w K mg base CX0 k f fd ps sp) : FnG P w K mg base k f fd ps sp :=
  ⟨F.len, fun A st s H as us vs Q E _ hr e b r h => F.run A st s H as us vs Q E hr e b r h⟩
theorem FnG.mono {P : Program} {w : World} {K : Frag} {mg : Str → Option Value} {base : Heap} {j k : Nat} {f : Addr} {fd : FuncData} {ps : List Str} {sp : Sp} (F : FnG P w K mg base j f fd ps sp) (h : j ≤ k) : FnG P w K mg base k f fd ps sp :=
  ⟨F.len, fun A st s H as us vs Q E hg hr e b r q => F.run A st s H as us vs Q E hg (hr.mono h) e b r q⟩
section
variable {P : Program} {w : World} {K : Frag} {mg : Str → Option Value} {base : Heap}
/-- a def by its body, no repr under way at its entry -/
theorem fnG_of {x qual : Str} {st : Stmt} {f : Addr} {fd : FuncData} {N ps : List Str} {k : Nat} {sp : Sp} (F : Fun K x qual st f fd) (S : FnScope N ps (defScope st)) (len : ∀ vs H Q E, sp vs H Q E → vs.length = ps.length)
    (hb : ∀ (cdv : Value) (A : Around) (outer : List Env) (s : Shared) (H : Hp) (vs : List V) (Q : VK) (E : XK), A.guards = some [] → Room k (A.deeper (envOfC qual (defScope st) s.heap.objs.size f cdv)) → sp vs H Q E →
      ∃ t, PSs (cxOf CX0 P w K mg base N qual (defScope st) f cdv A outer s H E) (defBody st) t ∧ t { nx := fun _ H' => Q .non H', rt := Q } (start N vs) H) : FnG P w K mg base (k + 1) f fd ps sp := by
  obtain ⟨oc, od, kV, doc, pm, an, cdv, ct, osl, rfl, lk, hcd⟩ := F.ex
  refine ⟨len, fun A outer s H as us vs Q E hgd hr e0 hbind rv hsp => ?_⟩
  have hlen := len _ _ _ _ hsp
  have KX : K.In s.heap := e0.mod.kin.keeps fun b o e => (e0.bs b o e).1
  have nolim : s.heap.NoLimit := e0.mod.nolimit.keeps fun b o e => (e0.bs b o e).1
  have kinds : ∀ y ∈ ps.zip us, (defScope st).names.lookup y.1 = some .local ∨ ((defScope st).names.lookup y.1 = some .cell ∧ ((cellsFrom (s.heap.objs.size + 1) (defScope st).names []).lookup y.1).isSome = true) := by
    rintro ⟨n, v⟩ hy
    rcases S.par n (List.of_mem_zip hy).1 with c | c
    · exact Or.inl c
    · exact Or.inr ⟨c, PySem.W.cellsFrom_some _ _ _ (Or.inl c)⟩
  refine codeAny_call_function hr.depth (KX _ _ lk) rfl S.co S.gen rfl (PySem.W.codeRec_of KX hcd) (hbind _ _ _ _ ?_)
  refine wpAny_newFunctionEnv_cells S.kind kinds fun env he s1 made => ?_
  subst he
  refine ⟨nolim.keeps made.toInCall.keep, codeAny_func ?_⟩
  obtain ⟨t, ht, hq⟩ := hb cdv A outer s H vs Q E hgd (hr.deeper _) hsp
  refine wpAny_mono (ht.run [] s1 (start N vs) H _ (inv_start S hr.hd e0 hlen rv made) hq) (fun fl s' hs => ?_) fun e s' hs => hs
  cases fl with
  | ret u =>
    obtain ⟨v, σ', H', J, r, q⟩ := hs
    exact ⟨v, H', J.os, J.bare, J.base, J.hok, r, q⟩
  | next =>
    obtain ⟨σ', H', J, q⟩ := hs
    exact ⟨V.non, H', J.os, J.bare, J.base, J.hok, rfl, q⟩
  | brk =>
    obtain ⟨_, _, _, q⟩ := hs
    exact q.elim
  | cont =>
    obtain ⟨_, _, _, q⟩ := hs
    exact q.elim
theorem fnG_ok {x qual : Str} {st : Stmt} {f : Addr} {fd : FuncData} {N ps : List Str} {k : Nat} {sp : DSp} {wb : WS} (F : Fun K x qual st f fd) (S : FnScope N ps (defScope st)) (len : ∀ ds S Q E, sp ds S Q E → ds.length = ps.length)
    (hb : ∀ (cdv : Value) (A : Around) (outer : List Env) (s : Shared) (H : Hp) (E : XK), A.guards = some [] → Room k (A.deeper (envOfC qual (defScope st) s.heap.objs.size f cdv)) → FSs (cxOf CX0 P w K mg base N qual (defScope st) f cdv A outer s H E).nox (defBody st) wb)
    (hs : ∀ ds S Q E, sp ds S Q E → wb { nx := fun _ S' => Q .non S', rt := Q } (startD N ds) S) : FnG P w K mg base (k + 1) f fd ps (liftSp K sp) := by
  refine fnG_of F S (fun vs H Q E ⟨ds, S, m, Q0, E0, s, v, h, k, _⟩ => by rw [← v.length]; exact len _ _ _ _ h) (fun cdv A outer s H vs Q E hgd hr ⟨ds, S, m, Q0, E0, sr, v, h, k, _⟩ => ?_)
  refine ⟨_, (hb cdv A outer s H E hgd hr).p.nox, startD N ds, S, m, _, sr, ER.start v, hs _ _ _ _ h, ⟨fun env' S' σ' H' m' q e s' r' => k _ _ _ _ _ q e s' (by simp only [VR]), k, fun _ _ _ _ _ q => q.elim, fun _ _ _ _ _ q => q.elim⟩⟩
end
section
variable {X : Cx} {k : Nat} {f C : Addr} {fd : FuncData} {ps : List Str} {sp : DSp} {x m : Str} {p pos apos : Pos} {e o : Expr} {es : List Expr} {wr : WA} {wo : WE}
theorem runG {pins : List (Addr × Obj)} {σ : L2.St} {H : Hp} {s : Shared} {Q : VK} {us : List Value} {vs : List V} {sp : Sp} (F : FnG X.prog X.w X.K X.mg X.base k f fd ps sp) (hgd : X.A.guards = some []) (hr : Room k X.A) (hb : Binds X.K fd ps [])
    (I : Inv X pins σ H s) (r : Vals vs us) (h : sp vs H Q E0) : wpAny (model X.prog X.w) X.A (call (.ref f) us) (EP X pins σ Q) X.xe s := by
  have hl : (us ++ ([] : List Value)).length = ps.length := by
    rw [List.append_nil, ← r.length]
    exact F.len _ _ _ _ h
  have b := hb s us I.kIn hl
  rw [List.append_nil] at b
  refine wpAny_call (codeAny_mono (F.run X.A X.stack s H ⟨us, []⟩ us vs Q E0 hgd hr I.env0 b r h) fun res s' hq => ?_)
  match res, hq with
  | .ok (.ret u), hq => exact I.after hq
theorem pe_callG {sp : Sp} {t : TA} (F : FnG X.prog X.w X.K X.mg X.base k f fd ps sp) (hgd : X.A.guards = some []) (hr : Room k X.A) (hg : Gl X x) (hm : X.mg x = some (.ref f)) (hk : PySem.W.keepIn X.K (.ref f) = true) (hb : Binds X.K fd ps [])
    (ha : PA X (e :: es) t) (hdb : (x == ("__debug__" : Str)) = false := by decide) (he : starEach (e :: es) X.env = (false, eval e X.env) :: starEach es X.env := by rfl) (hpl : (backTo pos (starEach es X.env)).any (·.1) = false := by rfl) :
    PE X (.Call (.Name x p) (e :: es) [] pos) (tCall sp [] E0 t) := by
  refine ⟨fun pins s σ H Q I h => wpAny_Call_Name_kw (ld_glob I hg hm ?_ hdb)⟩
  refine PySem.W.callWith_K (h₀ := X.base) I.ok.mod.kin hk (thn (ha.run pos pins s σ H _ I h) fun us s1 ⟨vs, H1, I1, r, q⟩ => ⟨I1.kIn, ?_⟩) he hpl
  have q : sp (vs ++ []) H1 Q E0 := q
  rw [List.append_nil] at q
  exact runG F hgd hr hb I1 r q
theorem fe_callG (F : FnG X.prog X.w X.K X.mg X.base k f fd ps (liftSp X.K sp)) (hgd : X.A.guards = some []) (hr : Room k X.A) (hg : Gl X x) (hm : X.mg x = some (.ref f)) (hk : PySem.W.keepIn X.K (.ref f) = true) (hb : Binds X.K fd ps [])
    (ha : FA X (e :: es) wr) (hdb : (x == ("__debug__" : Str)) = false := by decide) (he : starEach (e :: es) X.env = (false, eval e X.env) :: starEach es X.env := by rfl) (hpl : (backTo pos (starEach es X.env)).any (·.1) = false := by rfl) :
    FE X (.Call (.Name x p) (e :: es) [] pos) (wCall sp wr) :=
  ⟨PE.imp (pe_callG F hgd hr hg hm hk hb ha.p hdb he hpl) fun σ H Q h => lift_call h⟩
end
end Z
namespace Z
open PySem PySem.Spec PyProof.Rows L2 RZ
/-! repr of tuples -/
mutual
def shC : D → Nat
  | .non => 4
  | .bl _ => 5
  | .int _ => 1921
  | .str x => 10 * x.length + 2
  | .tup xs => shCs xs + 2
  | _ => 0
def shCs : List D → Nat
  | [] => 0
  | x :: xs => shC x + 2 + shCs xs
end
mutual
def shO : D → Prop
  | .non => True
  | .bl _ => True
  | .int i => i.natAbs.log2 < 1920
  | .str x => ∀ c ∈ x.cps.toList, c < 16 ^ 8
  | .tup xs => shOs xs
  | _ => False
def shOs : List D → Prop
  | [] => True
  | x :: xs => shO x ∧ shOs xs
end
mutual
theorem sh_ok : ∀ x : D, shO x → x.pd.showable = true ∧ x.pd.shown.length ≤ shC x
  | .non, _ => ⟨by simp only [D.pd, PyData.showable], by simp only [D.pd, PyData.shown, shC]; decide +kernel⟩
  | .bl b, _ => ⟨by simp only [D.pd, PyData.showable], by simp only [D.pd, PyData.shown, shC]; cases b <;> decide +kernel⟩
  | .int i, h => by
    simp only [shO] at h
    refine ⟨by simp only [D.pd, PyData.showable]; exact decide_eq_true h, ?_⟩
    simp only [D.pd, PyData.shown, shC]
    exact int_text_len_1921 h
  | .str x, h => by
    simp only [shO] at h
    refine ⟨by simp only [D.pd, PyData.showable], ?_⟩
    simp only [D.pd, PyData.shown, shC]
    exact StrLaws.reprText_len x h
  | .tup xs, h => by
    simp only [shO] at h
    obtain ⟨h1, h2⟩ := sh_oks xs h
    refine ⟨by simp only [D.pd, PyData.showable]; exact h1, ?_⟩
    simp only [D.pd, PyData.shown, shC]
    have := fmt_text (PyData.shownAll (D.pds xs))
    omega
  | .rol _, h => by simp [shO] at h
  | .ref _, h => by simp [shO] at h
  | .ty _, h => by simp [shO] at h
  | .cst _, h => by simp [shO] at h
theorem sh_oks : ∀ xs : List D, shOs xs → PyData.showableAll (D.pds xs) = true ∧ piled (PyData.shownAll (D.pds xs)) ≤ shCs xs
  | [], _ => ⟨by simp only [D.pds, PyData.showableAll], by simp only [D.pds, PyData.shownAll, shCs]; exact Nat.le_refl _⟩
  | x :: xs, h => by
    simp only [shOs] at h
    obtain ⟨h1, h2⟩ := sh_ok x h.1
    obtain ⟨h3, h4⟩ := sh_oks xs h.2
    refine ⟨by simp only [D.pds, PyData.showableAll, Bool.and_eq_true]; exact ⟨h1, h3⟩, ?_⟩
    simp only [D.pds, PyData.shownAll, shCs]
    rw [piled_cons]
    omega
end
def wRepr (w : WE) : WE := fun env S Q => w env S fun x S1 => match x with
  | .tup xs => okD (.tup xs) ∧ shO (.tup xs) ∧ shC (.tup xs) ≤ 16000000 ∧ Q (.str (D.tup xs).pd.shown) S1
  | _ => False
section
variable {X : Cx} {e : Expr} {w : WE} {p pos : Pos}
theorem call_reprT (hu : X.A.units + 66 < cLine) (hgd : X.A.guards = some []) : CallR X (.builtin "repr") (fun xs H Q => ∃ a d, xs = [.ref a] ∧ Dp X.K H (.ref a) d ∧ SeqAt.shaped d = true ∧ d.showable = true ∧ d.shown.length ≤ sizeLine ∧ Q (.str d.shown) H) := by
  intro pins s σ H xs us Q I r ⟨a, d, ex, hd, hsh, hs, hz, q⟩
  subst ex
  obtain ⟨u, rfl, rv⟩ := vals1 r
  have eu : u = Value.ref a := rv
  subst eu
  obtain ⟨as, rd⟩ := Dp.reads I d _ _ hd rfl
  simp only [SeqAt.shaped, Bool.and_eq_true, decide_eq_true_eq] at hsh
  exact repr_of_reads' rd hs (PyData.noDict_hsm (PyData.hasDict_of_canLay d hsh.1)) hgd (by have := hsh.2; omega) (fun _ _ z => z) (fun h' u tk hk => ⟨.str d.shown, H, I.kept hk, ⟨u, rfl⟩, q⟩) hz
theorem fe_repr (hu : X.A.units + 66 < cLine) (hgd : X.A.guards = some []) (hg : Gl X "repr") (hm : X.mg "repr" = none) (ha : FE X e w) (hs : starEach [e] X.env = (false, eval e X.env) :: starEach [] X.env := by rfl) : FE X (.Call (.Name "repr" p) [e] [] pos) (wRepr w) := by
  refine ⟨PE.imp (pe_callB (call_reprT hu hgd) hg hm (by decide +kernel) (pa_cons ha.p pa_nil hs) (by decide) (by decide) hs rfl) fun σ H Q ⟨env, S, m, Q0, s, r, h, k⟩ => ?_⟩
  refine lift_k s r h fun y S1 u H1 m1 q1 e1 s1 v1 => ?_
  cases y with
  | tup xs =>
    obtain ⟨o, h1, h2, q⟩ := q1
    obtain ⟨g1, g2⟩ := sh_ok _ h1
    have hv := VR.dp v1 o.1
    simp only [VR] at v1
    obtain ⟨a, us, rfl, h3, h4⟩ := v1
    exact ⟨a, _, rfl, hv, o.2, g1, Nat.le_trans g2 (Nat.le_trans h2 (by rw [sizeLine_eq]; decide)), (k.ext e1).v s1 q (by simp only [VR])⟩
  | _ => exact q1.elim
end
end Z
namespace Z
open PySem PySem.Spec PyProof.Rows L2 RZ
/-! the law's own call, where no repr is under way -/
section
variable {P : Program} {w : World} {K : Frag}
/-- a heap in which nothing but the script is told -/
theorem script_told {a : Addr} {vs : List Value} {ns : List Int} {h : Heap} (KX : K.In h) (ha : h.get? a = some { cls := .type "list", data := .seq vs.toArray }) (hi : IntsAre vs ns) (hl : ns.length ≤ sizeLine) :
    ∃ H : Hp, Only H ∧ SqL K H a (ns.map V.int) ∧ HOk P w H h ∧ (∀ b, H b ≠ none → b = a) ∧ (H a ≠ none → K.lookup a = none) := by
  have rv := vals_ints hi
  have hlv := hi.length
  cases hk : K.lookup a with
  | some o =>
    have same := KX a o hk
    rw [ha] at same
    cases same
    exact ⟨fun _ => none, fun _ => Or.inl rfl, Or.inr ⟨_, vs.toArray, _, hk, rfl, rfl, rfl, by rw [List.size_toArray, hlv]; exact hl, by simpa using rv⟩, fun b u z => (nomatch z), fun b z => absurd rfl z, fun z => absurd rfl z⟩
  | none =>
    let told : HO := .frz { cls := .type "list", data := .seq vs.toArray } (.lst (ns.map V.int))
    have at_a : (fun b => if b = a then some told else none : Hp) a = some told := if_pos rfl
    have off : ∀ b, b ≠ a → (fun b => if b = a then some told else none : Hp) b = none := fun b hb => if_neg hb
    refine ⟨fun b => if b = a then some told else none, fun b => ?_, Or.inl (Or.inr ⟨{ cls := .type "list", data := .seq vs.toArray }, at_a⟩), fun b u z => ?_, fun b z => ?_, fun _ => rfl⟩
    · rcases Classical.em (b = a) with e | e
      · exact Or.inr ⟨_, _, by rw [e]; exact at_a⟩
      · exact Or.inl (off b e)
    · rcases Classical.em (b = a) with e | e
      · subst e
        have zz := at_a.symm.trans z
        injection zz with zz
        subst zz
        exact ⟨ha, by rw [List.length_map]; exact hl, vs, _, rv, ha⟩
      · exact nomatch (off b e).symm.trans z
    · exact Classical.byContradiction fun e => z (off b e)
theorem law_callG {mg mb : Str → Option Value} {k : Nat} {fa a : Addr} {fd : FuncData} {x : Str} {sp : Sp} {s₁ : Shared} {vs : List Value} {ns : List Int}
    (KX : K.In s₁.heap) (hns : s₁.heap.Ns mainGlobals mg) (hb : s₁.heap.Ns builtinsNs mb) (hbb : ∀ x : Str, x ≠ "__name__" → mb x = bootBuiltins x) (hlim : s₁.heap.NoLimit) (hg : s₁.gens = #[])
    (ha : s₁.heap.get? a = some { cls := .type "list", data := .seq vs.toArray }) (hi : IntsAre vs ns) (hl : ns.length ≤ sizeLine) (hr : Room k callerA)
    (F : ∀ base : Heap, K.In base → base.Ns mainGlobals mg → FnG P w K mg base k fa fd [x] sp) (hbind : ∀ (s : Shared) (u : Value), BindsTo s fd ⟨[u], []⟩ [(x, u)])
    (hsp : ∀ H : Hp, Only H → SqL K H a (ns.map V.int) → sp [.ref a] H (fun v _ => v = .bl true) fun _ _ _ => False) :
    codeAny (model P w) callerA (.call (.ref fa) ⟨[.ref a], []⟩) (fun r s' => r = .ok (.ret (.bool true)) ∧ OldK s₁.heap s'.heap ∧ s'.os = s₁.os ∧ AllBare s'.gens) s₁ := by
  obtain ⟨H, only, hS, hok, lone, free⟩ := script_told (P := P) (w := w) KX ha hi hl
  -- what is not told is in the heap below
  have below : ∀ {b : Addr} {o : Obj}, s₁.heap.get? b = some o → (b = a → H b = none) → (hidT s₁.heap H).get? b = some o := fun {b o} e n => hidT_get e (by
    cases q : H b with
    | none => rfl
    | some u =>
      have e2 := lone b (by rw [q]; exact fun z => nomatch z)
      have := n e2
      rw [q] at this
      exact nomatch this)
  have names : ∀ {b : Addr} {m : Str → Option Value}, s₁.heap.Ns b m → (hidT s₁.heap H).Ns b m := fun {b m} ⟨o, es, ep, e, d, r⟩ => ⟨o, es, ep, below e (fun z => by
    subst z
    rw [ha] at e
    injection e with e
    subst e
    exact nomatch (show Data.seq vs.toArray _ = Data.dict es ep from d)), d, r⟩
  have kin : K.In (hidT s₁.heap H) := fun b o e => below (KX b o e) fun z => by
    subst z
    cases q : H b with
    | none => rfl
    | some u =>
      rw [free (by rw [q]; exact fun z => nomatch z)] at e
      exact nomatch e
  obtain ⟨mc, l1, l2⟩ := hlim
  have env : Env0 P w K mg (hidT s₁.heap H) callerA [] s₁ H :=
    { frames := rfl, mod := ⟨kin, names hns, ⟨mb, names hb, hbb⟩, mc, names l1, l2⟩, bs := fun b o e => of_hidT e, bsz := Nat.le_of_eq (hidT_size _ _), funs := trivial, frf := (fun b z => nomatch (show b ∈ ([] : List Addr) from z)), hok := hok, bare := .of_eq hg }
  refine codeAny_mono ((F _ kin (names hns)).run callerA [] s₁ H ⟨[.ref a], []⟩ [.ref a] [.ref a] _ _ rfl hr env (hbind s₁ (.ref a)) (.cons rfl .nil) (hsp H only hS)) fun res s' hres => ?_
  match res, hres with
  | .ok (.ret u), ⟨v, H', os, bare, un, hok', ru, qv⟩ =>
    have ev : v = .bl true := qv
    subst ev
    have eu : u = Value.bool true := ru
    subst eu
    refine ⟨rfl, OldK.of_keep fun b o e => ?_, os, bare⟩
    cases q : H b with
    | none => exact un.keep b o e q (fun z => nomatch (show b ∈ ([] : List Addr) from z)) (fun z => nomatch z)
    | some u2 =>
      rcases only b with z | ⟨ob, xs, z⟩
      · exact nomatch q.symm.trans z
      · have e1 := (hok b _ z).1
        have e2 := (hok' b _ (un.frzs b ob _ z)).1
        rw [e] at e1
        injection e1 with e1
        rw [e1]
        exact e2
end
theorem walk_ofG {l : PySem.W.OpenLaw} {n k : Nat} {q : Program} {loose : List Str} {XP : (Str → Option Value) → Heap → Prop} {YP : World → Heap → Prop} {d : DefRec} {K : Params → PySem.W.Frag} {sp : World → Sp} {x : Str}
    (hn : l.most = some n) (hn2 : n ≤ sizeLine) (hdf : d.params.defaults = []) (hr : Room k callerA) (hY : ∀ (w : World) (h : Heap), YP w h → (K w.params).In h)
    (F : ∀ (w : World) (mg : Str → Option Value) (fa : Addr) (h : Heap), (K w.params).In h → h.Ns mainGlobals mg → mg d.name = some (.ref fa) →
      ∃ fd : FuncData, (∀ (s : Shared) (u : Value), BindsTo s fd ⟨[u], []⟩ [(x, u)]) ∧ ∀ base : Heap, (K w.params).In base → base.Ns mainGlobals mg → FnG l.prog w (K w.params) mg base k fa fd [x] (sp w))
    (hsp : ∀ (w : World) (H : Hp) (a : Addr) (ns : List Int), ns.length ≤ n → Only H → SqL (K w.params) H a (ns.map V.int) → sp w [.ref a] H (fun v _ => v = .bl true) fun _ _ _ => False) :
    PySem.W.WalkO q loose XP YP l.row.toRowW d [] (fun f vs => PySem.call f vs) := by
  refine Att.attach_call hn hdf fun w s₀ s₁ mg mb fa o pm cd doc a vs ns G Y ho hd hcd hmg hobj hints hlen hg => ?_
  have kin := hY w _ Y
  obtain ⟨fd, bound, hF⟩ := F w mg fa _ kin G.T.g hmg
  exact law_callG kin G.T.g G.T.b G.T.builtins G.T.nolimit hg hobj hints (Nat.le_trans hlen hn2) hr hF bound fun H hO hS => hsp w H a ns hlen hO hS
end Z
namespace Z
open PySem PySem.Spec PyProof.Rows L2
theorem units66 {k : Nat} {A : Around} (r : Room k A) : A.units + 66 < cLine := by have := r.un; omega
end Z
namespace Z
open PySem PySem.Spec PyProof.Rows L2 RZ
/-! a, b, .. = a list -/
def gUnlD (n : Nat) (r : WGs) : WG := fun d env S Q => match d with | .ref p => ∃ xs, S[p]? = some (.lst xs) ∧ xs.length = n ∧ r xs env S Q | _ => False
section
variable {X : Cx} {es : List Expr} {pos : Pos} {is : List Nat} {gs : WGs}
theorem fg_unl {k : Nat} {n : Nat} (hc : X.calm = true) (h : FGs X es is gs) (hn : (assignEach es X.env).length = n := by rfl) (hst : (assignEach es X.env).findIdx? (·.1) = none := by rfl) : FG X (.Tuple es k pos) is (gUnlD n gs) := by
  refine ⟨PG.imp (pg_unl hc h.p hn hst) fun v σ H Q ⟨d, env, S, m, Q0, s, r, hv, h, k⟩ => ?_⟩
  cases d with
  | ref p =>
    simp only [VR] at hv
    obtain ⟨a, rfl, e1⟩ := hv
    obtain ⟨xs, g1, g2, q⟩ := h
    obtain ⟨us, t1, t2⟩ := s.lst e1 g1
    exact ⟨a, us, rfl, SqL.of t1, by rw [← t2.length]; exact g2, xs, env, S, m, _, s, r, t2, q, k⟩
  | _ => exact h.elim
end
end Z
namespace Z
open PySem PySem.Spec PyProof.Rows L2 RZ
/-! {(a, b): v}: one pair, its key a tuple -/
def tDispT1 (tk tv : TE) : TE := fun σ H Q => ∀ p, H p = none → tk σ (upd H p (.dT [])) fun x H1 => tv σ H1 fun y H2 => H2 p = some (.dT []) ∧ ∃ (ks : List Key) (b : Addr), x = .ref b ∧ H2 b = some (.tup (ks.map kV)) ∧ Q (.ref p) (upd H2 p (.dT [(ks, y)]))
section
variable {X : Cx} {k v : Expr} {pos : Pos} {tk tv : TE}
theorem pe_dispT1 (hu : X.A.units + 1 < cLine) (hk : PE X k tk) (hv : PE X v tv) : PE X (.Dict [some k] [v] pos) (tDispT1 tk tv) := by
  refine ⟨fun pins s σ H R I0 q => ?_⟩
  have hn := I0.hok.fresh (Nat.le_refl _)
  have I1 := I0.laid (a := s.heap.objs.size) (o := .dT []) (h' := s.heap.push { cls := .type "dict", data := .dict #[] }) (t' := s.toks) (fun _ _ q => Heap.get?_push_of_some _ q) (Nat.le_refl _) (dt_empty s.heap I0.big)
  refine wpAny_Dict_any rfl rfl (by simp) (by simp) (pairTrees_cons_walk (thn (hk.run pins _ σ _ _ I1 (q _ hn)) fun u s1 ⟨x, H1, I2, rx, q1⟩ => thn (hv.run pins s1 σ H1 _ I2 q1) fun w s2 ⟨y, H2, I3, ry, q2⟩ => pairTrees_nil_walk ?_))
  obtain ⟨e, ks, b, rfl, eb, q3⟩ := q2
  cases (show u = Value.ref b from rx)
  obtain ⟨z, hd, xs, rel, dd⟩ := dt_of I3.hok e
  cases rel
  unfold storeAll
  rw [List.forIn_cons]
  refine wpAny_bind (wpAny_bind (wpAny_dictSet_heap (hsz := Nat.zero_le _) (show X.A.units < cLine from by omega) (key_of I3.hok eb) dd fun h' dd' hs => wpAny_pure ?_))
  show wpAny (model X.prog X.w) X.A (forIn ([] : List (Value × Value)) PUnit.unit _) _ _ _
  rw [List.forIn_nil]
  refine wpAny_pure ⟨.ref s.heap.objs.size, _, ?_, rfl, q3⟩
  obtain ⟨q', es, ep, hq, h2, h3, h4, _, h5⟩ := dd'
  have rel0 : KT H2 ([] : List (List Key × V)) [] := .nil
  refine d_write I3 (by rw [e]; exact True.intro) hs ⟨q', hq⟩ ⟨by show 1 ≤ sizeLine; rw [sizeLine_eq]; decide, hd, _, (rel0.put ks eb ry).keeps fun c ys ec => ?_, q', es, ep, hq, h2, h3, h4, h5⟩
  refine (upd_ne (ne_of ec e fun z => nomatch z)).trans ec
end
def wDispT1 (wk wv : WE) : WE := fun env S Q => wk env S fun x S1 => wv env S1 fun y S2 => ∃ ks : List Key, x = .tup (ks.map kD) ∧ Q (.ref S2.length) (S2 ++ [.dT [(ks, y)]])
/-- what the store does not know, a dict, may change -/
theorem hidDT {K : Frag} {m : List Addr} {H : Hp} {S : Sto} {p : Addr} {us : List (List Key × V)} {o : HO} (s : SR K m H S) (nm : p ∉ m) (h : H p = some (.dT us)) : Ex K m H m (upd H p o) ∧ SR K m (upd H p o) S ∧ ∀ m1 H1, Ext K m1 H1 m H → H1 p = none → Ext K m1 H1 m (upd H p o) := by
  have ex : Ex K m H m (upd H p o) := by
    refine ⟨fun b us h' => ?_, fun b us h' => ?_, fun _ _ h => h⟩
    · rw [upd_ne (fun z => by rw [z, h] at h'; cases h')]; exact h'
    · rcases h' with ⟨o, h'⟩ | h'
      · exact .inl ⟨o, by rw [upd_ne (fun z => by rw [z, h] at h'; cases h')]; exact h'⟩
      · exact .inr h'
  refine ⟨ex, ⟨s.len, s.nd, fun i o' hi => ?_⟩, fun m1 H1 e h1 => ?_⟩
  · obtain ⟨a, h1, h2⟩ := s.at_ i o' hi
    refine ⟨a, h1, h2.keep ex (upd_ne fun z => nm ?_)⟩
    rw [← z]; exact List.mem_of_getElem? h1
  · refine ⟨⟨fun a us z => ex.tup a us (e.tup a us z), fun a us z => ex.rol a us (e.rol a us z), e.pre⟩, fun a o' z n => ⟨?_, (e.fr a o' z n).2⟩⟩
    rw [upd_ne (ne_of_none z h1)]
    exact (e.fr a o' z n).1
section
variable {X : Cx} {k v : Expr} {pos : Pos} {wk wv : WE}
theorem fe_dispT1 (hu : X.A.units + 1 < cLine) (hk : FE X k wk) (hv : FE X v wv) : FE X (.Dict [some k] [v] pos) (wDispT1 wk wv) := by
  refine ⟨PE.imp (pe_dispT1 hu hk.p hv.p) fun σ H Q ⟨env, S, m, Q0, s, r, h, k⟩ => fun p hp => ?_⟩
  obtain ⟨nm, e0, s0⟩ := s.laid (ho := .dT []) hp
  refine lift_k s0 (r.ext e0.toEx) h fun x S1 u H1 m1 q1 e1 s1 v1 => ?_
  refine lift_k s1 (r.ext (e0.trans e1).toEx) q1 fun y S2 v H2 m2 q2 e2 s2 v2 => ?_
  obtain ⟨ks, rfl, q⟩ := q2
  have hp1 := (e1.trans e2).fr p _ upd_same nm
  simp only [VR] at v1
  obtain ⟨c, ws, rfl, h6, h7⟩ := v1
  rw [h7.keys] at h6
  refine ⟨hp1.1, ks, c, rfl, e2.tup c _ h6, ?_⟩
  obtain ⟨ex, s3, g3⟩ := hidDT (o := .dT [(ks, v)]) s2 hp1.2 hp1.1
  have e3 := g3 m H ((e0.trans e1).trans e2) hp
  obtain ⟨s4, g4⟩ := s3.adopt (p := p) (o := .dT [(ks, y)]) hp1.2 ⟨_, upd_same, .cons (VR.ext Ex.app (VR.ext ex v2)) .nil⟩
  refine k _ _ _ _ _ q (e3.adopt hp) s4 ?_
  simp only [VR]
  exact ⟨p, rfl, g4⟩
end
end Z
namespace Z
open PySem PySem.Spec PyProof.Rows L2 RZ
/-! sorted(set(xs)), xs a tuple or a list of texts that stands already -/
section
variable {P : Program} {w : World} {A : Around} {E : Value → Shared → Prop} {s : Shared}
set_option maxHeartbeats 3200000 in
/-- set(tuple of texts): its members, with the order that the world keeps -/
theorem call_set_tupS {l : Addr} {items : Array Value} (ns : List Str) {Q : Value → Shared → Prop} (hh : A.handled = none) (hl : s.heap.IsTuple l items) (hit : StrsAre items.toList ns) (hb : ns.length + 1 < scanBound)
    (h : ∀ (h' : Heap) (tk c : Nat), SetRS w h' s.heap.objs.size (fun j => decide (j ∈ ns)) c → c ≤ ns.length → (∀ b o, s.heap.get? b = some o → h'.get? b = some o) → Q (.ref s.heap.objs.size) { s with heap := h', toks := tk }) :
    wpAny (model P w) A (call (.type "set") [.ref l]) Q E s := by
  have hisz : items.size = ns.length := by
    have q := StrsAre.length hit
    rw [Array.length_toList] at q
    exact q
  have hval : ∀ (i : Nat) (v : Value), items[i]? = some v → ∃ k t, ns[i]? = some k ∧ v = .str k t := fun i v hv => by
    have hi : i < ns.length := by rw [← hisz]; exact (Array.getElem?_eq_some_iff.mp hv).1
    obtain ⟨t, e⟩ := SS.strs_at hit i v (by rw [Array.getElem?_toList]; exact hv)
    refine ⟨ns[i], t, List.getElem?_eq_getElem hi, ?_⟩
    rw [e, List.getD_eq_getElem?_getD, List.getElem?_eq_getElem hi] <;> rfl
  have hz1 : (s.heap.push { cls := .type "set", dict := none, data := .set #[] 0 (.fresh 0 0 (!w.params.followText "set-order")) }).objs.size = s.heap.objs.size + 1 := Heap.size_push ..
  have hS : (s.heap.push { cls := .type "set", dict := none, data := .set #[] 0 (.fresh 0 0 (!w.params.followText "set-order")) }).get? s.heap.objs.size = some { cls := .type "set", dict := none, data := .set #[] 0 (.fresh 0 0 (!w.params.followText "set-order")) } := Heap.get?_push_size _ rfl
  have hlS : l < s.heap.objs.size := let ⟨_, hol, _⟩ := hl; Heap.lt_size hol
  obtain ⟨c, tl, hmro⟩ := F.called_set.mro
  have hmade := F.called_set.made
  have hsub := F.called_set.sub
  refine wpAny_call (codeAny_of_tree ?_)
  show wpAny _ _ (callAny (.type "set") _) _ _ _
  refine wpAny_pure ⟨Code.quiet_builtin _ (by decide +kernel), codeAny_builtin F.entry_type_call ?_⟩
  rw [Around.under_plain (weight_type_call_type "set" [.ref l] []) rfl]
  have h1 := F.called_set.notType
  have h2 := F.called_set.canCreate
  have hct := F.typeCall_set_1 (.ref l)
  repeat (any_goals (first | assumption | wp_step))
  refine codeAny_mono (code_set_led1 (.ref l) (E := E) (Q₁ := fun obj s₁ => obj = .ref s.heap.objs.size ∧ s₁ = { s with heap := s.heap.push { cls := .type "set", dict := none, data := .set #[] 0 (.fresh 0 0 (!w.params.followText "set-order")) } }) ⟨rfl, rfl⟩) fun r s₁ hr => ?_
  cases r with
  | error e => exact hr
  | ok fl =>
    cases fl with
    | ret obj =>
      obtain ⟨rfl, rfl⟩ := hr
      have hT : Shared.TypeIs { s with heap := s.heap.push { cls := .type "set", dict := none, data := .set #[] 0 (.fresh 0 0 (!w.params.followText "set-order")) } } (.ref s.heap.objs.size) "set" := ⟨_, hS, rfl⟩
      have hli := F.called_set.init.lookup
      have hbi := F.called_set.init.bind (.ref s.heap.objs.size)
      repeat (any_goals (first | assumption | wp_step))
      refine codeAny_mono (codeAny_call_builtin (R := wants (fun r s₂ => r = .none ∧ ∃ h' tk c, s₂ = { s with heap := h', toks := tk } ∧ SetRS w h' s.heap.objs.size (fun j => decide (j ∈ ns)) c ∧ c ≤ ns.length ∧
          (∀ b o, s.heap.get? b = some o → h'.get? b = some o)) E) F.called_set.init.plain F.entry_set_init (check_set_init_1 hT ?_)) fun r₂ s₂ hr₂ => ?_
      · obtain ⟨⟨ocls, odict, odata, oslots⟩, hol, hcl, nl, hdl⟩ := hl
        simp only at hcl hdl
        subst hcl; subst hdl
        have hol' : (s.heap.push { cls := .type "set", dict := none, data := .set #[] 0 (.fresh 0 0 (!w.params.followText "set-order")) }).get? l = some { cls := .type "tuple", dict := odict, data := .seq items nl, slots := oslots } := Heap.get?_push_of_some _ hol
        have hl1 : (s.heap.push { cls := .type "set", dict := none, data := .set #[] 0 (.fresh 0 0 (!w.params.followText "set-order")) }).IsTuple l items := ⟨_, hol', rfl, nl, rfl⟩
        have hsls := F.sub_tuple_set
        have hslf := F.sub_tuple_frozenset
        have hne : (Value.type "tuple" == Value.type "dict") = false := by decide
        unfold Builtin.«set.__init__» noKeywords Builtin.Frozenset.updateFrom
        generalize hPI : pyIter = PI
        wp_walk
        subst hPI
        refine wpAny_pyIter_tuple hl1 ?_
        refine wpAny_bind (wpAny_runValue ?_)
        have hh3 : A.in1.in1.in1.handled = none := by simp [hh]
        have hneI : l ≠ (s.heap.push { cls := .type "set", dict := none, data := .set #[] 0 (.fresh 0 0 (!w.params.followText "set-order")) }).objs.size := by rw [hz1]; exact Nat.ne_of_lt (Nat.lt_succ_of_lt hlS)
        refine set_update_strs ((Walks.tuple hh3 _ l hneI items).toS) s.heap.objs.size (by
            rw [hz1]; simp only [List.mem_cons, List.mem_singleton, List.not_mem_nil, or_false, not_or]
            exact ⟨Nat.ne_of_lt (Nat.lt_succ_self _), Nat.ne_of_gt hlS⟩) ns hisz hb hval (items.size - 0) 0 _ (by omega) (Nat.zero_le _)
          ⟨⟨_, Heap.get?_push_size _ rfl, rfl, rfl⟩, (hl1.push _)⟩ ⟨0, Nat.le_refl 0, setRS_new (xs := ns) (Heap.get?_push_of_some _ hS)⟩ fun s' c' hm hc' hS' => ?_
        obtain ⟨h', g2, d', tk', os'⟩ := s'
        have eg : g2 = s.gens := hm.gens
        have ed : d' = s.drawn := hm.drawn
        have eo : os' = s.os := hm.os
        subst eg; subst ed; subst eo
        show wpAny _ _ _ _ _ _
        refine wpAny_pure ?_
        show wpAny _ _ (ret Value.none) _ _ _
        rw [hisz] at hc'
        refine wpAny_pure ⟨rfl, h', tk', c', rfl, hS', hc', fun b o e => ?_⟩
        have hb0 : b < s.heap.objs.size := Heap.lt_size e
        refine hm.heap b o ?_ (Heap.get?_push_of_some _ (Heap.get?_push_of_some _ e))
        simp only [List.mem_cons, List.mem_singleton, List.not_mem_nil, or_false, not_or, hz1]
        exact ⟨Nat.ne_of_lt hb0, Nat.ne_of_lt (Nat.lt_succ_of_lt hb0)⟩
      · cases r₂ with
        | error e => exact hr₂
        | ok fl₂ =>
          cases fl₂ with
          | ret r =>
            obtain ⟨rfl, h', tk, c', rfl, hS', hc', hk'⟩ := hr₂
            repeat (any_goals (first | assumption | wp_step))
            exact h _ _ _ hS' hc' hk'
          | _ => exact hr₂.elim
    | _ => exact hr.elim
end

def tSortSetQ (K : Frag) (ta : TE) : TE := fun σ H Q => ta σ H fun x H1 => ∃ (l : Addr) (xs : List Str), x = .ref l ∧ (SqL K H1 l (xs.map V.str) ∨ SqT K H1 l (xs.map V.str)) ∧ xs.length ≤ 4000 ∧
  ∀ (ys : List Str) (p : Addr), ys.Nodup → ys.Pairwise (fun a b => ¬ b.cps.toList < a.cps.toList) → (∀ k, k ∈ ys ↔ k ∈ xs) → H1 p = none → Q (.ref p) (upd H1 p (.lst (ys.map V.str)))
theorem pe_sortSetQ {X : Cx} {a : Expr} {ta : TE} {p p2 q pos : Pos} (hg : Gl X "sorted") (hm : X.mg "sorted" = none) (hg2 : Gl X "set") (hm2 : X.mg "set" = none) (ha : PE X a ta) (hc : X.calm = true := by rfl)
    (na : starEach [a] X.env = (false, eval a X.env) :: starEach [] X.env := by rfl) : PE X (.Call (.Name "sorted" p) [.Call (.Name "set" p2) [a] [] q] [] pos) (tSortSetQ X.K ta) := by
  refine ⟨fun pins s σ H Q I h => ?_⟩
  refine Call_ (ld_blt I hg hm (u := .builtin "sorted") (by decide +kernel) ?_)
  refine PyProof.Rows.callWith_builtin1 (PyProof.Rows.args_cons ?_ rfl) rfl rfl
  refine Call_ (ld_blt I hg2 hm2 boot_set ?_)
  refine PyProof.Rows.callWith_type1 (PyProof.Rows.args_cons (thn (ha.run pins s σ H _ I h) fun v s1 ⟨x, H1, I1, r1, q1⟩ => PyProof.Rows.args_nil ?_) na) na rfl
  obtain ⟨l, xs, rfl, hq, hl, q1⟩ := q1
  cases r1
  have fin : ∀ (h' : Heap) (tk c : Nat), SetRS X.w h' s1.heap.objs.size (fun j => decide (j ∈ xs)) c → c ≤ xs.length → (∀ b o, s1.heap.get? b = some o → h'.get? b = some o) →
      wpAny (model X.prog X.w) X.A (call (.builtin "sorted") [.ref s1.heap.objs.size]) (EP X pins σ Q) X.xe { s1 with heap := h', toks := tk } := by
    intro h' tk c R hcn hk
    have I2 : Inv X pins σ H1 { s1 with heap := h', toks := tk } := I1.kept hk
    obtain ⟨o, es, ep, t, ⟨ho, hex, hd⟩, ⟨g, nd, hm'⟩, ⟨hb, hf, hn⟩, hr, hl'⟩ := R
    have hsz : es.toList.length = c := by rw [Array.length_toList]; exact hn
    refine sorted_gen (Pv := fun its => its.Perm (es.toList.map (·.2))) (ltK_swo kvS) (fun R' hR => ?_) (fun its hp => ?_) (fun its hp h2 s2 a' kk => strs_sortable (strs_pair g hp).strs h2) fun s' p' out c' its hp k g' o' hp' hg' a1 a2 => ?_
    · refine collect_set (I2.ok.hd hc) ⟨o, ho, hex.1, hd⟩ hf hb hr hl' fun s3 vs k1 hz g1 o1 pm => hR s3 vs k1 g1 o1 pm
    · rw [hp.length_eq, List.length_map, hsz]; rw [sizeLine_eq]; omega
    · have po : out.Perm (es.toList.map (·.2)) := a2.perm.trans hp
      have vo := strs_pair g po
      have pk : (out.map sv).Perm (es.toList.map keyS) := by
        have := po.map sv
        rw [List.map_map] at this
        exact this
      refine srt_end I2 k g' o' hp' hg' vo ?_ fun hnn => q1 _ _ (pk.nodup_iff.mpr nd) ?_ (fun k' => ?_) hnn
      · rw [List.length_map, pk.length_eq, List.length_map, hsz]; rw [sizeLine_eq]; omega
      · rw [List.pairwise_map]
        refine List.Pairwise.imp (fun {x y} z => ?_) a1
        intro hlt
        have z : (if (Sum.inr (sv y) : Key) = Sum.inr (sv x) then false else decide ((sv y).cps.toList < (sv x).cps.toList)) = false := z
        by_cases e4 : sv y = sv x
        · rw [e4] at hlt; exact List.lt_irrefl _ hlt
        · rw [if_neg (fun z => e4 (Sum.inr.inj z))] at z
          exact of_decide_eq_false z hlt
      · rw [pk.mem_iff, ← hm' k']; simp
  rcases hq with hq | hq
  · obtain ⟨its0, r, pl, hz⟩ := I1.list hq
    exact call_set_lstS (A := X.A) xs (I1.ok.hd hc) pl.isList (by simpa using r.strs) (by unfold scanBound; omega) fun h' tk c R hcn hk => PyProof.Rows.args_nil (fin h' tk c R hcn hk)
  · obtain ⟨its0, r, pl, hz⟩ := I1.tuple hq
    exact call_set_tupS (A := X.A) xs (I1.ok.hd hc) pl (by simpa using r.strs) (by unfold scanBound; omega) fun h' tk c R hcn hk => PyProof.Rows.args_nil (fin h' tk c R hcn hk)
def lSortSetQ (wq : WA) : WA := fun env S Q => wq env S fun ds S1 => ∃ xs : List Str, ds = xs.map D.str ∧ xs.length ≤ 4000 ∧ ∀ ys : List Str, ys.Nodup → ys.Pairwise (fun a b => ¬ b.cps.toList < a.cps.toList) → (∀ k, k ∈ ys ↔ k ∈ xs) → Q (ys.map D.str) S1
theorem fl_sortSetQ {X : Cx} {a : Expr} {wq : WA} {p p2 q pos : Pos} (hg : Gl X "sorted") (hm : X.mg "sorted" = none) (hg2 : Gl X "set") (hm2 : X.mg "set" = none) (hc : X.calm = true) (ha : FQ X a wq)
    (na : starEach [a] X.env = (false, eval a X.env) :: starEach [] X.env := by rfl) : FL X (.Call (.Name "sorted" p) [.Call (.Name "set" p2) [a] [] q] [] pos) (lSortSetQ wq) := by
  refine ⟨PE.imp (pe_sortSetQ hg hm hg2 hm2 ha.p hc na) fun σ H Q ⟨env, S, m, Q0, s, r, h, k⟩ => ?_⟩
  refine ⟨env, S, m, _, s, r, h, fun ds S1 a us H1 m1 q1 e1 s1 sq v1 => ?_⟩
  obtain ⟨xs, rfl, h4, q⟩ := q1
  rw [v1.strs] at sq
  exact ⟨a, xs, rfl, sq.imp (fun h => h) fun h => SqT.of h, h4, fun ys p h1 h2 h3 hp => k.lst e1 s1 (VRs.of_strs ys) hp (e1.back s1 hp) (q ys h1 h2 h3)⟩
end Z
namespace Z
open PySem PySem.Spec PyProof.Rows L2 RZ
/-! repr of things that hold lists and dicts -/
def kPd : Key → PyData
  | .inl i => .int i
  | .inr x => .str x
section
variable (K : Frag) (H : Hp)
mutual
/-- the thing at v is that data -/
def Tr : PyData → V → Prop
  | .none, v => v = .non
  | .bool b, v => v = .bl b
  | .int i, v => v = .int i
  | .str x, v => v = .str x
  | .list ds, v => ∃ a us, v = .ref a ∧ SqL K H a us ∧ Trs ds us
  | .tuple ds, v => ∃ a us, v = .ref a ∧ SqT K H a us ∧ Trs ds us
  | .dict kvs, v => ∃ a us, v = .ref a ∧ H a = some (.dK us) ∧ Trk kvs us
def Trs : List PyData → List V → Prop
  | [], us => us = []
  | d :: ds, us => ∃ u r, us = u :: r ∧ Tr d u ∧ Trs ds r
def Trk : List (PyData × PyData) → List (Key × V) → Prop
  | [], us => us = []
  | (k, d) :: r, us => ∃ kk u t, us = (kk, u) :: t ∧ k = kPd kk ∧ Tr d u ∧ Trk r t
end
end
/-- no dict that is read is the one of all modules -/
def DOk (h : Heap) (as : List Addr) : Prop := ∀ a ∈ as, ∀ o : Obj, h.get? a = some o → o.cls = .type "dict" → (a == sysModules) = false
theorem DOk.nil {h : Heap} : DOk h [] := fun _ x => nomatch x
theorem DOk.app {h : Heap} {as bs : List Addr} (x : DOk h as) (y : DOk h bs) : DOk h (as ++ bs) := fun a ha => by
  rcases List.mem_append.mp ha with h1 | h2
  · exact x a h1
  · exact y a h2
theorem DOk.left {h : Heap} {as bs : List Addr} (x : DOk h (as ++ bs)) : DOk h as := fun a ha => x a (List.mem_append_left _ ha)
theorem DOk.right {h : Heap} {as bs : List Addr} (x : DOk h (as ++ bs)) : DOk h bs := fun a ha => x a (List.mem_append_right _ ha)
theorem DOk.tail {h : Heap} {a : Addr} {as : List Addr} (x : DOk h (a :: as)) : DOk h as := fun b hb => x b (List.mem_cons_of_mem _ hb)
section
variable {X : Cx} {pins : List (Addr × Obj)}
variable {σ : L2.St} {H : Hp} {s : Shared}
mutual
theorem Tr.reads (I : Inv X pins σ H s) : ∀ (d : PyData) (v : V) (u : Value), Tr X.K H d v → RelV v u → ∃ as, Reads s.heap u d as ∧ DOk s.heap as
  | .none, _, _, h, r => by
    simp only [Tr] at h
    subst h
    cases r
    exact ⟨_, .none, .nil⟩
  | .bool b, _, _, h, r => by
    simp only [Tr] at h
    subst h
    cases r
    exact ⟨_, .bool b, .nil⟩
  | .int i, _, _, h, r => by
    simp only [Tr] at h
    subst h
    obtain ⟨t, rfl⟩ := r
    exact ⟨_, .int i t, .nil⟩
  | .str x, _, _, h, r => by
    simp only [Tr] at h
    subst h
    obtain ⟨t, rfl⟩ := r
    exact ⟨_, .str x t, .nil⟩
  | .list ds, _, _, h, r => by
    simp only [Tr] at h
    obtain ⟨a, us, rfl, hs, ht⟩ := h
    cases r
    obtain ⟨its, rv, ⟨o, n, ho, hc, _, hd⟩, _hz⟩ := I.list hs
    obtain ⟨as, hr, ok⟩ := Trs.reads I ds us its ht rv
    refine ⟨_, .list ho hc hd hr, fun b hb o' hb' hc' => ?_⟩
    rcases List.mem_cons.mp hb with rfl | hin
    · rw [ho] at hb'
      cases hb'
      rw [hc] at hc'
      exact absurd hc' (by decide)
    · exact ok b hin o' hb' hc'
  | .tuple ds, _, _, h, r => by
    simp only [Tr] at h
    obtain ⟨a, us, rfl, hs, ht⟩ := h
    cases r
    obtain ⟨its, rv, ⟨o, ho, hc, n, hd⟩, _hz⟩ := I.tuple hs
    obtain ⟨as, hr, ok⟩ := Trs.reads I ds us its ht rv
    exact ⟨_, .tuple ho hc hd hr, ok⟩
  | .dict kvs, _, _, h, r => by
    simp only [Tr] at h
    obtain ⟨a, us, rfl, hs, ht⟩ := h
    cases r
    obtain ⟨_, hsm, vs, rel, o, es, ep, ho, hx, hd, _, pr, _⟩ := dk_of I.hok hs
    obtain ⟨as, bs, h1, h2, o1, o2⟩ := Trk.reads I kvs us vs es.toList ht rel pr
    refine ⟨_, .dict ho hx.1 hd h1 h2, ?_⟩
    rw [List.cons_append]
    intro b hb o' hb' hc'
    rcases List.mem_cons.mp hb with rfl | hin
    · exact hsm
    · exact (o1.app o2) b hin o' hb' hc'
theorem Trs.reads (I : Inv X pins σ H s) : ∀ (ds : List PyData) (vs : List V) (us : List Value), Trs X.K H ds vs → Vals vs us → ∃ as, ReadsAll s.heap us ds as ∧ DOk s.heap as
  | [], _, _, h, r => by
    simp only [Trs] at h
    subst h
    cases r
    exact ⟨_, .nil, .nil⟩
  | d :: ds, _, _, h, r => by
    simp only [Trs] at h
    obtain ⟨v, t, rfl, h1, h2⟩ := h
    cases r with
    | cons r1 r2 =>
      obtain ⟨as, a1, a2⟩ := Tr.reads I d v _ h1 r1
      obtain ⟨bs, b1, b2⟩ := Trs.reads I ds t _ h2 r2
      exact ⟨_, .cons a1 b1, a2.app b2⟩
theorem Trk.reads (I : Inv X pins σ H s) : ∀ (kvs : List (PyData × PyData)) (us : List (Key × V)) (vs : List (Key × Value)) (es : List DictEntry), Trk X.K H kvs us → KV us vs → Pairs (mixKind X.prog X.w) es vs →
    ∃ as bs, ReadsAll s.heap (es.map (·.key)) (kvs.map (·.1)) as ∧ ReadsAll s.heap (es.map (·.val)) (kvs.map (·.2)) bs ∧ DOk s.heap as ∧ DOk s.heap bs
  | [], _, _, _, h, r, p => by
    simp only [Trk] at h
    subst h
    cases r
    cases p
    exact ⟨_, _, .nil, .nil, .nil, .nil⟩
  | (k, d) :: kvs, _, _, _, h, r, p => by
    simp only [Trk] at h
    obtain ⟨kk, v, t, rfl, rfl, h1, h2⟩ := h
    cases r with
    | cons r1 r2 =>
      obtain ⟨e1, r1⟩ := r1
      cases p with
      | @cons en _ _ _ p1 p2 p3 =>
        obtain ⟨as, bs, a1, a2, a3, a4⟩ := Trk.reads I kvs t _ _ h2 r2 p3
        obtain ⟨cs, c1, c2⟩ := Tr.reads I d v _ h1 (p2 ▸ r1)
        have hk : Reads s.heap en.key (kPd kk) [] := by
          rw [← e1] at p1
          rcases keyIs_shape p1 with ⟨i, t, z1, z2⟩ | ⟨x, t, z1, z2⟩
          · have z1 : kk = .inl i := z1
            rw [z1, z2]; exact .int i t
          · have z1 : kk = .inr x := z1
            rw [z1, z2]; exact .str x t
        exact ⟨_, _, .cons hk a1, .cons c1 a2, DOk.nil.app a3, c2.app a4⟩
end
end
end Z
namespace Z
open PySem PySem.Spec PyProof.Rows L2 RZ
section
variable {prog : Program}
variable {w : World} {h₀ : Heap}
mutual
theorem told_one : ∀ {v : Value} {d : PyData} {as : List Addr}, Reads h₀ v d as → d.showable = true → DOk h₀ as → d.shown.length ≤ sizeLine → ∃ bs, ReadAtMost h₀ d.depth bs ∧ ReprK prog w bs h₀ d.depth v d.shown
  | _, _, _, .none, _, _, _ => ⟨[], (fun _ z => nomatch z), by simp only [PyData.shown]; exact ReprK.of_is ReprIs.none _ _ _⟩
  | _, _, _, .bool b, _, _, _ => ⟨[], (fun _ z => nomatch z), by simp only [PyData.shown]; exact ReprK.of_is (ReprIs.bool b) _ _ _⟩
  | _, _, _, .int i t, g, _, _ => ⟨[], (fun _ z => nomatch z), by
      simp only [PyData.shown]
      exact ReprK.of_is (ReprIs.int t (by simpa [PyData.showable] using g)) _ _ _⟩
  | _, _, _, .str x t, _, _, z => ⟨[], (fun _ z => nomatch z), by
      simp only [PyData.shown]
      exact ReprK.of_is (ReprIs.str x t (by simpa only [PyData.shown] using z)) _ _ _⟩
  | _, _, _, .list (a := a) (vs := vs) (xs := xs) c1 c2 c3 c4, g, ok, z => by
    have z2 : (listText (PyData.shownAll xs)).length ≤ sizeLine := by simpa only [PyData.shown] using z
    obtain ⟨bs, hb, hk⟩ := told_all c4 (by simpa [PyData.showable] using g) ok.tail fun t ht => Nat.le_trans (listText_mem_le ht) z2
    have here : Reads h₀ (.ref a) (.list xs) _ := .list c1 c2 c3 c4
    have new : a ∉ bs := not_mem_of_deeper here (by simp only [PyData.depth]; omega) hb
    refine ⟨a :: bs, ReadAtMost.cons here (by simp only [PyData.depth]; omega) hb, ?_⟩
    simp only [PyData.shown, PyData.depth]
    obtain ⟨l⟩ := vs
    match l, c3, c4, hk with
    | [], c3, c4, _ =>
      have c4 : ReadsAll h₀ [] xs _ := c4
      cases c4
      simp only [listText_nil, PyData.shownAll]
      exact ReprK.listEmpty c1 c2 c3
    | x :: l, c3, _, hk => exact ReprK.list c1 c2 c3 new (by simpa using hk.length_eq) fun i y e => hk.item i y (by simpa using e)
  | _, _, _, .tuple (a := a) (xs := xs) c1 c2 c3 c4, g, ok, z => by
    have z2 : (tupleText (PyData.shownAll xs)).length ≤ sizeLine := by simpa only [PyData.shown] using z
    obtain ⟨bs, hb, hk⟩ := told_all c4 (by simpa [PyData.showable] using g) ok fun t ht => Nat.le_trans (tupleText_mem_le ht) z2
    have here : Reads h₀ (.ref a) (.tuple xs) _ := .tuple c1 c2 c3 c4
    have new : a ∉ bs := not_mem_of_deeper here (by simp only [PyData.depth]; omega) hb
    refine ⟨a :: bs, ReadAtMost.cons here (by simp only [PyData.depth]; omega) hb, ?_⟩
    simp only [PyData.shown, PyData.depth]
    exact ReprK.tuple c1 c2 c3 new hk
  | _, _, _, .dict (a := a) (o := o) (es := es) (kvs := kvs) (as := as₁) (bs := bs₁) c1 c2 c3 c4 c5, g, ok, z => by
    have z2 : (dictText (PyData.shownKv kvs)).length ≤ sizeLine := by simpa only [PyData.shown] using z
    obtain ⟨g1, g2⟩ := PyData.showableKv_split kvs (by simpa [PyData.showable] using g)
    have ok2 : DOk h₀ (as₁ ++ bs₁) := DOk.tail (a := a) (by rw [← List.cons_append]; exact ok)
    obtain ⟨b1, m1, k1⟩ := told_all c4 g1 ok2.left fun t ht => by
      obtain ⟨p, hp, hl⟩ := PyData.shownKv_key_le kvs t ht
      exact Nat.le_trans hl (Nat.le_trans (dictText_mem_le hp) z2)
    obtain ⟨b2, m2, k2⟩ := told_all c5 g2 ok2.right fun t ht => by
      obtain ⟨p, hp, hl⟩ := PyData.shownKv_val_le kvs t ht
      exact Nat.le_trans hl (Nat.le_trans (dictText_mem_le hp) z2)
    have here : Reads h₀ (.ref a) (.dict kvs) _ := .dict c1 c2 c3 c4 c5
    have hb : ReadAtMost h₀ (PyData.depthKv kvs) (b1 ++ b2) := (m1.mono (PyData.depthAll_keys_le kvs)).append (m2.mono (PyData.depthAll_vals_le kvs))
    have new : a ∉ b1 ++ b2 := not_mem_of_deeper here (by simp only [PyData.depth]; omega) hb
    have sys : (a == sysModules) = false := ok a (by rw [List.cons_append]; exact List.mem_cons_self) o c1 c2
    refine ⟨a :: (b1 ++ b2), ReadAtMost.cons here (by simp only [PyData.depth]; omega) hb, ?_⟩
    simp only [PyData.shown, PyData.depth, PyData.shownKv_eq]
    refine ReprK.dict c1 c2 c3 sys new (ReprEntriesK.of_two es.toList _ _ ?_ ?_)
    · exact k1.more_le (fun b hb => List.mem_append_left _ hb) (PyData.depthAll_keys_le kvs)
    · exact k2.more_le (fun b hb => List.mem_append_right _ hb) (PyData.depthAll_vals_le kvs)
theorem told_all : ∀ {vs : List Value} {ds : List PyData} {as : List Addr}, ReadsAll h₀ vs ds as → PyData.showableAll ds = true → DOk h₀ as → (∀ t ∈ PyData.shownAll ds, t.length ≤ sizeLine) →
    ∃ bs : List Addr, ReadAtMost h₀ (PyData.depthAll ds) bs ∧ ReprAllK prog w bs h₀ (PyData.depthAll ds) vs (PyData.shownAll ds)
  | _, _, _, .nil, _, _, _ => ⟨[], (fun _ z => nomatch z), by simp only [PyData.shownAll]; exact .nil⟩
  | _, _, _, .cons (d := d) (ds := ds) r rs, g, ok, z => by
    have g2 : d.showable = true ∧ PyData.showableAll ds = true := by simpa [PyData.showableAll] using g
    obtain ⟨b1, m1, k1⟩ := told_one r g2.1 ok.left (z _ (by simp only [PyData.shownAll]; exact List.mem_cons_self ..))
    obtain ⟨b2, m2, k2⟩ := told_all rs g2.2 ok.right fun t ht => z t (by simp only [PyData.shownAll]; exact List.mem_cons_of_mem _ ht)
    refine ⟨b1 ++ b2, ?_, ?_⟩
    · simp only [PyData.depthAll]
      exact (m1.mono (Nat.le_max_left _ _)).append (m2.mono (Nat.le_max_right _ _))
    · simp only [PyData.shownAll, PyData.depthAll]
      refine .cons ((k1.more fun b hb => List.mem_append_left _ hb).level_le (Nat.le_max_left _ _)) ?_
      exact k2.more_le (fun b hb => List.mem_append_right _ hb) (Nat.le_max_right _ _)
end
end
end Z
namespace Z
open PySem PySem.Spec PyProof.Rows L2 RZ
section
variable {prog : Program} {w : World} {A : Around} {E : Value → Shared → Prop} {s : Shared} {Q : Value → Shared → Prop} {a : Addr} {d : PyData} {as : List Addr}
theorem repr_ref (r : Reads s.heap (.ref a) d as) (g : d.showable = true) (ok : DOk s.heap as) (hg : A.guards = some []) (hu : A.units + (d.depth + 1) < cLine) (hz : d.shown.length ≤ sizeLine)
    (q : ∀ h' u tk, (∀ b o, s.heap.get? b = some o → h'.get? b = some o) → Q (.str d.shown u) { s with heap := h', toks := tk }) : wpAny (model prog w) A (call (.builtin "repr") [.ref a]) Q E s := by
  have hg1 : A.in1.guards = some [] := hg
  have q' : ∀ h' u tk, (∀ b o, s.heap.get? b = some o → h'.get? b = some o) → (fun (r : Value) (s₁ : Shared) => ∃ x t, r = .str x t ∧ Q r s₁) (.str d.shown u) { s with heap := h', toks := tk } := fun h' u tk k => ⟨_, _, rfl, q h' u tk k⟩
  have k0 : ∀ b o, s.heap.get? b = some o → s.heap.get? b = some o := fun _ _ e => e
  have un : A.units + 1 + d.depth < cLine := by omega
  cases r with
  | list c1 c2 c3 c4 =>
    rename_i o vs n xs bs₀
    have z2 : (listText (PyData.shownAll xs)).length ≤ sizeLine := by simpa only [PyData.shown] using hz
    obtain ⟨bs, hb, hk⟩ := told_all (prog := prog) (w := w) c4 (by simpa [PyData.showable] using g) ok.tail fun t ht => Nat.le_trans (listText_mem_le ht) z2
    have new : a ∉ bs := not_mem_of_deeper (Reads.list c1 c2 c3 c4) (by simp only [PyData.depth]; omega) hb
    refine call_repr_slot (by omega) ⟨o, c1, c2⟩ PySem.F.slot_list_repr.toG ?_
    simp only [PyData.depth] at un
    simp only [PyData.shown] at q'
    obtain ⟨l⟩ := vs
    match l, c3, c4, hk with
    | [], c3, c4, _ =>
      have c4 : ReadsAll s.heap [] xs _ := c4
      cases c4
      simp only [PyData.shownAll, listText_nil] at q'
      exact call_list_repr_empty ⟨o, c1, c2⟩ c1 c3 (q' s.heap _ _ k0)
    | x :: l, c3, _, hk => exact call_list_reprK c1 c2 c3 new (by simpa using hk.length_eq) (fun i y e => hk.item i y (by simpa using e)) hg1 (fun b _ => Clear.nil b) un k0 q' z2
  | tuple c1 c2 c3 c4 =>
    rename_i o vs n xs
    have z2 : (tupleText (PyData.shownAll xs)).length ≤ sizeLine := by simpa only [PyData.shown] using hz
    obtain ⟨bs, hb, hk⟩ := told_all (prog := prog) (w := w) c4 (by simpa [PyData.showable] using g) ok fun t ht => Nat.le_trans (tupleText_mem_le ht) z2
    have new : a ∉ bs := not_mem_of_deeper (Reads.tuple c1 c2 c3 c4) (by simp only [PyData.depth]; omega) hb
    refine call_repr_slot (by omega) ⟨o, c1, c2⟩ PySem.F.slot_tuple_repr ?_
    simp only [PyData.depth] at un
    simp only [PyData.shown] at q'
    exact call_tuple_reprK c1 c2 c3 new hk hg1 (fun b _ => Clear.nil b) un k0 q' z2
  | dict c1 c2 c3 c4 c5 =>
    rename_i o es n kvs as₁ bs₁
    have z2 : (dictText (PyData.shownKv kvs)).length ≤ sizeLine := by simpa only [PyData.shown] using hz
    obtain ⟨g1, g2⟩ := PyData.showableKv_split kvs (by simpa [PyData.showable] using g)
    have ok2 : DOk s.heap (as₁ ++ bs₁) := DOk.tail (a := a) (by rw [← List.cons_append]; exact ok)
    obtain ⟨b1, m1, k1⟩ := told_all (prog := prog) (w := w) c4 g1 ok2.left fun t ht => by
      obtain ⟨p, hp, hl⟩ := PyData.shownKv_key_le kvs t ht
      exact Nat.le_trans hl (Nat.le_trans (dictText_mem_le hp) z2)
    obtain ⟨b2, m2, k2⟩ := told_all (prog := prog) (w := w) c5 g2 ok2.right fun t ht => by
      obtain ⟨p, hp, hl⟩ := PyData.shownKv_val_le kvs t ht
      exact Nat.le_trans hl (Nat.le_trans (dictText_mem_le hp) z2)
    have hb : ReadAtMost s.heap (PyData.depthKv kvs) (b1 ++ b2) := (m1.mono (PyData.depthAll_keys_le kvs)).append (m2.mono (PyData.depthAll_vals_le kvs))
    have new : a ∉ b1 ++ b2 := not_mem_of_deeper (Reads.dict c1 c2 c3 c4 c5) (by simp only [PyData.depth]; omega) hb
    have sys : (a == sysModules) = false := ok a (by rw [List.cons_append]; exact List.mem_cons_self) o c1 c2
    refine call_repr_slot (by omega) ⟨o, c1, c2⟩ PySem.F.slot_dict_repr ?_
    simp only [PyData.depth] at un
    simp only [PyData.shown, PyData.shownKv_eq] at q'
    refine call_dict_reprK c1 c2 c3 sys new (ReprEntriesK.of_two es.toList _ _ ?_ ?_) hg1 (fun b _ => Clear.nil b) un k0 q' (by rw [← PyData.shownKv_eq]; exact z2)
    · exact k1.more_le (fun b hb => List.mem_append_left _ hb) (PyData.depthAll_keys_le kvs)
    · exact k2.more_le (fun b hb => List.mem_append_right _ hb) (PyData.depthAll_vals_le kvs)
end
section
variable {X : Cx}
theorem call_repr_any (hu : X.A.units + 66 < cLine) (hgd : X.A.guards = some []) : CallR X (.builtin "repr") (fun xs H Q => ∃ v d, xs = [v] ∧ Tr X.K H d v ∧ d.depth ≤ 64 ∧ d.showable = true ∧ d.shown.length ≤ sizeLine ∧ Q (.str d.shown) H) := by
  intro pins s σ H xs us Q I r ⟨v, d, ex, ht, hd, hs, hz, q⟩
  subst ex
  obtain ⟨u, rfl, rv⟩ := vals1 r
  obtain ⟨as, rd, ok⟩ := Tr.reads I d v u ht rv
  have fin : ∀ (t tk : Tok) (x : Str), x = d.shown → EP X pins σ Q (.str x t) { s with toks := tk } := fun t tk x e => ⟨.str x, H, I.tok _, ⟨_, rfl⟩, by rw [e]; exact q⟩
  match d, rd with
  | .none, .none => exact PySem.P.repr_of_none (fin _ _ _ (by simp only [PyData.shown]))
  | .bool b, .bool _ => exact PySem.P.repr_of_bool (fin _ _ _ (by simp only [PyData.shown]))
  | .int i, .int _ t => exact PySem.P.repr_of_int (by simpa [PyData.showable] using hs) (fin _ _ _ (by simp only [PyData.shown]))
  | .str x, .str _ t => exact PySem.P.repr_of_str (fin _ _ _ (by simp only [PyData.shown])) (by simpa only [PyData.shown] using hz)
  | .list xs, .list c1 c2 c3 c4 => exact repr_ref (.list c1 c2 c3 c4) hs ok hgd (by omega) hz fun h' u tk hk => ⟨.str _, H, I.kept hk, ⟨u, rfl⟩, q⟩
  | .tuple xs, .tuple c1 c2 c3 c4 => exact repr_ref (.tuple c1 c2 c3 c4) hs ok hgd (by omega) hz fun h' u tk hk => ⟨.str _, H, I.kept hk, ⟨u, rfl⟩, q⟩
  | .dict kvs, .dict c1 c2 c3 c4 c5 => exact repr_ref (.dict c1 c2 c3 c4 c5) hs ok hgd (by omega) hz fun h' u tk hk => ⟨.str _, H, I.kept hk, ⟨u, rfl⟩, q⟩
end
section
variable (S : Sto)
mutual
/-- the thing is that data, as the store stands -/
def Rt : PyData → D → Prop
  | .none, x => x = .non
  | .bool b, x => x = .bl b
  | .int i, x => x = .int i
  | .str y, x => x = .str y
  | .list ds, x => (∃ p xs, x = .ref p ∧ S[p]? = some (.lst xs) ∧ Rts ds xs) ∨ ∃ xs, x = .rol xs ∧ Rts ds xs
  | .tuple ds, x => ∃ xs, x = .tup xs ∧ Rts ds xs
  | .dict kvs, x => ∃ p es, x = .ref p ∧ S[p]? = some (.dK es) ∧ Rtk kvs es
def Rts : List PyData → List D → Prop
  | [], xs => xs = []
  | d :: ds, xs => ∃ x r, xs = x :: r ∧ Rt d x ∧ Rts ds r
def Rtk : List (PyData × PyData) → List (Key × D) → Prop
  | [], xs => xs = []
  | (k, d) :: r, xs => ∃ kk x t, xs = (kk, x) :: t ∧ k = kPd kk ∧ Rt d x ∧ Rtk r t
end
end
theorem SR.dK {K : Frag} {m : List Addr} {H : Hp} {S : Sto} (s : SR K m H S) {i : Nat} {a : Addr} {xs : List (Key × D)} (hi : m[i]? = some a) (h : S[i]? = some (.dK xs)) : ∃ us, H a = some (.dK us) ∧ KVR K m H xs us := by
  obtain ⟨b, h1, h2⟩ := s.at_ i _ h
  rw [hi] at h1
  cases h1
  exact h2
section
variable {K : Frag} {m : List Addr} {H : Hp} {S S' : Sto}
mutual
theorem Rt.tr (s : SR K m H S) : ∀ (d : PyData) (x : D) (v : V), Rt S d x → VR K m H x v → Tr K H d v
  | .none, _, _, h, r => by simp only [Rt] at h; subst h; simp only [VR] at r; simp only [Tr]; exact r
  | .bool b, _, _, h, r => by simp only [Rt] at h; subst h; simp only [VR] at r; simp only [Tr]; exact r
  | .int i, _, _, h, r => by simp only [Rt] at h; subst h; simp only [VR] at r; simp only [Tr]; exact r
  | .str y, _, _, h, r => by simp only [Rt] at h; subst h; simp only [VR] at r; simp only [Tr]; exact r
  | .list ds, _, _, h, r => by
    simp only [Rt] at h
    simp only [Tr]
    rcases h with ⟨p, xs, rfl, h1, h2⟩ | ⟨xs, rfl, h2⟩
    · simp only [VR] at r
      obtain ⟨a, rfl, g1⟩ := r
      obtain ⟨us, g2, g3⟩ := s.lst g1 h1
      exact ⟨a, us, rfl, SqL.of g2, Rts.tr s ds xs us h2 g3⟩
    · simp only [VR] at r
      obtain ⟨a, us, rfl, g1, g2⟩ := r
      exact ⟨a, us, rfl, g1.sq, Rts.tr s ds xs us h2 g2⟩
  | .tuple ds, _, _, h, r => by
    simp only [Rt] at h
    simp only [Tr]
    obtain ⟨xs, rfl, h2⟩ := h
    simp only [VR] at r
    obtain ⟨a, us, rfl, g1, g2⟩ := r
    exact ⟨a, us, rfl, SqT.of g1, Rts.tr s ds xs us h2 g2⟩
  | .dict kvs, _, _, h, r => by
    simp only [Rt] at h
    simp only [Tr]
    obtain ⟨p, es, rfl, h1, h2⟩ := h
    simp only [VR] at r
    obtain ⟨a, rfl, g1⟩ := r
    obtain ⟨us, g2, g3⟩ := s.dK g1 h1
    exact ⟨a, us, rfl, g2, Rtk.tr s kvs es us h2 g3⟩
theorem Rts.tr (s : SR K m H S) : ∀ (ds : List PyData) (xs : List D) (vs : List V), Rts S ds xs → VRs K m H xs vs → Trs K H ds vs
  | [], _, _, h, r => by simp only [Rts] at h; subst h; simp only [Trs]; exact r.nil_inv
  | d :: ds, _, _, h, r => by
    simp only [Rts] at h
    obtain ⟨x, t, rfl, h1, h2⟩ := h
    obtain ⟨u, us, rfl, r1, r2⟩ := r.cons_inv
    simp only [Trs]
    exact ⟨u, us, rfl, Rt.tr s d x u h1 r1, Rts.tr s ds t us h2 r2⟩
theorem Rtk.tr (s : SR K m H S) : ∀ (kvs : List (PyData × PyData)) (xs : List (Key × D)) (vs : List (Key × V)), Rtk S kvs xs → KVR K m H xs vs → Trk K H kvs vs
  | [], _, _, h, r => by simp only [Rtk] at h; subst h; simp only [Trk]; cases r; rfl
  | (k, d) :: kvs, _, _, h, r => by
    simp only [Rtk] at h
    obtain ⟨kk, x, t, rfl, rfl, h1, h2⟩ := h
    cases r with
    | cons r1 r2 =>
      simp only [Trk]
      exact ⟨kk, _, _, rfl, rfl, Rt.tr s d x _ h1 r1, Rtk.tr s kvs t _ h2 r2⟩
end
/-- lists and dicts stay -/
structure Stay (S S' : Sto) : Prop where
  l : ∀ (p : Nat) (xs : List D), S[p]? = some (.lst xs) → S'[p]? = some (.lst xs)
  d : ∀ (p : Nat) (xs : List (Key × D)), S[p]? = some (.dK xs) → S'[p]? = some (.dK xs)
mutual
theorem Rt.keep (g : Stay S S') : ∀ (d : PyData) (x : D), Rt S d x → Rt S' d x
  | .none, _, h => by simp only [Rt] at h ⊢; exact h
  | .bool b, _, h => by simp only [Rt] at h ⊢; exact h
  | .int i, _, h => by simp only [Rt] at h ⊢; exact h
  | .str y, _, h => by simp only [Rt] at h ⊢; exact h
  | .list ds, _, h => by
    simp only [Rt] at h ⊢
    rcases h with ⟨p, xs, e, h1, h2⟩ | ⟨xs, e, h2⟩
    · exact .inl ⟨p, xs, e, g.l _ _ h1, Rts.keep g ds xs h2⟩
    · exact .inr ⟨xs, e, Rts.keep g ds xs h2⟩
  | .tuple ds, _, h => by
    simp only [Rt] at h ⊢
    obtain ⟨xs, e, h2⟩ := h
    exact ⟨xs, e, Rts.keep g ds xs h2⟩
  | .dict kvs, _, h => by
    simp only [Rt] at h ⊢
    obtain ⟨p, es, e, h1, h2⟩ := h
    exact ⟨p, es, e, g.d _ _ h1, Rtk.keep g kvs es h2⟩
theorem Rts.keep (g : Stay S S') : ∀ (ds : List PyData) (xs : List D), Rts S ds xs → Rts S' ds xs
  | [], _, h => by simp only [Rts] at h ⊢; exact h
  | d :: ds, _, h => by
    simp only [Rts] at h ⊢
    obtain ⟨x, t, e, h1, h2⟩ := h
    exact ⟨x, t, e, Rt.keep g d x h1, Rts.keep g ds t h2⟩
theorem Rtk.keep (g : Stay S S') : ∀ (kvs : List (PyData × PyData)) (xs : List (Key × D)), Rtk S kvs xs → Rtk S' kvs xs
  | [], _, h => by simp only [Rtk] at h ⊢; exact h
  | (k, d) :: kvs, _, h => by
    simp only [Rtk] at h ⊢
    obtain ⟨kk, x, t, e, ek, h1, h2⟩ := h
    exact ⟨kk, x, t, e, ek, Rt.keep g d x h1, Rtk.keep g kvs t h2⟩
end
mutual
/-- a tree that holds no number of the store is its own data -/
theorem Rt.plain : ∀ {x : D}, x.plain = true → Rt S x.pd x
  | .non, _ => by simp only [D.pd, Rt]
  | .bl _, _ => by simp only [D.pd, Rt]
  | .int _, _ => by simp only [D.pd, Rt]
  | .str _, _ => by simp only [D.pd, Rt]
  | .tup xs, h => by
    simp only [D.plain] at h
    simp only [D.pd, Rt]
    exact ⟨xs, rfl, Rts.plain h⟩
  | .rol xs, h => by
    simp only [D.plain] at h
    simp only [D.pd, Rt]
    exact .inr ⟨xs, rfl, Rts.plain h⟩
  | .ref _, h => by simp [D.plain] at h
  | .ty _, h => by simp [D.plain] at h
  | .cst _, h => by simp [D.plain] at h
theorem Rts.plain : ∀ {xs : List D}, D.plains xs = true → Rts S (D.pds xs) xs
  | [], _ => by simp only [D.pds, Rts]
  | x :: xs, h => by
    simp only [D.plains, Bool.and_eq_true] at h
    simp only [D.pds, Rts]
    exact ⟨x, xs, rfl, Rt.plain h.1, Rts.plain h.2⟩
end
end
/-! how long it may be -/
mutual
def shD : PyData → Nat
  | .none => 4
  | .bool _ => 5
  | .int _ => 1921
  | .str x => 10 * x.length + 2
  | .list ds => shDs ds + 2
  | .tuple ds => shDs ds + 2
  | .dict kvs => shDk kvs + 2
def shDs : List PyData → Nat
  | [] => 0
  | d :: ds => shD d + 2 + shDs ds
def shDk : List (PyData × PyData) → Nat
  | [] => 0
  | (k, d) :: r => shD k + shD d + 4 + shDk r
end
mutual
def shP : PyData → Prop
  | .none => True
  | .bool _ => True
  | .int i => i.natAbs.log2 < 1920
  | .str x => ∀ c ∈ x.cps.toList, c < 16 ^ 8
  | .list ds => shPs ds
  | .tuple ds => shPs ds
  | .dict kvs => shPk kvs
def shPs : List PyData → Prop
  | [] => True
  | d :: ds => shP d ∧ shPs ds
def shPk : List (PyData × PyData) → Prop
  | [] => True
  | (k, d) :: r => shP k ∧ shP d ∧ shPk r
end
theorem lText_le (ts : List Str) : (listText ts).length ≤ piled ts + 2 := by
  rw [listText_eq_join, strLen_append, strLen_append, show ((("[" : String) : Str)).length = 1 from rfl, show ((("]" : String) : Str)).length = 1 from rfl]
  by_cases h : ts = []
  · subst h
    decide +kernel
  · have hj := join_length_add ts h
    omega
theorem dText_le (ts : List Str) : (dictText ts).length ≤ piled ts + 2 := by
  unfold dictText
  rw [strLen_append, strLen_append, show ((("{" : String) : Str)).length = 1 from rfl, show ((("}" : String) : Str)).length = 1 from rfl]
  by_cases h : ts = []
  · subst h
    decide +kernel
  · have hj := join_length_add ts h
    omega
mutual
theorem shd_ok : ∀ d : PyData, shP d → d.showable = true ∧ d.shown.length ≤ shD d
  | .none, _ => ⟨by simp only [PyData.showable], by simp only [PyData.shown, shD]; decide +kernel⟩
  | .bool b, _ => ⟨by simp only [PyData.showable], by simp only [PyData.shown, shD]; cases b <;> decide +kernel⟩
  | .int i, h => by
    simp only [shP] at h
    refine ⟨by simp only [PyData.showable]; exact decide_eq_true h, ?_⟩
    simp only [PyData.shown, shD]
    exact int_text_len_1921 h
  | .str x, h => by
    simp only [shP] at h
    refine ⟨by simp only [PyData.showable], ?_⟩
    simp only [PyData.shown, shD]
    exact StrLaws.reprText_len x h
  | .list ds, h => by
    simp only [shP] at h
    obtain ⟨h1, h2⟩ := shd_oks ds h
    refine ⟨by simp only [PyData.showable]; exact h1, ?_⟩
    simp only [PyData.shown, shD]
    have := lText_le (PyData.shownAll ds)
    omega
  | .tuple ds, h => by
    simp only [shP] at h
    obtain ⟨h1, h2⟩ := shd_oks ds h
    refine ⟨by simp only [PyData.showable]; exact h1, ?_⟩
    simp only [PyData.shown, shD]
    have := fmt_text (PyData.shownAll ds)
    omega
  | .dict kvs, h => by
    simp only [shP] at h
    obtain ⟨h1, h2⟩ := shd_okk kvs h
    refine ⟨by simp only [PyData.showable]; exact h1, ?_⟩
    simp only [PyData.shown, shD]
    have := dText_le (PyData.shownKv kvs)
    omega
theorem shd_oks : ∀ ds : List PyData, shPs ds → PyData.showableAll ds = true ∧ piled (PyData.shownAll ds) ≤ shDs ds
  | [], _ => ⟨by simp only [PyData.showableAll], by simp only [PyData.shownAll, shDs]; exact Nat.le_refl _⟩
  | d :: ds, h => by
    simp only [shPs] at h
    obtain ⟨h1, h2⟩ := shd_ok d h.1
    obtain ⟨h3, h4⟩ := shd_oks ds h.2
    refine ⟨by simp only [PyData.showableAll, h1, h3, Bool.and_self], ?_⟩
    simp only [PyData.shownAll, shDs]
    rw [piled_cons]
    omega
theorem shd_okk : ∀ kvs : List (PyData × PyData), shPk kvs → PyData.showableKv kvs = true ∧ piled (PyData.shownKv kvs) ≤ shDk kvs
  | [], _ => ⟨by simp only [PyData.showableKv], by simp only [PyData.shownKv, shDk]; exact Nat.le_refl _⟩
  | (k, d) :: r, h => by
    simp only [shPk] at h
    obtain ⟨h1, h2⟩ := shd_ok k h.1
    obtain ⟨h3, h4⟩ := shd_ok d h.2.1
    obtain ⟨h5, h6⟩ := shd_okk r h.2.2
    refine ⟨by simp only [PyData.showableKv, h1, h3, h5, Bool.and_self], ?_⟩
    simp only [PyData.shownKv, shDk]
    rw [piled_cons, strLen_append, strLen_append, show (((": " : String) : Str)).length = 2 from rfl]
    omega
end
/-- repr of anything that can be read off the store -/
def wReprD (w : WE) : WE := fun env S Q => w env S fun x S1 => ∃ d : PyData, Rt S1 d x ∧ shP d ∧ shD d ≤ 16000000 ∧ d.depth ≤ 64 ∧ Q (.str d.shown) S1
theorem fe_reprD {X : Cx} {e : Expr} {w : WE} {p pos : Pos} (hu : X.A.units + 66 < cLine) (hgd : X.A.guards = some []) (hg : Gl X "repr") (hm : X.mg "repr" = none) (ha : FE X e w) (hs : starEach [e] X.env = (false, eval e X.env) :: starEach [] X.env := by rfl) : FE X (.Call (.Name "repr" p) [e] [] pos) (wReprD w) := by
  refine ⟨PE.imp (pe_callB (call_repr_any hu hgd) hg hm (by decide +kernel) (pa_cons ha.p pa_nil hs) (by decide) (by decide) hs rfl) fun σ H Q ⟨env, S, m, Q0, s, r, h, k⟩ => ?_⟩
  refine lift_k s r h fun y S1 u H1 m1 q1 e1 s1 v1 => ?_
  obtain ⟨d, h1, h2, h3, h4, q⟩ := q1
  obtain ⟨g1, g2⟩ := shd_ok d h2
  exact ⟨u, d, rfl, Rt.tr s1 d y u h1 v1, h4, g1, Nat.le_trans g2 (Nat.le_trans h3 (by rw [sizeLine_eq]; decide)), (k.ext e1).v s1 q (by simp only [VR])⟩
end Z
namespace Z
open PySem PySem.Spec PyProof.Rows L2 RZ
/-! two lists of the same texts, of any signs -/
def rEqTs (f : Bool → Bool) : R2 := fun x y H Q => ∃ (a b : Addr) (ys : List Str), x = .ref a ∧ y = .ref b ∧ H a = some (.lst (ys.map V.str)) ∧ H b = some (.lst (ys.map V.str)) ∧ Q (.bl (f true)) H
section
variable {X : Cx}
theorem texts_at {s : Shared} {A : Around} {ys : List Str} {us ws : List Value} (ra : Vals (ys.map V.str) us) (rb : Vals (ys.map V.str) ws) : us.toArray.size = ws.toArray.size ∧ ∀ j (h1 : j < us.toArray.size) (h2 : j < ws.toArray.size), SeqAt.EqAt A s us.toArray[j] ws.toArray[j] true := by
  have l1 := ra.length
  have l2 := rb.length
  refine ⟨by simp only [List.size_toArray]; omega, fun j h1 h2 => ?_⟩
  have hj : j < ys.length := by
    simp only [List.size_toArray] at h1
    rw [List.length_map] at l1
    omega
  obtain ⟨u, g1, r1⟩ := ra.get (i := j) (x := .str ys[j]) (by simp [hj])
  obtain ⟨w, g2, r2⟩ := rb.get (i := j) (x := .str ys[j]) (by simp [hj])
  have e1 : us.toArray[j] = u := by
    have := (List.getElem?_eq_some_iff.mp g1).2
    simpa using this
  have e2 : ws.toArray[j] = w := by
    have := (List.getElem?_eq_some_iff.mp g2).2
    simpa using this
  have := eqAt_V (A := A) (s := s) r1 r2 rfl rfl
  rw [show eqV (.str ys[j]) (.str ys[j]) = true from beq_self_eq_true ys[j]] at this
  rw [e1, e2]
  exact this
theorem op_eqTs (hu : X.A.units < cLine) : OpR X (compareOp .Eq) (rEqTs id) := by
  intro pins s σ H x y v u Q I rx ry ⟨a, b, ys, ex, ey, ea, eb, q⟩
  subst ex
  subst ey
  have e1 : v = Value.ref a := rx
  have e2 : u = Value.ref b := ry
  subst e1
  subst e2
  obtain ⟨ia, ra, la⟩ := isList_of I.hok ea
  obtain ⟨ib, rb, lb⟩ := isList_of I.hok eb
  obtain ⟨hl, he⟩ := texts_at (A := X.A.in1) (s := s) ra rb
  refine SeqAt.eq_listAt (e := fun _ => true) la lb hl hu he ?_
  rw [List.all_eq_true.mpr fun _ _ => rfl]
  exact ⟨.bl true, H, I, rfl, q⟩
theorem op_neTs (hu : X.A.units < cLine) : OpR X (compareOp .NotEq) (rEqTs not) := by
  intro pins s σ H x y v u Q I rx ry ⟨a, b, ys, ex, ey, ea, eb, q⟩
  subst ex
  subst ey
  have e1 : v = Value.ref a := rx
  have e2 : u = Value.ref b := ry
  subst e1
  subst e2
  obtain ⟨ia, ra, la⟩ := isList_of I.hok ea
  obtain ⟨ib, rb, lb⟩ := isList_of I.hok eb
  obtain ⟨hl, he⟩ := texts_at (A := X.A.in1) (s := s) ra rb
  refine SeqAt.RcNeAt.lists (e := fun _ => true) la lb hl hu he _ _ _ _ ?_
  rw [List.all_eq_true.mpr fun _ _ => rfl]
  exact ⟨.bl false, H, I, rfl, q⟩
def dEqTs (f : Bool → Bool) : R2D := fun x y S Q => match x, y with | .ref p, .ref q => ∃ ys : List Str, S[p]? = some (.lst (ys.map D.str)) ∧ S[q]? = some (.lst (ys.map D.str)) ∧ Q (.bl (f true)) S | _, _ => False
theorem sim_eqTs (f : Bool → Bool) : Sim2 X.K (rEqTs f) (dEqTs f) := by
  intro m H S x y u v Q0 Q s rx ry h k
  cases x <;> cases y <;> simp only [dEqTs] at h <;> first | exact h.elim | skip
  simp only [VR] at rx ry
  obtain ⟨a, rfl, h1⟩ := rx
  obtain ⟨b, rfl, h2⟩ := ry
  obtain ⟨ys, g1, g2, q⟩ := h
  obtain ⟨us, t1, t2⟩ := s.lst h1 g1
  obtain ⟨ws, t3, t4⟩ := s.lst h2 g2
  have v2 : us = ys.map V.str := t2.strs
  have v4 : ws = ys.map V.str := t4.strs
  rw [v2] at t1
  rw [v4] at t3
  exact ⟨a, b, ys, rfl, rfl, t1, t3, k.v s q (by simp only [VR])⟩
end
end Z
namespace Z
open PySem PySem.Spec PyProof.Rows L2 RZ
/-! odd things: data that can be told, none of it at the place of the deck -/
mutual
def okP : PyData → Prop
  | .none => True
  | .bool _ => True
  | .int i => i.natAbs.log2 < 1920
  | .str x => x.length ≤ 1000 ∧ ∀ c ∈ x.cps.toList, c < 16 ^ 8
  | .list ds => okPs ds
  | .tuple ds => okPs ds
  | .dict kvs => okPk kvs
def okPs : List PyData → Prop
  | [] => True
  | d :: ds => okP d ∧ okPs ds
def okPk : List (PyData × PyData) → Prop
  | [] => True
  | (k, d) :: r => okP k ∧ okP d ∧ okPk r
end
mutual
theorem okP.sh : ∀ d : PyData, okP d → shP d
  | .none, _ => by simp only [shP]
  | .bool b, _ => by simp only [shP]
  | .int i, h => by simp only [okP] at h; simp only [shP]; exact h
  | .str x, h => by simp only [okP] at h; simp only [shP]; exact h.2
  | .list ds, h => by simp only [okP] at h; simp only [shP]; exact okPs.sh ds h
  | .tuple ds, h => by simp only [okP] at h; simp only [shP]; exact okPs.sh ds h
  | .dict kvs, h => by simp only [okP] at h; simp only [shP]; exact okPk.sh kvs h
theorem okPs.sh : ∀ ds : List PyData, okPs ds → shPs ds
  | [], _ => by simp only [shPs]
  | d :: ds, h => by simp only [okPs] at h; simp only [shPs]; exact ⟨okP.sh d h.1, okPs.sh ds h.2⟩
theorem okPk.sh : ∀ ds : List (PyData × PyData), okPk ds → shPk ds
  | [], _ => by simp only [shPk]
  | (k, d) :: ds, h => by simp only [okPk] at h; simp only [shPk]; exact ⟨okP.sh k h.1, okP.sh d h.2.1, okPk.sh ds h.2.2⟩
end
/-- the store, its place p hidden -/
def hideP (S : Sto) (p : Nat) : Sto := S.set p (.dT [])
theorem hideP_at {S : Sto} {p q : Nat} {o : O} (h : (hideP S p)[q]? = some o) (n : ∀ kvs, o ≠ .dT kvs) : q ≠ p ∧ S[q]? = some o := by
  unfold hideP at h
  by_cases e : p = q
  · subst e
    by_cases hl : p < S.length
    · rw [List.getElem?_set_self hl] at h
      injection h with h
      exact absurd h.symm (n _)
    · rw [List.getElem?_eq_none (by simpa using hl)] at h
      cases h
  · rw [List.getElem?_set_ne e] at h
    exact ⟨fun z => e z.symm, h⟩
theorem hideP_of {S : Sto} {p q : Nat} {o : O} (h : S[q]? = some o) (n : q ≠ p) : (hideP S p)[q]? = some o := by
  unfold hideP
  rw [List.getElem?_set_ne (fun z => n z.symm)]
  exact h
theorem hideP_stay {S S' : Sto} {p : Nat} (k : Kp S S' [p]) : Stay (hideP S p) (hideP S' p) := by
  refine ⟨fun q xs h => ?_, fun q xs h => ?_⟩
  · obtain ⟨n, h⟩ := hideP_at h fun _ z => nomatch z
    exact hideP_of (k.at_ q _ h (by simpa using n)) n
  · obtain ⟨n, h⟩ := hideP_at h fun _ z => nomatch z
    exact hideP_of (k.at_ q _ h (by simpa using n)) n
theorem hideP_up {S : Sto} {p : Nat} : Stay (hideP S p) S := ⟨fun q xs h => (hideP_at h fun _ z => nomatch z).2, fun q xs h => (hideP_at h fun _ z => nomatch z).2⟩
def Od (S : Sto) (p N K : Nat) (x : D) : Prop := ∃ d : PyData, Rt (hideP S p) d x ∧ okP d ∧ shD d ≤ N ∧ d.depth ≤ K
def Ods (S : Sto) (p N K : Nat) (xs : List D) : Prop := ∃ ds : List PyData, Rts (hideP S p) ds xs ∧ okPs ds ∧ shDs ds ≤ N ∧ PyData.depthAll ds ≤ K
section
variable {S S' : Sto} {p N K N' K' : Nat} {x : D} {xs ys : List D}
theorem Od.mono (h : Od S p N K x) (hn : N ≤ N' := by omega) (hk : K ≤ K' := by omega) : Od S p N' K' x := by
  obtain ⟨d, h1, h2, h3, h4⟩ := h
  exact ⟨d, h1, h2, Nat.le_trans h3 hn, Nat.le_trans h4 hk⟩
theorem Ods.mono (h : Ods S p N K xs) (hn : N ≤ N' := by omega) (hk : K ≤ K' := by omega) : Ods S p N' K' xs := by
  obtain ⟨d, h1, h2, h3, h4⟩ := h
  exact ⟨d, h1, h2, Nat.le_trans h3 hn, Nat.le_trans h4 hk⟩
theorem Od.keep (k : Kp S S' [p]) (h : Od S p N K x) : Od S' p N K x := by
  obtain ⟨d, h1, h2⟩ := h
  exact ⟨d, Rt.keep (hideP_stay k) d x h1, h2⟩
theorem Ods.keep (k : Kp S S' [p]) (h : Ods S p N K xs) : Ods S' p N K xs := by
  obtain ⟨d, h1, h2⟩ := h
  exact ⟨d, Rts.keep (hideP_stay k) d xs h1, h2⟩
theorem od_non : Od S p 4 0 .non := ⟨.none, by simp only [Rt], by simp only [okP], by simp only [shD]; exact Nat.le_refl _, by simp only [PyData.depth]; exact Nat.le_refl _⟩
theorem od_bl (b : Bool) : Od S p 5 0 (.bl b) := ⟨.bool b, by simp only [Rt], by simp only [okP], by simp only [shD]; exact Nat.le_refl _, by simp only [PyData.depth]; exact Nat.le_refl _⟩
theorem od_int {i : Int} (h : i.natAbs.log2 < 1920) : Od S p 1921 0 (.int i) := ⟨.int i, by simp only [Rt], by simp only [okP]; exact h, by simp only [shD]; exact Nat.le_refl _, by simp only [PyData.depth]; exact Nat.le_refl _⟩
theorem od_str {y : Str} (hl : y.length ≤ N) (hn : N ≤ 1000) (hc : ∀ c ∈ y.cps.toList, c < 16 ^ 8) : Od S p (10 * N + 2) 0 (.str y) := ⟨.str y, by simp only [Rt], by simp only [okP]; exact ⟨Nat.le_trans hl hn, hc⟩, by simp only [shD]; omega, by simp only [PyData.depth]; exact Nat.le_refl _⟩
theorem ods_nil : Ods S p 0 0 [] := ⟨[], by simp only [Rts], by simp only [okPs], by simp only [shDs]; exact Nat.le_refl _, by simp only [PyData.depthAll]; exact Nat.le_refl _⟩
theorem ods_cons (h : Od S p N K x) (t : Ods S p N' K' xs) : Ods S p (N + 2 + N') (max K K') (x :: xs) := by
  obtain ⟨d, h1, h2, h3, h4⟩ := h
  obtain ⟨ds, t1, t2, t3, t4⟩ := t
  refine ⟨d :: ds, by simp only [Rts]; exact ⟨x, xs, rfl, h1, t1⟩, by simp only [okPs]; exact ⟨h2, t2⟩, by simp only [shDs]; omega, by simp only [PyData.depthAll]; omega⟩
theorem ods_app (h : Ods S p N K xs) (t : Ods S p N' K' ys) : Ods S p (N + N') (max K K') (xs ++ ys) := by
  obtain ⟨ds, h1, h2, h3, h4⟩ := h
  induction ds generalizing xs N with
  | nil =>
    simp only [Rts] at h1
    subst h1
    exact t.mono
  | cons d ds ih =>
    simp only [Rts] at h1
    obtain ⟨x, r, rfl, g1, g2⟩ := h1
    simp only [okPs] at h2
    simp only [shDs] at h3
    simp only [PyData.depthAll] at h4
    have h5 := ods_cons ⟨d, g1, h2.1, Nat.le_refl _, (by omega : d.depth ≤ K)⟩ (ih g2 h2.2 (Nat.le_refl _) (by omega))
    exact h5.mono
theorem ods_all (h : ∀ y ∈ xs, Od S p N K y) : Ods S p ((N + 2) * xs.length) K xs := by
  induction xs with
  | nil => exact ods_nil.mono
  | cons y ys ih =>
    refine (ods_cons (h y List.mem_cons_self) (ih fun z hz => h z (List.mem_cons_of_mem _ hz))).mono ?_ (by omega)
    rw [List.length_cons, Nat.mul_add]
    omega
theorem Ods.mem (h : Ods S p N K xs) {y : D} (hy : y ∈ xs) : Od S p N K y := by
  obtain ⟨ds, h1, h2, h3, h4⟩ := h
  induction ds generalizing xs with
  | nil =>
    simp only [Rts] at h1
    subst h1
    cases hy
  | cons d ds ih =>
    simp only [Rts] at h1
    obtain ⟨x, r, rfl, g1, g2⟩ := h1
    simp only [okPs] at h2
    simp only [shDs] at h3
    simp only [PyData.depthAll] at h4
    rcases List.mem_cons.mp hy with e | hy
    · rw [e]; exact ⟨d, g1, h2.1, by omega, by omega⟩
    · exact ih hy g2 h2.2 (by omega) (by omega)
theorem od_tup (h : Ods S p N K xs) : Od S p (N + 2) (K + 1) (.tup xs) := by
  obtain ⟨ds, h1, h2, h3, h4⟩ := h
  exact ⟨.tuple ds, by simp only [Rt]; exact ⟨xs, rfl, h1⟩, by simp only [okP]; exact h2, by simp only [shD]; omega, by simp only [PyData.depth]; omega⟩
theorem od_lst {q : Nat} (g : S[q]? = some (.lst xs)) (n : q ≠ p) (h : Ods S p N K xs) : Od S p (N + 2) (K + 1) (.ref q) := by
  obtain ⟨ds, h1, h2, h3, h4⟩ := h
  exact ⟨.list ds, by simp only [Rt]; exact .inl ⟨q, xs, rfl, hideP_of g n, h1⟩, by simp only [okP]; exact h2, by simp only [shD]; omega, by simp only [PyData.depth]; omega⟩
theorem od_dic0 {q : Nat} (g : S[q]? = some (.dK [])) (n : q ≠ p) : Od S p 2 1 (.ref q) :=
  ⟨.dict [], by simp only [Rt]; exact ⟨q, [], rfl, hideP_of g n, by simp only [Rtk]⟩, by simp only [okP, okPk], by simp only [shD, shDk]; exact Nat.le_refl _, by simp only [PyData.depth, PyData.depthKv]; omega⟩
theorem od_dic1 {q : Nat} {k : Str} (g : S[q]? = some (.dK [(.inr k, x)])) (n : q ≠ p) (hl : k.length ≤ 1000) (hc : ∀ c ∈ k.cps.toList, c < 16 ^ 8) (h : Od S p N K x) : Od S p (N + 10 * k.length + 8) (K + 1) (.ref q) := by
  obtain ⟨d, h1, h2, h3, h4⟩ := h
  refine ⟨.dict [(.str k, d)], by simp only [Rt]; exact ⟨q, _, rfl, hideP_of g n, by simp only [Rtk]; exact ⟨.inr k, x, [], rfl, rfl, h1, rfl⟩⟩, by simp only [okP, okPk]; exact ⟨⟨hl, hc⟩, h2, trivial⟩, by simp only [shD, shDk]; omega, by simp only [PyData.depth, PyData.depthKv]; omega⟩
theorem Od.part (h : Od S p N K (.tup xs)) {y : D} (hy : y ∈ xs) : Od S p N K y := by
  obtain ⟨d, h1, h2, h3, h4⟩ := h
  cases d <;> simp only [Rt] at h1
  case tuple ds =>
    obtain ⟨ys, e, h1⟩ := h1
    cases e
    simp only [okP] at h2
    simp only [shD] at h3
    simp only [PyData.depth] at h4
    exact Ods.mem ⟨ds, h1, h2, by omega, by omega⟩ hy
  case list ds => rcases h1 with ⟨_, _, e, _⟩ | ⟨_, e, _⟩ <;> cases e
  case dict kvs =>
    obtain ⟨_, _, e, _⟩ := h1
    cases e
  all_goals cases h1
end
end Z
set_option maxHeartbeats 1000000
namespace Z
open PySem PySem.Spec PyProof.Rows L2 RZ
/-! zip of two things, each told by its iterator: here of a tuple and a list -/
structure Src (i l : Addr) (xs : Array Value) where
  It : Nat → Heap → Prop
  Of : Heap → Prop
  itAt : ∀ {k : Nat} {h h' : Heap}, It k h → (∀ o, h.get? i = some o → h'.get? i = some o) → It k h'
  ofAt : ∀ {h h' : Heap}, Of h → (∀ o, h.get? l = some o → h'.get? l = some o) → Of h'
  item : ∀ {prog : Program} {w : World} {A : Around} {E : Value → Shared → Prop} {s : Shared} {k : Nat} {x : Value} {Q : Value → Shared → Prop}, It k s.heap → Of s.heap → xs[k]? = some x →
    (∀ h', It (k + 1) h' → Heap.SameBut i s.heap h' → Q x { s with heap := h' }) → wpAny (model prog w) A (Builtin.SmallTypes.nextOf (.ref i)) Q E s
  stop : ∀ {prog : Program} {w : World} {A : Around} {E : Value → Shared → Prop} {s : Shared} {k : Nat} {Q : Value → Shared → Prop}, A.handled = none → It k s.heap → Of s.heap → xs[k]? = none →
    (∀ h' e, Heap.ExtBut i s.heap h' → (∃ o, h'.get? e = some o ∧ o.cls = .type "StopIteration") → E (.ref e) { s with heap := h' }) → wpAny (model prog w) A (Builtin.SmallTypes.nextOf (.ref i)) Q E s
  obj : ∀ {k : Nat} {h : Heap}, It k h → ∃ o vs, h.get? i = some o ∧ o.data = .fields vs
def srcT (i l : Addr) (xs : Array Value) : Src i l xs where
  It := fun k h => h.IsTupleIter i l k
  Of := fun h => h.IsTuple l xs
  itAt := fun h k => h.at k
  ofAt := fun ⟨o, e, r⟩ k => ⟨o, k o e, r⟩
  item := fun h1 h2 hx q => nextOf_tuple_item h1 h2 hx q
  stop := fun hh h1 h2 hx q => nextOf_tuple_end hh h1 h2 hx q
  obj := fun ⟨o, e, _, d⟩ => ⟨o, _, e, d⟩
def srcL (i l : Addr) (xs : Array Value) : Src i l xs where
  It := fun k h => h.IsListIter i l k
  Of := fun h => h.IsList l xs
  itAt := fun h k => h.at k
  ofAt := fun ⟨o, e, r⟩ k => ⟨o, k o e, r⟩
  item := fun h1 h2 hx q => wpAny_nextOf_list_item h1 h2 hx q
  stop := fun hh h1 h2 hx q => wpAny_nextOf_list_end hh h1 h2 hx q
  obj := fun ⟨o, e, _, d⟩ => ⟨o, _, e, d⟩
section
variable {prog : Program} {w : World} {A : Around} {E : Value → Shared → Prop} {s : Shared} {z TI TO i1 i2 l1 l2 : Addr} {j1 j2 : Nat} {xs ys : Array Value} {a b : Value}
/-- all but the zip's own four things stay -/
def Rest4 (z TO i1 i2 : Addr) (h h' : Heap) : Prop := ∀ c o, c ≠ z → c ≠ TO → c ≠ i1 → c ≠ i2 → h.get? c = some o → h'.get? c = some o
theorem zipS_item (A1 : Src i1 l1 xs) (A2 : Src i2 l2 ys) {x y : Value} {Q : Value → Shared → Prop} (D : ZipApart z TI TO i1 i2 l1 l2) (hz : IsZip s.heap z TI TO .none) (pI : IsPair s.heap TI (.ref i1) (.ref i2)) (pO : IsPair s.heap TO a b)
    (c1 : A1.It j1 s.heap) (c2 : A2.It j2 s.heap) (d1 : A1.Of s.heap) (d2 : A2.Of s.heap) (hx : xs[j1]? = some x) (hy : ys[j2]? = some y)
    (q : ∀ h', IsZip h' z TI TO (rawInt s.heap.objs.size) → IsPair h' TO x y → A1.It (j1 + 1) h' → A2.It (j2 + 1) h' → IsPair h' s.heap.objs.size x y → h'.objs.size = s.heap.objs.size + 1 → Rest4 z TO i1 i2 s.heap h' → Q (.ref s.heap.objs.size) { s with heap := h' }) :
    wpAny (model prog w) A (Builtin.«zip.__next__» ⟨[.ref z], []⟩) (fun r s' => ∃ v, r = .done (.ret v) ∧ Q v s') E s := by
  refine wpAny_bind (m := field (.ref z) 2) (wpAny_field hz rfl (x := .bool false) rfl ?_)
  refine wpAny_bind (m := field (.ref z) 3) (wpAny_field hz rfl (x := .ref TI) rfl ?_)
  refine wpAny_bind (wpAny_seqItems pI rfl ?_)
  refine wpAny_bind (m := Builtin.SmallTypes.ownedTupleIsFree (.ref z)) ?_
  unfold Builtin.SmallTypes.ownedTupleIsFree
  refine wpAny_bind (wpAny_field hz rfl (x := .none) rfl (wpAny_pure ?_))
  simp only [if_true]
  refine wpAny_bind (wpAny_rule (wpAny_bind (wpAny_field hz rfl (x := .ref TO) rfl ?_)))
  refine wpAny_bind (wpAny_setField_rec hz (by simp) fun g1 z1 k1 => ?_)
  have z1 : IsZip g1 z TI TO .ellipsis := z1
  refine wpAny_bind ?_
  simp only [List.zipIdx_cons, List.zipIdx_nil, List.forIn_cons, List.forIn_nil]
  -- the first one
  refine wpAny_bind (wpAny_bind (wpAny_onRaise (wpAny_bind (m := Builtin.SmallTypes.nextOf (.ref i1)) ?_)))
  refine A1.item (A1.itAt c1 fun o e => k1.extBut _ _ D.i1z e) (A1.ofAt d1 fun o e => k1.extBut _ _ D.l1z e) hx fun g2 n1 k2 => wpAny_pure ?_
  have o2 : IsPair g2 TO a b := k2.extBut _ _ D.TOi1 (k1.extBut _ _ D.TOz pO)
  refine wpAny_bind (wpAny_seqItems o2 rfl (wpAny_bind (wpAny_updateSeq_pair o2 fun g3 o3 k3 => ?_)))
  have o3 : IsPair g3 TO x b := o3
  refine wpAny_bind (wpAny_letGo (wpAny_pure ?_))
  have up3 : ∀ c o, c ≠ z → c ≠ i1 → c ≠ TO → s.heap.get? c = some o → g3.get? c = some o := fun c o e1 e2 e3 e => k3.extBut _ _ e3 (k2.extBut _ _ e2 (k1.extBut _ _ e1 e))
  -- the second one
  refine wpAny_bind (wpAny_bind (wpAny_onRaise (wpAny_bind (m := Builtin.SmallTypes.nextOf (.ref i2)) ?_)))
  refine A2.item (A2.itAt c2 fun o e => up3 _ _ D.i2z D.i12.symm D.TOi2.symm e) (A2.ofAt d2 fun o e => up3 _ _ D.l2z D.l2i1 D.l2TO e) hy fun g4 n2 k4 => wpAny_pure ?_
  have o4 : IsPair g4 TO x b := k4.extBut _ _ D.TOi2 o3
  refine wpAny_bind (wpAny_seqItems o4 rfl (wpAny_bind (wpAny_updateSeq_pair o4 fun g5 o5 k5 => ?_)))
  have o5 : IsPair g5 TO x y := o5
  refine wpAny_bind (wpAny_letGo (wpAny_pure (wpAny_pure (wpAny_bind (wpAny_seqItems o5 rfl (wpAny_bind (wpAny_newTuple ?_)))))))
  have size5 : g5.objs.size = s.heap.objs.size := by rw [k5.1, k4.1, k3.1, k2.1, k1.1]
  have z5 : IsZip g5 z TI TO .ellipsis := k5.extBut _ _ D.TOz.symm (k4.extBut _ _ D.i2z.symm (k3.extBut _ _ D.TOz.symm (k2.extBut _ _ D.i1z.symm z1)))
  have up5 : Rest4 z TO i1 i2 s.heap g5 := fun c o e1 e2 e3 e4 e => k5.extBut _ _ e2 (k4.extBut _ _ e4 (up3 c o e1 e3 e2 e))
  have f1 : A1.It (j1 + 1) g5 := A1.itAt n1 fun o e => k5.extBut _ _ D.TOi1.symm (k4.extBut _ _ D.i12 (k3.extBut _ _ D.TOi1.symm e))
  have f2 : A2.It (j2 + 1) g5 := A2.itAt n2 fun o e => k5.extBut _ _ D.TOi2.symm e
  have lz : z < g5.objs.size := Heap.lt_size z5
  refine wpAny_bind (m := Builtin.SmallTypes.ownedTupleHandOut (.ref z) (.ref g5.objs.size)) ?_
  unfold Builtin.SmallTypes.ownedTupleHandOut
  have z6 : IsZip (g5.push { cls := .type "tuple", data := .seq #[x, y] }) z TI TO .ellipsis := Heap.get?_push_of_some _ z5
  refine wpAny_bind (wpAny_setField_rec z6 (by simp) fun g7 z7 k7 => ?_)
  have z7 : IsZip g7 z TI TO (rawInt g5.objs.size) := z7
  refine wpAny_setField_rec z7 (by simp) fun g8 z8 k8 => ?_
  have z8 : IsZip g8 z TI TO (rawInt g5.objs.size) := z8
  have up8 : ∀ c o, c ≠ z → g5.get? c = some o → g8.get? c = some o := fun c o e1 e => k8.extBut _ _ e1 (k7.extBut _ _ e1 (Heap.get?_push_of_some _ e))
  have t8 : IsPair g8 g5.objs.size x y := k8.extBut _ _ (Nat.ne_of_gt lz) (k7.extBut _ _ (Nat.ne_of_gt lz) (Heap.get?_push_size _ rfl))
  have size8 : g8.objs.size = g5.objs.size + 1 := by rw [k8.1, k7.1, Heap.size_push]
  rw [size5] at z8 t8 size8
  refine wpAny_pure ⟨.ref g5.objs.size, rfl, ?_⟩
  rw [size5]
  exact q g8 z8 (up8 _ _ D.TOz o5) (A1.itAt f1 fun o e => up8 _ o D.i1z e) (A2.itAt f2 fun o e => up8 _ o D.i2z e) t8 size8 fun c o e1 e2 e3 e4 e => up8 c o e1 (up5 c o e1 e2 e3 e4 e)
theorem zipS_stop (A1 : Src i1 l1 xs) (A2 : Src i2 l2 ys) {Q : Fin → Shared → Prop} (hh : A.handled = none) (D : ZipApart z TI TO i1 i2 l1 l2) (hz : IsZip s.heap z TI TO .none) (pI : IsPair s.heap TI (.ref i1) (.ref i2)) (pO : IsPair s.heap TO a b)
    (c1 : A1.It j1 s.heap) (c2 : A2.It j2 s.heap) (d1 : A1.Of s.heap) (d2 : A2.Of s.heap) (over : xs[j1]? = none ∨ ys[j2]? = none)
    (q : ∀ h' e, Rest4 z TO i1 i2 s.heap h' → (∃ o, h'.get? e = some o ∧ o.cls = .type "StopIteration") → E (.ref e) { s with heap := h' }) : wpAny (model prog w) A (Builtin.«zip.__next__» ⟨[.ref z], []⟩) Q E s := by
  refine wpAny_bind (m := field (.ref z) 2) (wpAny_field hz rfl (x := .bool false) rfl ?_)
  refine wpAny_bind (m := field (.ref z) 3) (wpAny_field hz rfl (x := .ref TI) rfl ?_)
  refine wpAny_bind (wpAny_seqItems pI rfl ?_)
  refine wpAny_bind (m := Builtin.SmallTypes.ownedTupleIsFree (.ref z)) ?_
  unfold Builtin.SmallTypes.ownedTupleIsFree
  refine wpAny_bind (wpAny_field hz rfl (x := .none) rfl (wpAny_pure ?_))
  simp only [if_true]
  refine wpAny_bind (wpAny_rule (wpAny_bind (wpAny_field hz rfl (x := .ref TO) rfl ?_)))
  refine wpAny_bind (wpAny_setField_rec hz (by simp) fun g1 z1 k1 => ?_)
  have z1 : IsZip g1 z TI TO .ellipsis := z1
  refine wpAny_bind ?_
  simp only [List.zipIdx_cons, List.zipIdx_nil, List.forIn_cons, List.forIn_nil]
  refine wpAny_bind (wpAny_bind (wpAny_onRaise (wpAny_bind (m := Builtin.SmallTypes.nextOf (.ref i1)) ?_)))
  have i1' := A1.itAt c1 fun o e => k1.extBut _ _ D.i1z e
  have l1' := A1.ofAt d1 fun o e => k1.extBut _ _ D.l1z e
  cases hx : xs[j1]? with
  | none =>
    refine A1.stop hh i1' l1' hx fun g2 e k2 he => ?_
    obtain ⟨oe, he1, he2⟩ := he
    have z2 : IsZip g2 z TI TO .ellipsis := k2 _ _ D.i1z.symm z1
    have ne : e ≠ z := fun x => by
      subst x
      rw [z2] at he1
      cases he1
      simp at he2
    refine wpAny_setField_rec z2 (by simp) fun g3 _ k3 => q g3 e (fun c o e1 _ e3 _ x => k3.extBut _ _ e1 (k2 _ _ e3 (k1.extBut _ _ e1 x))) ⟨oe, k3.extBut _ _ ne he1, he2⟩
  | some x =>
    have hy : ys[j2]? = none := by
      rcases over with h | h
      · rw [hx] at h; cases h
      · exact h
    refine A1.item i1' l1' hx fun g2 n1 k2 => wpAny_pure ?_
    have o2 : IsPair g2 TO a b := k2.extBut _ _ D.TOi1 (k1.extBut _ _ D.TOz pO)
    refine wpAny_bind (wpAny_seqItems o2 rfl (wpAny_bind (wpAny_updateSeq_pair o2 fun g3 o3 k3 => ?_)))
    refine wpAny_bind (wpAny_letGo (wpAny_pure ?_))
    have up3 : ∀ c o, c ≠ z → c ≠ i1 → c ≠ TO → s.heap.get? c = some o → g3.get? c = some o := fun c o e1 e2 e3 e => k3.extBut _ _ e3 (k2.extBut _ _ e2 (k1.extBut _ _ e1 e))
    refine wpAny_bind (wpAny_bind (wpAny_onRaise (wpAny_bind (m := Builtin.SmallTypes.nextOf (.ref i2)) ?_)))
    refine A2.stop hh (A2.itAt c2 fun o e => up3 _ _ D.i2z D.i12.symm D.TOi2.symm e) (A2.ofAt d2 fun o e => up3 _ _ D.l2z D.l2i1 D.l2TO e) hy fun g4 e k4 he => ?_
    obtain ⟨oe, he1, he2⟩ := he
    have z4 : IsZip g4 z TI TO .ellipsis := k4 _ _ D.i2z.symm (k3.extBut _ _ D.TOz.symm (k2.extBut _ _ D.i1z.symm z1))
    have ne : e ≠ z := fun x => by
      subst x
      rw [z4] at he1
      cases he1
      simp at he2
    refine wpAny_setField_rec z4 (by simp) fun g5 _ k5 => q g5 e (fun c o e1 e2 e3 e4 x => k5.extBut _ _ e1 (k4 _ _ e4 (up3 c o e1 e3 e2 x))) ⟨oe, k5.extBut _ _ ne he1, he2⟩
end
section
variable {prog : Program} {w : World} {A : Around} {E : Value → Shared → Prop} {s : Shared} {z TI TO i1 i2 l1 l2 : Addr} {j1 j2 : Nat} {xs ys : Array Value} {a b : Value}
theorem nextS_item (A1 : Src i1 l1 xs) (A2 : Src i2 l2 ys) {x y : Value} {Q : Option Value → Shared → Prop} (D : ZipApart z TI TO i1 i2 l1 l2) (hz : IsZip s.heap z TI TO .none) (pI : IsPair s.heap TI (.ref i1) (.ref i2)) (pO : IsPair s.heap TO a b)
    (c1 : A1.It j1 s.heap) (c2 : A2.It j2 s.heap) (d1 : A1.Of s.heap) (d2 : A2.Of s.heap) (hx : xs[j1]? = some x) (hy : ys[j2]? = some y)
    (q : ∀ h', IsZip h' z TI TO (rawInt s.heap.objs.size) → IsPair h' TO x y → A1.It (j1 + 1) h' → A2.It (j2 + 1) h' → IsPair h' s.heap.objs.size x y → h'.objs.size = s.heap.objs.size + 1 → Rest4 z TO i1 i2 s.heap h' → Q (some (.ref s.heap.objs.size)) { s with heap := h' }) : wpAny (model prog w) A (pyNext (.ref z)) Q E s := by
  have ty : s.TypeIs (.ref z) "zip" := ⟨_, hz, rfl⟩
  unfold pyNext
  refine wpAny_bind (wpAny_attempt (wpAny_callSpecial?_slot (name := Str.ofString "__next__") ty F.slot_zip_next (wpAny_call_entry F.slot_zip_next ty F.entry_zip_next ?_ (F.args_zip_next_1 _))))
  exact zipS_item A1 A2 D hz pI pO c1 c2 d1 d2 hx hy fun h' a1 a2 a3 a4 a5 a6 a7 => wpAny_pure (q h' a1 a2 a3 a4 a5 a6 a7)
theorem nextS_stop (A1 : Src i1 l1 xs) (A2 : Src i2 l2 ys) {Q : Option Value → Shared → Prop} (hh : A.handled = none) (D : ZipApart z TI TO i1 i2 l1 l2) (hz : IsZip s.heap z TI TO .none) (pI : IsPair s.heap TI (.ref i1) (.ref i2)) (pO : IsPair s.heap TO a b)
    (c1 : A1.It j1 s.heap) (c2 : A2.It j2 s.heap) (d1 : A1.Of s.heap) (d2 : A2.Of s.heap) (over : xs[j1]? = none ∨ ys[j2]? = none) (q : ∀ h', Rest4 z TO i1 i2 s.heap h' → Q none { s with heap := h' }) : wpAny (model prog w) A (pyNext (.ref z)) Q E s := by
  have ty : s.TypeIs (.ref z) "zip" := ⟨_, hz, rfl⟩
  unfold pyNext
  refine wpAny_bind (wpAny_attempt (wpAny_callSpecial?_slot (name := Str.ofString "__next__") ty F.slot_zip_next (wpAny_call_entry F.slot_zip_next ty F.entry_zip_next ?_ (F.args_zip_next_1 _))))
  refine zipS_stop A1 A2 hh D hz pI pO c1 c2 d1 d2 over fun h' e hk he => ?_
  obtain ⟨o, ho, hc⟩ := he
  exact wpAny_bind (wpAny_isInstance (T := "StopIteration") (b := true) ⟨o, ho, hc⟩ isSubtype_stop (wpAny_pure (q _ hk)))
end
/-- a tuple and a list, as they stand at each turn, the items in new pairs -/
def ItzM (K : Frag) (a b : Addr) : It :=
  ⟨fun i H => ∃ (xs ys : List V) (x y : V), SqT K H a xs ∧ SqL K H b ys ∧ xs[i]? = some x ∧ ys[i]? = some y,
    fun i H v H' => ∃ T x y, v = .ref T ∧ H T = none ∧ H' = upd H T (.tup [x, y]) ∧ (∀ xs, SqT K H a xs → xs[i]? = some x) ∧ ∀ ys, SqL K H b ys → ys[i]? = some y,
    fun i H => ∃ xs ys : List V, SqT K H a xs ∧ SqL K H b ys ∧ (xs.length ≤ i ∨ ys.length ≤ i)⟩
theorem turn_zipM {P : Program} {w : World} {K : Frag} {elts : List Expr} {kk : Nat} {tpos : Pos} {a b z TI TO i1 i2 : Addr} (D : ZipApart z TI TO i1 i2 a b) :
    Turn P w K (.Tuple elts kk tpos) (ItzM K a b) [z, TI, TO, i1, i2] z (fun i h => IsZip h z TI TO .none ∧ IsPair h TI (.ref i1) (.ref i2) ∧ (∃ x y, IsPair h TO x y) ∧ h.IsTupleIter i1 a i ∧ h.IsListIter i2 b i) where
  mem := by simp
  obj := fun i h st c hc => by
    obtain ⟨hz, pI, ⟨x, y, pO⟩, ⟨o1, e1, _, d1⟩, ⟨o2, e2, _, d2⟩⟩ := st
    simp only [List.mem_cons, List.not_mem_nil, or_false] at hc
    rcases hc with rfl | rfl | rfl | rfl | rfl
    · exact ⟨_, hz, fun v q => nomatch q⟩
    · exact ⟨_, pI, fun v q => nomatch q⟩
    · exact ⟨_, pO, fun v q => nomatch q⟩
    · exact ⟨o1, e1, fun v q => by rw [d1] at q; cases q⟩
    · exact ⟨o2, e2, fun v q => by rw [d2] at q; cases q⟩
  keep := fun i h h' st k => by
    obtain ⟨hz, pI, ⟨x, y, pO⟩, g1, g2⟩ := st
    exact ⟨k z (by simp) _ hz, k TI (by simp) _ pI, ⟨x, y, k TO (by simp) _ pO⟩, g1.at fun o q => k i1 (by simp) o q, g2.at fun o q => k i2 (by simp) o q⟩
  item := by
    intro X hP hw hK hc i pins s σ H E I hf st hg
    subst hP hw hK
    obtain ⟨hz, pI, ⟨x0, y0, pO⟩, g1, g2⟩ := st
    obtain ⟨xs, ys, x, y, hqx, hqy, hx, hy⟩ := hg
    obtain ⟨ia, ra, pa, _⟩ := I.tuple hqx
    obtain ⟨ib, rb, pb, _⟩ := I.list hqy
    obtain ⟨u, hu, ru⟩ := ra.get hx
    obtain ⟨v, hv, rv⟩ := rb.get hy
    have zl : z < s.heap.objs.size := Heap.lt_size hz
    refine nextS_item (srcT i1 a ia.toArray) (srcL i2 b ib.toArray) D hz pI pO g1 g2 pa pb.isList (x := u) (y := v) (by simpa using hu) (by simpa using hv) fun h' z' O' f1 f2 hT size rest => ?_
    refine ⟨_, rfl, wpAny_letOwnedTupleGo_zip (s := { s with heap := h' }) z' fun h2 z2 sb => ?_⟩
    have hT2 : h2.get? s.heap.objs.size = some { cls := .type "tuple", data := .seq #[u, v] } := (sb.2 _ (Nat.ne_of_gt zl)).trans hT
    have fresh : ObjOk X.prog X.w (upd H s.heap.objs.size (.tup [x, y])) h2 s.heap.objs.size (.tup [x, y]) := ⟨by show 2 ≤ sizeLine; decide, [u, v], .cons ru (.cons rv .nil), ⟨_, hT2, rfl, _, rfl⟩⟩
    have I1 : Inv X pins σ (upd H s.heap.objs.size (.tup [x, y])) { s with heap := h2 } := by
      refine I.turnedNew (t' := s.toks) (ch := [z, TI, TO, i1, i2]) (fun c o hb q => ?_) hf (Nat.le_refl _) fresh
      simp only [List.mem_cons, List.not_mem_nil, or_false, not_or] at hb
      exact (sb.2 c hb.1).trans (rest c o hb.1 hb.2.2.1 hb.2.2.2.1 hb.2.2.2.2 q)
    refine ⟨.ref s.heap.objs.size, _, I1, rfl, ⟨_, x, y, rfl, I.hok.fresh (Nat.le_refl _), rfl, fun l hl => ?_, fun l hl => ?_⟩, ⟨z2, ?_, ⟨u, v, ?_⟩, ?_, ?_⟩, fun c hcm => ?_⟩
    · rw [I.tuple_inj hl hqx]; exact hx
    · rw [I.list_inj hl hqy]; exact hy
    · exact (sb.2 _ D.TIz).trans (rest _ _ D.TIz D.TITO D.TIi1 D.TIi2 pI)
    · exact (sb.2 _ D.TOz).trans O'
    · exact f1.at fun o q => (sb.2 _ D.i1z).trans q
    · exact f2.at fun o q => (sb.2 _ D.i2z).trans q
    · have hlt : c < s.heap.objs.size := by
        have hcm' := hcm
        simp only [List.mem_cons, List.not_mem_nil, or_false] at hcm'
        rcases hcm' with rfl | rfl | rfl | rfl | rfl
        · exact zl
        · exact Heap.lt_size pI
        · exact Heap.lt_size pO
        · obtain ⟨_, e1, _⟩ := g1; exact Heap.lt_size e1
        · obtain ⟨_, e2, _⟩ := g2; exact Heap.lt_size e2
      rw [upd_ne (Nat.ne_of_lt hlt)]
      exact (hf c hcm).1
  done := by
    intro X hP hw hK hc i pins s σ H E I hf st hg
    subst hP hw hK
    obtain ⟨hz, pI, ⟨x0, y0, pO⟩, g1, g2⟩ := st
    obtain ⟨xs, ys, hqx, hqy, over⟩ := hg
    obtain ⟨ia, ra, pa, _⟩ := I.tuple hqx
    obtain ⟨ib, rb, pb, _⟩ := I.list hqy
    have e1 := ra.length
    have e2 := rb.length
    have over2 : ia.toArray[i]? = none ∨ ib.toArray[i]? = none := by
      rcases over with q | q
      · exact .inl (by simp; omega)
      · exact .inr (by simp; omega)
    refine nextS_stop (srcT i1 a ia.toArray) (srcL i2 b ib.toArray) (I.ok.hd hc) D hz pI pO g1 g2 pa pb.isList over2 fun h' rest => ⟨rfl, I.turnedL (t' := s.toks) (ch := [z, TI, TO, i1, i2]) (fun c o hb q => ?_) hf⟩
    simp only [List.mem_cons, List.not_mem_nil, or_false, not_or] at hb
    exact rest c o hb.1 hb.2.2.1 hb.2.2.2.1 hb.2.2.2.2 q
  self := fun A i s Q E st h => wpAny_pyIter_zip st.1 h
def mzH1 (h : Heap) (a : Addr) : Heap := h.push { cls := .type "tuple_iterator", data := .fields #[.ref a, .int 0 0] }
def mzH2 (h : Heap) (a b : Addr) : Heap := (mzH1 h a).push { cls := .type "list_iterator", data := .fields #[.ref b, .int 0 0] }
def mzH3 (h : Heap) (a b : Addr) : Heap := (mzH2 h a b).push { cls := .type "tuple", data := .seq #[.ref h.objs.size, .ref (mzH1 h a).objs.size] }
def mzH4 (h : Heap) (a b : Addr) : Heap := (mzH3 h a b).push { cls := .type "tuple", data := .seq #[.none, .none] }
def mzH5 (h : Heap) (a b : Addr) : Heap := (mzH4 h a b).push { cls := .type "zip", data := .fields #[.none, .bool false, .bool false, .ref (mzH2 h a b).objs.size, .ref (mzH3 h a b).objs.size] }
theorem meets_mz (a b : Addr) (xs ys : Array Value) : Meets (Builtin.«zip.__new__» ⟨[.type "zip", .ref a, .ref b], []⟩) (fun _ R s => s.heap.IsTuple a xs ∧ s.heap.IsList b ys ∧ R (.ok (.ret (.ref (mzH4 s.heap a b).objs.size))) { s with heap := mzH5 s.heap a b }) :=
  .of_wp fun prog w A R s h => by
    obtain ⟨hp, g, d, tk, os⟩ := s
    obtain ⟨ha, hb, h⟩ := h
    have hsub := sub_zip
    have la : Heap.IsTuple (Shared.heap ⟨hp, g, d, tk, os⟩) a xs := ha
    have lb : Heap.IsList (Shared.heap ⟨hp.push { cls := .type "tuple_iterator", data := .fields #[.ref a, .int 0 0] }, g, d, tk, os⟩) b ys := Heap.IsList.push hb _
    wp_walk using wpAny_pyIter_tuple la, wpAny_pyIter_list lb
    exact ⟨_, rfl, h⟩
section
variable {prog : Program} {w : World} {A : Around} {E : Value → Shared → Prop} {s : Shared}
theorem call_mz {a b : Addr} {xs ys : Array Value} {Q : Value → Shared → Prop} (ha : s.heap.IsTuple a xs) (hb : s.heap.IsList b ys)
    (q : ∀ h' n, n = s.heap.objs.size → IsZip h' (n + 4) (n + 2) (n + 3) .none → IsPair h' (n + 2) (.ref n) (.ref (n + 1)) → IsPair h' (n + 3) .none .none → h'.IsTupleIter n a 0 → h'.IsListIter (n + 1) b 0 → (∀ c o, s.heap.get? c = some o → h'.get? c = some o) → Q (.ref (n + 4)) { s with heap := h' }) :
    wpAny (model prog w) A (call (.type "zip") [.ref a, .ref b]) Q E s := by
  refine callType_new F.called_zip (by decide) (F.typeCall_zip_2 _ _) (F.newCall_zip_2 _ _) (fun obj => F.args_object_init_3 obj _ _) F.entry_zip_new (meets_mz a b xs ys) ⟨ha, hb, ?_⟩
  have n1 : (mzH1 s.heap a).objs.size = s.heap.objs.size + 1 := Heap.size_push ..
  have n2 : (mzH2 s.heap a b).objs.size = s.heap.objs.size + 2 := by unfold mzH2; rw [Heap.size_push, n1]
  have n3 : (mzH3 s.heap a b).objs.size = s.heap.objs.size + 3 := by unfold mzH3; rw [Heap.size_push, n2]
  have n4 : (mzH4 s.heap a b).objs.size = s.heap.objs.size + 4 := by unfold mzH4; rw [Heap.size_push, n3]
  have up1 : ∀ c o, s.heap.get? c = some o → (mzH1 s.heap a).get? c = some o := fun c o e => Heap.get?_push_of_some _ e
  have up2 : ∀ c o, (mzH1 s.heap a).get? c = some o → (mzH2 s.heap a b).get? c = some o := fun c o e => Heap.get?_push_of_some _ e
  have up3 : ∀ c o, (mzH2 s.heap a b).get? c = some o → (mzH3 s.heap a b).get? c = some o := fun c o e => Heap.get?_push_of_some _ e
  have up4 : ∀ c o, (mzH3 s.heap a b).get? c = some o → (mzH4 s.heap a b).get? c = some o := fun c o e => Heap.get?_push_of_some _ e
  have up5 : ∀ c o, (mzH4 s.heap a b).get? c = some o → (mzH5 s.heap a b).get? c = some o := fun c o e => Heap.get?_push_of_some _ e
  have g5 : (mzH5 s.heap a b).get? (mzH4 s.heap a b).objs.size = some _ := Heap.get?_push_size _ rfl
  have g4 := up5 _ _ (show (mzH4 s.heap a b).get? (mzH3 s.heap a b).objs.size = some _ from Heap.get?_push_size _ rfl)
  have g3 := up5 _ _ (up4 _ _ (show (mzH3 s.heap a b).get? (mzH2 s.heap a b).objs.size = some _ from Heap.get?_push_size _ rfl))
  have g2 := up5 _ _ (up4 _ _ (up3 _ _ (show (mzH2 s.heap a b).get? (mzH1 s.heap a).objs.size = some _ from Heap.get?_push_size _ rfl)))
  have g1 := up5 _ _ (up4 _ _ (up3 _ _ (up2 _ _ (show (mzH1 s.heap a).get? s.heap.objs.size = some _ from Heap.get?_push_size _ rfl))))
  show _ ∧ _
  rw [n2, n3, n4] at g5
  rw [n1, n2] at g3
  rw [n3] at g4
  rw [n1] at g2
  rw [n4]
  exact ⟨⟨_, g5, rfl⟩, q _ _ rfl g5 g3 g4 ⟨_, g1, rfl, rfl⟩ ⟨_, g2, rfl, rfl⟩ fun c o e => up5 _ _ (up4 _ _ (up3 _ _ (up2 _ _ (up1 _ _ e))))⟩
end
def tZipM (K : Frag) (ta : TA) : TI := fun σ H R => ta σ H fun vs H1 => ∃ a b xs ys, vs = [.ref a, .ref b] ∧ SqT K H1 a xs ∧ SqL K H1 b ys ∧ R (ItzM K a b) H1
theorem pi_zipM {X : Cx} {e e2 : Expr} {ta : TA} {p pos tpos : Pos} {elts : List Expr} {kk : Nat} (hg : Gl X "zip") (hm : X.mg "zip" = none) (ha : PA X [e, e2] ta)
    (hs : starEach [e, e2] X.env = (false, eval e X.env) :: starEach [e2] X.env := by rfl) (hpl : (backTo pos (starEach [e2] X.env)).any (·.1) = false := by rfl) : PI X (.Tuple elts kk tpos) (.Call (.Name "zip" p) [e, e2] [] pos) (tZipM X.K ta) := by
  refine ⟨fun pins s σ H R I h => Call_ (ld_blt I hg hm PyProof.Rows.boot_zip (PyProof.Rows.callWith_type1 (thn (ha.run pos pins s σ H _ I h) fun us s1 ⟨vs, H1, I1, r1, q1⟩ => ?_) hs hpl))⟩
  obtain ⟨a, b, xs, ys, ex, hx, hy, q⟩ := q1
  subst ex
  obtain ⟨u, v, rfl, ru, rv⟩ := r1.two
  obtain rfl : u = Value.ref a := ru
  obtain rfl : v = Value.ref b := rv
  obtain ⟨ia, ra, pa, _⟩ := I1.tuple hx
  obtain ⟨ib, rb, pb, _⟩ := I1.list hy
  obtain ⟨oa, ea, _⟩ := id pa
  refine call_mz (show s1.heap.IsTuple a ia.toArray from pa) pb.isList fun h' n en hz pI pO g1 g2 up => wpAny_pyIter_zip hz ?_
  have I2 : Inv X pins σ H1 { s1 with heap := h' } := I1.kept (t' := s1.toks) up
  have D : ZipApart (n + 4) (n + 2) (n + 3) n (n + 1) a b := en ▸ PySem.W.ktu_apart s1.heap.objs.size a b (Heap.lt_size ea) pb.lt
  refine ⟨n + 4, [n + 4, n + 2, n + 3, n, n + 1], _, _, H1, rfl, I2, turn_zipM D, ⟨hz, pI, ⟨_, _, pO⟩, g1, g2⟩, fun c hc => ?_, q⟩
  have hle : s1.heap.objs.size ≤ c := by
    rw [← en]
    simp only [List.mem_cons, List.not_mem_nil, or_false] at hc
    rcases hc with rfl | rfl | rfl | rfl | rfl
    · exact Nat.le_add_right _ _
    · exact Nat.le_add_right _ _
    · exact Nat.le_add_right _ _
    · exact Nat.le_refl _
    · exact Nat.le_add_right _ _
  exact I1.fpOk hle (I1.hok.fresh hle)
section
variable {K : Frag} {m m0 : List Addr} {H H0 : Hp} {S : Sto}
theorem WalkD.zipM {xs ys : List D} {us : List V} {a b : Addr} {ok : Sto → Prop} (ha : H0 a = some (.tup us)) (va : VRs K m0 H0 xs us) (h : ∀ H m S, Ext K m0 H0 m H → SR K m H S → ok S → ∃ ws, SqL K H b ws ∧ VRs K m H ys ws) : WalkD K m0 H0 (ItzM K a b) ⟨zipD xs ys, ok⟩ := by
  refine ⟨fun i H m S hi e s o => ?_, fun H m S e s o => ?_, fun i H m S x H' hi e s o y => ?_⟩
  · obtain ⟨ws, hb, vb⟩ := h H m S e s o
    have hi' : i < min xs.length ys.length := by simpa [zipD_len] using hi
    obtain ⟨u, h3, h4⟩ := va.get (i := i) (x := xs[i]'(by omega)) (by simp)
    obtain ⟨v, h5, h6⟩ := vb.get (i := i) (x := ys[i]'(by omega)) (by simp)
    exact ⟨us, ws, u, v, SqT.of (e.tup _ _ ha), hb, h3, h5⟩
  · obtain ⟨ws, hb, vb⟩ := h H m S e s o
    refine ⟨us, ws, SqT.of (e.tup _ _ ha), hb, ?_⟩
    show us.length ≤ (zipD xs ys).length ∨ ws.length ≤ (zipD xs ys).length
    rw [zipD_len, va.length, vb.length]; omega
  · obtain ⟨ws, hb, vb⟩ := h H m S e s o
    have hi' : i < min xs.length ys.length := by simpa [zipD_len] using hi
    obtain ⟨T, z1, z2, rfl, hT, rfl, g1, g2⟩ := y
    obtain ⟨u, h3, h4⟩ := va.get (i := i) (x := xs[i]'(by omega)) (by simp)
    obtain ⟨v, h5, h6⟩ := vb.get (i := i) (x := ys[i]'(by omega)) (by simp)
    have e1 := g1 us (SqT.of (e.tup _ _ ha))
    have e2 := g2 ws hb
    rw [h3] at e1; cases e1
    rw [h5] at e2; cases e2
    obtain ⟨e5, s5, v5⟩ := pair_new s hT (h4.ext e.toEx) h6
    exact ⟨e5, s5, _, zipD_get (by simp) (by simp), v5⟩
end
/-- zip(a tuple, a list of the store) -/
def iZipM (w1 w2 : WE) : WI := fun env S R => w1 env S fun x S1 => w2 env S1 fun y S2 => match x, y with
  | .tup xs, .ref q => ∃ ys, S2[q]? = some (.lst ys) ∧ R ⟨zipD xs ys, fun S => S[q]? = some (.lst ys)⟩ S2
  | _, _ => False
theorem fi_zipM {X : Cx} {e e2 : Expr} {w1 w2 : WE} {p pos tpos : Pos} {elts : List Expr} {kk : Nat} (hg : Gl X "zip") (hm : X.mg "zip" = none) (h1 : FE X e w1) (h2 : FE X e2 w2)
    (hs : starEach [e, e2] X.env = (false, eval e X.env) :: starEach [e2] X.env := by rfl) (hs2 : starEach [e2] X.env = (false, eval e2 X.env) :: starEach [] X.env := by rfl) (hpl : (backTo pos (starEach [e2] X.env)).any (·.1) = false := by rfl) :
    FI X (.Tuple elts kk tpos) (.Call (.Name "zip" p) [e, e2] [] pos) (iZipM w1 w2) := by
  refine ⟨PI.imp (pi_zipM hg hm (pa_cons h1.p (pa_cons h2.p pa_nil hs2) hs) hs hpl) fun σ H R ⟨env, S, m, R0, s, r, h, k⟩ => ?_⟩
  refine lift_k s r h fun x S1 u H1 m1 q1 e1 s1 v1 => ?_
  refine lift_k s1 (r.ext e1.toEx) q1 fun y S2 v H2 m2 q2 e2 s2 v2 => ?_
  have v1 := v1.ext e2.toEx
  have e12 := e1.trans e2
  cases x with
  | tup xs =>
    cases y with
    | ref q =>
      obtain ⟨ys, g, q2⟩ := q2
      simp only [VR] at v1 v2
      obtain ⟨a, us, rfl, a1, a2⟩ := v1
      obtain ⟨b, rfl, b1⟩ := v2
      obtain ⟨ws, t1, t2⟩ := s2.lst b1 g
      refine ⟨a, b, us, ws, rfl, SqT.of a1, SqL.of t1, k _ _ _ _ q2 e12 s2 _ (WalkD.zipM a1 a2 fun H m S e s o => ?_)⟩
      obtain ⟨ws', h6, h7⟩ := s.lst (e.pre _ _ b1) o
      exact ⟨ws', SqL.of h6, h7⟩
    | _ => exact q2.elim
  | _ => exact q2.elim
end Z
namespace KB
set_option maxHeartbeats 1000000
open PySem PySem.Spec PyProof.Rows L2 Z
abbrev kC : Key := .inr "cells"
abbrev kS : Key := .inr "sum"
abbrev kN : Key := .inr "count"
theorem kCS : ¬ kC = kS := by decide +kernel
theorem kCN : ¬ kC = kN := by decide +kernel
theorem kSN : ¬ kS = kN := by decide +kernel
theorem sCS : ¬ Str.ofString "cells" = Str.ofString "sum" := by decide +kernel
theorem sCN : ¬ Str.ofString "cells" = Str.ofString "count" := by decide +kernel
theorem sSN : ¬ Str.ofString "sum" = Str.ofString "count" := by decide +kernel
theorem val_C (a b c : D) : valX [(kC, a), (kS, b), (kN, c)] kC = some a := valX_pos rfl
theorem val_S (a b c : D) : valX [(kC, a), (kS, b), (kN, c)] kS = some b := by rw [valX_neg kCS]; exact valX_pos rfl
theorem val_N (a b c : D) : valX [(kC, a), (kS, b), (kN, c)] kN = some c := by rw [valX_neg kCN, valX_neg kSN]; exact valX_pos rfl
theorem put_N (a b c d : D) : putX [(kC, a), (kS, b), (kN, c)] kN d = [(kC, a), (kS, b), (kN, d)] := by
  unfold putX
  simp [sCN, sSN]
theorem merge3 (a b c : D) : mergeX [] [(kC, a), (kS, b), (kN, c)] = [(kC, a), (kS, b), (kN, c)] := by
  simp [mergeX, putX, sCS, sCN, sSN]
/-- the deck: the cells that are left, their sum, how many were drawn: at most n -/
structure Dk (n : Nat) where
  cs : List Int
  s : Int
  c : Int
  l : cs.length ≤ 63
  s0 : 0 ≤ s
  s1 : s < 4000000000
  c0 : 0 ≤ c
  c1 : c ≤ (n : Int)
def Dk.mono {n n' : Nat} (k : Dk n) (h : n ≤ n') : Dk n' := ⟨k.cs, k.s, k.c, k.l, k.s0, k.s1, k.c0, by have := k.c1; omega⟩
def dkC {n : Nat} (k : Dk n) : O := .lst (k.cs.map D.int)
def dkO {n : Nat} (q : Nat) (k : Dk n) : O := .dK [(kC, .ref q), (kS, .int k.s), (kN, .int k.c)]
instance {n : Nat} (k : Dk n) : PurO (dkC k) := by unfold dkC; infer_instance
instance {n j : Nat} (k : Dk n) : BelO (j + 1) (dkO 0 k) := ⟨by simp [dkO, O.bel, belK, D.bel]⟩
instance {ρ : Nat → Nat} {n q : Nat} (k : Dk n) : RenO ρ (dkO q k) (dkO (ρ q) k) := ⟨by simp [dkO, renO, renK, ren]⟩
def sp__law_deck : DSp := sp1 fun a S Q => ∃ (ns : List Int), a = .rol (ns.map D.int) ∧ ∀ k : Dk 0, Q (.ref (S.length + 1)) (S ++ [dkC k, dkO S.length k])
def N__law_deck : List Str := ["_law_script", "_law_cells"]
def sem__law_deck_1 : WS := (sRet (wDisp (pCons (wC (.str "cells")) (wVar 1) (pCons (wC (.str "sum")) (wOp dAdd (wOp dMod (wRef dSum (wVar 1)) (wC (.int 2147483629))) (wLen (wVar 1))) (pCons (wC (.str "count")) (wC (.int 0)) pNil)))))
def sem__law_deck : WS := (sSeq (sAsg (wNew (lSl (wVar 0) oNone (oSome (wC (.int 63))))) (gNameD 1)) sem__law_deck_1)
theorem len__law_deck (ds S Q E) (h : sp__law_deck ds S Q E) : ds.length = 1 := sp1_len h
theorem pf__law_deck (ds S Q E) (h : sp__law_deck ds S Q E) : sem__law_deck (Dend Q) (startD N__law_deck ds) S := by
  obtain ⟨a, rfl, ns, rfl, q⟩ := sp1_inv h
  have ec : cutD (ns.map D.int) none (some 63) = (ns.take 63).map D.int := cut_take D.int ns 63
  have h0 : 0 ≤ (ns.take 63).sum % 2147483629 := Int.emod_nonneg _ (by decide)
  have h1 : (ns.take 63).sum % 2147483629 < 2147483629 := Int.emod_lt_of_pos _ (by decide)
  have hl : ((ns.take 63).map D.int).length ≤ 63 := by rw [List.length_map, List.length_take]; omega
  refine ⟨_, getS_new, ns.take 63, ec, by decide, _, getS_new, [(kC, _), (kS, _), (kN, _)], rfl, by simp, ?_⟩
  rw [merge3, List.append_assoc, List.length_append]
  have := q ⟨ns.take 63, (ns.take 63).sum % 2147483629 + ((ns.take 63).map D.int).length, 0, by rw [List.length_map] at hl; exact hl, by omega, by omega, by omega, by omega⟩
  unfold dkC dkO at this
  rw [ec]
  exact this
def sp__law_mixed : DSp := sp2 fun a b S Q => ∃ (x c : Int), a = .int x ∧ b = .int c ∧ (0 ≤ c ∧ c ≤ 1000000001) ∧ ∀ v : Int, 0 ≤ v → Q (.int v) S
def N__law_mixed : List Str := ["_law_cell", "_law_k", "_law_number", "_law_other"]
def sem__law_mixed_1 : WS := (sRet (wOp dAdd (wOp dDiv (wVar 2) (wC (.int 64))) (wOp dMul (wC (.int 33554432)) (wOp dDiv (wVar 3) (wC (.int 64))))))
def sem__law_mixed_2 : WS := (sSeq (sAsg (wOp dMod (wOp dAdd (wOp dAdd (wOp dMul (wVar 2) (wC (.int 39373))) (wOp dMul (wC (.int 16807)) (wVar 1))) (wC (.int 5))) (wC (.int 2147483579))) (gNameD 3)) sem__law_mixed_1)
def sem__law_mixed_3 : WS := (sSeq (sAsg (wOp dMod (wOp dMul (wVar 2) (wVar 2)) (wC (.int 2147483587))) (gNameD 2)) sem__law_mixed_2)
def sem__law_mixed : WS := (sSeq (sAsg (wOp dMod (wOp dAdd (wOp dAdd (wOp dMul (wOp dMod (wVar 0) (wC (.int 2147483647))) (wC (.int 48271))) (wOp dMul (wC (.int 69621)) (wVar 1))) (wC (.int 7919))) (wC (.int 2147483629))) (gNameD 2)) sem__law_mixed_3)
theorem len__law_mixed (ds S Q E) (h : sp__law_mixed ds S Q E) : ds.length = 2 := sp2_len h
theorem pf__law_mixed (ds S Q E) (h : sp__law_mixed ds S Q E) : sem__law_mixed (Dend Q) (startD N__law_mixed ds) S := by
  obtain ⟨a, b, rfl, x, c, rfl, rfl, ⟨hc, hc2⟩, q⟩ := sp2_inv h
  have md : ∀ z m : Int, 0 < m → 0 ≤ z % m ∧ z % m < m := fun z m hm => ⟨Int.emod_nonneg _ (by omega), Int.emod_lt_of_pos _ hm⟩
  refine ⟨by decide, cmul_r (by decide), cmul_l (by decide), by decide, ?_⟩
  have h1 := md (x % 2147483647 * 48271 + 69621 * c + 7919) 2147483629 (by decide)
  refine ⟨cmul_l ⟨by omega, by omega⟩, by decide, ?_⟩
  refine ⟨cmul_r (by decide), cmul_l (by decide), by decide, ?_⟩
  refine ⟨cdiv_s (by decide) (by decide), cdiv_s (by decide) (by decide), cmul_l (by decide), q _ ?_⟩
  have h2 := md ((x % 2147483647 * 48271 + 69621 * c + 7919) % 2147483629 * ((x % 2147483647 * 48271 + 69621 * c + 7919) % 2147483629)) 2147483587 (by decide)
  have h3 := md ((x % 2147483647 * 48271 + 69621 * c + 7919) % 2147483629 * ((x % 2147483647 * 48271 + 69621 * c + 7919) % 2147483629) % 2147483587 * 39373 + 16807 * c + 5) 2147483579 (by decide)
  generalize (x % 2147483647 * 48271 + 69621 * c + 7919) % 2147483629 * ((x % 2147483647 * 48271 + 69621 * c + 7919) % 2147483629) % 2147483587 = A at *
  generalize (A * 39373 + 16807 * c + 5) % 2147483579 = B at *
  omega
def sp__law_draw : DSp := sp2 fun a b S Q => ∃ (p q n : Nat) (k : Dk n) (m : Int), a = .ref p ∧ b = .int m ∧ S[q]? = some (dkC k) ∧ S[p]? = some (dkO q k) ∧ q ≠ p ∧ (0 < m ∧ m ≤ 1000000001 ∧ n ≤ 1000000000) ∧ ∀ r (k' : Dk (n + 1)), 0 ≤ r → r < m → Q (.int r) ((S.set q (dkC k')).set p (dkO q k'))
def N__law_draw : List Str := ["_law_deck_here", "_law_most", "_law_cells", "_law_cell"]
def sem__law_draw_1 : WS := (sRet (wOp dMod (wVar 3) (wVar 1)))
def sem__law_draw_2 : WS := (sIf (tOf (wOp dGe (wVar 3) (wC (.int 1000000000000000000)))) (sSeq (sDrop (wM tyL dInsert (wVar 2) (aCons (wC (.int 0)) (aCons (wOp dDiv (wVar 3) (wVar 1)) aNil)))) sem__law_draw_1) sNext)
def sem__law_draw_3 : WS := (sRet (wOp dMod (wCall sp__law_mixed (aCons (wVar 3) (aCons (wOp dGetD (wVar 0) (wC (.str "count"))) aNil))) (wVar 1)))
def sem__law_draw_4 : WS := (sSeq (sIf (tOf (wOp dNe (wVar 2) (wNew (lLst aNil)))) (sSeq (sAsg (wM tyL dPopAt (wVar 2) (aCons (wC (.int 0)) aNil)) (gNameD 3)) sem__law_draw_2) sNext) sem__law_draw_3)
def sem__law_draw_5 : WS := (sSeq (sAsg (wOp dGetD (wVar 0) (wC (.str "sum"))) (gNameD 3)) sem__law_draw_4)
def sem__law_draw_6 : WS := (sSeq (sAsg (wOp dGetD (wVar 0) (wC (.str "cells"))) (gNameD 2)) sem__law_draw_5)
def sem__law_draw_7 : WS := (sSeq (sPutD (wVar 0) (wC (.str "count")) (wOp dAdd (wOp dGetD (wVar 0) (wC (.str "count"))) (wC (.int 1)))) sem__law_draw_6)
def sem__law_draw : WS := (sLoc sem__law_draw_7)
theorem len__law_draw (ds S Q E) (h : sp__law_draw ds S Q E) : ds.length = 2 := sp2_len h
theorem pf__law_draw (ds S Q E) (h : sp__law_draw ds S Q E) : sem__law_draw (Dend Q) (startD N__law_draw ds) S := by
  obtain ⟨a, b, rfl, p, q', n, k, m, rfl, rfl, hq, hp, hpq, ⟨hm, hm2, hn⟩, q⟩ := sp2_inv h
  refine .inr ⟨[q', p], [dkC k, dkO 0 k], [some (.ref 1), some (.int m), none, none], ⟨by simpa using hpq, (by repeat' first | exact trivial | exact rfl | exact embP rfl | exact embP (by assumption) | exact embR (by assumption) | apply And.intro)⟩, (by repeat' first | exact trivial | exact rfl | exact envP | apply And.intro), ?_⟩
  obtain ⟨cs, s, c, l, s0, s1, c0, c1⟩ := k
  refine ⟨_, rfl, kN, rfl, .int c, val_N _ _ _, _, rfl, kN, rfl, sizeL (by simp), ?_⟩
  have eput : ∀ n', putX [(kC, D.ref 0), (kS, .int s), (kN, .int c)] kN (.int n') = [(kC, .ref 0), (kS, .int s), (kN, .int n')] := fun n' => put_N _ _ _ _
  rw [eput]
  refine ⟨_, rfl, kC, rfl, .ref 0, val_C _ _ _, _, rfl, kS, rfl, .int s, val_S _ _ _, ?_⟩
  have last : ∀ (cs' : List Int) (x : Int) (g : Sto), cs'.length ≤ 63 → sem__law_draw_3 (locE [q', p] S (Dend Q)) [some (.ref 1), some (.int m), some (.ref 0), some (.int x)] (.lst (cs'.map D.int) :: .dK [(kC, .ref 0), (kS, .int s), (kN, .int (c + 1))] :: g) := by
    intro cs' x g hl
    refine ⟨_, rfl, kN, rfl, .int (c + 1), val_N _ _ _, x, c + 1, rfl, rfl, ⟨by omega, by omega⟩, fun v hv => ⟨hm, ?_⟩⟩
    exact out_rtG [dkC (⟨cs', s, c + 1, hl, s0, s1, by omega, by omega⟩ : Dk (n + 1)), dkO 0 (⟨cs', s, c + 1, hl, s0, s1, by omega, by omega⟩ : Dk (n + 1))] (q _ _ (Int.emod_nonneg _ (by omega)) (Int.emod_lt_of_pos _ hm))
  refine ⟨Nat.zero_le _, _, _, rfl, rfl, okL_ints _, okL_nil, fun h => ?_, fun h => last cs s _ l⟩
  cases cs with
  | nil => exact nomatch (show (false : Bool) = true from h)
  | cons y cs =>
    have l' : cs.length + 1 ≤ 63 := l
    refine ⟨⟨_, rfl⟩, _, rfl, ⟨by decide, by decide⟩, 0, .int y, seq_zero (by simp), rfl, fun hy => ?_, fun _ => last cs y _ (by omega)⟩
    refine ⟨⟨_, rfl⟩, cdiv_s hm (by omega), _, rfl, sizeL (by simp; omega), ⟨by decide, by decide⟩, hm, ?_⟩
    exact out_rtG [dkC (⟨y / m :: cs, s, c + 1, by simpa using l', s0, s1, by omega, by omega⟩ : Dk (n + 1)), dkO 0 (⟨y / m :: cs, s, c + 1, by simpa using l', s0, s1, by omega, by omega⟩ : Dk (n + 1))] (q _ _ (Int.emod_nonneg _ (by omega)) (Int.emod_lt_of_pos _ hm))

abbrev nmD (x : List Nat) : D := .str (T x)
theorem pickI {xs : List Int} {P : Int → Prop} (h : ∀ x ∈ xs, P x) {r : Int} (r0 : 0 ≤ r) (r1 : r < (xs.length : Int)) : ∃ x, atI (xs.map D.int) r = some (.int x) ∧ P x := by
  have hr : r.toNat < xs.length := by omega
  exact ⟨xs[r.toNat], atI_int r0 (by rw [List.getElem?_map, List.getElem?_eq_getElem hr]; rfl), h _ (List.getElem_mem hr)⟩
instance (ls : List Nat) : Purs (sigs ls) := by unfold sigs; infer_instance
def sp__law_word : DSp := sp2 fun a b S Q => ∃ (p q n : Nat) (k : Dk n) (z : Nat), a = .ref p ∧ b = .int (z : Int) ∧ S[q]? = some (dkC k) ∧ S[p]? = some (dkO q k) ∧ q ≠ p ∧ (z ≤ 8 ∧ n ≤ 900000000) ∧ ∀ (ls : List Nat) (k' : Dk (n + 8)), ls.length = z → (∀ c ∈ ls, c ∈ letters) → Q (nmD ls) ((S.set q (dkC k')).set p (dkO q k'))
def N__law_word : List Str := ["_law_deck_here", "_law_size", "_law_letters", "_law_k"]
def sem__law_word_1 : WS := (sRet (wJoin (wC (.str "")) (lLc (iRange1 (aCons (wVar 1) aNil)) (gNameD 3) tYesD (wOp dIx (wVar 2) (wCall sp__law_draw (aCons (wVar 0) (aCons (wC (.int 26)) aNil)))) [3])))
def sem__law_word_2 : WS := (sSeq (sAsg (wC (.str "abcdefghijklmnopqrstuvwxyz")) (gNameD 2)) sem__law_word_1)
def sem__law_word : WS := (sLoc sem__law_word_2)
theorem len__law_word (ds S Q E) (h : sp__law_word ds S Q E) : ds.length = 2 := sp2_len h
theorem pf__law_word (ds S Q E) (h : sp__law_word ds S Q E) : sem__law_word (Dend Q) (startD N__law_word ds) S := by
  obtain ⟨a, b, rfl, p, q', n, k, z, rfl, rfl, hq, hp, hpq, ⟨hz, hn⟩, q⟩ := sp2_inv h
  refine .inr ⟨[q', p], [dkC k, dkO 0 k], [some (.ref 1), some (.int z), none, none], ⟨by simpa using hpq, (by repeat' first | exact trivial | exact rfl | exact embP rfl | exact embP (by assumption) | exact embR (by assumption) | apply And.intro)⟩, (by repeat' first | exact trivial | exact rfl | exact envP | apply And.intro), ?_⟩
  refine ⟨trivial, ⟨by omega, by omega⟩, fun i acc S' => i ≤ z ∧ ∃ (k' : Dk (n + i)) (ls : List Nat), S' = [dkC k', dkO 0 k'] ∧ acc = sigs ls ∧ ls.length = i ∧ ∀ c ∈ ls, c ∈ letters, ⟨by omega, k, [], rfl, rfl, rfl, by simp⟩, fun _ _ _ _ _ => trivial, ?_, ?_⟩
  · rintro i d acc S2 hi ⟨hiz, k2, ls, rfl, rfl, e2, e3⟩
    obtain ⟨hi', _⟩ := range_get hi
    have hi8 : i < z := hi'
    refine ⟨fun _ => ⟨1, 0, _, k2, 26, rfl, rfl, rfl, rfl, by decide, by omega, fun r k3 r0 r1 => ⟨alpha_len, _, alpha_at r0 r1, sizeL (by simp [sigs]; omega), by omega, k3, ls ++ [97 + r.toNat], rfl, by simp [sigs], by simp [e2], fun c hc => ?_⟩⟩, fun h => nomatch h⟩
    rcases List.mem_append.mp hc with h | h
    · exact e3 c h
    · rw [List.mem_singleton.mp h]; exact letters_mem.mpr (by omega)
  · rintro acc S2 ⟨_, k2, ls, rfl, rfl, e2, e3⟩
    rw [rangeD_len, Int.toNat_natCast] at e2
    refine ⟨ls.map fun c => T [c], by unfold sigs; rw [List.map_map]; rfl, join_size ls (by omega), ?_⟩
    rw [join_signs]
    have hk : n + (rangeD 0 (z : Int).toNat).length ≤ n + 8 := by rw [rangeD_len]; omega
    exact out_rtG [dkC (k2.mono hk), dkO 0 (k2.mono hk)] (by exact q ls (k2.mono hk) e2 e3)
def lt1 (f k : Nat) : Nat := 97 + (f + k) % 26
theorem lt1_mem (f k : Nat) : lt1 f k ∈ letters := letters_mem.mpr (by unfold lt1; omega)
theorem nodup_of_map {α β : Type} (f : α → β) {l : List α} (h : (l.map f).Nodup) : l.Nodup := by
  rw [List.Nodup, List.pairwise_map] at h
  exact h.imp fun {a b} h e => h (by rw [e])
def sp__law_names : DSp := sp2 fun a b S Q => ∃ (p q n : Nat) (k : Dk n) (m : Nat), a = .ref p ∧ b = .int (m : Int) ∧ S[q]? = some (dkC k) ∧ S[p]? = some (dkO q k) ∧ q ≠ p ∧ (m ≤ 60 ∧ n ≤ 800000000) ∧ ∀ (ls : List (List Nat)) (k' : Dk (n + 600)), ls.length = m → ls.Nodup → (∀ x ∈ ls, okName x) → Q (.ref S.length) ((S.set q (dkC k')).set p (dkO q k') ++ [.lst (ls.map nmD)])
def N__law_names : List Str := ["_law_deck_here", "_law_many", "_law_letters", "_law_way", "_law_word_here", "_law_k", "_law_names_here", "_law_name", "_law_first", "_law_other", "_law_found", "_law_sign"]
def sem__law_names_1 : WS := (sRet (wNew (lLc (iRange1 (aCons (wVar 1) aNil)) (gNameD 5) tYesD (wSl (wVar 4) oNone (oSome (wOp dAdd (wVar 5) (wC (.int 1))))) [5])))
def sem__law_names_2 : WS := (sAsg (wOp dAdd (wOp dIx (wVar 2) (wOp dMod (wOp dAdd (wM tyS dIndexS (wVar 2) (aCons (wOp dIx (wVar 7) (wC (.int 0))) aNil)) (wC (.int 1))) (wC (.int 26)))) (wSl (wVar 7) (oSome (wC (.int 1))) oNone)) (gNameD 7))
def sem__law_names_3 : WS := (sDrop (wM tyL dAppend (wVar 6) (aCons (wVar 7) aNil)))
def sem__law_names_4 : WS := (sSeq (sWhile (tOf (wOp dIn (wVar 7) (wVar 6))) (sLoc sem__law_names_2)) (sLoc sem__law_names_3))
def sem__law_names_5 : WS := (sSeq (sAsg (wCall sp__law_word (aCons (wVar 0) (aCons (wOp dAdd (wC (.int 1)) (wCall sp__law_draw (aCons (wVar 0) (aCons (wC (.int 8)) aNil)))) aNil))) (gNameD 7)) sem__law_names_4)
def sem__law_names_6 : WS := (sRet (wVar 6))
def sem__law_names_7 : WS := (sSeq (sFor (iRange1 (aCons (wVar 1) aNil)) (gNameD 5) (sLoc sem__law_names_5)) (sLoc sem__law_names_6))
def sem__law_names_8 : WS := (sDrop (wM tyL dAppend (wVar 10) (aCons (wOp dAdd (wOp dAdd (wVar 4) (wVar 11)) (wOp dIx (wVar 2) (wOp dMod (wOp dAdd (wVar 9) (wOp dDiv (wVar 5) (wC (.int 26)))) (wC (.int 26))))) aNil)))
def sem__law_names_9 : WS := (sSeq (sAsg (wOp dIx (wVar 2) (wOp dMod (wOp dAdd (wVar 8) (wVar 5)) (wC (.int 26)))) (gNameD 11)) sem__law_names_8)
def sem__law_names_10 : WS := (sRet (wVar 10))
def sem__law_names_11 : WS := (sSeq (sFor (iRange1 (aCons (wVar 1) aNil)) (gNameD 5) (sLoc sem__law_names_9)) (sLoc sem__law_names_10))
def sem__law_names_12 : WS := (sSeq (sAsg (wNew (lLst aNil)) (gNameD 10)) sem__law_names_11)
def sem__law_names_13 : WS := (sSeq (sAsg (wCall sp__law_draw (aCons (wVar 0) (aCons (wC (.int 26)) aNil))) (gNameD 9)) sem__law_names_12)
def sem__law_names_14 : WS := (sSeq (sAsg (wCall sp__law_draw (aCons (wVar 0) (aCons (wC (.int 26)) aNil))) (gNameD 8)) sem__law_names_13)
def sem__law_names_15 : WS := (sSeq (sAsg (wCall sp__law_word (aCons (wVar 0) (aCons (wCall sp__law_draw (aCons (wVar 0) (aCons (wC (.int 7)) aNil))) aNil))) (gNameD 4)) sem__law_names_14)
def sem__law_names_16 : WS := (sSeq (sIf (tAndD (tOf (wOp dEq (wVar 3) (wC (.int 1)))) (tOf (wOp dLtT (wVar 1) (wC (.int 21))))) (sSeq (sAsg (wNew (lLst aNil)) (gNameD 6)) sem__law_names_7) sNext) sem__law_names_15)
def sem__law_names_17 : WS := (sSeq (sIf (tAndD (tOf (wOp dEq (wVar 3) (wC (.int 0)))) (tOf (wOp dLtT (wVar 1) (wC (.int 9))))) (sSeq (sAsg (wCall sp__law_word (aCons (wVar 0) (aCons (wC (.int 8)) aNil))) (gNameD 4)) sem__law_names_1) sNext) sem__law_names_16)
def sem__law_names_18 : WS := (sSeq (sAsg (wCall sp__law_draw (aCons (wVar 0) (aCons (wC (.int 4)) aNil))) (gNameD 3)) sem__law_names_17)
def sem__law_names_19 : WS := (sSeq (sAsg (wC (.str "abcdefghijklmnopqrstuvwxyz")) (gNameD 2)) sem__law_names_18)
def sem__law_names : WS := (sLoc sem__law_names_19)
theorem len__law_names (ds S Q E) (h : sp__law_names ds S Q E) : ds.length = 2 := sp2_len h
theorem pf__law_names (ds S Q E) (h : sp__law_names ds S Q E) : sem__law_names (Dend Q) (startD N__law_names ds) S := by
  obtain ⟨a, b, rfl, p, q', n, k, m, rfl, rfl, hq, hp, hpq, ⟨hm, hn⟩, q⟩ := sp2_inv h
  refine .inr ⟨[q', p], [dkC k, dkO 0 k], [some (.ref 1), some (.int m), none, none, none, none, none, none, none, none, none, none], ⟨by simpa using hpq, (by repeat' first | exact trivial | exact rfl | exact embP rfl | exact embP (by assumption) | exact embR (by assumption) | apply And.intro)⟩, (by repeat' first | exact trivial | exact rfl | exact envP | apply And.intro), ?_⟩
  refine ⟨1, 0, _, k, 4, rfl, rfl, rfl, rfl, by decide, by omega, fun w k1 w0 w1 => ?_⟩
  -- the third way
  have third : sem__law_names_15 (locE [q', p] S (Dend Q)) [some (.ref 1), some (.int m), some (.str "abcdefghijklmnopqrstuvwxyz"), some (.int w), none, none, none, none, none, none, none, none] [dkC k1, dkO 0 k1] := by
    refine ⟨1, 0, _, k1, 7, rfl, rfl, rfl, rfl, by decide, by omega, fun z k2 z0 z1 => ?_⟩
    refine ⟨1, 0, _, k2, z.toNat, rfl, by simp; omega, rfl, rfl, by decide, ⟨by omega, by omega⟩, fun wd k3 wl wm => ?_⟩
    refine ⟨1, 0, _, k3, 26, rfl, rfl, rfl, rfl, by decide, by omega, fun f k4 f0 f1 => ⟨1, 0, _, k4, 26, rfl, rfl, rfl, rfl, by decide, by omega, fun o k5 o0 o1 => ?_⟩⟩
    obtain ⟨F, rfl⟩ : ∃ F : Nat, f = (F : Int) := ⟨f.toNat, by omega⟩
    obtain ⟨O, rfl⟩ : ∃ F : Nat, o = (F : Int) := ⟨o.toNat, by omega⟩
    refine ⟨Nat.zero_le _, ⟨by omega, by omega⟩, ?_⟩
    rw [Int.toNat_natCast]
    refine ⟨fun i env S' => i ≤ m ∧ ∃ (x y : Option D), env = [some (.ref 1), some (.int m), some (.str "abcdefghijklmnopqrstuvwxyz"), some (.int w), some (nmD wd), x, none, none, some (.int F), some (.int O), some (.ref 2), y] ∧ S' = [dkC k5, dkO 0 k5, .lst (((List.range i).map fun j => wd ++ [lt1 F j, lt1 O (j / 26)]).map nmD)], ⟨by omega, none, none, rfl, rfl⟩, fun _ _ _ _ _ => trivial, ?_, ?_⟩
    · rintro i d env S4 hi ⟨_, x, y, rfl, rfl⟩
      obtain ⟨hi', rfl⟩ := range_get hi
      have hi3 : i < m := hi'
      have z1 : (0 : Int) + (i : Int) = (i : Int) := by omega
      rw [z1]
      have b0 : 0 ≤ ((F : Int) + (i : Int)) % 26 := Int.emod_nonneg _ (by decide)
      have b1 : ((F : Int) + (i : Int)) % 26 < 26 := Int.emod_lt_of_pos _ (by decide)
      have c0 : 0 ≤ ((O : Int) + (i : Int) / 26) % 26 := Int.emod_nonneg _ (by decide)
      have c1 : ((O : Int) + (i : Int) / 26) % 26 < 26 := Int.emod_lt_of_pos _ (by decide)
      refine .inl ⟨by decide, alpha_len, _, alpha_at b0 b1, ⟨_, rfl⟩, ?_⟩
      have hwd : wd.length = z.toNat := wl
      have l1 : (T wd).length + (T [97 + (((F : Int) + (i : Int)) % 26).toNat]).length ≤ sizeLine := sizeLe (by rw [T_len, T_len, hwd]; simp; omega)
      have l2 : (T wd ++ T [97 + (((F : Int) + (i : Int)) % 26).toNat]).length + (T [97 + (((O : Int) + (i : Int) / 26) % 26).toNat]).length ≤ sizeLine := sizeLe (by rw [T_app, T_len, T_len, List.length_append, hwd]; simp; omega)
      refine ⟨l1, cdiv_s (by decide) (by decide), by decide, alpha_len, _, alpha_at c0 c1, l2, _, rfl, sizeL (by simp; omega), by omega, some (.int i), some (nmD [97 + (((F : Int) + (i : Int)) % 26).toNat]), rfl, ?_⟩
      rw [T_app, T_app, List.range_succ, List.map_append, List.map_append]
      have e1 : 97 + (((F : Int) + (i : Int)) % 26).toNat = lt1 F i := by unfold lt1; omega
      have e2 : 97 + (((O : Int) + (i : Int) / 26) % 26).toNat = lt1 O (i / 26) := by unfold lt1; omega
      rw [e1, e2, List.append_assoc]; rfl
    · rintro env S4 ⟨_, x, y, rfl, rfl⟩
      have hk : n + 1 + 1 + 8 + 1 + 1 ≤ n + 600 := by omega
      have hwd : wd.length = z.toNat := wl
      rw [rangeD_len]
      refine .inl (out_newG [dkC (k5.mono hk), dkO 0 (k5.mono hk)] (.lst (((List.range m).map fun j => wd ++ [lt1 F j, lt1 O (j / 26)]).map nmD)) (by
        refine q _ (k5.mono hk) (by simp) ?_ fun x hx => ?_
        · refine List.pairwise_map.mpr (List.Pairwise.imp_of_mem (fun {a b} ha hb hab e => ?_) List.nodup_range)
          have e := List.append_cancel_left e
          simp only [List.cons.injEq, and_true] at e
          have ha := List.mem_range.mp ha
          have hb := List.mem_range.mp hb
          unfold lt1 at e
          omega
        · obtain ⟨j, _, rfl⟩ := List.mem_map.mp hx
          refine ⟨by simp, by rw [List.length_append, hwd]; simp; omega, fun c hc => ?_⟩
          rcases List.mem_append.mp hc with h | h
          · exact wm c h
          · simp only [List.mem_cons, List.not_mem_nil, or_false] at h
            rcases h with rfl | rfl <;> exact lt1_mem _ _))
  -- the second way
  have second : ∀ DX : WEnds, DX.rt = (locE [q', p] S (Dend Q)).rt → m < 21 → sSeq (sAsg (wNew (lLst aNil)) (gNameD 6)) sem__law_names_7 DX [some (.ref 1), some (.int m), some (.str "abcdefghijklmnopqrstuvwxyz"), some (.int w), none, none, none, none, none, none, none, none] [dkC k1, dkO 0 k1] := by
    intro DX hDX hm21
    refine ⟨Nat.zero_le _, ⟨by omega, by omega⟩, ?_⟩
    rw [Int.toNat_natCast]
    refine ⟨fun i env S' => i ≤ m ∧ ∃ (k' : Dk (n + 1 + 9 * i)) (ns : List (List Nat)), env = [some (.ref 1), some (.int m), some (.str "abcdefghijklmnopqrstuvwxyz"), some (.int w), none, none, some (.ref 2), none, none, none, none, none] ∧ S' = [dkC k', dkO 0 k', .lst (ns.map nmD)] ∧ ns.length = i ∧ ns.Nodup ∧ ∀ x ∈ ns, okName x, ⟨by omega, k1, [], rfl, rfl, rfl, List.nodup_nil, by simp⟩, fun _ _ _ _ _ => trivial, ?_, ?_⟩
    · rintro i d env S4 hi ⟨_, k2, ns, rfl, rfl, n1, n2, n3⟩
      obtain ⟨hi', rfl⟩ := range_get hi
      have hi3 : i < m := hi'
      refine .inr ⟨[0, 1, 2], [dkC k2, dkO 0 k2, .lst (ns.map nmD)], [some (.ref 1), some (.int m), some (.str "abcdefghijklmnopqrstuvwxyz"), some (.int w), none, none, some (.ref 2), none, none, none, none, none], ⟨by decide, (by repeat' first | exact trivial | exact rfl | exact embP rfl | exact embP (by assumption) | exact embR (by assumption) | apply And.intro)⟩, (by repeat' first | exact trivial | exact rfl | exact envP | apply And.intro), ?_⟩
      generalize hDE : locE _ _ _ = DE
      have out : ∀ (k4 : Dk (n + 1 + 9 * i + 1 + 8)) (nm : List Nat) g, nm ∉ ns → okName nm → DE.nx [some (.ref 1), some (.int m), some (.str "abcdefghijklmnopqrstuvwxyz"), some (.int w), none, none, some (.ref 2), some (nmD nm), none, none, none, none] (dkC k4 :: dkO 0 k4 :: .lst (ns.map nmD ++ [nmD nm]) :: g) := by
        intro k4 nm g h1 h2
        rw [← hDE]
        refine out_n0G [dkC k4, dkO 0 k4, .lst (ns.map nmD ++ [nmD nm])] [some (.ref 1), some (.int m), some (.str "abcdefghijklmnopqrstuvwxyz"), some (.int w), none, none, some (.ref 2), none, none, none, none, none] (by
          refine ⟨by omega, k4.mono (by omega), ns ++ [nm], rfl, by rw [List.map_append]; rfl, by simp [n1], List.nodup_append.mpr ⟨n2, by simp, fun a ha b hb e => h1 (by rw [← List.mem_singleton.mp hb, ← e]; exact ha)⟩, fun x hx => ?_⟩
          rcases List.mem_append.mp hx with h | h
          · exact n3 x h
          · rw [List.mem_singleton.mp h]; exact h2) rfl (by repeat' first | exact trivial | exact rfl | exact envP | apply And.intro) (by repeat' first | exact renE_nil | refine renE_no ?_ | refine renE_pur ?_ | refine renE_ref rfl ?_)
      refine ⟨1, 0, _, k2, 8, rfl, rfl, rfl, rfl, by decide, by omega, fun z k3 z0 z1 => ?_⟩
      refine ⟨1, 0, _, k3, 1 + z.toNat, rfl, by simp; omega, rfl, rfl, by decide, ⟨by omega, by omega⟩, fun wd k4 wl wm => ?_⟩
      obtain ⟨c0, rest, rfl⟩ : ∃ c0 rest, wd = c0 :: rest := by
        cases wd with
        | nil => simp at wl; omega
        | cons a b => exact ⟨a, b, rfl⟩
      have hc0 := letters_mem.mp (wm c0 List.mem_cons_self)
      obtain ⟨f, hf, rfl⟩ : ∃ f, f < 26 ∧ c0 = 97 + f := ⟨c0 - 97, by omega, by omega⟩
      have wl : rest.length + 1 = 1 + z.toNat := wl
      have hok : ∀ j, okName (lt1 f j :: rest) := fun j => ⟨by simp, by simp; omega, fun c hc => by
        rcases List.mem_cons.mp hc with rfl | hc
        · exact lt1_mem _ _
        · exact wm c (List.mem_cons_of_mem _ hc)⟩
      have h0 : 97 + f = lt1 f 0 := by unfold lt1; omega
      have hfl : (ns.map nmD).all D.flat = true := by rw [List.all_map]; exact List.all_eq_true.mpr fun _ _ => rfl
      have hs : (ns.map nmD).length < sizeLine := sizeL (by rw [List.length_map]; omega)
      rw [h0]
      refine ⟨fun κ env S' => ∃ j, κ = 26 - j ∧ j ≤ ns.length ∧ (∀ i, i < j → lt1 f i :: rest ∈ ns) ∧ env = [some (.ref 1), some (.int m), some (.str "abcdefghijklmnopqrstuvwxyz"), some (.int w), none, none, some (.ref 2), some (nmD (lt1 f j :: rest)), none, none, none, none] ∧ S' = [dkC k4, dkO 0 k4, .lst (ns.map nmD)], ⟨_, 0, rfl, by omega, by omega, rfl, rfl⟩, ?_⟩
      rintro κ env S4 ⟨j, rfl, hj, hmet, rfl, rfl⟩
      refine ⟨_, rfl, rfl, hfl, ?_⟩
      rw [any_names]
      refine ⟨fun h => .inl ?_, fun h => .inl ⟨⟨_, rfl⟩, _, rfl, hs, out k4 _ [] (of_decide_eq_false h) (hok j)⟩⟩
      have h : lt1 f j :: rest ∈ ns := of_decide_eq_true h
      have hj2 : j + 1 ≤ ns.length := by
        have hh : ∀ x ∈ (List.range (j + 1)).map (fun i => lt1 f i :: rest), x ∈ ns := fun x hx => by
          obtain ⟨i, hi, rfl⟩ := List.mem_map.mp hx
          by_cases e : i = j
          · rw [e]; exact h
          · exact hmet i (by have := List.mem_range.mp hi; omega)
        have hn : ((List.range (j + 1)).map (fun i => lt1 f i :: rest)).Nodup := by
          refine List.pairwise_map.mpr (List.Pairwise.imp_of_mem (fun {a b} ha hb hab e => ?_) List.nodup_range)
          have ha := List.mem_range.mp ha
          have hb := List.mem_range.mp hb
          simp only [List.cons.injEq, and_true] at e
          unfold lt1 at e
          omega
        have := nodup_len _ _ hn hh
        rwa [List.length_map, List.length_range] at this
      have b0 : 0 ≤ ((((f + j) % 26 : Nat) : Int) + 1) % 26 := Int.emod_nonneg _ (by decide)
      have b1 : ((((f + j) % 26 : Nat) : Int) + 1) % 26 < 26 := Int.emod_lt_of_pos _ (by decide)
      refine ⟨trivial, sizeLe (by rw [T_len]; simp; omega), _, at0, (f + j) % 26, index_letters _ (by omega), by decide, alpha_len, _, alpha_at b0 b1, sizeLe (by rw [T_len]; simp; omega), sizeLe ?_, ?_⟩
      · rw [cutS_from (by decide), T_len, T_len]; simp; omega
      · have e : T [97 + (((((f + j) % 26 : Nat) : Int) + 1) % 26).toNat] ++ cutS (T (lt1 f j :: rest)) (some 1) none = T (lt1 f (j + 1) :: rest) := by
          rw [cutS_from (by decide), T_app]
          have : 97 + (((((f + j) % 26 : Nat) : Int) + 1) % 26).toNat = lt1 f (j + 1) := by unfold lt1; omega
          rw [this]; rfl
        rw [e]
        exact ⟨26 - (j + 1), by omega, j + 1, rfl, hj2, fun i hi => by
          by_cases e : i = j
          · rw [e]; exact h
          · exact hmet i (by omega), rfl, rfl⟩
    · rintro env S4 ⟨_, k4, ns, rfl, rfl, n1, n2, n3⟩
      rw [rangeD_len] at n1
      have hk : n + 1 + 9 * (rangeD 0 m).length ≤ n + 600 := by rw [rangeD_len]; omega
      refine .inl ?_
      show DX.rt _ _
      rw [hDX]
      exact out_newG [dkC (k4.mono hk), dkO 0 (k4.mono hk)] (.lst (ns.map nmD)) (by exact q ns (k4.mono hk) n1 n2 n3)
  have two : sem__law_names_16 (locE [q', p] S (Dend Q)) [some (.ref 1), some (.int m), some (.str "abcdefghijklmnopqrstuvwxyz"), some (.int w), none, none, none, none, none, none, none, none] [dkC k1, dkO 0 k1] := by
    refine ⟨fun h0 => ⟨fun h9 => second _ rfl (by have h9 : (m : Int) < 21 := of_decide_eq_true h9; omega), fun _ => third⟩, fun _ => ⟨(fun h => nomatch h), fun _ => third⟩⟩
  refine ⟨fun h0 => ⟨fun h9 => ?_, fun _ => two⟩, fun _ => ⟨(fun h => nomatch h), fun _ => two⟩⟩
  have h9 : (m : Int) < 9 := of_decide_eq_true h9
  refine ⟨1, 0, _, k1, 8, rfl, rfl, rfl, rfl, by decide, by omega, fun wd k2 wl wm => ?_⟩
  refine ⟨⟨by omega, by omega⟩, ?_⟩
  rw [Int.toNat_natCast]
  refine ⟨fun i acc S' => i ≤ m ∧ acc = ((List.range i).map fun j => wd.take (j + 1)).map nmD ∧ S' = [dkC k2, dkO 0 k2], ⟨by omega, rfl, rfl⟩, fun _ _ _ _ _ => trivial, ?_, ?_⟩
  · rintro i d acc S2 hi ⟨_, rfl, rfl⟩
    obtain ⟨hi', rfl⟩ := range_get hi
    have hi3 : i < m := hi'
    refine ⟨fun _ => ⟨sizeLe (by rw [T_len, wl]; decide), sizeL (by simp; omega), by omega, ?_, rfl⟩, fun h => nomatch h⟩
    rw [cutS_to (by omega), List.range_succ, List.map_append, List.map_append]
    have : (0 + (i : Int) + 1).toNat = i + 1 := by omega
    rw [this]; rfl
  · rintro acc S2 ⟨_, rfl, rfl⟩
    rw [rangeD_len]
    have hk : n + 1 + 8 ≤ n + 600 := by omega
    refine out_newG [dkC (k2.mono hk), dkO 0 (k2.mono hk)] (.lst (((List.range m).map fun j => wd.take (j + 1)).map nmD)) (by
      refine q _ (k2.mono hk) (by simp) ?_ fun x hx => ?_
      · refine List.pairwise_map.mpr (List.Pairwise.imp_of_mem (fun {a b} ha hb hab e => ?_) List.nodup_range)
        have ha := List.mem_range.mp ha
        have hb := List.mem_range.mp hb
        have e := congrArg List.length e
        rw [List.length_take, List.length_take, wl] at e
        omega
      · obtain ⟨j, hj, rfl⟩ := List.mem_map.mp hx
        have hj := List.mem_range.mp hj
        refine ⟨by rw [List.length_take, wl]; omega, by rw [List.length_take, wl]; omega, fun c hc => wm c (List.mem_of_mem_take hc)⟩)

def sp__law_moment : DSp := sp2 fun a b S Q => ∃ (p q n : Nat) (k : Dk n) (z : Nat), a = .ref p ∧ b = .int (z : Int) ∧ S[q]? = some (dkC k) ∧ S[p]? = some (dkO q k) ∧ q ≠ p ∧ (z ≤ 1000000000 ∧ n ≤ 900000000) ∧ ∀ (v : Nat) (k' : Dk (n + 4)), z ≤ v → v ≤ 1000000000 → Q (.int (v : Int)) ((S.set q (dkC k')).set p (dkO q k'))
def N__law_moment : List Str := ["_law_deck_here", "_law_moment_here", "_law_gap"]
def sem__law_moment_1 : WS := (sRet (wMin2 (aCons (wC (.int 1000000000)) (aCons (wOp dAdd (wVar 1) (wVar 2)) aNil))))
def sem__law_moment_2 : WS := (sSeq (sAsg (wIxL (lLst (aCons (wC (.int 0)) (aCons (wC (.int 0)) (aCons (wC (.int 1)) (aCons (wCall sp__law_draw (aCons (wVar 0) (aCons (wC (.int 6)) aNil))) (aCons (wCall sp__law_draw (aCons (wVar 0) (aCons (wC (.int 10000)) aNil))) (aCons (wCall sp__law_draw (aCons (wVar 0) (aCons (wC (.int 100000000)) aNil))) aNil))))))) (wCall sp__law_draw (aCons (wVar 0) (aCons (wC (.int 6)) aNil)))) (gNameD 2)) sem__law_moment_1)
def sem__law_moment : WS := (sLoc sem__law_moment_2)
theorem len__law_moment (ds S Q E) (h : sp__law_moment ds S Q E) : ds.length = 2 := sp2_len h
theorem pf__law_moment (ds S Q E) (h : sp__law_moment ds S Q E) : sem__law_moment (Dend Q) (startD N__law_moment ds) S := by
  obtain ⟨a, b, rfl, p, q', n, k, z, rfl, rfl, hq, hp, hpq, ⟨hz, hn⟩, q⟩ := sp2_inv h
  refine .inr ⟨[q', p], [dkC k, dkO 0 k], [some (.ref 1), some (.int z), none], ⟨by simpa using hpq, (by repeat' first | exact trivial | exact rfl | exact embP rfl | exact embP (by assumption) | exact embR (by assumption) | apply And.intro)⟩, (by repeat' first | exact trivial | exact rfl | exact envP | apply And.intro), ?_⟩
  refine ⟨1, 0, _, k, 6, rfl, rfl, rfl, rfl, by decide, by omega, fun r1 k1 a0 a1 => ⟨1, 0, _, k1, 10000, rfl, rfl, rfl, rfl, by decide, by omega, fun r2 k2 b0 b1 => ⟨1, 0, _, k2, 100000000, rfl, rfl, rfl, rfl, by decide, by omega, fun r3 k3 c0 c1 => ⟨sizeLe (by simp), 1, 0, _, k3, 6, rfl, rfl, rfl, rfl, by decide, by omega, fun r4 k4 d0 d1 => ?_⟩⟩⟩⟩
  obtain ⟨x, hx, hx0⟩ := pickI (xs := [0, 0, 1, r1, r2, r3]) (P := fun x => 0 ≤ x) (by simp; omega) d0 d1
  refine ⟨_, hx, out_rtG [dkC k4, dkO 0 k4] ?_⟩
  have := q (min 1000000000 ((z : Int) + x)).toNat k4 (by omega) (by omega)
  rwa [show (((min 1000000000 ((z : Int) + x)).toNat : Nat) : Int) = min 1000000000 ((z : Int) + x) by omega] at this
theorem pickT {α : Type} (f : α → D) (xs : List α) {r : Int} (r0 : 0 ≤ r) (r1 : r < ((xs.map f).length : Int)) : ∃ x, x ∈ xs ∧ atI (xs.map f) r = some (f x) := by
  rw [List.length_map] at r1
  have hr : r.toNat < xs.length := by omega
  exact ⟨xs[r.toNat], List.getElem_mem hr, atI_int r0 (by rw [List.getElem?_map, List.getElem?_eq_getElem hr]; rfl)⟩
def sp__law_ends : DSp := sp3 fun a b c S Q => ∃ (p q n : Nat) (k : Dk n) (m f : Nat) (ts : List Tie), a = .ref p ∧ b = .int (m : Int) ∧ c = .ref f ∧ S[q]? = some (dkC k) ∧ S[p]? = some (dkO q k) ∧ S[f]? = some (.lst (ts.map tieD)) ∧ [q, p, f].Nodup ∧ (2 ≤ m ∧ m ≤ 24 ∧ n ≤ 900000000 ∧ ts.length ≤ 100) ∧ (∀ t ∈ ts, GoodTie m t) ∧
  ∀ (x y : Nat) (k' : Dk (n + 5)), x < m → y < m → x ≠ y → Q (.tup [.int (x : Int), .int (y : Int)]) (((S.set q (dkC k')).set p (dkO q k')).set f (.lst (ts.map tieD)))
def N__law_ends : List Str := ["_law_deck_here", "_law_many", "_law_ties", "_law_one", "_law_other", "_law_tie"]
def sem__law_ends_1 : WS := (sAsg (wIxL (lLst (aCons (wTup (aCons (wOp dIx (wVar 5) (wC (.int 1))) (aCons (wOp dIx (wVar 5) (wC (.int 2))) aNil))) (aCons (wTup (aCons (wOp dIx (wVar 5) (wC (.int 2))) (aCons (wOp dIx (wVar 5) (wC (.int 1))) aNil))) aNil))) (wCall sp__law_draw (aCons (wVar 0) (aCons (wC (.int 2)) aNil)))) (gTupD 2 (gConsD (gNameD 3) (gConsD (gNameD 4) gNilD))))
def sem__law_ends_2 : WS := (sRet (wTup (aCons (wVar 3) (aCons (wVar 4) aNil))))
def sem__law_ends_3 : WS := (sSeq (sIf (tAndD (tOf (wOp dNe (wVar 2) (wNew (lLst aNil)))) (tOf (wOp dEq (wCall sp__law_draw (aCons (wVar 0) (aCons (wC (.int 3)) aNil))) (wC (.int 0))))) (sSeq (sAsg (wOp dIx (wVar 2) (wCall sp__law_draw (aCons (wVar 0) (aCons (wLen (wVar 2)) aNil)))) (gNameD 5)) sem__law_ends_1) sNext) sem__law_ends_2)
def sem__law_ends_4 : WS := (sSeq (sAsg (wOp dMod (wOp dAdd (wOp dAdd (wVar 3) (wC (.int 1))) (wCall sp__law_draw (aCons (wVar 0) (aCons (wOp dSub (wVar 1) (wC (.int 1))) aNil)))) (wVar 1)) (gNameD 4)) sem__law_ends_3)
def sem__law_ends_5 : WS := (sSeq (sAsg (wCall sp__law_draw (aCons (wVar 0) (aCons (wVar 1) aNil))) (gNameD 3)) sem__law_ends_4)
def sem__law_ends : WS := (sLoc sem__law_ends_5)
theorem len__law_ends (ds S Q E) (h : sp__law_ends ds S Q E) : ds.length = 3 := sp3_len h
theorem pf__law_ends (ds S Q E) (h : sp__law_ends ds S Q E) : sem__law_ends (Dend Q) (startD N__law_ends ds) S := by
  obtain ⟨a, b, c, rfl, p, q', n, k, m, f, ts, rfl, rfl, rfl, hq, hp, hf, nd, ⟨hm, hm2, hn, hl⟩, hts, q⟩ := sp3_inv h
  refine .inr ⟨[q', p, f], [dkC k, dkO 0 k, .lst (ts.map tieD)], [some (.ref 1), some (.int m), some (.ref 2), none, none, none], ⟨nd, (by repeat' first | exact trivial | exact rfl | exact embP rfl | exact embP (by assumption) | exact embR (by assumption) | apply And.intro)⟩, (by repeat' first | exact trivial | exact rfl | exact envP | apply And.intro), ?_⟩
  refine ⟨1, 0, _, k, m, rfl, rfl, rfl, rfl, by decide, by omega, fun o k1 o0 o1 => ⟨1, 0, _, k1, (m : Int) - 1, rfl, rfl, rfl, rfl, by decide, by omega, fun o' k2 p0 p1 => ⟨by omega, ?_⟩⟩⟩
  have fin : ∀ (A B : Int) (x5 : Option D) (g : Sto) (k3 : Dk (n + 5)), 0 ≤ A → A < (m : Int) → 0 ≤ B → B < (m : Int) → A ≠ B → sem__law_ends_2 (locE [q', p, f] S (Dend Q)) [some (.ref 1), some (.int m), some (.ref 2), some (.int A), some (.int B), x5] (dkC k3 :: dkO 0 k3 :: .lst (ts.map tieD) :: g) := by
    intro A B x5 g k3 a0 a1 b0 b1 hAB
    refine ⟨sizeLe (by simp), out_rtG [dkC k3, dkO 0 k3, .lst (ts.map tieD)] ?_⟩
    have := q A.toNat B.toNat k3 (by omega) (by omega) (by omega)
    rwa [show ((A.toNat : Nat) : Int) = A by omega, show ((B.toNat : Nat) : Int) = B by omega] at this
  have md : ∀ z : Int, 0 ≤ z % (m : Int) ∧ z % (m : Int) < (m : Int) := fun z => ⟨Int.emod_nonneg _ (by omega), Int.emod_lt_of_pos _ (by omega)⟩
  have other_ne : (o + 1 + o') % (m : Int) ≠ o := by
    by_cases e : o + 1 + o' < (m : Int)
    · rw [Int.emod_eq_of_lt (by omega) e]; omega
    · have : o + 1 + o' = (o + 1 + o' - (m : Int)) + (m : Int) := by omega
      rw [this, Int.add_emod_right, Int.emod_eq_of_lt (by omega) (by omega)]; omega
  have other := fun g k3 => fin o ((o + 1 + o') % (m : Int)) none g k3 o0 o1 (md _).1 (md _).2 (Ne.symm other_ne)
  have okt : okL (ts.map tieD) := okL_of_fit (n := 1) fun d hd => by
    obtain ⟨t, ht, rfl⟩ := List.mem_map.mp hd
    exact fitN_tie 0 (hts t ht).nm
  refine ⟨Nat.zero_le _, _, _, rfl, rfl, okt, okL_nil, fun h => ?_, fun h => ⟨(fun h => nomatch h), fun _ => other _ (k2.mono (by omega))⟩⟩
  have hne : 0 < ts.length := by
    cases ts with
    | nil => exact nomatch (show (false : Bool) = true from h)
    | cons _ _ => simp
  refine ⟨1, 0, _, k2, 3, rfl, rfl, rfl, rfl, by decide, by omega, fun r k3 r0 r1 => ⟨fun _ => ?_, fun _ => other _ (k3.mono (by omega))⟩⟩
  refine ⟨_, rfl, 1, 0, _, k3, _, rfl, rfl, rfl, rfl, by decide, by simp; omega, fun i k4 i0 i1 => ?_⟩
  obtain ⟨t, ht, gt⟩ := pickT tieD ts i0 i1
  have g := hts t ht
  have g1 := g.one
  have g2 := g.other
  have g3 := g.ne
  refine ⟨_, rfl, _, gt, _, rfl, _, rfl, sizeLe (by simp), _, rfl, _, rfl, sizeLe (by simp), sizeLe (by simp), 1, 0, _, k4, 2, rfl, rfl, rfl, rfl, by decide, by omega, fun w k5 w0 w1 => ?_⟩
  have : w = 0 ∨ w = 1 := by omega
  rcases this with rfl | rfl
  · exact ⟨_, rfl, rfl, fin t.2.1 t.2.2.1 (some (tieD t)) _ k5 (by omega) (by omega) (by omega) (by omega) (by omega)⟩
  · exact ⟨_, rfl, rfl, fin t.2.2.1 t.2.1 (some (tieD t)) _ k5 (by omega) (by omega) (by omega) (by omega) (by omega)⟩
def sp__law_weight : DSp := sp2 fun a c S Q => ∃ (p q n : Nat) (k : Dk n) (m f : Nat) (ts : List Tie), a = .ref p ∧ c = .ref f ∧ S[q]? = some (dkC k) ∧ S[p]? = some (dkO q k) ∧ S[f]? = some (.lst (ts.map tieD)) ∧ [q, p, f].Nodup ∧ (n ≤ 900000000 ∧ ts.length ≤ 100) ∧ (∀ t ∈ ts, GoodTie m t) ∧
  ∀ (w : Int) (k' : Dk (n + 3)), 0 ≤ w → w ≤ 1000000000 → Q (.int w) (((S.set q (dkC k')).set p (dkO q k')).set f (.lst (ts.map tieD)))
def N__law_weight : List Str := ["_law_deck_here", "_law_ties", "_law_last"]
def sem__law_weight_1 : WS := (sRet (wIxL (lLst (aCons (wC (.int 0)) (aCons (wC (.int 1)) (aCons (wCall sp__law_draw (aCons (wVar 0) (aCons (wC (.int 6)) aNil))) (aCons (wCall sp__law_draw (aCons (wVar 0) (aCons (wOp dAdd (wC (.int 1000000000)) (wC (.int 1))) aNil))) (aCons (wVar 2) aNil)))))) (wCall sp__law_draw (aCons (wVar 0) (aCons (wC (.int 5)) aNil)))))
def sem__law_weight_2 : WS := (sSeq (sIf (tOf (wOp dNe (wVar 1) (wNew (lLst aNil)))) (sAsg (wOp dIx (wOp dIx (wVar 1) (wNeg (wC (.int 1)))) (wC (.int 3))) (gNameD 2)) sNext) sem__law_weight_1)
def sem__law_weight_3 : WS := (sSeq (sAsg (wC (.int 1000000000)) (gNameD 2)) sem__law_weight_2)
def sem__law_weight : WS := (sLoc sem__law_weight_3)
theorem len__law_weight (ds S Q E) (h : sp__law_weight ds S Q E) : ds.length = 2 := sp2_len h
theorem pf__law_weight (ds S Q E) (h : sp__law_weight ds S Q E) : sem__law_weight (Dend Q) (startD N__law_weight ds) S := by
  obtain ⟨a, c, rfl, p, q', n, k, m, f, ts, rfl, rfl, hq, hp, hf, nd, ⟨hn, hl⟩, hts, q⟩ := sp2_inv h
  refine .inr ⟨[q', p, f], [dkC k, dkO 0 k, .lst (ts.map tieD)], [some (.ref 1), some (.ref 2), none], ⟨nd, (by repeat' first | exact trivial | exact rfl | exact embP rfl | exact embP (by assumption) | exact embR (by assumption) | apply And.intro)⟩, (by repeat' first | exact trivial | exact rfl | exact envP | apply And.intro), ?_⟩
  have fin : ∀ (l : Int) (g : Sto), 0 ≤ l → l ≤ 1000000000 → sem__law_weight_1 (locE [q', p, f] S (Dend Q)) [some (.ref 1), some (.ref 2), some (.int l)] (dkC k :: dkO 0 k :: .lst (ts.map tieD) :: g) := by
    intro l g l0 l1
    refine ⟨1, 0, _, k, 6, rfl, rfl, rfl, rfl, by decide, by omega, fun r1 k1 a0 a1 => ⟨1, 0, _, k1, 1000000001, rfl, rfl, rfl, rfl, by decide, by omega, fun r2 k2 b0 b1 => ⟨sizeLe (by simp), 1, 0, _, k2, 5, rfl, rfl, rfl, rfl, by decide, by omega, fun r3 k3 c0 c1 => ?_⟩⟩⟩
    obtain ⟨x, hx, hx0, hx1⟩ := pickI (xs := [0, 1, r1, r2, l]) (P := fun x => 0 ≤ x ∧ x ≤ 1000000000) (by simp; omega) c0 c1
    exact ⟨_, hx, out_rtG [dkC k3, dkO 0 k3, .lst (ts.map tieD)] (by exact q x k3 hx0 hx1)⟩
  have okt : okL (ts.map tieD) := okL_of_fit (n := 1) fun d hd => by
    obtain ⟨t, ht, rfl⟩ := List.mem_map.mp hd
    exact fitN_tie 0 (hts t ht).nm
  refine ⟨Nat.zero_le _, _, _, rfl, rfl, okt, okL_nil, fun h => ?_, fun h => fin _ _ (by decide) (by decide)⟩
  have hne : 0 < ts.length := by
    cases ts with
    | nil => exact nomatch (show (false : Bool) = true from h)
    | cons _ _ => simp
  have hL : ts[ts.length - 1]? = some ts[ts.length - 1] := List.getElem?_eq_getElem (by omega)
  have g := hts _ (List.getElem_mem (show ts.length - 1 < ts.length by omega))
  have hat : atI (ts.map tieD) (-1) = some (tieD ts[ts.length - 1]) := by
    unfold atI ixN
    rw [if_neg (by decide), if_pos (by rw [List.length_map]; omega), List.length_map]
    show (ts.map tieD)[((-1 : Int) + (ts.length : Int)).toNat]? = _
    rw [show ((-1 : Int) + (ts.length : Int)).toNat = ts.length - 1 by omega, List.getElem?_map, hL]; rfl
  exact ⟨_, rfl, _, hat, _, rfl, fin _ _ g.w0 g.w1⟩


end KB
--BASE BB.tmpl
namespace K11
set_option maxHeartbeats 1000000
open PySem PySem.Spec PyProof.Rows L2 Z KB
instance (b : Nat) : Pur (natD b) := by unfold natD; infer_instance
theorem fitN_sp (n : Nat) (p : Spn) : FitN (n + 1) (spD p) := fitN_tup fun x hx => by
  simp only [List.mem_cons, List.not_mem_nil, or_false] at hx
  rcases hx with rfl | rfl
  · exact fitN_int n _
  · cases p.2 with
    | none => exact fitN_non n
    | some h => exact fitN_int n _
theorem ixN_last (n : Nat) : ixN (n + 1) (-1) = some n := by
  unfold ixN
  rw [if_neg (by decide), if_pos (by omega)]
  congr 1
  omega
theorem atI_lastx {α : Type} (xs : List α) (x : α) : atI (xs ++ [x]) (-1) = some x := by
  unfold atI
  rw [List.length_append, show [x].length = 1 from rfl, ixN_last]
  show (xs ++ [x])[xs.length]? = some x
  simp
theorem okL_sps (F : List Spn) : okL (F.map spD) := okL_of_fit (n := 1) fun d hd => by
  obtain ⟨p, _, rfl⟩ := List.mem_map.mp hd
  exact fitN_sp 0 p
def sp__law_laid : DSp := sp2 fun a b S Q => ∃ (p r : Nat) (B : List Nat) (t : List Bool), a = .ref p ∧ b = .ref r ∧ S[p]? = some (.lst (B.map natD)) ∧ S[r]? = some (.lst (t.map D.bl)) ∧ p ≠ r ∧ Bord B ∧ t.length = B.length ∧
  ∀ s, Canon s → (∀ x, InS s x ↔ TrAt B t x) → s.length ≤ B.length → Q (spansD s) S
def N__law_laid : List Str := ["_law_borders_here", "_law_truths_here", "_law_found", "_law_k", "_law_high"]
def sem__law_laid_1 : WS := (sIf (tAndD (tOf (wOp dIx (wVar 1) (wVar 3))) (tAndD (tOf (wOp dNe (wVar 2) (wNew (lLst aNil)))) (tOf (wOp dEq (wOp dIx (wOp dIx (wVar 2) (wNeg (wC (.int 1)))) (wC (.int 1))) (wOp dIx (wVar 0) (wVar 3)))))) (sAsg (wTup (aCons (wOp dIx (wOp dIx (wVar 2) (wNeg (wC (.int 1)))) (wC (.int 0))) (aCons (wVar 4) aNil))) (gSubD (wVar 2) (wNeg (wC (.int 1))) dSet)) (sIf (tOf (wOp dIx (wVar 1) (wVar 3))) (sDrop (wM tyL dAppend (wVar 2) (aCons (wTup (aCons (wOp dIx (wVar 0) (wVar 3)) (aCons (wVar 4) aNil))) aNil))) sNext))
def sem__law_laid_2 : WS := (sSeq (sAsg (wIxL (lCatE (wVar 0) (lLst (aCons (wC .non) aNil))) (wOp dAdd (wVar 3) (wC (.int 1)))) (gNameD 4)) sem__law_laid_1)
def sem__law_laid_3 : WS := (sRet (wQ dTuple (qSeq (wVar 2))))
def sem__law_laid_4 : WS := (sSeq (sFor (iRange1 (aCons (wLen (wVar 0)) aNil)) (gNameD 3) (sLoc sem__law_laid_2)) (sLoc sem__law_laid_3))
def sem__law_laid_5 : WS := (sSeq (sAsg (wNew (lLst aNil)) (gNameD 2)) sem__law_laid_4)
def sem__law_laid : WS := (sLoc sem__law_laid_5)
theorem len__law_laid (ds S Q E) (h : sp__law_laid ds S Q E) : ds.length = 2 := sp2_len h
theorem set_same {S : Sto} {r : Nat} {o : O} (h : S[r]? = some o) : S.set r o = S := by
  obtain ⟨h1, h2⟩ := List.getElem?_eq_some_iff.mp h
  rw [← h2]; exact List.set_getElem_self h1
theorem pf__law_laid (ds S Q E) (h : sp__law_laid ds S Q E) : sem__law_laid (Dend Q) (startD N__law_laid ds) S := by
  obtain ⟨a, b, rfl, p, r, B, t, rfl, rfl, hp, hr, hpr, hB, ht, q⟩ := sp2_inv h
  have hNl : (B.map natD).length = B.length := List.length_map _
  have hBl := hB.len
  refine .inr ⟨[p, r], [.lst (B.map natD), .lst (t.map D.bl)], [some (.ref 0), some (.ref 1), none, none, none], ⟨by simpa using hpr, (by repeat' first | exact trivial | exact rfl | exact embP rfl | exact embP (by assumption) | exact embR (by assumption) | apply And.intro)⟩, (by repeat' first | exact trivial | exact rfl | exact envP | apply And.intro), ?_⟩
  refine ⟨Nat.zero_le _, _, rfl, ⟨by rw [hNl]; omega, by rw [hNl]; omega⟩, fun k env S' => ∃ (F : List Spn) (c e : Option D), env = [some (.ref 0), some (.ref 1), some (.ref 2), c, e] ∧ S' = [.lst (B.map natD), .lst (t.map D.bl), .lst (F.map spD)] ∧ LaidTo B (TrAt B t) k F, ⟨[], none, none, rfl, rfl, laid_zero hB.zero _⟩, fun _ _ _ _ _ => trivial, ?_, ?_⟩
  · rintro k d env S4 hi ⟨F, c, e, rfl, rfl, hF⟩
    obtain ⟨hi', rfl⟩ := range_get hi
    have hkB : k < B.length := by have : k < ((B.map natD).length : Int).toNat := hi'; rw [hNl] at this; omega
    have z1 : (0 : Int) + (k : Int) = (k : Int) := by omega
    rw [z1]
    obtain ⟨b, hb⟩ : ∃ b, B[k]? = some b := ⟨_, List.getElem?_eq_getElem hkB⟩
    obtain ⟨tb, htb⟩ : ∃ b, t[k]? = some b := ⟨_, List.getElem?_eq_getElem (by omega)⟩
    have hFl := hF.len
    have hat : atI (B.map natD) (k : Int) = some (.int (b : Int)) := atI_nat (by rw [List.getElem?_map, hb]; rfl)
    have hatt : atI (t.map D.bl) (k : Int) = some (.bl tb) := atI_nat (by rw [List.getElem?_map, htb]; rfl)
    have hath : atI (B.map natD ++ [.non]) ((k : Int) + 1) = some (highD B[k + 1]?) := by
      have e1 : (k : Int) + 1 = ((k + 1 : Nat) : Int) := by omega
      rw [e1]
      refine atI_nat ?_
      cases hh : B[k + 1]? with
      | none =>
        have := List.getElem?_eq_none_iff.mp hh
        rw [List.getElem?_append_right (by rw [hNl]; omega), hNl, show k + 1 - B.length = 0 by omega]; rfl
      | some c =>
        have := (List.getElem?_eq_some_iff.mp hh).1
        rw [List.getElem?_append_left (by rw [hNl]; omega), List.getElem?_map, hh]; rfl
    have hst := laid_step hB.rise hb hF fun x h1 h2 => tr_stretch (t := t) hB.rise hb x h1 h2
    have hTr : TrAt B t b ↔ tb = true := by rw [tr_at hB.rise hb (Nat.le_refl _) fun c hc => next_lt hB.rise hb hc, htb]; simp
    refine .inr ⟨[0, 1, 2], [.lst (B.map natD), .lst (t.map D.bl), .lst (F.map spD)], [some (.ref 0), some (.ref 1), some (.ref 2), some (.int (k : Int)), none], ⟨by decide, (by repeat' first | exact trivial | exact rfl | exact embP rfl | exact embP (by assumption) | exact embR (by assumption) | apply And.intro)⟩, (by repeat' first | exact trivial | exact rfl | exact envP | apply And.intro), ?_⟩
    generalize hD : locE _ _ _ = DD
    have out : ∀ x4 F' g, LaidTo B (TrAt B t) (k + 1) F' → DD.nx [some (.ref 0), some (.ref 1), some (.ref 2), some (.int (k : Int)), x4] (.lst (B.map natD) :: .lst (t.map D.bl) :: .lst (F'.map spD) :: g) := fun x4 F' g hF' => by
      rw [← hD]
      exact out_n0G [.lst (B.map natD), .lst (t.map D.bl), .lst (F'.map spD)] [some (.ref 0), some (.ref 1), some (.ref 2), none, none] ⟨F', _, _, rfl, rfl, hF'⟩ rfl (by repeat' first | exact trivial | exact rfl | exact envP | apply And.intro) (by repeat' first | exact renE_nil | refine renE_no ?_ | refine renE_pur ?_ | refine renE_ref rfl ?_)
    clear hD
    cases tb with
    | false =>
      have hL := hst.2 (fun h => by have := hTr.mp h; cases this)
      exact ⟨sizeLe (by simp), _, rfl, sizeLe (by rw [hNl]; simp; omega), _, hath, _, rfl, _, hatt, (fun h => nomatch h), fun h => ⟨(fun h => nomatch h), fun _ => ⟨_, rfl, _, hatt, (fun h => nomatch h), fun _ => out _ F [] hL⟩⟩⟩
    | true =>
      have hL := hst.1 (hTr.mpr rfl)
      refine ⟨sizeLe (by simp), _, rfl, sizeLe (by rw [hNl]; simp; omega), _, hath, _, rfl, _, hatt, fun _ => ?_, fun h => nomatch h⟩
      have hFs : F.length + 1 ≤ 1000 := by omega
      have oF := okL_sps F
      rcases List.eq_nil_or_concat F with rfl | ⟨G, p', hG⟩
      · have eL : layS [] b B[k + 1]? = [(b, B[k + 1]?)] := rfl
        rw [eL] at hL
        exact ⟨Nat.zero_le _, _, _, rfl, rfl, oF, okL_sps [], (fun h => nomatch h), fun _ => ⟨(fun h => nomatch h), fun _ => ⟨_, rfl, _, hatt, fun _ => ⟨⟨_, rfl⟩, _, rfl, _, hat, sizeLe (by simp), _, rfl, sizeL (by simp), out _ [(b, B[k + 1]?)] _ hL⟩, fun h => nomatch h⟩⟩⟩
      · rw [List.concat_eq_append] at hG
        subst hG
        obtain ⟨a, ph⟩ := p'
        obtain ⟨h, eh, hh⟩ := hF.up b hb (a, ph) (by simp)
        have eh : ph = some h := eh
        subst eh
        have hne : D.eqvs ((G ++ [(a, some h)]).map spD) [] = false := by cases G <;> rfl
        have emap : (G ++ [(a, some h)]).map spD = G.map spD ++ [spD (a, some h)] := by rw [List.map_append]; rfl
        have atl : atI ((G ++ [(a, some h)]).map spD) (-1) = some (spD (a, some h)) := by rw [emap]; exact atI_lastx _ _
        have hix : ixN ((G ++ [(a, some h)]).map spD).length (-1) = some G.length := by rw [List.length_map, List.length_append]; exact ixN_last _
        have hsz : ((G ++ [(a, some h)]).map spD).length < sizeLine := sizeL (by rw [List.length_map]; omega)
        refine ⟨Nat.zero_le _, _, _, rfl, rfl, oF, okL_sps [], fun _ => ⟨_, rfl, _, atl, _, rfl, _, rfl, _, hat, fun h1 => ?_, fun h1 => ⟨_, rfl, _, hatt, fun _ => ?_, fun h => nomatch h⟩⟩, fun h1 => ?_⟩
        · have h1 : decide ((h : Int) = (b : Int)) = true := h1
          have h1 := of_decide_eq_true h1
          have e : h = b := by omega
          subst e
          have eL : layS (G ++ [(a, some h)]) h B[k + 1]? = G ++ [(a, B[k + 1]?)] := by
            unfold layS
            rw [List.getLast?_append, List.getLast?_singleton]
            simp only [Option.some_or, if_true]
            rw [List.dropLast_concat]
          rw [eL] at hL
          have eset : ((G ++ [(a, some h)]).map spD).set G.length (spD (a, B[k + 1]?)) = (G ++ [(a, B[k + 1]?)]).map spD := by
            rw [emap, List.map_append]
            have := List.set_append_right (s := G.map spD) (t := [spD (a, some h)]) G.length (spD (a, B[k + 1]?)) (by rw [List.length_map]; exact Nat.le_refl _)
            rw [this, List.length_map, Nat.sub_self]; rfl
          have := out (some (highD B[k + 1]?)) (G ++ [(a, B[k + 1]?)]) [.lst []] hL
          rw [← eset] at this
          exact ⟨_, rfl, _, atl, _, rfl, sizeLe (by simp), _, rfl, _, hix, this⟩
        · have h1 : decide ((h : Int) = (b : Int)) = false := h1
          have h1 := of_decide_eq_false h1
          have eL : layS (G ++ [(a, some h)]) b B[k + 1]? = (G ++ [(a, some h)]) ++ [(b, B[k + 1]?)] := by
            unfold layS
            rw [List.getLast?_append, List.getLast?_singleton]
            simp only [Option.some_or]
            rw [if_neg (by omega)]
          rw [eL] at hL
          have := out (some (highD B[k + 1]?)) ((G ++ [(a, some h)]) ++ [(b, B[k + 1]?)]) [.lst []] hL
          rw [List.map_append (l₁ := G ++ [(a, some h)])] at this
          exact ⟨⟨_, rfl⟩, _, rfl, _, hat, sizeLe (by simp), _, rfl, hsz, this⟩
        · have h1 : (!(D.eqvs ((G ++ [(a, some h)]).map spD) [])) = false := h1
          rw [hne] at h1; cases h1
  · rintro env S4 ⟨F, c, e, rfl, rfl, hF⟩
    have hFl := hF.len
    have hFl : F.length ≤ (rangeD 0 ((B.map natD).length : Int).toNat).length := hFl
    rw [rangeD_len, hNl] at hFl
    have hF := laid_end hF (by rw [rangeD_len, hNl]; omega)
    refine .inl ⟨_, rfl, out_rtG [.lst (B.map natD), .lst (t.map D.bl)] (by
      show Q (spansD F) (puts S [p, r] [.lst (B.map natD), .lst (t.map D.bl)])
      rw [show puts S [p, r] [.lst (B.map natD), .lst (t.map D.bl)] = S by simp [puts, set_same hp, set_same hr]]
      exact q F hF.1 hF.2 (by omega))⟩

structure Rs (G : List Nat) (l : Nat) : Prop where
  rise : (G ++ [l]).Pairwise (· < ·)
  zero : (G ++ [l])[0]? = some 0
  hi : l ≤ 2000000 * G.length
theorem Rs.first : Rs [] 0 := ⟨List.pairwise_singleton _ _, rfl, Nat.le_refl _⟩
theorem Rs.more {G : List Nat} {l g : Nat} (h : Rs G l) (h1 : 1 ≤ g) (h2 : g ≤ 2000000) : Rs (G ++ [l]) (l + g) := by
  have p := List.pairwise_append.mp h.rise
  refine ⟨List.pairwise_append.mpr ⟨h.rise, List.pairwise_singleton _ _, fun x hx y hy => ?_⟩, ?_, ?_⟩
  · rw [List.mem_singleton.mp hy]
    rcases List.mem_append.mp hx with hx | hx
    · have := p.2.2 x hx l List.mem_cons_self; omega
    · rw [List.mem_singleton.mp hx]; omega
  · rw [List.getElem?_append_left (by simp)]; exact h.zero
  · have := h.hi; rw [List.length_append, List.length_singleton, Nat.mul_succ]; omega
theorem Rs.bord {G : List Nat} {l : Nat} (h : Rs G l) (hl : G.length ≤ 399) : Bord (G ++ [l]) := ⟨h.rise, h.zero, by simp; omega, fun b hb => by
  have p := List.pairwise_append.mp h.rise
  have hh := h.hi
  rcases List.mem_append.mp hb with hb | hb
  · have := p.2.2 b hb l List.mem_cons_self; omega
  · rw [List.mem_singleton.mp hb]; omega⟩
theorem Rs.bord2 {G : List Nat} {l : Nat} (h : Rs G l) (hl : G.length ≤ 399) (h0 : 0 < G.length) : Bord (G ++ [1000000000]) := by
  have p := List.pairwise_append.mp h.rise
  refine ⟨List.pairwise_append.mpr ⟨p.1, List.pairwise_singleton _ _, fun x hx y hy => ?_⟩, ?_, by simp; omega, fun b hb => ?_⟩
  · rw [List.mem_singleton.mp hy]
    have := p.2.2 x hx l List.mem_cons_self
    have := h.hi
    omega
  · have := h.zero
    rw [List.getElem?_append_left h0] at this ⊢; exact this
  · rcases List.mem_append.mp hb with hb | hb
    · have := p.2.2 b hb l List.mem_cons_self
      have := h.hi
      omega
    · rw [List.mem_singleton.mp hb]; exact Nat.le_refl _
def sp__law_borders : DSp := sp1 fun a S Q => ∃ (p q n : Nat) (k : Dk n), a = .ref p ∧ S[q]? = some (dkC k) ∧ S[p]? = some (dkO q k) ∧ q ≠ p ∧ n ≤ 600000000 ∧ ∀ (B : List Nat) (k' : Dk (n + 1400)), Bord B → B.length ≤ 400 → Q (.ref S.length) ((S.set q (dkC k')).set p (dkO q k') ++ [.lst (B.map natD)])
def N__law_borders : List Str := ["_law_deck_here", "_law_most", "_law_many", "_law_found", "_law_gap"]
def sem__law_borders_1 : WS := (sDrop (wM tyL dAppend (wVar 3) (aCons (wOp dAdd (wOp dIx (wVar 3) (wNeg (wC (.int 1)))) (wVar 4)) aNil)))
def sem__law_borders_2 : WS := (sSeq (sAsg (wIxL (lLst (aCons (wC (.int 1)) (aCons (wC (.int 1)) (aCons (wC (.int 2)) (aCons (wOp dAdd (wC (.int 1)) (wCall sp__law_draw (aCons (wVar 0) (aCons (wC (.int 9)) aNil)))) (aCons (wOp dAdd (wC (.int 1)) (wCall sp__law_draw (aCons (wVar 0) (aCons (wOp dMul (wC (.int 2)) (wC (.int 1000000))) aNil)))) aNil)))))) (wCall sp__law_draw (aCons (wVar 0) (aCons (wC (.int 5)) aNil)))) (gNameD 4)) sem__law_borders_1)
def sem__law_borders_3 : WS := (sRet (wVar 3))
def sem__law_borders_4 : WS := (sSeq (sIf (tAndD (tOf (wOp dGt (wVar 2) (wC (.int 1)))) (tOf (wOp dEq (wCall sp__law_draw (aCons (wVar 0) (aCons (wC (.int 4)) aNil))) (wC (.int 0))))) (sAsg (wC (.int 1000000000)) (gSubD (wVar 3) (wNeg (wC (.int 1))) dSet)) sNext) sem__law_borders_3)
def sem__law_borders_5 : WS := (sSeq (sWhile (tOf (wOp dLtT (wLen (wVar 3)) (wVar 2))) (sLoc sem__law_borders_2)) (sLoc sem__law_borders_4))
def sem__law_borders_6 : WS := (sSeq (sAsg (wNew (lLst (aCons (wC (.int 0)) aNil))) (gNameD 3)) sem__law_borders_5)
def sem__law_borders_7 : WS := (sSeq (sAsg (wIxL (lLst (aCons (wOp dAdd (wC (.int 1)) (wCall sp__law_draw (aCons (wVar 0) (aCons (wC (.int 6)) aNil)))) (aCons (wVar 1) aNil))) (wIntB (wOp dEq (wCall sp__law_draw (aCons (wVar 0) (aCons (wC (.int 8)) aNil))) (wC (.int 5))))) (gNameD 2)) sem__law_borders_6)
def sem__law_borders_8 : WS := (sSeq (sAsg (wIxL (lLst (aCons (wC (.int 400)) (aCons (wOp dAdd (wC (.int 1)) (wCall sp__law_draw (aCons (wVar 0) (aCons (wC (.int 400)) aNil)))) aNil))) (wCall sp__law_draw (aCons (wVar 0) (aCons (wC (.int 2)) aNil)))) (gNameD 1)) sem__law_borders_7)
def sem__law_borders : WS := (sLoc sem__law_borders_8)
theorem len__law_borders (ds S Q E) (h : sp__law_borders ds S Q E) : ds.length = 1 := sp1_len h
theorem pf__law_borders (ds S Q E) (h : sp__law_borders ds S Q E) : sem__law_borders (Dend Q) (startD N__law_borders ds) S := by
  obtain ⟨a, rfl, p, q', n, k, rfl, hq, hp, hpq, hn, q⟩ := sp1_inv h
  refine .inr ⟨[q', p], [dkC k, dkO 0 k], [some (.ref 1), none, none, none, none], ⟨by simpa using hpq, (by repeat' first | exact trivial | exact rfl | exact embP rfl | exact embP (by assumption) | exact embR (by assumption) | apply And.intro)⟩, (by repeat' first | exact trivial | exact rfl | exact envP | apply And.intro), ?_⟩
  refine ⟨1, 0, _, k, 400, rfl, rfl, rfl, rfl, by decide, by omega, fun r1 k1 a1 b1 => ⟨sizeLe (by simp), 1, 0, _, k1, 2, rfl, rfl, rfl, rfl, by decide, by omega, fun r2 k2 a2 b2 => ?_⟩⟩
  obtain ⟨most, hm1, hm2⟩ := pickI (xs := [400, 1 + r1]) (P := fun x => 1 ≤ x ∧ x ≤ 400) (by intro x hx; simp only [List.mem_cons, List.not_mem_nil, or_false] at hx; omega) a2 b2
  refine ⟨_, hm1, ?_⟩
  show sem__law_borders_7 (locE [q', p] S (Dend Q)) [some (.ref 1), some (.int most), none, none, none] [dkC k2, dkO 0 k2]
  refine ⟨1, 0, _, k2, 6, rfl, rfl, rfl, rfl, by decide, by omega, fun r3 k3 a3 b3 => ⟨sizeLe (by simp), 1, 0, _, k3, 8, rfl, rfl, rfl, rfl, by decide, by omega, fun r4 k4 a4 b4 => ?_⟩⟩
  have pk : ∃ M : Nat, atI [D.int (1 + r3), .int most] (if decide (r4 = 5) then 1 else 0) = some (.int (M : Int)) ∧ 1 ≤ M ∧ M ≤ 400 := by
    cases decide (r4 = 5)
    · exact ⟨(1 + r3).toNat, by rw [Int.toNat_of_nonneg (by omega)]; rfl, by omega, by omega⟩
    · exact ⟨most.toNat, by rw [Int.toNat_of_nonneg (by omega)]; rfl, by omega, by omega⟩
  obtain ⟨M, hM1, hM2, hM3⟩ := pk
  refine ⟨_, hM1, ?_⟩
  show sem__law_borders_6 (locE [q', p] S (Dend Q)) [some (.ref 1), some (.int most), some (.int (M : Int)), none, none] [dkC k4, dkO 0 k4]
  refine ⟨sizeLe (by simp), fun w env S' => ∃ (G : List Nat) (l : Nat) (k' : Dk (n + 4 + 3 * G.length)) (x : Option D), env = [some (.ref 1), some (.int most), some (.int (M : Int)), some (.ref 2), x] ∧ S' = [dkC k', dkO 0 k', .lst ((G ++ [l]).map natD)] ∧ Rs G l ∧ G.length < M ∧ w = M - G.length, ⟨M, [], 0, k4, none, rfl, rfl, Rs.first, by simp; omega, by simp⟩, ?_⟩
  rintro w env S' ⟨G, l, k5, x, rfl, rfl, hG, hGM, hw⟩
  have hlen : ((G ++ [l]).map natD).length = G.length + 1 := by simp
  refine ⟨_, rfl, fun h => ?_, fun h => ?_⟩
  · have h : decide ((((G ++ [l]).map natD).length : Int) < (M : Int)) = true := h
    have h := of_decide_eq_true h
    rw [hlen] at h
    refine .inl ⟨1, 0, _, k5, 9, rfl, rfl, rfl, rfl, by decide, by omega, fun r5 k6 a5 b5 => ⟨cmul_r (by decide), 1, 0, _, k6, 2 * 1000000, rfl, rfl, rfl, rfl, by decide, by omega, fun r6 k7 a6 b6 => ⟨sizeLe (by simp), 1, 0, _, k7, 5, rfl, rfl, rfl, rfl, by decide, by omega, fun r7 k8 a7 b7 => ?_⟩⟩⟩
    obtain ⟨gap, hg1, hg2⟩ := pickI (xs := [1, 1, 2, 1 + r5, 1 + r6]) (P := fun x => 1 ≤ x ∧ x ≤ 2000000) (by intro x hx; simp only [List.mem_cons, List.not_mem_nil, or_false] at hx; omega) a7 b7
    obtain ⟨g, rfl⟩ : ∃ g : Nat, gap = (g : Int) := ⟨gap.toNat, by omega⟩
    have emap : (G ++ [l]).map natD = G.map natD ++ [natD l] := by rw [List.map_append]; rfl
    have atl : atI ((G ++ [l]).map natD) (-1) = some (natD l) := by rw [emap]; exact atI_lastx _ _
    have hk : n + 4 + 3 * G.length + 1 + 1 + 1 ≤ n + 4 + 3 * (G ++ [l]).length := by simp; omega
    refine ⟨_, hg1, ⟨_, rfl⟩, _, rfl, _, atl, _, rfl, sizeL (by simp; omega), M - (G.length + 1), by omega, G ++ [l], l + g, k8.mono hk, some (.int (g : Int)), rfl, ?_, hG.more (by omega) (by omega), by simp; omega, by simp⟩
    rw [List.map_append (l₁ := G ++ [l])]; rfl
  · have h : decide ((((G ++ [l]).map natD).length : Int) < (M : Int)) = false := h
    have h := of_decide_eq_false h
    rw [hlen] at h
    have hG399 : G.length ≤ 399 := by omega
    have fin : ∀ (B : List Nat) (c : Nat) (k6 : Dk c), c ≤ n + 1400 → Bord B → B.length ≤ 400 → (locE [q', p] S (Dend Q)).rt (.ref 2) [dkC k6, dkO 0 k6, .lst (B.map natD)] := fun B c k6 hk hB hl =>
      out_newG [dkC (k6.mono hk), dkO 0 (k6.mono hk)] (.lst (B.map natD)) (by exact q B (k6.mono hk) hB hl)
    have hix : ixN ((G ++ [l]).map natD).length (-1) = some G.length := by rw [hlen]; exact ixN_last _
    refine .inl ⟨fun h1 => ⟨1, 0, _, k5, 4, rfl, rfl, rfl, rfl, by decide, by omega, fun r k6 a b => ⟨fun _ => ?_, fun _ => fin _ _ k6 (by omega) (hG.bord hG399) (by simp; omega)⟩⟩, fun h1 => ⟨(fun h => nomatch h), fun _ => fin _ _ k5 (by omega) (hG.bord hG399) (by simp; omega)⟩⟩
    have h1 : decide ((1 : Int) < (M : Int)) = true := h1
    have h1 := of_decide_eq_true h1
    have eset : ((G ++ [l]).map natD).set G.length (.int 1000000000) = (G ++ [1000000000]).map natD := by
      rw [List.map_append, List.map_append]
      have := List.set_append_right (s := G.map natD) (t := [natD l]) G.length (.int 1000000000) (by rw [List.length_map]; exact Nat.le_refl _)
      show (G.map natD ++ [natD l]).set G.length (.int 1000000000) = _
      rw [this, List.length_map, Nat.sub_self]; rfl
    have := fin (G ++ [1000000000]) _ k6 (by omega) (hG.bord2 hG399 (by omega)) (by simp; omega)
    rw [← eset] at this
    exact ⟨_, rfl, _, hix, this⟩

def sp__law_truths : DSp := sp2 fun a b S Q => ∃ (p q n : Nat) (k : Dk n) (m : Nat), a = .ref p ∧ b = .int (m : Int) ∧ S[q]? = some (dkC k) ∧ S[p]? = some (dkO q k) ∧ q ≠ p ∧ (m ≤ 500 ∧ n ≤ 600000000) ∧ ∀ (t : List Bool) (k' : Dk (n + 510)), t.length = m → Q (.ref S.length) ((S.set q (dkC k')).set p (dkO q k') ++ [.lst (t.map D.bl)])
def N__law_truths : List Str := ["_law_deck_here", "_law_many", "_law_way", "_law_k", "_law_turn"]
def sem__law_truths_1 : WS := (sRet (wNew (lLc (iRange1 (aCons (wVar 1) aNil)) (gNameD 3) tYesD (wOp dEq (wOp dMod (wVar 3) (wC (.int 2))) (wVar 4)) [3])))
def sem__law_truths_2 : WS := (sRet (wNew (lLc (iRange1 (aCons (wVar 1) aNil)) (gNameD 3) tYesD (wOp dEq (wCall sp__law_draw (aCons (wVar 0) (aCons (wC (.int 2)) aNil))) (wC (.int 1))) [3])))
def sem__law_truths_3 : WS := (sSeq (sIf (tOf (wOp dEq (wVar 2) (wC (.int 2)))) (sSeq (sAsg (wCall sp__law_draw (aCons (wVar 0) (aCons (wC (.int 2)) aNil))) (gNameD 4)) sem__law_truths_1) sNext) sem__law_truths_2)
def sem__law_truths_4 : WS := (sSeq (sIf (tOf (wOp dLtT (wVar 2) (wC (.int 2)))) (sRet (wNew (lLc (iRange1 (aCons (wVar 1) aNil)) (gNameD 3) tYesD (wOp dEq (wVar 2) (wC (.int 1))) [3]))) sNext) sem__law_truths_3)
def sem__law_truths_5 : WS := (sSeq (sAsg (wCall sp__law_draw (aCons (wVar 0) (aCons (wC (.int 6)) aNil))) (gNameD 2)) sem__law_truths_4)
def sem__law_truths : WS := (sLoc sem__law_truths_5)
theorem len__law_truths (ds S Q E) (h : sp__law_truths ds S Q E) : ds.length = 2 := sp2_len h
theorem pf__law_truths (ds S Q E) (h : sp__law_truths ds S Q E) : sem__law_truths (Dend Q) (startD N__law_truths ds) S := by
  obtain ⟨a, b, rfl, p, q', n, k, m, rfl, rfl, hq, hp, hpq, ⟨hm, hn⟩, q⟩ := sp2_inv h
  refine .inr ⟨[q', p], [dkC k, dkO 0 k], [some (.ref 1), some (.int (m : Int)), none, none, none], ⟨by simpa using hpq, (by repeat' first | exact trivial | exact rfl | exact embP rfl | exact embP (by assumption) | exact embR (by assumption) | apply And.intro)⟩, (by repeat' first | exact trivial | exact rfl | exact envP | apply And.intro), ?_⟩
  have fin : ∀ (t : List Bool) (c : Nat) (k6 : Dk c), c ≤ n + 510 → t.length = m → (locE [q', p] S (Dend Q)).rt (.ref 2) [dkC k6, dkO 0 k6, .lst (t.map D.bl)] := fun t c k6 hk ht =>
    out_newG [dkC (k6.mono hk), dkO 0 (k6.mono hk)] (.lst (t.map D.bl)) (by exact q t (k6.mono hk) ht)
  have app : ∀ (t : List Bool) (b : Bool), t.map D.bl ++ [D.bl b] = (t ++ [b]).map D.bl := fun t b => by rw [List.map_append]; rfl
  have rl : (rangeD 0 (m : Int).toNat).length = m := by rw [rangeD_len]; omega
  refine ⟨1, 0, _, k, 6, rfl, rfl, rfl, rfl, by decide, by omega, fun w k1 w0 w1 => ⟨fun _ => ?_, fun _ => ⟨fun _ => ?_, fun _ => ?_⟩⟩⟩
  · refine ⟨⟨by omega, by omega⟩, fun i acc S' => ∃ t : List Bool, acc = t.map D.bl ∧ t.length = i ∧ S' = [dkC k1, dkO 0 k1], ⟨[], rfl, rfl, rfl⟩, fun _ _ _ _ _ => trivial, ?_, ?_⟩
    · rintro i d acc S' hi ⟨t, rfl, ht, rfl⟩
      obtain ⟨hi', rfl⟩ := range_get hi
      have hi2 : i < m := hi'
      exact ⟨fun _ => ⟨sizeL (by rw [List.length_map]; omega), _, app _ _, by simp [ht], rfl⟩, fun h => nomatch h⟩
    · rintro acc S' ⟨t, rfl, ht, rfl⟩
      exact fin t _ k1 (by omega) (ht.trans rl)
  · refine ⟨1, 0, _, k1, 2, rfl, rfl, rfl, rfl, by decide, by omega, fun r k2 r0 r1 => ?_⟩
    refine ⟨⟨by omega, by omega⟩, fun i acc S' => ∃ t : List Bool, acc = t.map D.bl ∧ t.length = i ∧ S' = [dkC k2, dkO 0 k2], ⟨[], rfl, rfl, rfl⟩, fun _ _ _ _ _ => trivial, ?_, ?_⟩
    · rintro i d acc S' hi ⟨t, rfl, ht, rfl⟩
      obtain ⟨hi', rfl⟩ := range_get hi
      have hi2 : i < m := hi'
      exact ⟨fun _ => ⟨by decide, sizeL (by rw [List.length_map]; omega), _, app _ _, by simp [ht], rfl⟩, fun h => nomatch h⟩
    · rintro acc S' ⟨t, rfl, ht, rfl⟩
      exact fin t _ k2 (by omega) (ht.trans rl)
  · refine ⟨⟨by omega, by omega⟩, fun i acc S' => i ≤ m ∧ ∃ (t : List Bool) (k2 : Dk (n + 1 + i)), acc = t.map D.bl ∧ t.length = i ∧ S' = [dkC k2, dkO 0 k2], ⟨Nat.zero_le _, [], k1, rfl, rfl, rfl⟩, fun _ _ _ _ _ => trivial, ?_, ?_⟩
    · rintro i d acc S' hi ⟨_, t, k2, rfl, ht, rfl⟩
      obtain ⟨hi', rfl⟩ := range_get hi
      have hi2 : i < m := hi'
      exact ⟨fun _ => ⟨1, 0, _, k2, 2, rfl, rfl, rfl, rfl, by decide, by omega, fun r k3 r0 r1 => ⟨sizeL (by rw [List.length_map]; omega), by omega, _, k3, app _ _, by simp [ht], rfl⟩⟩, fun h => nomatch h⟩
    · rintro acc S' ⟨_, t, k2, rfl, ht, rfl⟩
      exact fin t _ k2 (by rw [rl]; omega) (ht.trans rl)

/-! things of any kind -/
def tyB (T : Ty) : D → Bool
  | .non => Ty.sub .non T
  | .bl _ => Ty.sub .bool T
  | .int _ => Ty.sub .int T
  | .str _ => Ty.sub .str T
  | .tup _ => Ty.sub .tuple T
  | _ => false
structure Seen (S : Sto) (x : D) : Prop where
  ty : tyIn x S fun _ => True
  len : ∀ s, x = .str s → s.length ≤ 1000
abbrev plainTy (T : Ty) : Prop := T = .int ∨ T = .bool ∨ T = .str ∨ T = .tuple
theorem tyIn_k {S : Sto} {x : D} {T : Ty} {Q : WK} (h : Seen S x) (hT : plainTy T) (k : Q (.bl (tyB T x)) S) : tyIn x S fun t => Q (.bl (Ty.sub t T)) S := by
  have ht := h.ty
  have e1 : Ty.sub .list T = false := by rcases hT with rfl | rfl | rfl | rfl <;> rfl
  have e2 : Ty.sub .dict T = false := by rcases hT with rfl | rfl | rfl | rfl <;> rfl
  cases x with
  | non => exact k
  | bl b => exact k
  | int b => exact k
  | str b => exact k
  | tup b => exact k
  | rol b => show Q (.bl (Ty.sub .list T)) S; rw [e1]; exact k
  | ref p =>
    obtain ⟨o, ho, _⟩ := ht
    refine ⟨o, ho, ?_⟩
    cases o with
    | lst _ => show Q (.bl (Ty.sub .list T)) S; rw [e1]; exact k
    | dK _ => show Q (.bl (Ty.sub .dict T)) S; rw [e2]; exact k
    | dT _ => show Q (.bl (Ty.sub .dict T)) S; rw [e2]; exact k
    | _ => assumption
  | _ => exact ht
theorem isi_k {i : Nat} {a : D} {env : En} {S : Sto} {Q : WK} {T : Ty} (he : env[i]? = some (some a)) (h : Seen S a) (hT : plainTy T) (k : Q (.bl (tyB T a)) S) : wIsi T (wVar i) env S Q := by
  refine isi_mono (R := fun t => Q (.bl (Ty.sub t T)) S) he (tyIn_k h hT k) fun t z => z

/-! spans of anything -/
abbrev Knd (S : Sto) (x : D) : Prop := tyIn x S fun _ => True
theorem isi_any {i : Nat} {a : D} {env : En} {S : Sto} {Q : WK} {T : Ty} (he : env[i]? = some (some a)) (ht : Knd S a) (hT : plainTy T) (k : Q (.bl (tyB T a)) S) : wIsi T (wVar i) env S Q := by
  refine isi_mono (R := fun t => Q (.bl (Ty.sub t T)) S) he ?_ fun t z => z
  have e1 : Ty.sub .list T = false := by rcases hT with rfl | rfl | rfl | rfl <;> rfl
  have e2 : Ty.sub .dict T = false := by rcases hT with rfl | rfl | rfl | rfl <;> rfl
  cases a with
  | non => exact k
  | bl b => exact k
  | int b => exact k
  | str b => exact k
  | tup b => exact k
  | rol b => show Q (.bl (Ty.sub .list T)) S; rw [e1]; exact k
  | ref p =>
    obtain ⟨o, ho, h3⟩ := ht
    refine ⟨o, ho, ?_⟩
    cases o with
    | lst _ => show Q (.bl (Ty.sub .list T)) S; rw [e1]; exact k
    | dK _ => show Q (.bl (Ty.sub .dict T)) S; rw [e2]; exact k
    | dT _ => show Q (.bl (Ty.sub .dict T)) S; rw [e2]; exact k
    | _ => exact h3
  | _ => exact ht
def isW : D → Bool
  | .int _ => true
  | _ => false
def prH (l : Int) : D → Bool
  | .non => true
  | .int k => decide (l < k)
  | _ => false
def prB : D → Bool
  | .tup xs => (match xs with
    | [u, h] => (match u with
      | .int l => decide (0 ≤ l) && prH l h
      | _ => false)
    | _ => false)
  | _ => false
def cB : D → D → Bool
  | .tup [_, .int h], .tup (.int l :: _) => decide (h < l)
  | _, _ => false
def chB : List D → Bool
  | a :: b :: r => cB a b && chB (b :: r)
  | _ => true
def spB : D → Bool
  | .tup xs => xs.all prB && chB xs
  | _ => false
theorem isW_int {x : D} (h : isW x = true) : ∃ i, x = .int i := by
  cases x <;> first | exact ⟨_, rfl⟩ | exact nomatch h
theorem prB_len {xs : List D} (h : xs.length ≠ 2) : prB (.tup xs) = false := by
  match xs, h with
  | [], _ => rfl
  | [_], _ => rfl
  | [_, _], h => exact absurd rfl h
  | _ :: _ :: _ :: _, _ => rfl
theorem prH_no {l : Int} {v : D} (h1 : isN v = false) (h2 : isW v = false) : prH l v = false := by
  cases v with
  | non => cases h1
  | int k => cases h2
  | _ => rfl
theorem prB_w {u v : D} (h : isW u = false) : prB (.tup [u, v]) = false := by
  cases u <;> first | rfl | exact nomatch h
theorem prB_inv {x : D} (h : prB x = true) : ∃ (l : Int) (d : D), x = .tup [.int l, d] ∧ 0 ≤ l ∧ (d = .non ∨ ∃ k, d = .int k ∧ l < k) := by
  by_cases ht : ∃ xs, x = .tup xs
  · obtain ⟨xs, rfl⟩ := ht
    by_cases hl : xs.length = 2
    · match xs, hl with
      | [u, d], _ =>
        cases u with
        | int l =>
          have h : (decide (0 ≤ l) && prH l d) = true := h
          simp only [Bool.and_eq_true, decide_eq_true_eq] at h
          refine ⟨l, d, rfl, h.1, ?_⟩
          have h2 := h.2
          cases d <;> first | exact .inl rfl | exact .inr ⟨_, rfl, of_decide_eq_true h2⟩ | exact nomatch h2
        | _ => exact nomatch h
    · rw [prB_len hl] at h; exact nomatch h
  · have : prB x = false := by cases x <;> first | rfl | exact absurd ⟨_, rfl⟩ ht
    rw [this] at h; exact nomatch h
def sp_is_whole : DSp := sp1 fun a S Q => Knd S a ∧ Q (.bl (isW a)) S
def N_is_whole : List Str := ["thing"]
def sem_is_whole : WS := (sRet (wAnd (wIsi .int (wVar 0)) (wNot (wIsi .bool (wVar 0)))))
theorem len_is_whole (ds S Q E) (h : sp_is_whole ds S Q E) : ds.length = 1 := sp1_len h
theorem pf_is_whole (ds S Q E) (h : sp_is_whole ds S Q E) : sem_is_whole (Dend Q) (startD N_is_whole ds) S := by
  obtain ⟨a, rfl, ha, q⟩ := sp1_inv h
  unfold sem_is_whole sRet wAnd
  refine isi_any (i := 0) (T := .int) rfl ha (.inl rfl) ⟨fun h1 => ?_, fun h1 => ?_⟩
  · unfold wNot
    refine isi_any (i := 0) (T := .bool) rfl ha (.inr (.inl rfl)) ?_
    have e : (!tyB .bool a) = isW a := by cases a <;> first | rfl | exact nomatch h1
    show Q (.bl (!tyB .bool a)) S
    rw [e]; exact q
  · have e : isW a = false := by cases a <;> first | rfl | exact nomatch h1
    rw [e] at q
    exact q
def sp__law_whole : DSp := sp1 fun a S Q => Knd S a ∧ Q (.bl (isW a)) S
def N__law_whole : List Str := ["_law_thing"]
def sem__law_whole : WS := (sRet (wAnd (wIsi .int (wVar 0)) (wNot (wIsi .bool (wVar 0)))))
theorem len__law_whole (ds S Q E) (h : sp__law_whole ds S Q E) : ds.length = 1 := sp1_len h
theorem pf__law_whole (ds S Q E) (h : sp__law_whole ds S Q E) : sem__law_whole (Dend Q) (startD N__law_whole ds) S := by
  obtain ⟨a, rfl, ha, q⟩ := sp1_inv h
  unfold sem__law_whole sRet wAnd
  refine isi_any (i := 0) (T := .int) rfl ha (.inl rfl) ⟨fun h1 => ?_, fun h1 => ?_⟩
  · unfold wNot
    refine isi_any (i := 0) (T := .bool) rfl ha (.inr (.inl rfl)) ?_
    have e : (!tyB .bool a) = isW a := by cases a <;> first | rfl | exact nomatch h1
    show Q (.bl (!tyB .bool a)) S
    rw [e]; exact q
  · have e : isW a = false := by cases a <;> first | rfl | exact nomatch h1
    rw [e] at q
    exact q
abbrev Knds (S : Sto) (a : D) : Prop := Knd S a ∧ ∀ xs, a = .tup xs → ∀ x ∈ xs, Knd S x
def sp_is_pair : DSp := sp1 fun a S Q => Knds S a ∧ Q (.bl (prB a)) S
def N_is_pair : List Str := ["thing"]
def sem_is_pair_1 : WS := (sRet (wOr (wOp dIs (wOp dIx (wVar 0) (wC (.int 1))) (wC .non)) (wAnd (wCall sp_is_whole (aCons (wOp dIx (wVar 0) (wC (.int 1))) aNil)) (wOp dLtT (wOp dIx (wVar 0) (wC (.int 0))) (wOp dIx (wVar 0) (wC (.int 1)))))))
def sem_is_pair : WS := (sSeq (sIf (tOrD (tNotD (tOf (wIsi .tuple (wVar 0)))) (tOrD (tOf (wOp dNe (wLen (wVar 0)) (wC (.int 2)))) (tOrD (tNotD (tOf (wCall sp_is_whole (aCons (wOp dIx (wVar 0) (wC (.int 0))) aNil)))) (tOf (wOp dLtT (wOp dIx (wVar 0) (wC (.int 0))) (wC (.int 0))))))) (sRet (wC (.bl false))) sNext) sem_is_pair_1)
theorem len_is_pair (ds S Q E) (h : sp_is_pair ds S Q E) : ds.length = 1 := sp1_len h
theorem tyB_tup {a : D} (h : ¬ ∃ xs, a = .tup xs) : tyB .tuple a = false := by
  cases a <;> first | rfl | exact absurd ⟨_, rfl⟩ h
theorem prB_tup {a : D} (h : ¬ ∃ xs, a = .tup xs) : prB a = false := by
  cases a <;> first | rfl | exact absurd ⟨_, rfl⟩ h
theorem two {α : Type} {xs : List α} (h : xs.length = 2) : ∃ u v, xs = [u, v] := by
  match xs, h with
  | [u, v], _ => exact ⟨u, v, rfl⟩
theorem pf_is_pair (ds S Q E) (h : sp_is_pair ds S Q E) : sem_is_pair (Dend Q) (startD N_is_pair ds) S := by
  obtain ⟨a, rfl, ⟨ha, hp⟩, q⟩ := sp1_inv h
  by_cases ht : ∃ xs, a = .tup xs
  · obtain ⟨xs, rfl⟩ := ht
    have hp := hp xs rfl
    refine ⟨(fun h => nomatch h), fun _ => ?_⟩
    refine ⟨fun h => ?_, fun h => ?_⟩
    · have h : (!decide ((xs.length : Int) = 2)) = true := h
      rw [prB_len fun e => by rw [decide_eq_true (by omega)] at h; exact nomatch h] at q
      exact ⟨fun _ => q, fun h => nomatch h⟩
    have h : (!decide ((xs.length : Int) = 2)) = false := h
    obtain ⟨u, v, rfl⟩ := two (xs := xs) (by
      by_cases e : xs.length = 2
      · exact e
      · rw [decide_eq_false (by omega)] at h; exact nomatch h)
    have hu := hp u (by simp)
    have hv := hp v (by simp)
    refine ⟨u, rfl, hu, fun h => ?_, fun h => ?_⟩
    · have h : (!isW u) = true := h
      rw [prB_w (by simpa using h)] at q
      exact ⟨fun _ => q, fun h => nomatch h⟩
    have h : (!isW u) = false := h
    obtain ⟨l, rfl⟩ := isW_int (x := u) (by simpa using h)
    refine ⟨_, rfl, fun h => ?_, fun h => ?_⟩
    · have h : decide (l < 0) = true := h
      have h := of_decide_eq_true h
      have e : prB (.tup [.int l, v]) = false := by show (decide (0 ≤ l) && prH l v) = false; rw [decide_eq_false (by omega)]; rfl
      rw [e] at q
      exact q
    have h : decide (l < 0) = false := h
    have h := of_decide_eq_false h
    have e : prB (.tup [.int l, v]) = prH l v := by show (decide (0 ≤ l) && prH l v) = prH l v; rw [decide_eq_true (by omega)]; rfl
    rw [e] at q
    refine ⟨v, rfl, fun h1 => ?_, fun h1 => ?_⟩
    · have h1 : isN v = true := h1
      have e : prH l v = true := by cases v <;> first | rfl | exact nomatch h1
      rw [e] at q; exact q
    · have h1 : isN v = false := h1
      refine ⟨v, rfl, hv, fun h2 => ?_, fun h2 => ?_⟩
      · obtain ⟨k, rfl⟩ := isW_int h2
        exact ⟨_, rfl, _, rfl, q⟩
      · have h2 : isW v = false := h2
        have e : prH l v = false := prH_no h1 h2
        rw [e] at q; exact q
  · rw [prB_tup ht] at q
    have e := tyB_tup ht
    unfold sem_is_pair sSeq sIf tOrD tNotD tOf
    refine isi_any (i := 0) (T := .tuple) rfl ha (.inr (.inr (.inr rfl))) ⟨fun _ => ⟨fun _ => q, fun h => nomatch h⟩, fun h => ?_⟩
    have h : (!tyB .tuple a) = false := h
    rw [e] at h; exact nomatch h
def sp__law_is_pair : DSp := sp1 fun a S Q => Knds S a ∧ Q (.bl (prB a)) S
def N__law_is_pair : List Str := ["_law_thing"]
def sem__law_is_pair_1 : WS := (sRet (wAnd (wCall sp__law_whole (aCons (wOp dIx (wVar 0) (wC (.int 1))) aNil)) (wOp dGt (wOp dIx (wVar 0) (wC (.int 1))) (wOp dIx (wVar 0) (wC (.int 0))))))
def sem__law_is_pair_2 : WS := (sSeq (sIf (tOf (wOp dIs (wOp dIx (wVar 0) (wC (.int 1))) (wC .non))) (sRet (wC (.bl true))) sNext) sem__law_is_pair_1)
def sem__law_is_pair : WS := (sSeq (sIf (tOrD (tNotD (tOf (wIsi .tuple (wVar 0)))) (tOrD (tOf (wOp dNe (wLen (wVar 0)) (wC (.int 2)))) (tOrD (tNotD (tOf (wCall sp__law_whole (aCons (wOp dIx (wVar 0) (wC (.int 0))) aNil)))) (tOf (wOp dLtT (wOp dIx (wVar 0) (wC (.int 0))) (wC (.int 0))))))) (sRet (wC (.bl false))) sNext) sem__law_is_pair_2)
theorem len__law_is_pair (ds S Q E) (h : sp__law_is_pair ds S Q E) : ds.length = 1 := sp1_len h
theorem pf__law_is_pair (ds S Q E) (h : sp__law_is_pair ds S Q E) : sem__law_is_pair (Dend Q) (startD N__law_is_pair ds) S := by
  obtain ⟨a, rfl, ⟨ha, hp⟩, q⟩ := sp1_inv h
  by_cases ht : ∃ xs, a = .tup xs
  · obtain ⟨xs, rfl⟩ := ht
    have hp := hp xs rfl
    refine ⟨(fun h => nomatch h), fun _ => ?_⟩
    refine ⟨fun h => ?_, fun h => ?_⟩
    · have h : (!decide ((xs.length : Int) = 2)) = true := h
      rw [prB_len fun e => by rw [decide_eq_true (by omega)] at h; exact nomatch h] at q
      exact ⟨fun _ => q, fun h => nomatch h⟩
    have h : (!decide ((xs.length : Int) = 2)) = false := h
    obtain ⟨u, v, rfl⟩ := two (xs := xs) (by
      by_cases e : xs.length = 2
      · exact e
      · rw [decide_eq_false (by omega)] at h; exact nomatch h)
    have hu := hp u (by simp)
    have hv := hp v (by simp)
    refine ⟨u, rfl, hu, fun h => ?_, fun h => ?_⟩
    · have h : (!isW u) = true := h
      rw [prB_w (by simpa using h)] at q
      exact ⟨fun _ => q, fun h => nomatch h⟩
    have h : (!isW u) = false := h
    obtain ⟨l, rfl⟩ := isW_int (x := u) (by simpa using h)
    refine ⟨_, rfl, fun h => ?_, fun h => ?_⟩
    · have h : decide (l < 0) = true := h
      have h := of_decide_eq_true h
      have e : prB (.tup [.int l, v]) = false := by show (decide (0 ≤ l) && prH l v) = false; rw [decide_eq_false (by omega)]; rfl
      rw [e] at q
      exact q
    have h : decide (l < 0) = false := h
    have h := of_decide_eq_false h
    have e : prB (.tup [.int l, v]) = prH l v := by show (decide (0 ≤ l) && prH l v) = prH l v; rw [decide_eq_true (by omega)]; rfl
    rw [e] at q
    refine ⟨v, rfl, fun h1 => ?_, fun h1 => ?_⟩
    · have h1 : isN v = true := h1
      have e : prH l v = true := by cases v <;> first | rfl | exact nomatch h1
      rw [e] at q; exact q
    · have h1 : isN v = false := h1
      refine ⟨v, rfl, hv, fun h2 => ?_, fun h2 => ?_⟩
      · obtain ⟨k, rfl⟩ := isW_int h2
        exact ⟨_, rfl, _, rfl, q⟩
      · have h2 : isW v = false := h2
        have e : prH l v = false := prH_no h1 h2
        rw [e] at q; exact q
  · rw [prB_tup ht] at q
    have e := tyB_tup ht
    unfold sem__law_is_pair sSeq sIf tOrD tNotD tOf
    refine isi_any (i := 0) (T := .tuple) rfl ha (.inr (.inr (.inr rfl))) ⟨fun _ => ⟨fun _ => q, fun h => nomatch h⟩, fun h => ?_⟩
    have h : (!tyB .tuple a) = false := h
    rw [e] at h; exact nomatch h
theorem chB_iff {xs : List D} : chB xs = true ↔ ∀ j a b, xs[j]? = some a → xs[j + 1]? = some b → cB a b = true := by
  induction xs with
  | nil => exact ⟨fun _ j a b h => by simp at h, fun _ => rfl⟩
  | cons x xs ih =>
    cases xs with
    | nil => exact ⟨fun _ j a b _ h => by simp at h, fun _ => rfl⟩
    | cons y r =>
      show (cB x y && chB (y :: r)) = true ↔ _
      rw [Bool.and_eq_true, ih]
      constructor
      · rintro ⟨h1, h2⟩ j a b ha hb
        cases j with
        | zero => cases ha; cases hb; exact h1
        | succ j => exact h2 j a b ha hb
      · intro h
        exact ⟨h 0 x y rfl rfl, fun j a b ha hb => h (j + 1) a b ha hb⟩
theorem cut_last (xs : List D) : Z.cutD xs none (some (-1)) = xs.take (xs.length - 1) := by
  unfold Z.cutD
  have e : HT.sIx xs.length xs.length (some (-1)) = xs.length - 1 := by
    show (if (-1 : Int) < 0 then ((-1 : Int) + (xs.length : Int)).toNat else min (-1 : Int).toNat xs.length) = _
    rw [if_pos (by decide)]; omega
  rw [e]
  show (xs.drop 0).take (xs.length - 1 - 0) = _
  rw [List.drop_zero, Nat.sub_zero]
abbrev Deep (S : Sto) (a : D) : Prop := Knd S a ∧ ∀ xs, a = .tup xs → xs.length ≤ 60000 ∧ ∀ x ∈ xs, Knds S x
def sp_is_spans : DSp := sp1 fun a S Q => Deep S a ∧ Q (.bl (spB a)) S
def N_is_spans : List Str := ["thing", "one", "other"]
def sem_is_spans_1 : WS := (sIf (tOrD (tOf (wOp dIs (wOp dIx (wVar 1) (wC (.int 1))) (wC .non))) (tOf (wOp dGe (wOp dIx (wVar 1) (wC (.int 1))) (wOp dIx (wVar 2) (wC (.int 0)))))) (sRet (wC (.bl false))) sNext)
def sem_is_spans_2 : WS := (sRet (wC (.bl true)))
def sem_is_spans_3 : WS := (sSeq (sFor (iZip (wSl (wVar 0) oNone (oSome (wNeg (wC (.int 1))))) (wSl (wVar 0) (oSome (wC (.int 1))) oNone)) (gTupD 2 (gConsD (gNameD 1) (gConsD (gNameD 2) gNilD))) sem_is_spans_1) sem_is_spans_2)
def sem_is_spans : WS := (sSeq (sIf (tOrD (tNotD (tOf (wIsi .tuple (wVar 0)))) (tNotD (tOf (wQ dAll (lLc (iSeq (wVar 0)) (gNameD 1) tYesD (wCall sp_is_pair (aCons (wVar 1) aNil)) [1]))))) (sRet (wC (.bl false))) sNext) sem_is_spans_3)
theorem len_is_spans (ds S Q E) (h : sp_is_spans ds S Q E) : ds.length = 1 := sp1_len h
theorem pf_is_spans (ds S Q E) (h : sp_is_spans ds S Q E) : sem_is_spans (Dend Q) (startD N_is_spans ds) S := by
  obtain ⟨a, rfl, ⟨ha, hp⟩, q⟩ := sp1_inv h
  by_cases ht : ∃ xs, a = .tup xs
  · obtain ⟨xs, rfl⟩ := ht
    obtain ⟨hl, hp⟩ := hp xs rfl
    refine ⟨(fun h => nomatch h), fun _ => ⟨fun j acc S' => acc = ((xs.take j).map fun d => D.bl (prB d)) ∧ S' = S, ⟨rfl, rfl⟩, fun _ _ _ _ _ => trivial, ?_, ?_⟩⟩
    · rintro j d acc S' hj ⟨rfl, rfl⟩
      have hj : xs[j]? = some d := hj
      have hsz : ((xs.take j).map fun d => D.bl (prB d)).length < sizeLine := sizeL (by rw [List.length_map, List.length_take]; omega)
      exact ⟨fun _ => ⟨hp d (List.mem_of_getElem? hj), hsz, by rw [take_succ_eq hj, List.map_append]; rfl, rfl⟩, fun h => nomatch h⟩
    · rintro acc S' ⟨rfl, rfl⟩
      rw [show ({ items := xs, ok := fun _ => True } : Iter).items.length = xs.length from rfl, List.take_length]
      refine ⟨xs.map prB, by rw [List.map_map]; rfl, ?_⟩
      rw [show (xs.map prB).all id = xs.all prB by rw [List.all_map]; rfl]
      have q : Q (.bl (xs.all prB && chB xs)) S' := q
      refine ⟨fun h => ?_, fun h => ?_⟩
      · have h : (!xs.all prB) = true := h
        rw [show xs.all prB = false by simpa using h] at q
        exact q
      have h : (!xs.all prB) = false := h
      have hall : xs.all prB = true := by simpa using h
      rw [hall, Bool.true_and] at q
      have pr : ∀ {j : Nat} {x : D}, xs[j]? = some x → prB x = true := fun hx => List.all_eq_true.mp hall _ (List.mem_of_getElem? hx)
      refine ⟨fun i env S2 => ∃ d e, env = [some (.tup xs), d, e] ∧ S2 = S' ∧ ∀ j a b, j < i → xs[j]? = some a → xs[j + 1]? = some b → cB a b = true, ⟨none, none, rfl, rfl, fun j a b h => by omega⟩, fun _ _ _ _ _ => trivial, ?_, ?_⟩
      · rintro i d env S2 hi ⟨x1, x2, rfl, rfl, hc⟩
        have hi : (zipD (Z.cutD xs none (some (-1))) (Z.cutD xs (some 1) none))[i]? = some d := hi
        have hil : i < xs.length - 1 := by
          have := (List.getElem?_eq_some_iff.mp hi).1
          rw [zipD_len, cut_last, List.length_take] at this; omega
        obtain ⟨p, hp1⟩ : ∃ p, xs[i]? = some p := ⟨_, List.getElem?_eq_getElem (by omega)⟩
        obtain ⟨p', hp2⟩ : ∃ p, xs[i + 1]? = some p := ⟨_, List.getElem?_eq_getElem (by omega)⟩
        have c1 : (Z.cutD xs none (some (-1)))[i]? = some p := by
          rw [cut_last, List.getElem?_take, if_pos (by omega)]; exact hp1
        have c2 : (Z.cutD xs (some 1) none)[i]? = some p' := by
          have : Z.cutD xs (some ((1 : Nat) : Int)) none = xs.drop 1 := by
            have := Z.cut_drop (id : D → D) xs 1
            rw [List.map_id, List.map_id] at this; exact this
          rw [show (some (1 : Int)) = some ((1 : Nat) : Int) from rfl, this, List.getElem?_drop, Nat.add_comm]; exact hp2
        rw [zipD_get c1 c2] at hi
        cases hi
        obtain ⟨l, dd, rfl, l0, hd⟩ := prB_inv (pr hp1)
        obtain ⟨l', dd', rfl, l0', hd'⟩ := prB_inv (pr hp2)
        have bad : cB (.tup [.int l, dd]) (.tup [.int l', dd']) = false → Q (.bl false) S2 := fun e => by
          have e2 : chB xs = false := by
            cases h : chB xs with
            | false => rfl
            | true => rw [chB_iff.mp h i _ _ hp1 hp2] at e; exact nomatch e
          rw [e2] at q; exact q
        refine ⟨rfl, ?_⟩
        rcases hd with rfl | ⟨k, rfl, hk⟩
        · exact ⟨_, rfl, fun _ => ⟨fun _ => bad rfl, fun h => nomatch h⟩, fun h => nomatch h⟩
        · refine ⟨_, rfl, (fun h => nomatch h), fun _ => ⟨_, rfl, _, rfl, fun h => ?_, fun h => ?_⟩⟩
          · have h : decide (l' ≤ k) = true := h
            have h := of_decide_eq_true h
            exact bad (decide_eq_false (by omega))
          · have h : decide (l' ≤ k) = false := h
            have h := of_decide_eq_false h
            refine ⟨_, _, rfl, rfl, fun j a b hj h1 h2 => ?_⟩
            by_cases e : j = i
            · subst e
              rw [hp1] at h1
              rw [hp2] at h2
              cases h1; cases h2
              exact decide_eq_true (by omega)
            · exact hc j a b (by omega) h1 h2
      · rintro env S2 ⟨x1, x2, rfl, rfl, hc⟩
        have e : chB xs = true := chB_iff.mpr fun j a b h1 h2 => hc j a b (by
          show j < (zipD (Z.cutD xs none (some (-1))) (Z.cutD xs (some 1) none)).length
          have := (List.getElem?_eq_some_iff.mp h2).1
          have e3 : (Z.cutD xs (some 1) none).length = xs.length - 1 := by
            have : Z.cutD xs (some ((1 : Nat) : Int)) none = xs.drop 1 := by
              have := Z.cut_drop (id : D → D) xs 1
              rw [List.map_id, List.map_id] at this; exact this
            rw [show (some (1 : Int)) = some ((1 : Nat) : Int) from rfl, this, List.length_drop]
          rw [zipD_len, cut_last, e3, List.length_take]; omega) h1 h2
        rw [e] at q
        exact q
  · have e := tyB_tup ht
    have e2 : spB a = false := by cases a <;> first | rfl | exact absurd ⟨_, rfl⟩ ht
    rw [e2] at q
    unfold sem_is_spans sSeq sIf tOrD tNotD tOf
    refine isi_any (i := 0) (T := .tuple) rfl ha (.inr (.inr (.inr rfl))) ⟨fun _ => ⟨fun _ => q, fun h => nomatch h⟩, fun h => ?_⟩
    have h : (!tyB .tuple a) = false := h
    rw [e] at h; exact nomatch h
def lwH : D → Option Int
  | .tup [_, .int h] => some h
  | _ => none
def lwL : D → Int
  | .tup (.int l :: _) => l
  | _ => 0
def lw : Option Int → List D → Bool
  | _, [] => true
  | none, _ :: _ => false
  | some l, d :: r => prB d && (decide (l < lwL d) && lw (lwH d) r)
theorem lw_all : ∀ (xs : List D) (d : D), prB d = true → lw (lwH d) xs = (xs.all prB && chB (d :: xs))
  | [], d, _ => by
    unfold lw; rfl
  | x :: xs, d, hd => by
    obtain ⟨l, dd, rfl, l0, hd⟩ := prB_inv hd
    rcases hd with rfl | ⟨k, rfl, hk⟩
    · show false = _
      show false = ((x :: xs).all prB && (cB (.tup [.int l, .non]) x && chB (x :: xs)))
      rw [show cB (.tup [.int l, .non]) x = false from by unfold cB; rfl]
      simp
    · show (prB x && (decide (k < lwL x) && lw (lwH x) xs)) = ((prB x && xs.all prB) && (cB (.tup [.int l, .int k]) x && chB (x :: xs)))
      cases hx : prB x with
      | false => simp
      | true =>
        rw [lw_all xs x hx]
        obtain ⟨l', dd', rfl, _, _⟩ := prB_inv hx
        show (true && (decide (k < l') && _)) = ((true && _) && (decide (k < l') && _))
        generalize decide (k < l') = b1
        generalize xs.all prB = b2
        generalize chB _ = b3
        cases b1 <;> cases b2 <;> cases b3 <;> rfl
theorem lw_spB (xs : List D) : lw (some (-1)) xs = spB (.tup xs) := by
  cases xs with
  | nil => rfl
  | cons x xs =>
    show (prB x && (decide (-1 < lwL x) && lw (lwH x) xs)) = ((prB x && xs.all prB) && chB (x :: xs))
    cases hx : prB x with
    | false => rfl
    | true =>
      rw [lw_all xs x hx]
      obtain ⟨l', dd', rfl, h0, _⟩ := prB_inv hx
      show (true && (decide (-1 < l') && _)) = _
      rw [decide_eq_true (by omega : -1 < l')]
      simp
abbrev optD : Option Int → D
  | none => .non
  | some i => .int i
def sp__law_are_spans : DSp := sp1 fun a S Q => Deep S a ∧ Q (.bl (spB a)) S
def N__law_are_spans : List Str := ["_law_thing", "_law_last", "_law_pair"]
def sem__law_are_spans_1 : WS := (sAsg (wOp dIx (wVar 2) (wC (.int 1))) (gNameD 1))
def sem__law_are_spans_2 : WS := (sSeq (sIf (tOrD (tOf (wOp dIs (wVar 1) (wC .non))) (tOrD (tNotD (tOf (wCall sp__law_is_pair (aCons (wVar 2) aNil)))) (tOf (wOp dLe (wOp dIx (wVar 2) (wC (.int 0))) (wVar 1))))) (sRet (wC (.bl false))) sNext) sem__law_are_spans_1)
def sem__law_are_spans_3 : WS := (sRet (wC (.bl true)))
def sem__law_are_spans_4 : WS := (sSeq (sFor (iSeq (wVar 0)) (gNameD 2) sem__law_are_spans_2) sem__law_are_spans_3)
def sem__law_are_spans_5 : WS := (sSeq (sAsg (wNeg (wC (.int 1))) (gNameD 1)) sem__law_are_spans_4)
def sem__law_are_spans : WS := (sSeq (sIf (tNotD (tOf (wIsi .tuple (wVar 0)))) (sRet (wC (.bl false))) sNext) sem__law_are_spans_5)
theorem len__law_are_spans (ds S Q E) (h : sp__law_are_spans ds S Q E) : ds.length = 1 := sp1_len h
theorem pf__law_are_spans (ds S Q E) (h : sp__law_are_spans ds S Q E) : sem__law_are_spans (Dend Q) (startD N__law_are_spans ds) S := by
  obtain ⟨a, rfl, ⟨ha, hp⟩, q⟩ := sp1_inv h
  by_cases ht : ∃ xs, a = .tup xs
  · obtain ⟨xs, rfl⟩ := ht
    obtain ⟨hl, hp⟩ := hp xs rfl
    rw [← lw_spB] at q
    refine ⟨(fun h => nomatch h), fun _ => ?_⟩
    show sem__law_are_spans_4 (Dend Q) [some (.tup xs), some (.int (-1)), none] S
    refine ⟨fun i env S' => ∃ (o : Option Int) (x2 : Option D), env = [some (.tup xs), some (optD o), x2] ∧ S' = S ∧ lw (some (-1)) xs = lw o (xs.drop i), ⟨some (-1), none, rfl, rfl, rfl⟩, fun _ _ _ _ _ => trivial, ?_, ?_⟩
    · rintro i d env S' hi ⟨o, x2, rfl, rfl, he⟩
      have hi : xs[i]? = some d := hi
      have ed : xs.drop i = d :: xs.drop (i + 1) := by
        obtain ⟨h1, h2⟩ := List.getElem?_eq_some_iff.mp hi
        rw [← h2]
        exact (List.getElem_cons_drop h1).symm
      rw [ed] at he
      rw [he] at q
      cases o with
      | none => exact ⟨fun _ => ⟨fun _ => q, fun h => nomatch h⟩, fun h => nomatch h⟩
      | some last =>
        have q : Q (.bl (prB d && (decide (last < lwL d) && lw (lwH d) (xs.drop (i + 1))))) S' := q
        have he : lw (some (-1)) xs = (prB d && (decide (last < lwL d) && lw (lwH d) (xs.drop (i + 1)))) := he
        refine ⟨(fun h => nomatch h), fun _ => ⟨hp d (List.mem_of_getElem? hi), fun h => ?_, fun h => ?_⟩⟩
        · have h : (!prB d) = true := h
          rw [show prB d = false by simpa using h] at q
          exact ⟨fun _ => q, fun h => nomatch h⟩
        have h : (!prB d) = false := h
        have hpd : prB d = true := by simpa using h
        obtain ⟨l, dd, rfl, l0, hd⟩ := prB_inv hpd
        rw [hpd, Bool.true_and] at q he
        refine ⟨_, rfl, fun h => ?_, fun h => ?_⟩
        · have h : decide (l ≤ last) = true := h
          have h := of_decide_eq_true h
          rw [show decide (last < lwL (.tup [.int l, dd])) = false from decide_eq_false (by show ¬ last < l; omega)] at q
          exact q
        · have h : decide (l ≤ last) = false := h
          have h := of_decide_eq_false h
          rw [show decide (last < lwL (.tup [.int l, dd])) = true from decide_eq_true (by show last < l; omega)] at he
          refine ⟨dd, rfl, lwH (.tup [.int l, dd]), some (.tup [.int l, dd]), ?_, rfl, he⟩
          rcases hd with rfl | ⟨k, rfl, _⟩ <;> rfl
    · rintro env S' ⟨o, x2, rfl, rfl, he⟩
      rw [show xs.drop ({ items := xs, ok := fun _ => True } : Iter).items.length = [] from List.drop_length, show lw o [] = true by cases o <;> rfl] at he
      rw [he] at q
      exact q
  · have e := tyB_tup ht
    have e2 : spB a = false := by cases a <;> first | rfl | exact absurd ⟨_, rfl⟩ ht
    rw [e2] at q
    unfold sem__law_are_spans sSeq sIf tNotD tOf
    refine isi_any (i := 0) (T := .tuple) rfl ha (.inr (.inr (.inr rfl))) ⟨fun _ => q, fun h => ?_⟩
    have h : (!tyB .tuple a) = false := h
    rw [e] at h; exact nomatch h

/-! odd things beside a deck of two objects -/
def DkAt {n : Nat} (S : Sto) (q p : Nat) (k : Dk n) : Prop := S[q]? = some (dkC k) ∧ S[p]? = some (dkO q k) ∧ q ≠ p
theorem DkAt.step {n m : Nat} {S : Sto} {q p : Nat} {k : Dk n} (h : DkAt S q p k) (k' : Dk m) : DkAt ((S.set q (dkC k')).set p (dkO q k')) q p k' := by
  obtain ⟨h1, h2, h3⟩ := h
  exact ⟨getS_ne (getS_set h1) (Ne.symm h3), getS_set (getS_ne h2 h3), h3⟩
theorem DkAt.app {n : Nat} {S : Sto} {q p : Nat} {k : Dk n} (h : DkAt S q p k) {g : Sto} : DkAt (S ++ g) q p k := ⟨getS_app h.1, getS_app h.2.1, h.2.2⟩
theorem kp_step {S : Sto} {q p : Nat} {a b : O} : Kp S ((S.set q a).set p b) [q, p] := (Kp.set (by simp)).trans (Kp.set (by simp))
abbrev Oq (S : Sto) (q p N K : Nat) (x : D) : Prop := Od (hideP S q) p N K x
theorem kp_hide {S S' : Sto} {q p : Nat} (k : Kp S S' [q, p]) : Kp (hideP S q) (hideP S' q) [p] := by
  unfold hideP
  refine ⟨by rw [List.length_set, List.length_set]; exact k.len, fun j o hj hn => ?_⟩
  by_cases e : j = q
  · subst e
    have hl : j < S.length := by
      have := (List.getElem?_eq_some_iff.mp hj).1
      rwa [List.length_set] at this
    rw [List.getElem?_set_self hl] at hj
    rw [List.getElem?_set_self (Nat.lt_of_lt_of_le hl k.len)]
    exact hj
  · rw [List.getElem?_set_ne (Ne.symm e)] at hj ⊢
    exact k.at_ j o hj (by simp only [List.mem_cons, List.not_mem_nil, or_false] at hn ⊢; omega)
theorem Oq.keep {S S' : Sto} {q p N K : Nat} {x : D} (h : Oq S q p N K x) (k : Kp S S' [q, p]) : Oq S' q p N K x := Od.keep (kp_hide k) h
theorem oq_lst {S : Sto} {q p N K j : Nat} {xs : List D} (g : S[j]? = some (.lst xs)) (n : j ≠ q ∧ j ≠ p) (h : Ods (hideP S q) p N K xs) : Oq S q p (N + 2) (K + 1) (.ref j) := od_lst (hideP_of g n.1) n.2 h
theorem oq_dic0 {S : Sto} {q p j : Nat} (g : S[j]? = some (.dK [])) (n : j ≠ q ∧ j ≠ p) : Oq S q p 2 1 (.ref j) := od_dic0 (hideP_of g n.1) n.2
theorem Oq.rt {S : Sto} {q p N K : Nat} {x : D} (h : Oq S q p N K x) : ∃ d : PyData, Rt S d x ∧ okP d ∧ shD d ≤ N ∧ d.depth ≤ K := by
  obtain ⟨d, h1, h2⟩ := h
  exact ⟨d, Rt.keep hideP_up d x (Rt.keep hideP_up d x h1), h2⟩
theorem Oq.knd {S : Sto} {q p N K : Nat} {x : D} (h : Oq S q p N K x) : Knd S x := by
  obtain ⟨d, h1, _⟩ := h.rt
  cases d <;> simp only [Rt] at h1
  case list ds =>
    rcases h1 with ⟨q, xs, rfl, g, _⟩ | ⟨xs, rfl, _⟩
    · exact ⟨_, g, trivial⟩
    · exact trivial
  case tuple ds =>
    obtain ⟨xs, rfl, _⟩ := h1
    exact trivial
  case dict kvs =>
    obtain ⟨q, xs, rfl, g, _⟩ := h1
    exact ⟨_, g, trivial⟩
  all_goals (subst h1; exact trivial)
theorem Oq.knds {S : Sto} {q p N K : Nat} {x : D} (h : Oq S q p N K x) : Knds S x := ⟨h.knd, fun xs e y hy => by subst e; exact Oq.knd (Od.part h hy)⟩
theorem Oq.deep {S : Sto} {q p N K : Nat} {x : D} (h : Oq S q p N K x) (hl : ∀ xs, x = .tup xs → xs.length ≤ 60000) : Deep S x := ⟨h.knd, fun xs e => ⟨hl xs e, fun y hy => by subst e; exact Oq.knds (Od.part h hy)⟩⟩
theorem lg {n : Nat} (h : n ≤ 10 ^ 40) : n.log2 < 1920 := by
  by_cases e : n = 0
  · subst e; decide
  · exact (Nat.log2_lt e).mpr (Nat.lt_of_le_of_lt h (by decide +kernel))
theorem od_i {S : Sto} {p : Nat} {i : Int} (h : i.natAbs ≤ 10 ^ 40) : Od S p 1921 0 (.int i) := od_int (lg h)
theorem od_j {S : Sto} {p : Nat} {i : Int} (h : i.natAbs ≤ 1000000000000) : Od S p 1921 0 (.int i) := od_i (Nat.le_trans h (by decide +kernel))
theorem pickD {xs : List D} {P : D → Prop} (h : ∀ x ∈ xs, P x) {r : Int} (r0 : 0 ≤ r) (r1 : r < (xs.length : Int)) : ∃ x, atI xs r = some x ∧ P x := by
  obtain ⟨n, rfl⟩ : ∃ n : Nat, r = (n : Int) := ⟨r.toNat, by omega⟩
  have hr : n < xs.length := by omega
  exact ⟨xs[n], atI_nat (List.getElem?_eq_getElem hr), h _ (List.getElem_mem hr)⟩
theorem od_strI {S : Sto} {p n : Nat} (h : n ≤ 1000000000000) : Od S p 500 0 (.str (strI (n : Int))) := by
  refine (od_str (N := 40) (strI_len (Nat.lt_of_le_of_lt h (by decide +kernel))) (by decide) fun c hc => ?_).mono
  unfold strI at hc
  rw [Str.ofString_eq_toList] at hc
  have hc : c ∈ (toString (n : Int)).toList.map Char.toNat := by simpa using hc
  obtain ⟨ch, _, rfl⟩ := List.mem_map.mp hc
  exact Nat.lt_of_lt_of_le ch.val.toNat_lt (by decide)
theorem od_e {S : Sto} {p : Nat} : Od S p 2 0 (.str "") := (od_str (N := 0) (by decide +kernel) (by decide) (by decide +kernel)).mono
theorem asg_var {s3 : WS} {i j : Nat} {DE : WEnds} {env : En} {S : Sto} {d : D} (h1 : env[i]? = some (some d)) (r : s3 DE (env.set j (some d)) S) : sAsg (wVar i) (gNameD j) { nx := s3 DE, rt := DE.rt } env S := by
  unfold sAsg wVar gNameD
  rw [h1]; exact r
theorem next_of {s3 : WS} {DE : WEnds} {env : En} {S : Sto} (r : s3 DE env S) : sNext { nx := s3 DE, rt := DE.rt } env S := r
def sp__law_odd_number : DSp := sp3 fun a b c S Q => ∃ (p q n : Nat) (k : Dk n) (h : Option Nat) (tw : Nat), a = .ref p ∧ b = highD h ∧ c = .int (tw : Int) ∧ DkAt S q p k ∧ n ≤ 700000000 ∧ (∀ x, h = some x → x ≤ 100000000000) ∧ tw ≤ 100000000000 ∧
  ∀ (x : D) (S' : Sto) (k' : Dk (n + 5)), Oq S' q p 4000 3 x → Kp S S' [q, p] → DkAt S' q p k' → Q x S'
def N__law_odd_number : List Str := ["_law_deck_here", "_law_number", "_law_twin", "_law_near", "_law_some"]
def sem__law_odd_number_1 : WS := (sRet (wOp dIx (wVar 4) (wCall sp__law_draw (aCons (wVar 0) (aCons (wC (.int 16)) aNil)))))
def sem__law_odd_number_2 : WS := (sSeq (sAsg (wNew (lCatE (wVar 4) (lLst (aCons (wStrI (wVar 3)) (aCons (wC (.str "")) (aCons (wTup (aCons (wVar 3) aNil)) (aCons (wNew (lLst (aCons (wVar 3) aNil))) (aCons wNewK (aCons (wOp dAdd (wOp dAdd (wVar 3) (wC (.int 1))) (wCall sp__law_draw (aCons (wVar 0) (aCons (wC (.int 9)) aNil)))) aNil))))))))) (gNameD 4)) sem__law_odd_number_1)
def sem__law_odd_number_3 : WS := (sSeq (sAsg (wNew (lLst (aCons (wOp dSub (wVar 3) (wC (.int 1))) (aCons (wOp dAdd (wVar 3) (wC (.int 1))) (aCons (wVar 2) (aCons (wC (.int 0)) (aCons (wNeg (wC (.int 1))) (aCons (wOp dSub (wC (.int 0)) (wVar 3)) (aCons (wOp dSub (wC (.int 10000000000000000000000000000000000000000)) (wC (.int 1))) (aCons (wC .non) (aCons (wC (.bl true)) (aCons (wC (.bl false)) aNil)))))))))))) (gNameD 4)) sem__law_odd_number_2)
def sem__law_odd_number_4 : WS := (sSeq (sIf (tOf (wOp dIs (wVar 1) (wC .non))) (sAsg (wVar 2) (gNameD 3)) sNext) sem__law_odd_number_3)
def sem__law_odd_number : WS := (sSeq (sAsg (wVar 1) (gNameD 3)) sem__law_odd_number_4)
theorem len__law_odd_number (ds S Q E) (h : sp__law_odd_number ds S Q E) : ds.length = 3 := sp3_len h
theorem pf__law_odd_number (ds S Q E) (h : sp__law_odd_number ds S Q E) : sem__law_odd_number (Dend Q) (startD N__law_odd_number ds) S := by
  obtain ⟨a, b, c, rfl, p, q', n, k, ho, tw, rfl, rfl, rfl, hk, hn, hh, ht, q⟩ := sp3_inv h
  have rest : ∀ (b : D) (nr : Nat), nr ≤ 100000000000 → sem__law_odd_number_3 (Dend Q) [some (.ref p), some b, some (.int (tw : Int)), some (.int (nr : Int)), none] S := fun b nr hnr => by
    refine ⟨sizeLe (by simp), ?_⟩
    generalize hL : ([.int ((nr : Int) - 1), .int ((nr : Int) + 1), .int (tw : Int), .int 0, .int (-1), .int (0 - (nr : Int)), .int (10000000000000000000000000000000000000000 - 1), .non, .bl true, .bl false] : List D) = L
    have oL : ∀ S' : Sto, ∀ z ∈ L, Od S' p 4000 3 z := by
      rw [← hL]
      intro S' z hz
      simp only [List.mem_cons, List.not_mem_nil, or_false] at hz
      rcases hz with rfl | rfl | rfl | rfl | rfl | rfl | rfl | rfl | rfl | rfl
      · exact (od_j (by omega)).mono
      · exact (od_j (by omega)).mono
      · exact (od_j (by omega)).mono
      · exact (od_j (by omega)).mono
      · exact (od_j (by omega)).mono
      · exact (od_j (by omega)).mono
      · exact (od_i (by decide +kernel)).mono
      · exact od_non.mono
      · exact (od_bl _).mono
      · exact (od_bl _).mono
    have hLl : L.length = 10 := by rw [← hL]; rfl
    show sem__law_odd_number_2 (Dend Q) [some (.ref p), some b, some (.int (tw : Int)), some (.int (nr : Int)), some (.ref S.length)] (S ++ [O.lst L])
    clear hL
    have hk1 : DkAt (S ++ [O.lst L]) q' p k := hk.app
    have kp1 : Kp S (S ++ [O.lst L]) [q', p] := Kp.app
    have g1 : (S ++ [O.lst L])[S.length]? = some (.lst L) := getS_new
    have n1 : S.length ≠ q' ∧ S.length ≠ p := ⟨by have := getS_lt hk.1; omega, by have := getS_lt hk.2.1; omega⟩
    generalize S ++ [O.lst L] = S1 at hk1 kp1 g1 ⊢
    generalize S.length = j1 at g1 n1 ⊢
    refine ⟨by rw [Int.natAbs_natCast]; exact Nat.lt_of_le_of_lt hnr (by decide +kernel), sizeLe (by simp), sizeLe (by simp), ?_⟩
    have f1 : (S1 ++ [O.lst [D.int (nr : Int)]] ++ [O.dK []])[S1.length]? = some (.lst [.int (nr : Int)]) := getS_app getS_new
    have f2 : (S1 ++ [O.lst [D.int (nr : Int)]] ++ [O.dK []])[(S1 ++ [O.lst [D.int (nr : Int)]]).length]? = some (.dK []) := getS_new
    have n2 : S1.length ≠ q' ∧ S1.length ≠ p := ⟨by have := getS_lt hk1.1; omega, by have := getS_lt hk1.2.1; omega⟩
    have n3 : (S1 ++ [O.lst [D.int (nr : Int)]]).length ≠ q' ∧ (S1 ++ [O.lst [D.int (nr : Int)]]).length ≠ p := by rw [List.length_append]; exact ⟨by have := getS_lt hk1.1; omega, by have := getS_lt hk1.2.1; omega⟩
    have hk2 : DkAt (S1 ++ [O.lst [D.int (nr : Int)]] ++ [O.dK []]) q' p k := hk1.app.app
    have kp2 : Kp S1 (S1 ++ [O.lst [D.int (nr : Int)]] ++ [O.dK []]) [q', p] := Kp.app.trans Kp.app
    have g2 := kp2.get g1 (by simpa using n1)
    have kp2 := kp1.trans kp2
    refine ⟨p, q', n, k, 9, rfl, rfl, hk2.1, hk2.2.1, hk2.2.2, ⟨by decide, by decide, by omega⟩, fun r k3 r0 r1 => ?_⟩
    have hk3 := hk2.step k3
    have kp3 : Kp (S1 ++ [O.lst [D.int (nr : Int)]] ++ [O.dK []]) (((S1 ++ [O.lst [D.int (nr : Int)]] ++ [O.dK []]).set q' (dkC k3)).set p (dkO q' k3)) [q', p] := kp_step
    have g3 := kp3.get g2 (by simpa using n1)
    have f3 := kp3.get f1 (by simpa using n2)
    have f4 := kp3.get f2 (by simpa using n3)
    have kp3 := kp2.trans kp3
    generalize ((S1 ++ [O.lst [D.int (nr : Int)]] ++ [O.dK []]).set q' (dkC k3)).set p (dkO q' k3) = S3 at hk3 kp3 g3 f3 f4 ⊢
    refine ⟨sizeLe (by simp), _, g3, sizeLe (by rw [hLl]; simp), ?_⟩
    generalize hM : (L ++ [.str (strI (nr : Int)), .str "", .tup [.int (nr : Int)], .ref S1.length, .ref (S1 ++ [O.lst [D.int (nr : Int)]]).length, .int ((nr : Int) + 1 + r)] : List D) = M
    have oM : ∀ z ∈ M, Oq S3 q' p 4000 3 z := by
      rw [← hM]
      intro z hz
      rcases List.mem_append.mp hz with hz | hz
      · exact oL _ z hz
      simp only [List.mem_cons, List.not_mem_nil, or_false] at hz
      rcases hz with rfl | rfl | rfl | rfl | rfl | rfl
      · exact (od_strI (by omega)).mono
      · exact od_e.mono
      · exact (od_tup (ods_cons (od_j (by omega)) ods_nil)).mono
      · exact (oq_lst f3 n2 (ods_cons (od_j (by omega)) ods_nil)).mono
      · exact (oq_dic0 f4 n3).mono
      · exact (od_j (by omega)).mono
    have hMl : M.length = 16 := by rw [← hM, List.length_append, hLl]; rfl
    clear hM
    show sem__law_odd_number_1 (Dend Q) [some (.ref p), some b, some (.int (tw : Int)), some (.int (nr : Int)), some (.ref S3.length)] (S3 ++ [O.lst M])
    have hk4 : DkAt (S3 ++ [O.lst M]) q' p k3 := hk3.app
    have kp4 : Kp S3 (S3 ++ [O.lst M]) [q', p] := Kp.app
    have g4 : (S3 ++ [O.lst M])[S3.length]? = some (.lst M) := getS_new
    have n4 : S3.length ≠ q' ∧ S3.length ≠ p := ⟨by have := getS_lt hk3.1; omega, by have := getS_lt hk3.2.1; omega⟩
    have oM := fun z hz => (oM z hz).keep kp4
    have kp4 := kp3.trans kp4
    generalize S3 ++ [O.lst M] = S4 at hk4 kp4 g4 oM ⊢
    generalize S3.length = j4 at g4 n4 ⊢
    refine ⟨p, q', n + 1, k3, 16, rfl, rfl, hk4.1, hk4.2.1, hk4.2.2, ⟨by decide, by decide, by omega⟩, fun r k5 r0 r1 => ?_⟩
    have hk5 := hk4.step k5
    have kp5 : Kp S4 ((S4.set q' (dkC k5)).set p (dkO q' k5)) [q', p] := kp_step
    generalize (S4.set q' (dkC k5)).set p (dkO q' k5) = S5 at hk5 kp5 ⊢
    obtain ⟨x, hx, ox⟩ := pickD oM r0 (by rw [hMl]; exact r1)
    exact ⟨_, kp5.get g4 (by simpa using n4), x, hx, q x S5 (k5.mono (by omega)) (ox.keep kp5) (kp4.trans kp5) hk5⟩
  cases ho with
  | none => exact ⟨fun _ => asg_var rfl (rest .non tw ht), fun h => nomatch h⟩
  | some x => exact ⟨(fun h => nomatch h), fun _ => next_of (rest (.int (x : Int)) x (hh x rfl))⟩

theorem asg_w {s3 : WS} {w : WE} {j : Nat} {DE : WEnds} {env : En} {S : Sto} {d : D} (h : ∀ R : WK, R d S → w env S R) (r : s3 DE (env.set j (some d)) S) : sAsg w (gNameD j) { nx := s3 DE, rt := DE.rt } env S := h _ r
structure Nm (s : Spn) : Prop where
  lo : s.1 ≤ 50000000000
  hi : ∀ h, s.2 = some h → h ≤ 50000000000
theorem od_high {S : Sto} {p : Nat} {h : Option Nat} (hh : ∀ x, h = some x → x ≤ 50000000000) : Od S p 1921 0 (highD h) := by
  cases h with
  | none => exact od_non.mono
  | some x => exact od_j (by have := hh x rfl; rw [Int.natAbs_natCast]; omega)
theorem od_sp {S : Sto} {p : Nat} {s : Spn} (h : Nm s) : Od S p 3850 1 (spD s) := (od_tup (ods_cons (od_j (by have := h.lo; rw [Int.natAbs_natCast]; omega)) (ods_cons (od_high h.hi) ods_nil))).mono
def sp__law_odd_pair : DSp := sp2 fun a b S Q => ∃ (p q n : Nat) (k : Dk n) (s : Spn), a = .ref p ∧ b = spD s ∧ DkAt S q p k ∧ n ≤ 650000000 ∧ Nm s ∧
  ∀ (x : D) (S' : Sto) (k' : Dk (n + 10)), Oq S' q p 14000 6 x → Kp S S' [q, p] → DkAt S' q p k' → Q x S'
def N__law_odd_pair : List Str := ["_law_deck_here", "_law_pair", "_law_low", "_law_high", "_law_other", "_law_way", "_law_some"]
def sem__law_odd_pair_1 : WS := (sRet (wOp dIx (wVar 6) (wCall sp__law_draw (aCons (wVar 0) (aCons (wC (.int 10)) aNil)))))
def sem__law_odd_pair_2 : WS := (sSeq (sAsg (wNew (lLst (aCons (wTup (aCons (wVar 2) aNil)) (aCons (wTup (aCons (wVar 2) (aCons (wVar 3) (aCons (wVar 4) aNil)))) (aCons (wTup (aCons (wVar 4) (aCons (wVar 2) aNil))) (aCons (wTup (aCons (wVar 2) (aCons (wVar 2) aNil))) (aCons (wNew (lLst (aCons (wVar 2) (aCons (wVar 3) aNil)))) (aCons (wVar 2) (aCons (wC .non) (aCons (wC (.str "")) (aCons (wTup aNil) (aCons (wTup (aCons (wTup (aCons (wVar 2) (aCons (wVar 3) aNil))) aNil)) aNil)))))))))))) (gNameD 6)) sem__law_odd_pair_1)
def sem__law_odd_pair_3 : WS := (sSeq (sIf (tOf (wOp dEq (wVar 5) (wC (.int 1)))) (sRet (wTup (aCons (wVar 2) (aCons (wCall sp__law_odd_number (aCons (wVar 0) (aCons (wVar 3) (aCons (wVar 2) aNil)))) aNil)))) sNext) sem__law_odd_pair_2)
def sem__law_odd_pair_4 : WS := (sSeq (sIf (tOf (wOp dEq (wVar 5) (wC (.int 0)))) (sRet (wTup (aCons (wCall sp__law_odd_number (aCons (wVar 0) (aCons (wVar 2) (aCons (wVar 4) aNil)))) (aCons (wVar 3) aNil)))) sNext) sem__law_odd_pair_3)
def sem__law_odd_pair_5 : WS := (sSeq (sAsg (wCall sp__law_draw (aCons (wVar 0) (aCons (wC (.int 4)) aNil))) (gNameD 5)) sem__law_odd_pair_4)
def sem__law_odd_pair_6 : WS := (sSeq (sIf (tOf (wOp dIs (wVar 3) (wC .non))) (sAsg (wOp dAdd (wVar 2) (wC (.int 1))) (gNameD 4)) sNext) sem__law_odd_pair_5)
def sem__law_odd_pair_7 : WS := (sSeq (sAsg (wVar 3) (gNameD 4)) sem__law_odd_pair_6)
def sem__law_odd_pair : WS := (sSeq (sAsg (wVar 1) (gTupD 2 (gConsD (gNameD 2) (gConsD (gNameD 3) gNilD)))) sem__law_odd_pair_7)
theorem len__law_odd_pair (ds S Q E) (h : sp__law_odd_pair ds S Q E) : ds.length = 2 := sp2_len h
theorem pf__law_odd_pair (ds S Q E) (h : sp__law_odd_pair ds S Q E) : sem__law_odd_pair (Dend Q) (startD N__law_odd_pair ds) S := by
  obtain ⟨a, b, rfl, p, q', n, k, s, rfl, rfl, hk, hn, hs, q⟩ := sp2_inv h
  have hlo := hs.lo
  have rest : ∀ (o : Int) (other : Nat), o = (other : Int) → other ≤ 60000000000 → sem__law_odd_pair_5 (Dend Q) [some (.ref p), some (spD s), some (.int (s.1 : Int)), some (highD s.2), some (.int o), none, none] S := fun o other ho hot => by
    subst ho
    refine ⟨p, q', n, k, 4, rfl, rfl, hk.1, hk.2.1, hk.2.2, ⟨by decide, by decide, by omega⟩, fun w k1 w0 w1 => ?_⟩
    have hk1 := hk.step k1
    have kp1 : Kp S ((S.set q' (dkC k1)).set p (dkO q' k1)) [q', p] := kp_step
    show sem__law_odd_pair_4 (Dend Q) [some (.ref p), some (spD s), some (.int (s.1 : Int)), some (highD s.2), some (.int (other : Int)), some (.int w), none] ((S.set q' (dkC k1)).set p (dkO q' k1))
    generalize (S.set q' (dkC k1)).set p (dkO q' k1) = S1 at hk1 kp1 ⊢
    refine ⟨fun _ => ?_, fun _ => ⟨fun _ => ?_, fun _ => ?_⟩⟩
    · refine ⟨p, q', n + 1, k1, some s.1, other, rfl, rfl, rfl, hk1, by omega, fun x hx => by cases hx; omega, by omega, fun x S' k' ox kp hk' => ⟨sizeLe (by simp), ?_⟩⟩
      exact q _ S' (k'.mono (by omega)) (od_tup (ods_cons ox (ods_cons (od_high hs.hi) ods_nil))).mono (kp1.trans kp) hk'
    · refine ⟨p, q', n + 1, k1, s.2, s.1, rfl, rfl, rfl, hk1, by omega, fun x hx => by have := hs.hi x hx; omega, by omega, fun x S' k' ox kp hk' => ⟨sizeLe (by simp), ?_⟩⟩
      exact q _ S' (k'.mono (by omega)) (od_tup (ods_cons (od_j (by rw [Int.natAbs_natCast]; omega)) (ods_cons ox ods_nil))).mono (kp1.trans kp) hk'
    · have oi : ∀ (S' : Sto) (x : Nat), x ≤ 60000000000 → Od S' p 1921 0 (.int (x : Int)) := fun S' x hx => od_j (by rw [Int.natAbs_natCast]; omega)
      refine ⟨sizeLe (by simp), sizeLe (by simp), sizeLe (by simp), sizeLe (by simp), sizeLe (by simp), sizeLe (by simp), sizeLe (by simp), sizeLe (by simp), sizeLe (by simp), ?_⟩
      have f1 : (S1 ++ [O.lst [.int (s.1 : Int), highD s.2]])[S1.length]? = some (.lst [.int (s.1 : Int), highD s.2]) := getS_new
      have n1 : S1.length ≠ q' ∧ S1.length ≠ p := ⟨by have := getS_lt hk1.1; omega, by have := getS_lt hk1.2.1; omega⟩
      have hk2 : DkAt (S1 ++ [O.lst [.int (s.1 : Int), highD s.2]]) q' p k1 := hk1.app
      have kp2 : Kp S1 (S1 ++ [O.lst [.int (s.1 : Int), highD s.2]]) [q', p] := Kp.app
      have kp2 := kp1.trans kp2
      generalize hM : ([.tup [.int (s.1 : Int)], .tup [.int (s.1 : Int), highD s.2, .int (other : Int)], .tup [.int (other : Int), .int (s.1 : Int)], .tup [.int (s.1 : Int), .int (s.1 : Int)], .ref S1.length, .int (s.1 : Int), .non, .str "", .tup [], .tup [.tup [.int (s.1 : Int), highD s.2]]] : List D) = M
      show sem__law_odd_pair_1 (Dend Q) [some (.ref p), some (spD s), some (.int (s.1 : Int)), some (highD s.2), some (.int (other : Int)), some (.int w), some (.ref (S1 ++ [O.lst [.int (s.1 : Int), highD s.2]]).length)] (S1 ++ [O.lst [.int (s.1 : Int), highD s.2]] ++ [O.lst M])
      generalize S1 ++ [O.lst [.int (s.1 : Int), highD s.2]] = S2 at f1 hk2 kp2 ⊢
      have oM : ∀ z ∈ M, Oq S2 q' p 14000 6 z := by
        rw [← hM]
        intro z hz
        have o1 := oi (hideP S2 q') s.1 (by omega)
        have o2 := oi (hideP S2 q') other hot
        have o3 := od_high (S := hideP S2 q') (p := p) hs.hi
        simp only [List.mem_cons, List.not_mem_nil, or_false] at hz
        rcases hz with rfl | rfl | rfl | rfl | rfl | rfl | rfl | rfl | rfl | rfl
        · exact (od_tup (ods_cons o1 ods_nil)).mono
        · exact (od_tup (ods_cons o1 (ods_cons o3 (ods_cons o2 ods_nil)))).mono
        · exact (od_tup (ods_cons o2 (ods_cons o1 ods_nil))).mono
        · exact (od_tup (ods_cons o1 (ods_cons o1 ods_nil))).mono
        · exact (oq_lst f1 n1 (ods_cons o1 (ods_cons o3 ods_nil))).mono
        · exact o1.mono
        · exact od_non.mono
        · exact od_e.mono
        · exact (od_tup ods_nil).mono
        · exact (od_tup (ods_cons (od_tup (ods_cons o1 (ods_cons o3 ods_nil))) ods_nil)).mono
      have hMl : M.length = 10 := by rw [← hM]; rfl
      clear hM
      have hk4 : DkAt (S2 ++ [O.lst M]) q' p k1 := hk2.app
      have kp4 : Kp S2 (S2 ++ [O.lst M]) [q', p] := Kp.app
      have g4 : (S2 ++ [O.lst M])[S2.length]? = some (.lst M) := getS_new
      have n4 : S2.length ≠ q' ∧ S2.length ≠ p := ⟨by have := getS_lt hk2.1; omega, by have := getS_lt hk2.2.1; omega⟩
      have oM := fun z hz => (oM z hz).keep kp4
      have kp4 := kp2.trans kp4
      generalize S2 ++ [O.lst M] = S4 at hk4 kp4 g4 oM ⊢
      generalize S2.length = j4 at g4 n4 ⊢
      refine ⟨p, q', n + 1, k1, 10, rfl, rfl, hk4.1, hk4.2.1, hk4.2.2, ⟨by decide, by decide, by omega⟩, fun r k5 r0 r1 => ?_⟩
      have hk5 := hk4.step k5
      have kp5 : Kp S4 ((S4.set q' (dkC k5)).set p (dkO q' k5)) [q', p] := kp_step
      generalize (S4.set q' (dkC k5)).set p (dkO q' k5) = S5 at hk5 kp5 ⊢
      obtain ⟨x, hx, ox⟩ := pickD oM r0 (by rw [hMl]; exact r1)
      exact ⟨_, kp5.get g4 (by simpa using n4), x, hx, q x S5 (k5.mono (by omega)) (ox.keep kp5) (kp4.trans kp5) hk5⟩
  refine ⟨rfl, ?_⟩
  show sem__law_odd_pair_7 (Dend Q) [some (.ref p), some (spD s), some (.int (s.1 : Int)), some (highD s.2), none, none, none] S
  obtain ⟨lo, hi⟩ := s
  cases hi with
  | none => exact ⟨fun _ => asg_w (d := .int ((lo : Int) + 1)) (fun R r => r) (rest _ (lo + 1) (by show (lo : Int) + 1 = ((lo + 1 : Nat) : Int); omega) (by show lo + 1 ≤ _; have : lo ≤ 50000000000 := hlo; omega)), fun h => nomatch h⟩
  | some x => exact ⟨(fun h => nomatch h), fun _ => next_of (rest (x : Int) x rfl (by have := hs.hi x rfl; omega))⟩

theorem cut_mem {xs : List D} {lo hi : Option Int} {x : D} (h : x ∈ Z.cutD xs lo hi) : x ∈ xs := by
  unfold Z.cutD at h
  exact List.mem_of_mem_drop (List.mem_of_mem_take h)
theorem cut_len (xs : List D) (lo hi : Option Int) : (Z.cutD xs lo hi).length ≤ xs.length := by
  unfold Z.cutD
  rw [List.length_take, List.length_drop]; omega
theorem ok_spans (F : List Spn) : okD (spansD F) := FitN.ok (n := 2) (fitN_map fun s _ => fitN_sp 0 s)
def sp__law_bent : DSp := sp2 fun a b S Q => ∃ (p q n : Nat) (k : Dk n) (F : List Spn), a = .ref p ∧ b = spansD F ∧ DkAt S q p k ∧ n ≤ 600000000 ∧ (∀ s ∈ F, Nm s) ∧ F.length ≤ 400 ∧
  ∀ (x : D) (S' : Sto) (k' : Dk (n + 20)), Oq S' q p 15000000 10 x → (∀ xs, x = .tup xs → xs.length ≤ 60000) → Kp S S' [q, p] → DkAt S' q p k' → Q x S'
def N__law_bent : List Str := ["_law_deck_here", "_law_spans", "_law_some", "_law_at", "_law_pair", "_law_way", "_law_high", "_law_more"]
def sem__law_bent_1 : WS := (sRet (wOp dIx (wVar 2) (wCall sp__law_draw (aCons (wVar 0) (aCons (wC (.int 10)) aNil)))))
def sem__law_bent_2 : WS := (sRet (wOp dIx (wVar 2) (wCall sp__law_draw (aCons (wVar 0) (aCons (wC (.int 5)) aNil)))))
def sem__law_bent_3 : WS := (sRet (wOp dAdd (wOp dAdd (wSl (wVar 1) oNone (oSome (wOp dAdd (wVar 3) (wC (.int 1))))) (wTup (aCons (wVar 7) aNil))) (wSl (wSl (wVar 1) (oSome (wOp dAdd (wVar 3) (wC (.int 1)))) oNone) oNone (oSome (wCall sp__law_draw (aCons (wVar 0) (aCons (wC (.int 2)) aNil)))))))
def sem__law_bent_4 : WS := (sSeq (sAsg (wTup (aCons (wOp dAdd (wVar 6) (wCall sp__law_draw (aCons (wVar 0) (aCons (wC (.int 2)) aNil)))) (aCons (wC .non) aNil))) (gNameD 7)) sem__law_bent_3)
def sem__law_bent_5 : WS := (sSeq (sIf (tOf (wOp dIs (wVar 6) (wC .non))) (sAsg (wOp dIx (wVar 4) (wC (.int 0))) (gNameD 6)) sNext) sem__law_bent_4)
def sem__law_bent_6 : WS := (sSeq (sAsg (wOp dIx (wVar 4) (wC (.int 1))) (gNameD 6)) sem__law_bent_5)
def sem__law_bent_7 : WS := (sSeq (sIf (tOf (wOp dEq (wVar 5) (wC (.int 8)))) (sSeq (sAsg (wNew (lLst (aCons (wBackT (wVar 1) oNone oNone (oSome (wNeg (wC (.int 1))))) (aCons (wNew (qSeq (wVar 1))) (aCons (wOp dAdd (wVar 1) (wTup (aCons (wC .non) aNil))) (aCons (wOp dAdd (wVar 1) (wTup (aCons (wTup (aCons (wC (.int 1000000000000)) (aCons (wC .non) aNil))) aNil))) (aCons (wTup (aCons (wVar 1) aNil)) aNil))))))) (gNameD 2)) sem__law_bent_2) sNext) sem__law_bent_6)
def sem__law_bent_8 : WS := (sSeq (sIf (tOf (wOp dEq (wVar 5) (wC (.int 7)))) (sRet (wOp dAdd (wSl (wVar 1) oNone (oSome (wVar 3))) (wSl (wVar 1) (oSome (wOp dAdd (wVar 3) (wC (.int 1)))) oNone))) sNext) sem__law_bent_7)
def sem__law_bent_9 : WS := (sSeq (sIf (tOf (wOp dEq (wVar 5) (wC (.int 6)))) (sRet (wOp dAdd (wOp dAdd (wOp dAdd (wSl (wVar 1) oNone (oSome (wVar 3))) (wSl (wVar 1) (oSome (wOp dAdd (wVar 3) (wC (.int 1)))) (oSome (wOp dAdd (wVar 3) (wC (.int 2)))))) (wTup (aCons (wVar 4) aNil))) (wSl (wVar 1) (oSome (wOp dAdd (wVar 3) (wC (.int 2)))) oNone))) sNext) sem__law_bent_8)
def sem__law_bent_10 : WS := (sSeq (sIf (tOf (wOp dEq (wVar 5) (wC (.int 5)))) (sRet (wOp dAdd (wOp dAdd (wSl (wVar 1) oNone (oSome (wVar 3))) (wTup (aCons (wVar 4) aNil))) (wSl (wVar 1) (oSome (wVar 3)) oNone))) sNext) sem__law_bent_9)
def sem__law_bent_11 : WS := (sSeq (sIf (tOf (wOp dLtT (wVar 5) (wC (.int 5)))) (sRet (wOp dAdd (wOp dAdd (wSl (wVar 1) oNone (oSome (wVar 3))) (wTup (aCons (wCall sp__law_odd_pair (aCons (wVar 0) (aCons (wVar 4) aNil))) aNil))) (wSl (wVar 1) (oSome (wOp dAdd (wVar 3) (wC (.int 1)))) oNone))) sNext) sem__law_bent_10)
def sem__law_bent_12 : WS := (sSeq (sAsg (wCall sp__law_draw (aCons (wVar 0) (aCons (wC (.int 10)) aNil))) (gNameD 5)) sem__law_bent_11)
def sem__law_bent_13 : WS := (sSeq (sAsg (wOp dIx (wVar 1) (wVar 3)) (gNameD 4)) sem__law_bent_12)
def sem__law_bent_14 : WS := (sSeq (sAsg (wCall sp__law_draw (aCons (wVar 0) (aCons (wLen (wVar 1)) aNil))) (gNameD 3)) sem__law_bent_13)
def sem__law_bent : WS := (sSeq (sIf (tOf (wOp dEq (wVar 1) (wTup aNil))) (sSeq (sAsg (wNew (lLst (aCons (wC .non) (aCons (wNew (lLst aNil)) (aCons wNewK (aCons (wC (.str "")) (aCons (wC (.int 0)) (aCons (wC (.bl true)) (aCons (wTup (aCons (wTup aNil) aNil)) (aCons (wTup (aCons (wC .non) aNil)) (aCons (wTup (aCons (wTup (aCons (wC (.int 0)) (aCons (wC .non) (aCons (wC .non) aNil)))) aNil)) (aCons (wTup (aCons (wTup (aCons (wC .non) (aCons (wC (.int 0)) aNil))) aNil)) aNil)))))))))))) (gNameD 2)) sem__law_bent_1) sNext) sem__law_bent_14)
theorem len__law_bent (ds S Q E) (h : sp__law_bent ds S Q E) : ds.length = 2 := sp2_len h
theorem pf__law_bent (ds S Q E) (h : sp__law_bent ds S Q E) : sem__law_bent (Dend Q) (startD N__law_bent ds) S := by
  obtain ⟨a, b, rfl, p, q', n, k, F, rfl, rfl, hk, hn, hF, hFl, q⟩ := sp2_inv h
  have hFl2 : (F.map spD).length ≤ 400 := by rw [List.length_map]; exact hFl
  have oA : ∀ (S' : Sto) (ys : List D), (∀ y ∈ ys, y ∈ F.map spD) → ys.length ≤ 400 → Ods (hideP S' q') p 1600000 6 ys := fun S' ys h hl => by
    have h1 : ∀ y ∈ ys, Od (hideP S' q') p 3850 1 y := fun y hy => by
      obtain ⟨s, hs, rfl⟩ := List.mem_map.mp (h y hy)
      exact od_sp (hF s hs)
    have : (3850 + 2) * ys.length ≤ (3850 + 2) * 400 := Nat.mul_le_mul_left _ hl
    exact (ods_all h1).mono (by omega) (by omega)
  have fin : ∀ (ys : List D) (S' : Sto) (c : Nat) (k' : Dk c), c ≤ n + 20 → Ods (hideP S' q') p 14000000 8 ys → ys.length ≤ 60000 → Kp S S' [q', p] → DkAt S' q' p k' → Q (.tup ys) S' := fun ys S' c k' hc h hl kp hk' =>
    q _ S' (k'.mono hc) (od_tup h).mono (fun xs e => by cases e; omega) kp hk'
  refine ⟨sizeLe (by simp), ok_spans F, ok_spans [], fun he => ?_, fun he => ?_⟩
  · refine ⟨sizeLe (by simp), sizeLe (by simp), sizeLe (by simp), sizeLe (by simp), sizeLe (by simp), sizeLe (by simp), sizeLe (by simp), sizeLe (by simp), sizeLe (by simp), ?_⟩
    have f1 : (S ++ [O.lst []] ++ [O.dK []])[S.length]? = some (.lst []) := getS_app getS_new
    have f2 : (S ++ [O.lst []] ++ [O.dK []])[(S ++ [O.lst []]).length]? = some (.dK []) := getS_new
    have n1 : S.length ≠ q' ∧ S.length ≠ p := ⟨by have := getS_lt hk.1; omega, by have := getS_lt hk.2.1; omega⟩
    have n2 : (S ++ [O.lst []]).length ≠ q' ∧ (S ++ [O.lst []]).length ≠ p := by rw [List.length_append]; exact ⟨by have := getS_lt hk.1; omega, by have := getS_lt hk.2.1; omega⟩
    have hk2 : DkAt (S ++ [O.lst []] ++ [O.dK []]) q' p k := hk.app.app
    have kp2 : Kp S (S ++ [O.lst []] ++ [O.dK []]) [q', p] := Kp.app.trans Kp.app
    generalize hM : ([.non, .ref S.length, .ref (S ++ [O.lst []]).length, .str "", .int 0, .bl true, .tup [.tup []], .tup [.non], .tup [.tup [.int 0, .non, .non]], .tup [.tup [.non, .int 0]]] : List D) = M
    show sem__law_bent_1 (Dend Q) [some (.ref p), some (spansD F), some (.ref (S ++ [O.lst []] ++ [O.dK []]).length), none, none, none, none, none] (S ++ [O.lst []] ++ [O.dK []] ++ [O.lst M])
    generalize S ++ [O.lst []] ++ [O.dK []] = S2 at f1 f2 hk2 kp2 ⊢
    have oM : ∀ z ∈ M, Oq S2 q' p 14000 6 z ∧ ∀ xs, z = .tup xs → xs.length ≤ 60000 := by
      rw [← hM]
      intro z hz
      have o0 : Od (hideP S2 q') p 1921 0 (.int 0) := od_j (by decide)
      simp only [List.mem_cons, List.not_mem_nil, or_false] at hz
      rcases hz with rfl | rfl | rfl | rfl | rfl | rfl | rfl | rfl | rfl | rfl
      · exact ⟨od_non.mono, fun _ e => nomatch e⟩
      · exact ⟨(oq_lst f1 n1 ods_nil).mono, fun _ e => nomatch e⟩
      · exact ⟨(oq_dic0 f2 n2).mono, fun _ e => nomatch e⟩
      · exact ⟨od_e.mono, fun _ e => nomatch e⟩
      · exact ⟨o0.mono, fun _ e => nomatch e⟩
      · exact ⟨(od_bl _).mono, fun _ e => nomatch e⟩
      · exact ⟨(od_tup (ods_cons (od_tup ods_nil) ods_nil)).mono, fun _ e => by cases e; simp⟩
      · exact ⟨(od_tup (ods_cons od_non ods_nil)).mono, fun _ e => by cases e; simp⟩
      · exact ⟨(od_tup (ods_cons (od_tup (ods_cons o0 (ods_cons od_non (ods_cons od_non ods_nil)))) ods_nil)).mono, fun _ e => by cases e; simp⟩
      · exact ⟨(od_tup (ods_cons (od_tup (ods_cons od_non (ods_cons o0 ods_nil))) ods_nil)).mono, fun _ e => by cases e; simp⟩
    have hMl : M.length = 10 := by rw [← hM]; rfl
    clear hM
    have hk4 : DkAt (S2 ++ [O.lst M]) q' p k := hk2.app
    have kp4 : Kp S2 (S2 ++ [O.lst M]) [q', p] := Kp.app
    have g4 : (S2 ++ [O.lst M])[S2.length]? = some (.lst M) := getS_new
    have n4 : S2.length ≠ q' ∧ S2.length ≠ p := ⟨by have := getS_lt hk2.1; omega, by have := getS_lt hk2.2.1; omega⟩
    have oM := fun z hz => (⟨(oM z hz).1.keep kp4, (oM z hz).2⟩ : _ ∧ _)
    have kp4 := kp2.trans kp4
    generalize S2 ++ [O.lst M] = S4 at hk4 kp4 g4 oM ⊢
    generalize S2.length = j4 at g4 n4 ⊢
    refine ⟨p, q', n, k, 10, rfl, rfl, hk4.1, hk4.2.1, hk4.2.2, ⟨by decide, by decide, by omega⟩, fun r k5 r0 r1 => ?_⟩
    have hk5 := hk4.step k5
    have kp5 : Kp S4 ((S4.set q' (dkC k5)).set p (dkO q' k5)) [q', p] := kp_step
    generalize (S4.set q' (dkC k5)).set p (dkO q' k5) = S5 at hk5 kp5 ⊢
    obtain ⟨x, hx, ox⟩ := pickD oM r0 (by rw [hMl]; exact r1)
    exact ⟨_, kp5.get g4 (by simpa using n4), x, hx, q x S5 (k5.mono (by omega)) (ox.1.keep kp5).mono ox.2 (kp4.trans kp5) hk5⟩
  · have hFne : 0 < F.length := by
      cases F with
      | nil => exact nomatch he
      | cons s r => simp
    refine ⟨p, q', n, k, (F.length : Int), rfl, by show D.int (((F.map spD).length : Nat) : Int) = _; rw [List.length_map], hk.1, hk.2.1, hk.2.2, ⟨by omega, by omega, by omega⟩, fun r k1 r0 r1 => ?_⟩
    have hk1 := hk.step k1
    have kp1 : Kp S ((S.set q' (dkC k1)).set p (dkO q' k1)) [q', p] := kp_step
    obtain ⟨i, rfl⟩ : ∃ i : Nat, r = (i : Int) := ⟨r.toNat, by omega⟩
    have hi : i < F.length := by omega
    obtain ⟨s, hs⟩ : ∃ s, F[i]? = some s := ⟨_, List.getElem?_eq_getElem hi⟩
    have hNm := hF s (List.mem_of_getElem? hs)
    refine ⟨spD s, atI_nat (by rw [List.getElem?_map, hs]; rfl), ?_⟩
    refine ⟨p, q', n + 1, k1, 10, rfl, rfl, hk1.1, hk1.2.1, hk1.2.2, ⟨by decide, by decide, by omega⟩, fun w k2 w0 w1 => ?_⟩
    have hk2 := hk1.step k2
    have kp2 := kp1.trans (kp_step (a := dkC k2) (b := dkO q' k2))
    show sem__law_bent_11 (Dend Q) [some (.ref p), some (spansD F), none, some (.int (i : Int)), some (spD s), some (.int w), none, none] ((((S.set q' (dkC k1)).set p (dkO q' k1)).set q' (dkC k2)).set p (dkO q' k2))
    generalize (((S.set q' (dkC k1)).set p (dkO q' k1)).set q' (dkC k2)).set p (dkO q' k2) = S2 at hk2 kp2 ⊢
    clear hk1 kp1
    have cl := fun lo hi => cut_len (F.map spD) lo hi
    have oc : ∀ (S' : Sto) (lo hi : Option Int), Ods (hideP S' q') p 1600000 6 (Z.cutD (F.map spD) lo hi) := fun S' lo hi => oA S' _ (fun y hy => cut_mem hy) (Nat.le_trans (cl lo hi) hFl2)
    have osp : ∀ S', Ods (hideP S' q') p 4000 6 [spD s] := fun S' => (ods_cons (od_sp hNm) ods_nil).mono
    have clx : ∀ lo hi, (Z.cutD (F.map spD) lo hi).length ≤ 400 := fun lo hi => Nat.le_trans (cl lo hi) hFl2
    refine ⟨fun _ => ?_, fun _ => ⟨fun _ => ?_, fun _ => ⟨fun _ => ?_, fun _ => ⟨fun _ => ?_, fun _ => ⟨fun _ => ?_, fun _ => ?_⟩⟩⟩⟩⟩
    · refine ⟨p, q', n + 1 + 1, k2, s, rfl, rfl, hk2, by omega, hNm, fun x S' k' ox kp hk' => ⟨sizeLe (by simp), ?_⟩⟩
      have c1 := clx none (some (i : Int))
      have c2 := clx (some ((i : Int) + 1)) none
      exact ⟨sizeLe (by simp; omega), sizeLe (by simp; omega), fin _ S' _ k' (by omega) (ods_app (ods_app (oc S' _ _) (ods_cons ox ods_nil)) (oc S' _ _)).mono (by simp; omega) (kp2.trans kp) hk'⟩
    · have c1 := clx none (some (i : Int))
      have c2 := clx (some (i : Int)) none
      exact ⟨sizeLe (by simp), sizeLe (by simp; omega), sizeLe (by simp; omega), fin _ S2 _ k2 (by omega) (ods_app (ods_app (oc S2 _ _) (osp S2)) (oc S2 _ _)).mono (by simp; omega) kp2 hk2⟩
    · have c1 := clx none (some (i : Int))
      have c2 := clx (some ((i : Int) + 1)) (some ((i : Int) + 2))
      have c3 := clx (some ((i : Int) + 2)) none
      exact ⟨sizeLe (by omega), sizeLe (by simp), sizeLe (by simp; omega), sizeLe (by simp; omega), fin _ S2 _ k2 (by omega) (ods_app (ods_app (ods_app (oc S2 _ _) (oc S2 _ _)) (osp S2)) (oc S2 _ _)).mono (by simp; omega) kp2 hk2⟩
    · have c1 := clx none (some (i : Int))
      have c2 := clx (some ((i : Int) + 1)) none
      exact ⟨sizeLe (by omega), fin _ S2 _ k2 (by omega) (ods_app (oc S2 _ _) (oc S2 _ _)).mono (by simp; omega) kp2 hk2⟩
    · have eF : ∀ S', Ods (hideP S' q') p 1600000 6 (F.map spD) := fun S' => oA S' _ (fun y hy => hy) hFl2
      refine ⟨rfl, sizeLe (by simp), sizeLe (by simp; omega), sizeLe (by simp), sizeLe (by simp), sizeLe (by simp; omega), sizeLe (by simp), sizeLe (by simp), ?_⟩
      have f1 : (S2 ++ [O.lst (F.map spD)])[S2.length]? = some (.lst (F.map spD)) := getS_new
      have n1 : S2.length ≠ q' ∧ S2.length ≠ p := ⟨by have := getS_lt hk2.1; omega, by have := getS_lt hk2.2.1; omega⟩
      have hk3 : DkAt (S2 ++ [O.lst (F.map spD)]) q' p k2 := hk2.app
      have kp3 : Kp S2 (S2 ++ [O.lst (F.map spD)]) [q', p] := Kp.app
      have kp3 := kp2.trans kp3
      generalize hM : ([.tup (F.map spD).reverse, .ref S2.length, .tup (F.map spD ++ [.non]), .tup (F.map spD ++ [.tup [.int 1000000000000, .non]]), .tup [spansD F]] : List D) = M
      show sem__law_bent_2 (Dend Q) [some (.ref p), some (spansD F), some (.ref (S2 ++ [O.lst (F.map spD)]).length), some (.int (i : Int)), some (spD s), some (.int w), none, none] (S2 ++ [O.lst (F.map spD)] ++ [O.lst M])
      generalize S2 ++ [O.lst (F.map spD)] = S3 at f1 hk3 kp3 ⊢
      have oM : ∀ z ∈ M, Oq S3 q' p 15000000 10 z ∧ ∀ xs, z = .tup xs → xs.length ≤ 60000 := by
        rw [← hM]
        intro z hz
        simp only [List.mem_cons, List.not_mem_nil, or_false] at hz
        rcases hz with rfl | rfl | rfl | rfl | rfl
        · exact ⟨(od_tup (oA S3 _ (fun y hy => List.mem_reverse.mp hy) (by rw [List.length_reverse]; exact hFl2))).mono, fun _ e => by cases e; rw [List.length_reverse]; omega⟩
        · exact ⟨(oq_lst f1 n1 (eF S3)).mono, fun _ e => nomatch e⟩
        · exact ⟨(od_tup (ods_app (eF S3) (ods_cons od_non ods_nil))).mono, fun _ e => by cases e; simp; omega⟩
        · exact ⟨(od_tup (ods_app (eF S3) (ods_cons (od_tup (ods_cons (od_j (by decide)) (ods_cons od_non ods_nil))) ods_nil))).mono, fun _ e => by cases e; simp; omega⟩
        · exact ⟨(od_tup (ods_cons (od_tup (eF S3)) ods_nil)).mono, fun _ e => by cases e; simp⟩
      have hMl : M.length = 5 := by rw [← hM]; rfl
      clear hM
      have hk4 : DkAt (S3 ++ [O.lst M]) q' p k2 := hk3.app
      have kp4 : Kp S3 (S3 ++ [O.lst M]) [q', p] := Kp.app
      have g4 : (S3 ++ [O.lst M])[S3.length]? = some (.lst M) := getS_new
      have n4 : S3.length ≠ q' ∧ S3.length ≠ p := ⟨by have := getS_lt hk3.1; omega, by have := getS_lt hk3.2.1; omega⟩
      have oM := fun z hz => (⟨(oM z hz).1.keep kp4, (oM z hz).2⟩ : _ ∧ _)
      have kp4 := kp3.trans kp4
      generalize S3 ++ [O.lst M] = S4 at hk4 kp4 g4 oM ⊢
      generalize S3.length = j4 at g4 n4 ⊢
      refine ⟨p, q', n + 1 + 1, k2, 5, rfl, rfl, hk4.1, hk4.2.1, hk4.2.2, ⟨by decide, by decide, by omega⟩, fun r k5 r0 r1 => ?_⟩
      have hk5 := hk4.step k5
      have kp5 : Kp S4 ((S4.set q' (dkC k5)).set p (dkO q' k5)) [q', p] := kp_step
      generalize (S4.set q' (dkC k5)).set p (dkO q' k5) = S5 at hk5 kp5 ⊢
      obtain ⟨x, hx, ox⟩ := pickD oM r0 (by rw [hMl]; exact r1)
      exact ⟨_, kp5.get g4 (by simpa using n4), x, hx, q x S5 (k5.mono (by omega)) (ox.1.keep kp5) ox.2 (kp4.trans kp5) hk5⟩
    · have rest : ∀ hn : Nat, hn ≤ 50000000000 → sem__law_bent_4 (Dend Q) [some (.ref p), some (spansD F), none, some (.int (i : Int)), some (spD s), some (.int w), some (.int (hn : Int)), none] S2 := fun hn hhn => by
        refine ⟨p, q', n + 1 + 1, k2, 2, rfl, rfl, hk2.1, hk2.2.1, hk2.2.2, ⟨by decide, by decide, by omega⟩, fun r k3 r0 r1 => ⟨sizeLe (by simp), ?_⟩⟩
        have hk3 := hk2.step k3
        have kp3 := kp2.trans (kp_step (a := dkC k3) (b := dkO q' k3))
        show sem__law_bent_3 (Dend Q) [some (.ref p), some (spansD F), none, some (.int (i : Int)), some (spD s), some (.int w), some (.int (hn : Int)), some (.tup [.int ((hn : Int) + r), .non])] ((S2.set q' (dkC k3)).set p (dkO q' k3))
        generalize (S2.set q' (dkC k3)).set p (dkO q' k3) = S3 at hk3 kp3 ⊢
        have c1 := clx none (some ((i : Int) + 1))
        have c2 := clx (some ((i : Int) + 1)) none
        refine ⟨sizeLe (by simp), sizeLe (by simp; omega), p, q', n + 1 + 1 + 1, k3, 2, rfl, rfl, hk3.1, hk3.2.1, hk3.2.2, ⟨by decide, by decide, by omega⟩, fun t k4 t0 t1 => ?_⟩
        have hk4 := hk3.step k4
        have kp4 := kp3.trans (kp_step (a := dkC k4) (b := dkO q' k4))
        have c3 := cut_len (Z.cutD (F.map spD) (some ((i : Int) + 1)) none) none (some t)
        refine ⟨sizeLe (by simp; omega), fin _ _ _ k4 (by omega) (ods_app (ods_app (oc _ _ _) (ods_cons (od_tup (ods_cons (od_j (by omega)) (ods_cons od_non ods_nil))) ods_nil)) (oA _ _ (fun y hy => cut_mem (cut_mem hy)) (by omega))).mono (by simp; omega) kp4 hk4⟩
      obtain ⟨lo, hi⟩ := s
      refine ⟨_, rfl, ?_⟩
      cases hi with
      | none => exact ⟨fun _ => asg_w (d := .int (lo : Int)) (fun R r => ⟨_, rfl, r⟩) (rest lo hNm.lo), fun h => nomatch h⟩
      | some x => exact ⟨(fun h => nomatch h), fun _ => next_of (rest x (hNm.hi x rfl))⟩

theorem cnt_big {B : List Nat} (hB : Bord B) {x y : Nat} (hx : 1000000000 ≤ x) (hy : 1000000000 ≤ y) (t : List Bool) : TrAt B t x ↔ TrAt B t y := by
  have hl : 0 < B.length := by
    have := (List.getElem?_eq_some_iff.mp hB.zero).1
    omega
  have hb : B[B.length - 1]? = some B[B.length - 1] := List.getElem?_eq_getElem (by omega)
  have hm := hB.hi _ (List.mem_of_getElem? hb)
  have no : ∀ c, B[B.length - 1 + 1]? ≠ some c := fun c h => by
    have := (List.getElem?_eq_some_iff.mp h).1
    omega
  rw [tr_at hB.rise hb (Nat.le_trans hm hx) fun c hc => absurd hc (no c), tr_at hB.rise hb (Nat.le_trans hm hy) fun c hc => absurd hc (no c)]
theorem bef_ne {s : List Spn} (hc : Canon s) {x y : Spn} (hx : x ∈ s) (hy : y ∈ s) (h : x ≠ y) : befS x y ∨ befS y x := by
  obtain ⟨i, hi, e1⟩ := List.mem_iff_getElem.mp hx
  obtain ⟨j, hj, e2⟩ := List.mem_iff_getElem.mp hy
  rcases Nat.lt_trichotomy i j with h1 | h1 | h1
  · have := List.pairwise_iff_getElem.mp hc.pw i j hi hj h1
    rw [e1, e2] at this; exact .inl this
  · subst h1; exact absurd (e1.symm.trans e2) h
  · have := List.pairwise_iff_getElem.mp hc.pw j i hj hi h1
    rw [e1, e2] at this; exact .inr this
theorem canon_nm {B : List Nat} {t : List Bool} {s : List Spn} (hB : Bord B) (hc : Canon s) (hs : ∀ x, InS s x ↔ TrAt B t x) : ∀ p ∈ s, Nm p := fun p hp => by
  have key : ∀ x, 1000000000 ≤ x → (InS s x ↔ InS s (x + 1)) := fun x hx => by
    rw [hs, hs]; exact cnt_big hB hx (by omega) t
  have self : inP p p.1 := ⟨Nat.le_refl _, fun h e => hc.ok p hp h e⟩
  refine ⟨Nat.le_of_not_lt fun hl => ?_, fun h hh => Nat.le_of_not_lt fun hl => ?_⟩
  · have h1 : InS s (p.1 - 1) := (key (p.1 - 1) (by omega)).mpr (by rw [Nat.sub_add_cancel (by omega)]; exact ⟨p, hp, self⟩)
    obtain ⟨q, hq, hq1, hq2⟩ := h1
    have hne : p ≠ q := fun e => by rw [← e] at hq1; omega
    rcases bef_ne hc hp hq hne with ⟨h, e, hlt⟩ | ⟨h, e, hlt⟩
    · have := hc.ok p hp h e; omega
    · have := hq2 h e; omega
  · have h0 := hc.ok p hp h hh
    have h1 : InS s (h - 1 + 1) := (key (h - 1) (by omega)).mp ⟨p, hp, by omega, fun h' e => by rw [hh] at e; cases e; omega⟩
    rw [Nat.sub_add_cancel (by omega)] at h1
    obtain ⟨q, hq, hq1, hq2⟩ := h1
    have hne : p ≠ q := fun e => by have := hq2 h (by rw [← e]; exact hh); omega
    rcases bef_ne hc hp hq hne with ⟨h', e, hlt⟩ | ⟨h', e, hlt⟩
    · rw [hh] at e; cases e; omega
    · have := hq2 h' e; omega
theorem knd_high {S : Sto} (h : Option Nat) : Knd S (highD h) := by cases h <;> exact trivial
theorem knds_sp {S : Sto} (s : Spn) : Knds S (spD s) := ⟨trivial, fun xs e y hy => by
  cases e
  simp only [List.mem_cons, List.not_mem_nil, or_false] at hy
  rcases hy with rfl | rfl
  · exact trivial
  · exact knd_high _⟩
theorem deep_list {S : Sto} {xs : List D} (hl : xs.length ≤ 60000) (h : ∀ x ∈ xs, Knds S x) : Deep S (.tup xs) := ⟨trivial, fun ys e => by cases e; exact ⟨hl, h⟩⟩
theorem deep_spans {S : Sto} {F : List Spn} (hl : F.length ≤ 60000) : Deep S (spansD F) := deep_list (by rw [List.length_map]; exact hl) fun x hx => by
  obtain ⟨s, _, rfl⟩ := List.mem_map.mp hx
  exact knds_sp s
theorem prB_sp {s : Spn} (h : okSp s) : prB (spD s) = true := by
  obtain ⟨l, ho⟩ := s
  show (decide ((0 : Int) ≤ (l : Int)) && prH (l : Int) (highD ho)) = true
  rw [decide_eq_true (by omega), Bool.true_and]
  cases ho with
  | none => rfl
  | some k => exact decide_eq_true (by have := h k rfl; simp only at this; omega)
theorem spB_canon {F : List Spn} (h : Canon F) : spB (spansD F) = true := by
  show ((F.map spD).all prB && chB (F.map spD)) = true
  rw [Bool.and_eq_true]
  refine ⟨?_, chB_iff.mpr fun j a b h1 h2 => ?_⟩
  · rw [List.all_map]
    exact List.all_eq_true.mpr fun s hs => prB_sp (h.ok s hs)
  · obtain ⟨s, h3, rfl⟩ := map_get h1
    obtain ⟨s', h4, rfl⟩ := map_get h2
    obtain ⟨i1, e1⟩ := List.getElem?_eq_some_iff.mp h3
    obtain ⟨i2, e2⟩ := List.getElem?_eq_some_iff.mp h4
    have hb := List.pairwise_iff_getElem.mp h.pw j (j + 1) i1 i2 (by omega)
    rw [e1, e2] at hb
    obtain ⟨k, ek, hk⟩ := hb
    obtain ⟨l, ho⟩ := s
    have ek : ho = some k := ek
    subst ek
    exact decide_eq_true (by omega)
def grF (st M : Nat) : List Spn := (List.range M).map fun k => (st * k, some (st * k + 2))
theorem gr_canon {st M : Nat} (h : 3 ≤ st) : Canon (grF st M) := by
  refine ⟨fun p hp k hk => ?_, ?_⟩
  · obtain ⟨i, _, rfl⟩ := List.mem_map.mp hp
    cases hk
    show st * i < st * i + 2
    omega
  · unfold grF
    rw [List.pairwise_map]
    refine List.Pairwise.imp (fun {a b} hab => ⟨st * a + 2, rfl, ?_⟩) List.pairwise_lt_range
    show st * a + 2 < st * b
    have : st * (a + 1) ≤ st * b := Nat.mul_le_mul_left _ hab
    rw [Nat.mul_succ] at this
    omega
theorem cut_neg1 (xs : List D) : Z.cutD xs (some (-1)) none = xs.drop (xs.length - 1) := by
  unfold Z.cutD
  have e : HT.sIx xs.length 0 (some (-1)) = xs.length - 1 := by
    show (if (-1 : Int) < 0 then ((-1 : Int) + (xs.length : Int)).toNat else min (-1 : Int).toNat xs.length) = _
    rw [if_pos (by decide)]; omega
  have e2 : HT.sIx xs.length xs.length none = xs.length := rfl
  rw [e, e2]
  exact List.take_of_length_le (by rw [List.length_drop]; omega)
theorem spB_twice {F : List Spn} {s : Spn} {h : Nat} (hs : F[F.length - 1]? = some s) (e : s.2 = some h) (hlt : s.1 < h) : spB (.tup (F.map spD ++ Z.cutD (F.map spD) (some (-1)) none)) = false := by
  have hl := (List.getElem?_eq_some_iff.mp hs).1
  cases hb : spB (.tup (F.map spD ++ Z.cutD (F.map spD) (some (-1)) none)) with
  | false => rfl
  | true =>
    have hb : ((F.map spD ++ Z.cutD (F.map spD) (some (-1)) none).all prB && chB (F.map spD ++ Z.cutD (F.map spD) (some (-1)) none)) = true := hb
    rw [Bool.and_eq_true] at hb
    have h1 : (F.map spD ++ Z.cutD (F.map spD) (some (-1)) none)[F.length - 1]? = some (spD s) := by
      rw [List.getElem?_append_left (by rw [List.length_map]; omega), List.getElem?_map, hs]; rfl
    have h2 : (F.map spD ++ Z.cutD (F.map spD) (some (-1)) none)[F.length - 1 + 1]? = some (spD s) := by
      rw [List.getElem?_append_right (by rw [List.length_map]; omega), cut_neg1, List.getElem?_drop, List.length_map, show F.length - 1 + (F.length - 1 + 1 - F.length) = F.length - 1 by omega, List.getElem?_map, hs]; rfl
    have := chB_iff.mp hb.2 _ _ _ h1 h2
    obtain ⟨l, ho⟩ := s
    have e : ho = some h := e
    subst e
    have this : decide ((h : Int) < (l : Int)) = true := this
    have hlt : l < h := hlt
    have := of_decide_eq_true this
    omega
def sp__law_great_right : DSp := sp1 fun a S Q => ∃ (p q n : Nat) (k : Dk n), a = .ref p ∧ DkAt S q p k ∧ n ≤ 500 ∧ ∀ (S' : Sto) (k' : Dk (n + 30)), DkAt S' q p k' → Q (.bl true) S'
def N__law_great_right : List Str := ["_law_deck_here", "_law_many", "_law_step", "_law_spans", "_law_k", "_law_at", "_law_bent_here", "_law_found"]
def sem__law_great_right_1 : WS := (sRet (wAnd (wOp dIs (wOp dIx (wVar 7) (wC (.int 0))) (wC (.bl true))) (wAnd (wIsi .bool (wOp dIx (wVar 7) (wC (.int 1)))) (wAnd (wOp dEq (wOp dIx (wVar 7) (wC (.int 1))) (wCall sp__law_are_spans (aCons (wVar 6) aNil))) (wOp dIs (wOp dIx (wVar 7) (wC (.int 2))) (wC (.bl false)))))))
def sem__law_great_right_2 : WS := (sSeq (sAsg (wNew (lLst (aCons (wCall sp_is_spans (aCons (wVar 3) aNil)) (aCons (wCall sp_is_spans (aCons (wVar 6) aNil)) (aCons (wCall sp_is_spans (aCons (wOp dAdd (wVar 3) (wSl (wVar 3) (oSome (wNeg (wC (.int 1)))) oNone)) aNil)) aNil))))) (gNameD 7)) sem__law_great_right_1)
def sem__law_great_right_3 : WS := (sSeq (sAsg (wOp dAdd (wOp dAdd (wSl (wVar 3) oNone (oSome (wVar 5))) (wTup (aCons (wCall sp__law_odd_pair (aCons (wVar 0) (aCons (wOp dIx (wVar 3) (wVar 5)) aNil))) aNil))) (wSl (wVar 3) (oSome (wOp dAdd (wVar 5) (wC (.int 1)))) oNone)) (gNameD 6)) sem__law_great_right_2)
def sem__law_great_right_4 : WS := (sSeq (sAsg (wIxL (lLst (aCons (wOp dSub (wVar 1) (wC (.int 1))) (aCons (wCall sp__law_draw (aCons (wVar 0) (aCons (wVar 1) aNil))) aNil))) (wCall sp__law_draw (aCons (wVar 0) (aCons (wC (.int 2)) aNil)))) (gNameD 5)) sem__law_great_right_3)
def sem__law_great_right_5 : WS := (sSeq (sAsg (wQ dTuple (lLc (iRange1 (aCons (wVar 1) aNil)) (gNameD 4) tYesD (wTup (aCons (wOp dMul (wVar 2) (wVar 4)) (aCons (wOp dAdd (wOp dMul (wVar 2) (wVar 4)) (wC (.int 2))) aNil))) [4])) (gNameD 3)) sem__law_great_right_4)
def sem__law_great_right_6 : WS := (sSeq (sAsg (wOp dAdd (wC (.int 3)) (wCall sp__law_draw (aCons (wVar 0) (aCons (wC (.int 3)) aNil)))) (gNameD 2)) sem__law_great_right_5)
def sem__law_great_right : WS := (sSeq (sAsg (wOp dAdd (wC (.int 900)) (wCall sp__law_draw (aCons (wVar 0) (aCons (wC (.int 1001)) aNil)))) (gNameD 1)) sem__law_great_right_6)
theorem len__law_great_right (ds S Q E) (h : sp__law_great_right ds S Q E) : ds.length = 1 := sp1_len h
theorem pf__law_great_right (ds S Q E) (h : sp__law_great_right ds S Q E) : sem__law_great_right (Dend Q) (startD N__law_great_right ds) S := by
  obtain ⟨a, rfl, p, q', n, k, rfl, hk, hn, q⟩ := sp1_inv h
  refine ⟨p, q', n, k, 1001, rfl, rfl, hk.1, hk.2.1, hk.2.2, ⟨by decide, by decide, by omega⟩, fun r k1 r0 r1 => ?_⟩
  have hk1 := hk.step k1
  generalize (S.set q' (dkC k1)).set p (dkO q' k1) = S1 at hk1 ⊢
  obtain ⟨M, hM⟩ : ∃ M : Nat, (900 + r : Int) = (M : Int) := ⟨(900 + r).toNat, by omega⟩
  show sem__law_great_right_6 (Dend Q) [some (.ref p), some (.int (900 + r)), none, none, none, none, none, none] S1
  rw [hM]
  have hM1 : 900 ≤ M := by omega
  have hM2 : M ≤ 1901 := by omega
  refine ⟨p, q', n + 1, k1, 3, rfl, rfl, hk1.1, hk1.2.1, hk1.2.2, ⟨by decide, by decide, by omega⟩, fun r k2 r0 r1 => ?_⟩
  have hk2 := hk1.step k2
  generalize (S1.set q' (dkC k2)).set p (dkO q' k2) = S2 at hk2 ⊢
  obtain ⟨st, hst⟩ : ∃ M : Nat, (3 + r : Int) = (M : Int) := ⟨(3 + r).toNat, by omega⟩
  show sem__law_great_right_5 (Dend Q) [some (.ref p), some (.int (M : Int)), some (.int (3 + r)), none, none, none, none, none] S2
  rw [hst]
  have hst1 : 3 ≤ st := by omega
  have hst2 : st ≤ 6 := by omega
  show sem__law_great_right_5 (Dend Q) [some (.ref p), some (.int (M : Int)), some (.int (st : Int)), none, none, none, none, none] S2
  have gat : ∀ i, i < M → (grF st M)[i]? = some (st * i, some (st * i + 2)) := fun i hi => by
    unfold grF
    rw [List.getElem?_map, List.getElem?_range hi]; rfl
  have gl : (grF st M).length = M := by unfold grF; rw [List.length_map, List.length_range]
  have hnm : ∀ s ∈ grF st M, Nm s := fun s hs => by
    obtain ⟨i, hi, rfl⟩ := List.mem_map.mp hs
    have hi := List.mem_range.mp hi
    have : st * i ≤ 6 * 1901 := Nat.mul_le_mul hst2 (by omega)
    exact ⟨by show st * i ≤ _; omega, fun h e => by cases e; omega⟩
  refine ⟨⟨by omega, by omega⟩, fun i acc S' => i ≤ M ∧ acc = ((grF st M).take i).map spD ∧ S' = S2, ⟨Nat.zero_le _, rfl, rfl⟩, fun _ _ _ _ _ => trivial, ?_, ?_⟩
  · rintro i d acc S' hi ⟨_, rfl, rfl⟩
    obtain ⟨hi', rfl⟩ := range_get hi
    have hi' : i < M := by have : i < ((M : Int)).toNat := hi'; omega
    have e1 : ((st : Int) * (0 + (i : Int))) = ((st * i : Nat) : Int) := by rw [Int.zero_add, Int.natCast_mul]
    refine ⟨fun _ => ⟨cmul_l ⟨by omega, by omega⟩, cmul_l ⟨by omega, by omega⟩, sizeLe (by simp), sizeL (by rw [List.length_map, List.length_take]; omega), by omega, ?_, rfl⟩, fun h => nomatch h⟩
    rw [e1, take_succ_eq (gat i hi'), List.map_append]
    rfl
  · rintro acc S' ⟨_, rfl, rfl⟩
    rw [show ({ items := rangeD 0 ((M : Int)).toNat, ok := fun _ => True } : Iter).items.length = M by show (rangeD 0 ((M : Int)).toNat).length = M; rw [rangeD_len]; omega, List.take_of_length_le (by rw [gl]; exact Nat.le_refl _)]
    show sem__law_great_right_4 (Dend Q) [some (.ref p), some (.int (M : Int)), some (.int (st : Int)), some (spansD (grF st M)), none, none, none, none] S'
    refine ⟨p, q', n + 1 + 1, k2, (M : Int), rfl, rfl, hk2.1, hk2.2.1, hk2.2.2, ⟨by omega, by omega, by omega⟩, fun r1 k3 a1 b1 => ⟨sizeLe (by simp), ?_⟩⟩
    have hk3 := hk2.step k3
    generalize (S'.set q' (dkC k3)).set p (dkO q' k3) = S3 at hk3 ⊢
    refine ⟨p, q', n + 1 + 1 + 1, k3, 2, rfl, rfl, hk3.1, hk3.2.1, hk3.2.2, ⟨by decide, by decide, by omega⟩, fun r2 k4 a2 b2 => ?_⟩
    have hk4 := hk3.step k4
    generalize (S3.set q' (dkC k4)).set p (dkO q' k4) = S4 at hk4 ⊢
    obtain ⟨x, hx, hx1, hx2⟩ := pickI (xs := [(M : Int) - 1, r1]) (P := fun x => 0 ≤ x ∧ x < M) (by
      intro x hx
      simp only [List.mem_cons, List.not_mem_nil, or_false] at hx
      omega) a2 b2
    obtain ⟨i, rfl⟩ : ∃ i : Nat, x = (i : Int) := ⟨x.toNat, by omega⟩
    have hi : i < M := by omega
    refine ⟨_, hx, ?_⟩
    show sem__law_great_right_3 (Dend Q) [some (.ref p), some (.int (M : Int)), some (.int (st : Int)), some (spansD (grF st M)), none, some (.int (i : Int)), none, none] S4
    refine ⟨spD (st * i, some (st * i + 2)), atI_nat (by rw [List.getElem?_map, gat i hi]; rfl), p, q', n + 1 + 1 + 1 + 1, k4, _, rfl, rfl, hk4, by omega, hnm _ (List.mem_of_getElem? (gat i hi)), fun x S5 k5 ox kp hk5 => ⟨sizeLe (by simp), ?_⟩⟩
    have gl2 : ((grF st M).map spD).length = M := by rw [List.length_map, gl]
    have c1 := cut_len ((grF st M).map spD) none (some (i : Int))
    have c2 := cut_len ((grF st M).map spD) (some ((i : Int) + 1)) none
    refine ⟨sizeLe (by simp; omega), sizeLe (by simp; omega), ?_⟩
    generalize hys : (Z.cutD ((grF st M).map spD) none (some (i : Int)) ++ [x] ++ Z.cutD ((grF st M).map spD) (some ((i : Int) + 1)) none) = ys
    have dys : Deep S5 (.tup ys) := deep_list (by rw [← hys]; simp; omega) fun y hy => by
      have cs : ∀ lo hi, y ∈ Z.cutD ((grF st M).map spD) lo hi → Knds S5 y := fun lo hi h => by
        obtain ⟨s, _, rfl⟩ := List.mem_map.mp (cut_mem h)
        exact knds_sp s
      rw [← hys] at hy
      rcases List.mem_append.mp hy with hy | hy
      · rcases List.mem_append.mp hy with hy | hy
        · exact cs _ _ hy
        · rw [List.mem_singleton.mp hy]; exact ox.knds
      · exact cs _ _ hy
    clear hys
    show sem__law_great_right_2 (Dend Q) [some (.ref p), some (.int (M : Int)), some (.int (st : Int)), some (spansD (grF st M)), none, some (.int (i : Int)), some (.tup ys), none] S5
    have e1 := spB_canon (gr_canon (M := M) hst1)
    have e2 : spB (.tup ((grF st M).map spD ++ Z.cutD ((grF st M).map spD) (some (-1)) none)) = false := spB_twice (by rw [gl]; exact gat (M - 1) (by omega)) rfl (by show st * (M - 1) < st * (M - 1) + 2; omega)
    have c3 := cut_len ((grF st M).map spD) (some (-1)) none
    refine ⟨deep_spans (by rw [gl]; omega), dys, sizeLe (by simp; omega), deep_list (by simp; omega) (fun y hy => by
      have : y ∈ (grF st M).map spD := by
        rcases List.mem_append.mp hy with hy | hy
        · exact hy
        · exact cut_mem hy
      obtain ⟨s, _, rfl⟩ := List.mem_map.mp this
      exact knds_sp s), sizeLe (by simp), ?_⟩
    show sem__law_great_right_1 (Dend Q) [some (.ref p), some (.int (M : Int)), some (.int (st : Int)), some (spansD (grF st M)), none, some (.int (i : Int)), some (.tup ys), some (.ref S5.length)] (S5 ++ [O.lst [.bl (spB (spansD (grF st M))), .bl (spB (.tup ys)), .bl (spB (.tup ((grF st M).map spD ++ Z.cutD ((grF st M).map spD) (some (-1)) none)))]])
    rw [e1, e2]
    have gL : (S5 ++ [O.lst [.bl true, .bl (spB (.tup ys)), .bl false]])[S5.length]? = some (.lst [.bl true, .bl (spB (.tup ys)), .bl false]) := getS_new
    have hk6 : DkAt (S5 ++ [O.lst [.bl true, .bl (spB (.tup ys)), .bl false]]) q' p k5 := hk5.app
    have d6 : Deep (S5 ++ [O.lst [.bl true, .bl (spB (.tup ys)), .bl false]]) (.tup ys) := by
      have up : ∀ y, Knd S5 y → Knd (S5 ++ [O.lst [.bl true, .bl (spB (.tup ys)), .bl false]]) y := fun y hy => by
        cases y with
        | ref j => obtain ⟨o, ho, h⟩ := hy; exact ⟨o, getS_app ho, h⟩
        | _ => exact hy
      exact ⟨trivial, fun zs e => ⟨(dys.2 zs e).1, fun y hy => ⟨up y ((dys.2 zs e).2 y hy).1, fun ws e2 z hz => up z (((dys.2 zs e).2 y hy).2 ws e2 z hz)⟩⟩⟩
    have eb : D.eqv (.bl (spB (.tup ys))) (.bl (spB (.tup ys))) = true := by cases spB (.tup ys) <;> rfl
    refine ⟨_, gL, _, rfl, fun _ => ⟨_, gL, _, rfl, fun _ => ⟨_, gL, _, rfl, d6, ?_⟩, fun h => nomatch h⟩, fun h => nomatch h⟩
    cases hb : spB (.tup ys) <;> rw [hb] at gL hk6 <;> exact ⟨fun _ => ⟨_, gL, _, rfl, q _ (k5.mono (by omega)) hk6⟩, fun h => nomatch h⟩
def sp_law : DSp := sp1 fun a S Q => ∃ ns : List Int, a = .rol (ns.map D.int) ∧ ∀ S', Q (.bl true) S'
def N_law : List Str := ["_law_script", "_law_deck_here", "_law_borders_here", "_law_spans", "_law_turn", "_law_thing", "_law_kept", "_law_found"]
def sem_law_1 : WS := (sIf (tOrD (tNotD (tOf (wIsi .bool (wVar 7)))) (tOrD (tOf (wOp dNe (wVar 7) (wCall sp__law_are_spans (aCons (wVar 5) aNil)))) (tOf (wOp dNe (wReprD (wVar 5)) (wVar 6))))) (sRet (wC (.bl false))) sNext)
def sem_law_2 : WS := (sSeq (sAsg (wCall sp_is_spans (aCons (wVar 5) aNil)) (gNameD 7)) sem_law_1)
def sem_law_3 : WS := (sSeq (sAsg (wReprD (wVar 5)) (gNameD 6)) sem_law_2)
def sem_law_4 : WS := (sSeq (sAsg (wCall sp__law_bent (aCons (wVar 1) (aCons (wVar 3) aNil))) (gNameD 5)) sem_law_3)
def sem_law_5 : WS := (sRet (wOp dIs (wCall sp_is_spans (aCons (wVar 3) aNil)) (wC (.bl true))))
def sem_law_6 : WS := (sSeq (sFor (iRange1 (aCons (wC (.int 12)) aNil)) (gNameD 4) sem_law_4) sem_law_5)
def sem_law_7 : WS := (sSeq (sIf (tOrD (tOf (wOp dIsNot (wCall sp_is_spans (aCons (wVar 3) aNil)) (wC (.bl true)))) (tOrD (tOf (wOp dIsNot (wCall sp_is_spans (aCons (wTup aNil) aNil)) (wC (.bl true)))) (tNotD (tOf (wCall sp__law_are_spans (aCons (wVar 3) aNil)))))) (sRet (wC (.bl false))) sNext) sem_law_6)
def sem_law_8 : WS := (sSeq (sAsg (wCall sp__law_laid (aCons (wVar 2) (aCons (wCall sp__law_truths (aCons (wVar 1) (aCons (wLen (wVar 2)) aNil))) aNil))) (gNameD 3)) sem_law_7)
def sem_law_9 : WS := (sSeq (sAsg (wCall sp__law_borders (aCons (wVar 1) aNil)) (gNameD 2)) sem_law_8)
def sem_law_10 : WS := (sSeq (sIf (tAndD (tOf (wOp dEq (wCall sp__law_draw (aCons (wVar 1) (aCons (wC (.int 8)) aNil))) (wC (.int 5)))) (tNotD (tOf (wCall sp__law_great_right (aCons (wVar 1) aNil))))) (sRet (wC (.bl false))) sNext) sem_law_9)
def sem_law : WS := (sSeq (sAsg (wCall sp__law_deck (aCons (wVar 0) aNil)) (gNameD 1)) sem_law_10)
theorem len_law (ds S Q E) (h : sp_law ds S Q E) : ds.length = 1 := sp1_len h
theorem law_true (ns : List Int) (h : ns.length ≤ 63) : sp_law [.rol (ns.map D.int)] [] (fun v _ => v = .bl true) (fun _ _ _ => False) := ⟨ns, rfl, fun _ => rfl⟩
theorem body11 (DE : WEnds) {S : Sto} {p q' n : Nat} {k : Dk n} {sc x2 x4 x5 x6 x7 : Option D} {F : List Spn} (hk : DkAt S q' p k) (hn : n ≤ 500000000) (hF : ∀ s ∈ F, Nm s) (hFl : F.length ≤ 400)
    (nx : ∀ S' (k' : Dk (n + 20)) x5 x6 x7, DkAt S' q' p k' → DE.nx [sc, some (.ref p), x2, some (spansD F), x4, x5, x6, x7] S') : sem_law_4 DE [sc, some (.ref p), x2, some (spansD F), x4, x5, x6, x7] S := by
  refine ⟨p, q', n, k, F, rfl, rfl, hk, by omega, hF, hFl, fun x S1 k1 ox hl kp hk1 => ?_⟩
  obtain ⟨d, h1, h2, h3, h4⟩ := ox.rt
  have dp := ox.deep hl
  show sem_law_3 DE [sc, some (.ref p), x2, some (spansD F), x4, some x, x6, x7] S1
  refine ⟨d, h1, okP.sh _ h2, by omega, by omega, ?_⟩
  refine ⟨dp, ?_⟩
  show sem_law_1 DE [sc, some (.ref p), x2, some (spansD F), x4, some x, some (.str d.shown), some (.bl (spB x))] S1
  refine ⟨(fun h => nomatch h), fun _ => ⟨dp, fun h => ?_, fun _ => ⟨d, h1, okP.sh _ h2, by omega, by omega, fun h => ?_, fun _ => nx S1 k1 _ _ _ hk1⟩⟩⟩
  · have h : (!D.eqv (.bl (spB x)) (.bl (spB x))) = true := h
    rw [show D.eqv (.bl (spB x)) (.bl (spB x)) = true by cases spB x <;> rfl] at h
    exact nomatch h
  · have h : (!D.eqv (.str d.shown) (.str d.shown)) = true := h
    rw [show D.eqv (.str d.shown) (.str d.shown) = true from beq_self_eq_true d.shown] at h
    exact nomatch h
theorem pf_law (ds S Q E) (h : sp_law ds S Q E) : sem_law (Dend Q) (startD N_law ds) S := by
  obtain ⟨a, rfl, ns, rfl, q⟩ := sp1_inv h
  refine ⟨ns, rfl, fun k => ?_⟩
  have hk : DkAt (S ++ [dkC k, dkO S.length k]) S.length (S.length + 1) k := ⟨by simp, by simp, by omega⟩
  show sem_law_10 (Dend Q) [some (.rol (ns.map D.int)), some (.ref (S.length + 1)), none, none, none, none, none, none] (S ++ [dkC k, dkO S.length k])
  generalize S ++ [dkC k, dkO S.length k] = S1 at hk ⊢
  generalize S.length + 1 = p at hk ⊢
  generalize S.length = q' at hk ⊢
  refine ⟨p, q', 0, k, 8, rfl, rfl, hk.1, hk.2.1, hk.2.2, ⟨by decide, by decide, by decide⟩, fun r k1 r0 r1 => ?_⟩
  have hk1 := hk.step k1
  generalize (S1.set q' (dkC k1)).set p (dkO q' k1) = S2 at hk1 ⊢
  have rest : ∀ (S' : Sto) (k' : Dk 40), DkAt S' q' p k' → sem_law_9 (Dend Q) [some (.rol (ns.map D.int)), some (.ref p), none, none, none, none, none, none] S' := fun S' k2 hk2 => by
    refine ⟨p, q', 40, k2, rfl, hk2.1, hk2.2.1, hk2.2.2, by decide, fun B k3 hB hBl => ?_⟩
    have hk3 := (hk2.step k3).app (g := [O.lst (B.map natD)])
    have gB : ((S'.set q' (dkC k3)).set p (dkO q' k3) ++ [O.lst (B.map natD)])[S'.length]? = some (.lst (B.map natD)) := by
      have : ((S'.set q' (dkC k3)).set p (dkO q' k3)).length = S'.length := by simp
      rw [← this]; exact getS_new
    have nB : S'.length ≠ q' ∧ S'.length ≠ p := ⟨by have := getS_lt hk2.1; omega, by have := getS_lt hk2.2.1; omega⟩
    show sem_law_8 (Dend Q) [some (.rol (ns.map D.int)), some (.ref p), some (.ref S'.length), none, none, none, none, none] ((S'.set q' (dkC k3)).set p (dkO q' k3) ++ [O.lst (B.map natD)])
    generalize (S'.set q' (dkC k3)).set p (dkO q' k3) ++ [O.lst (B.map natD)] = S3 at hk3 gB ⊢
    generalize S'.length = b at gB nB ⊢
    have lB : (B.map natD).length = B.length := List.length_map _
    refine ⟨_, gB, p, q', 40 + 1400, k3, B.length, rfl, by show D.int (((B.map natD).length : Nat) : Int) = _; rw [lB], hk3.1, hk3.2.1, hk3.2.2, ⟨by omega, by omega⟩, fun t k4 ht => ?_⟩
    have hk4 := (hk3.step k4).app (g := [O.lst (t.map D.bl)])
    have kp4 : Kp S3 ((S3.set q' (dkC k4)).set p (dkO q' k4) ++ [O.lst (t.map D.bl)]) [q', p] := kp_step.trans Kp.app
    have gT : ((S3.set q' (dkC k4)).set p (dkO q' k4) ++ [O.lst (t.map D.bl)])[S3.length]? = some (.lst (t.map D.bl)) := by
      have : ((S3.set q' (dkC k4)).set p (dkO q' k4)).length = S3.length := by simp
      rw [← this]; exact getS_new
    have gB4 := kp4.get gB (by simpa using nB)
    have nT : b ≠ S3.length := by have := getS_lt gB; omega
    refine ⟨b, S3.length, B, t, rfl, rfl, gB4, gT, nT, hB, ht, fun F hc hin hFl => ?_⟩
    generalize (S3.set q' (dkC k4)).set p (dkO q' k4) ++ [O.lst (t.map D.bl)] = S4 at hk4 ⊢
    have hF := canon_nm hB hc hin
    have hFl : F.length ≤ 400 := by omega
    show sem_law_7 (Dend Q) [some (.rol (ns.map D.int)), some (.ref p), some (.ref b), some (spansD F), none, none, none, none] S4
    have eF := spB_canon hc
    have dF : ∀ S, Deep S (spansD F) := fun S => deep_spans (by omega)
    refine ⟨dF S4, ?_⟩
    rw [eF]
    refine ⟨(fun h => nomatch h), fun _ => ⟨sizeLe (by simp), deep_list (by simp) (fun x hx => nomatch hx), (fun h => nomatch h), fun _ => ⟨dF S4, ?_⟩⟩⟩
    rw [eF]
    refine ⟨(fun h => nomatch h), fun _ => ?_⟩
    show sem_law_6 (Dend Q) [some (.rol (ns.map D.int)), some (.ref p), some (.ref b), some (spansD F), none, none, none, none] S4
    refine ⟨⟨by decide, by decide⟩, fun i env S' => ∃ (k' : Dk (2000 + 20 * i)) (x4 x5 x6 x7 : Option D), env = [some (.rol (ns.map D.int)), some (.ref p), some (.ref b), some (spansD F), x4, x5, x6, x7] ∧ DkAt S' q' p k', ⟨k4.mono (by omega), none, none, none, none, rfl, hk4⟩, fun _ _ _ _ _ => trivial, ?_, ?_⟩
    · rintro i d env S' hi ⟨k', x4, x5, x6, x7, rfl, hk'⟩
      obtain ⟨hi', rfl⟩ := range_get hi
      have hi' : i < 12 := hi'
      refine body11 _ hk' (by omega) hF hFl fun S5 k5 x5 x6 x7 hk5 => ?_
      exact ⟨k5.mono (by omega), _, x5, x6, x7, rfl, hk5⟩
    · rintro env S' ⟨k', x4, x5, x6, x7, rfl, hk'⟩
      refine ⟨dF S', ?_⟩
      rw [eF]
      exact q S'
  refine ⟨fun _ => ?_, fun _ => ⟨(fun h => nomatch h), fun _ => next_of (rest S2 (k1.mono (by omega)) hk1)⟩⟩
  refine ⟨p, q', 0 + 1, k1, rfl, hk1, by decide, fun S3 k3 hk3 => ⟨(fun h => nomatch h), fun _ => next_of (rest S3 (k3.mono (by omega)) hk3)⟩⟩

end K11
namespace K11
open PySem PySem.Spec PyProof.Rows L2 Z KB
def topS (i : Nat) : Stmt := PySem.Challenge.pw_joinedever_k11_what_are_spans.main.body.getD i (.Pass ⟨0, 0, 0, 0⟩)
abbrev s_is_whole : Stmt := topS 1
theorem sc_is_whole : FnScope N_is_whole ["thing"] (defScope s_is_whole) := ⟨rfl, rfl, rfl, by decide +kernel, rfl, by decide +kernel, by decide +kernel⟩
abbrev s_is_pair : Stmt := topS 2
theorem sc_is_pair : FnScope N_is_pair ["thing"] (defScope s_is_pair) := ⟨rfl, rfl, rfl, by decide +kernel, rfl, by decide +kernel, by decide +kernel⟩
abbrev s_is_spans : Stmt := topS 3
theorem sc_is_spans : FnScope N_is_spans ["thing"] (defScope s_is_spans) := ⟨rfl, rfl, rfl, by decide +kernel, rfl, by decide +kernel, by decide +kernel⟩
abbrev s__law_deck : Stmt := topS 5
theorem sc__law_deck : FnScope N__law_deck ["_law_script"] (defScope s__law_deck) := ⟨rfl, rfl, rfl, by decide +kernel, rfl, by decide +kernel, by decide +kernel⟩
abbrev s__law_mixed : Stmt := topS 6
theorem sc__law_mixed : FnScope N__law_mixed ["_law_cell", "_law_k"] (defScope s__law_mixed) := ⟨rfl, rfl, rfl, by decide +kernel, rfl, by decide +kernel, by decide +kernel⟩
abbrev s__law_draw : Stmt := topS 7
theorem sc__law_draw : FnScope N__law_draw ["_law_deck_here", "_law_most"] (defScope s__law_draw) := ⟨rfl, rfl, rfl, by decide +kernel, rfl, by decide +kernel, by decide +kernel⟩
abbrev s__law_borders : Stmt := topS 8
theorem sc__law_borders : FnScope N__law_borders ["_law_deck_here"] (defScope s__law_borders) := ⟨rfl, rfl, rfl, by decide +kernel, rfl, by decide +kernel, by decide +kernel⟩
abbrev s__law_truths : Stmt := topS 9
theorem sc__law_truths : FnScope N__law_truths ["_law_deck_here", "_law_many"] (defScope s__law_truths) := ⟨rfl, rfl, rfl, by decide +kernel, rfl, by decide +kernel, by decide +kernel⟩
abbrev s__law_laid : Stmt := topS 10
theorem sc__law_laid : FnScope N__law_laid ["_law_borders_here", "_law_truths_here"] (defScope s__law_laid) := ⟨rfl, rfl, rfl, by decide +kernel, rfl, by decide +kernel, by decide +kernel⟩
abbrev s__law_whole : Stmt := topS 11
theorem sc__law_whole : FnScope N__law_whole ["_law_thing"] (defScope s__law_whole) := ⟨rfl, rfl, rfl, by decide +kernel, rfl, by decide +kernel, by decide +kernel⟩
abbrev s__law_is_pair : Stmt := topS 12
theorem sc__law_is_pair : FnScope N__law_is_pair ["_law_thing"] (defScope s__law_is_pair) := ⟨rfl, rfl, rfl, by decide +kernel, rfl, by decide +kernel, by decide +kernel⟩
abbrev s__law_are_spans : Stmt := topS 13
theorem sc__law_are_spans : FnScope N__law_are_spans ["_law_thing"] (defScope s__law_are_spans) := ⟨rfl, rfl, rfl, by decide +kernel, rfl, by decide +kernel, by decide +kernel⟩
abbrev s__law_odd_number : Stmt := topS 14
theorem sc__law_odd_number : FnScope N__law_odd_number ["_law_deck_here", "_law_number", "_law_twin"] (defScope s__law_odd_number) := ⟨rfl, rfl, rfl, by decide +kernel, rfl, by decide +kernel, by decide +kernel⟩
abbrev s__law_odd_pair : Stmt := topS 15
theorem sc__law_odd_pair : FnScope N__law_odd_pair ["_law_deck_here", "_law_pair"] (defScope s__law_odd_pair) := ⟨rfl, rfl, rfl, by decide +kernel, rfl, by decide +kernel, by decide +kernel⟩
abbrev s__law_bent : Stmt := topS 16
theorem sc__law_bent : FnScope N__law_bent ["_law_deck_here", "_law_spans"] (defScope s__law_bent) := ⟨rfl, rfl, rfl, by decide +kernel, rfl, by decide +kernel, by decide +kernel⟩
abbrev s__law_great_right : Stmt := topS 17
theorem sc__law_great_right : FnScope N__law_great_right ["_law_deck_here"] (defScope s__law_great_right) := ⟨rfl, rfl, rfl, by decide +kernel, rfl, by decide +kernel, by decide +kernel⟩
abbrev s_law : Stmt := topS 18
theorem sc_law : FnScope N_law ["_law_script"] (defScope s_law) := ⟨rfl, rfl, rfl, by decide +kernel, rfl, by decide +kernel, by decide +kernel⟩
structure Fx (K : PySem.W.Frag) (mg : Str → Option Value) where
  f_is_whole : Addr
  fd_is_whole : FuncData
  F_is_whole : Fun K "is_whole" "is_whole" s_is_whole f_is_whole fd_is_whole
  b_is_whole : Binds K fd_is_whole ["thing"] []
  g_is_whole : mg "is_whole" = some (.ref f_is_whole)
  f_is_pair : Addr
  fd_is_pair : FuncData
  F_is_pair : Fun K "is_pair" "is_pair" s_is_pair f_is_pair fd_is_pair
  b_is_pair : Binds K fd_is_pair ["thing"] []
  g_is_pair : mg "is_pair" = some (.ref f_is_pair)
  f_is_spans : Addr
  fd_is_spans : FuncData
  F_is_spans : Fun K "is_spans" "is_spans" s_is_spans f_is_spans fd_is_spans
  b_is_spans : Binds K fd_is_spans ["thing"] []
  g_is_spans : mg "is_spans" = some (.ref f_is_spans)
  f__law_deck : Addr
  fd__law_deck : FuncData
  F__law_deck : Fun K "_law_deck" "_law_deck" s__law_deck f__law_deck fd__law_deck
  b__law_deck : Binds K fd__law_deck ["_law_script"] []
  g__law_deck : mg "_law_deck" = some (.ref f__law_deck)
  f__law_mixed : Addr
  fd__law_mixed : FuncData
  F__law_mixed : Fun K "_law_mixed" "_law_mixed" s__law_mixed f__law_mixed fd__law_mixed
  b__law_mixed : Binds K fd__law_mixed ["_law_cell", "_law_k"] []
  g__law_mixed : mg "_law_mixed" = some (.ref f__law_mixed)
  f__law_draw : Addr
  fd__law_draw : FuncData
  F__law_draw : Fun K "_law_draw" "_law_draw" s__law_draw f__law_draw fd__law_draw
  b__law_draw : Binds K fd__law_draw ["_law_deck_here", "_law_most"] []
  g__law_draw : mg "_law_draw" = some (.ref f__law_draw)
  f__law_borders : Addr
  fd__law_borders : FuncData
  F__law_borders : Fun K "_law_borders" "_law_borders" s__law_borders f__law_borders fd__law_borders
  b__law_borders : Binds K fd__law_borders ["_law_deck_here"] []
  g__law_borders : mg "_law_borders" = some (.ref f__law_borders)
  f__law_truths : Addr
  fd__law_truths : FuncData
  F__law_truths : Fun K "_law_truths" "_law_truths" s__law_truths f__law_truths fd__law_truths
  b__law_truths : Binds K fd__law_truths ["_law_deck_here", "_law_many"] []
  g__law_truths : mg "_law_truths" = some (.ref f__law_truths)
  f__law_laid : Addr
  fd__law_laid : FuncData
  F__law_laid : Fun K "_law_laid" "_law_laid" s__law_laid f__law_laid fd__law_laid
  b__law_laid : Binds K fd__law_laid ["_law_borders_here", "_law_truths_here"] []
  g__law_laid : mg "_law_laid" = some (.ref f__law_laid)
  f__law_whole : Addr
  fd__law_whole : FuncData
  F__law_whole : Fun K "_law_whole" "_law_whole" s__law_whole f__law_whole fd__law_whole
  b__law_whole : Binds K fd__law_whole ["_law_thing"] []
  g__law_whole : mg "_law_whole" = some (.ref f__law_whole)
  f__law_is_pair : Addr
  fd__law_is_pair : FuncData
  F__law_is_pair : Fun K "_law_is_pair" "_law_is_pair" s__law_is_pair f__law_is_pair fd__law_is_pair
  b__law_is_pair : Binds K fd__law_is_pair ["_law_thing"] []
  g__law_is_pair : mg "_law_is_pair" = some (.ref f__law_is_pair)
  f__law_are_spans : Addr
  fd__law_are_spans : FuncData
  F__law_are_spans : Fun K "_law_are_spans" "_law_are_spans" s__law_are_spans f__law_are_spans fd__law_are_spans
  b__law_are_spans : Binds K fd__law_are_spans ["_law_thing"] []
  g__law_are_spans : mg "_law_are_spans" = some (.ref f__law_are_spans)
  f__law_odd_number : Addr
  fd__law_odd_number : FuncData
  F__law_odd_number : Fun K "_law_odd_number" "_law_odd_number" s__law_odd_number f__law_odd_number fd__law_odd_number
  b__law_odd_number : Binds K fd__law_odd_number ["_law_deck_here", "_law_number", "_law_twin"] []
  g__law_odd_number : mg "_law_odd_number" = some (.ref f__law_odd_number)
  f__law_odd_pair : Addr
  fd__law_odd_pair : FuncData
  F__law_odd_pair : Fun K "_law_odd_pair" "_law_odd_pair" s__law_odd_pair f__law_odd_pair fd__law_odd_pair
  b__law_odd_pair : Binds K fd__law_odd_pair ["_law_deck_here", "_law_pair"] []
  g__law_odd_pair : mg "_law_odd_pair" = some (.ref f__law_odd_pair)
  f__law_bent : Addr
  fd__law_bent : FuncData
  F__law_bent : Fun K "_law_bent" "_law_bent" s__law_bent f__law_bent fd__law_bent
  b__law_bent : Binds K fd__law_bent ["_law_deck_here", "_law_spans"] []
  g__law_bent : mg "_law_bent" = some (.ref f__law_bent)
  f__law_great_right : Addr
  fd__law_great_right : FuncData
  F__law_great_right : Fun K "_law_great_right" "_law_great_right" s__law_great_right f__law_great_right fd__law_great_right
  b__law_great_right : Binds K fd__law_great_right ["_law_deck_here"] []
  g__law_great_right : mg "_law_great_right" = some (.ref f__law_great_right)
  f_law : Addr
  fd_law : FuncData
  F_law : Fun K "law" "law" s_law f_law fd_law
  b_law : Binds K fd_law ["_law_script"] []
  g_law : mg "law" = some (.ref f_law)
  m_all : mg "all" = none
  m_bool : mg "bool" = none
  m_int : mg "int" = none
  m_isinstance : mg "isinstance" = none
  m_len : mg "len" = none
  m_list : mg "list" = none
  m_range : mg "range" = none
  m_repr : mg "repr" = none
  m_str : mg "str" = none
  m_sum : mg "sum" = none
  m_tuple : mg "tuple" = none
  m_zip : mg "zip" = none
section
variable {P : Program} {w : World} {K : PySem.W.Frag} {mg : Str → Option Value} {base : Heap}
theorem ok_is_whole (T : Fx K mg) : FnOk P w K mg base CX0 1 T.f_is_whole T.fd_is_whole ["thing"] (liftSp K sp_is_whole) := by
  refine fn_ok (k := 0) (wb := sem_is_whole) T.F_is_whole sc_is_whole len_is_whole (fun cdv A outer s H E hr => ?_) pf_is_whole
  have hu := hr.units
  have hu0 := hr.units0
  have hu1 := Z.units1 hu
  have sc := sc_is_whole
  exact (fss_one (fs_ret (fe_and (fe_isi (T := .int) (by decide) (by rfl) T.m_isinstance (by rfl) T.m_int (by decide +kernel) (fe_var 0)) (fe_one (fe_not (fe_isi (T := .bool) (by decide) (by rfl) T.m_isinstance (by rfl) T.m_bool (by decide +kernel) (fe_var 0)))))))
theorem ok_is_pair (T : Fx K mg) : FnOk P w K mg base CX0 2 T.f_is_pair T.fd_is_pair ["thing"] (liftSp K sp_is_pair) := by
  refine fn_ok (k := 1) (wb := sem_is_pair) T.F_is_pair sc_is_pair len_is_pair (fun cdv A outer s H E hr => ?_) pf_is_pair
  have hu := hr.units
  have hu0 := hr.units0
  have hu1 := Z.units1 hu
  have sc := sc_is_pair
  exact (fss_cons (fs_if (ft_w (fw_or (ft_not (ft_val (fe_isi (T := .tuple) (by decide) (by rfl) T.m_isinstance (by rfl) T.m_tuple (by decide +kernel) (fe_var 0)))) (fw_or (ft_cmp (op_neA hu) sim_ne (fe_len (by rfl) T.m_len (fe_var 0)) fe_int (nomark _)) (fw_or (ft_not (ft_val (fe_call (ok_is_whole T) (hr.mono (by decide)) (by rfl) T.g_is_whole T.F_is_whole.kp T.b_is_whole pass0 (fa_cons (fe_ix (fe_var 0) fe_int) fa_nil)))) (fw_or1 (ft_cmp (op_ltB hu0) sim_ltB (fe_ix (fe_var 0) fe_int) fe_int (nomark _))))))) (fss_one (fs_ret fe_bl)) fss_nil)
  (fss_one (fs_ret (fe_or (fe_cmp op_isA sim_is (fe_ix (fe_var 0) fe_int) fe_non (nomark _)) (fe_one (fe_and (fe_call (ok_is_whole T) (hr.mono (by decide)) (by rfl) T.g_is_whole T.F_is_whole.kp T.b_is_whole pass0 (fa_cons (fe_ix (fe_var 0) fe_int) fa_nil)) (fe_one (fe_cmp (op_ltB hu0) sim_ltB (fe_ix (fe_var 0) fe_int) (fe_ix (fe_var 0) fe_int) (nomark _)))))))))
theorem ok_is_spans (T : Fx K mg) : FnOk P w K mg base CX0 3 T.f_is_spans T.fd_is_spans ["thing"] (liftSp K sp_is_spans) := by
  refine fn_ok (k := 2) (wb := sem_is_spans) T.F_is_spans sc_is_spans len_is_spans (fun cdv A outer s H E hr => ?_) pf_is_spans
  have hu := hr.units
  have hu0 := hr.units0
  have hu1 := Z.units1 hu
  have sc := sc_is_spans
  exact (fss_cons (fs_if (ft_w (fw_or (ft_not (ft_val (fe_isi (T := .tuple) (by decide) (by rfl) T.m_isinstance (by rfl) T.m_tuple (by decide +kernel) (fe_var 0)))) (fw_or1 (ft_not (ft_val (fe_L (cr_all rfl) sim_all (by rfl) T.m_all (by decide +kernel) (fl_lc (own := [("one", 1)]) rfl sc.nd (fi_seq (fe_var 0)) (blkOk_by (N := N_is_spans) (sc := defScope s_is_spans) (own := [("one", 1)]) (by decide +kernel)) (fun _ _ _ _ _ => (fg_name (i := 1) sc.nd)) (fun _ _ _ _ _ => fts_nil) (fun _ _ _ _ _ => (fe_call (ok_is_pair T) (hr.mono (by decide)) (by rfl) T.g_is_pair T.F_is_pair.kp T.b_is_pair pass0 (fa_cons (fe_var 1) fa_nil)))))))))) (fss_one (fs_ret fe_bl)) fss_nil)
  (fss_cons (fs_for PassesOwn.never rfl (fi_zip (by rfl) T.m_zip (fe_sl (fe_var 0) fo_none (fo_some (fe_neg fe_int))) (fe_sl (fe_var 0) (fo_some fe_int) fo_none)) (fg_tup rfl (fgs_cons (fg_name (i := 1) sc.nd) (fgs_cons (fg_name (i := 2) sc.nd) fgs_nil))) (fss_one (fs_if (ft_w (fw_or (ft_cmp op_isA sim_is (fe_ix (fe_var 1) fe_int) fe_non (nomark _)) (fw_or1 (ft_cmp op_ge sim_ge (fe_ix (fe_var 1) fe_int) (fe_ix (fe_var 2) fe_int) (nomark _))))) (fss_one (fs_ret fe_bl)) fss_nil)))
  (fss_one (fs_ret fe_bl))))
theorem ok__law_deck (T : Fx K mg) : FnOk P w K mg base CX0 1 T.f__law_deck T.fd__law_deck ["_law_script"] (liftSp K sp__law_deck) := by
  refine fn_ok (k := 0) (wb := sem__law_deck) T.F__law_deck sc__law_deck len__law_deck (fun cdv A outer s H E hr => ?_) pf__law_deck
  have hu := hr.units
  have hu0 := hr.units0
  have hu1 := Z.units1 hu
  have sc := sc__law_deck
  exact (fss_cons (fs_set (i := 1) sc.nd (fe_new (fl_list (by rfl) T.m_list (fq_new (fl_sl (fe_var 0) fo_none (fo_some fe_int))))))
  (fss_one (fs_ret (fe_disp (fps_cons fe_str (fe_var 1) (fps_cons fe_str (fe_add (fe_mod (fe_R (cr_sum rfl) sim_sum (by rfl) T.m_sum (by decide +kernel) (fe_var 1)) fe_int) (fe_len (by rfl) T.m_len (fe_var 1))) (fps_cons fe_str fe_int fps_nil)))))))
theorem ok__law_mixed (T : Fx K mg) : FnOk P w K mg base CX0 1 T.f__law_mixed T.fd__law_mixed ["_law_cell", "_law_k"] (liftSp K sp__law_mixed) := by
  refine fn_ok (k := 0) (wb := sem__law_mixed) T.F__law_mixed sc__law_mixed len__law_mixed (fun cdv A outer s H E hr => ?_) pf__law_mixed
  have hu := hr.units
  have hu0 := hr.units0
  have hu1 := Z.units1 hu
  have sc := sc__law_mixed
  exact (fss_cons (fs_set (i := 2) sc.nd (fe_mod (fe_add (fe_add (fe_mul (fe_mod (fe_var 0) fe_int) fe_int) (fe_mul fe_int (fe_var 1))) fe_int) fe_int))
  (fss_cons (fs_set (i := 2) sc.nd (fe_mod (fe_mul (fe_var 2) (fe_var 2)) fe_int))
  (fss_cons (fs_set (i := 3) sc.nd (fe_mod (fe_add (fe_add (fe_mul (fe_var 2) fe_int) (fe_mul fe_int (fe_var 1))) fe_int) fe_int))
  (fss_one (fs_ret (fe_add (fe_div (fe_var 2) fe_int) (fe_mul fe_int (fe_div (fe_var 3) fe_int))))))))
theorem ok__law_draw (T : Fx K mg) : FnOk P w K mg base CX0 2 T.f__law_draw T.fd__law_draw ["_law_deck_here", "_law_most"] (liftSp K sp__law_draw) := by
  refine fn_ok (k := 1) (wb := sem__law_draw) T.F__law_draw sc__law_draw len__law_draw (fun cdv A outer s H E hr => ?_) pf__law_draw
  have hu := hr.units
  have hu0 := hr.units0
  have hu1 := Z.units1 hu
  have sc := sc__law_draw
  exact (fss_loc (fss_cons (fs_dput hu1 (fe_var 0) fe_str (fe_add (fe_dget hu1 (fe_var 0) fe_str) fe_int))
  (fss_cons (fs_set (i := 2) sc.nd (fe_dget hu1 (fe_var 0) fe_str))
  (fss_cons (fs_set (i := 3) sc.nd (fe_dget hu1 (fe_var 0) fe_str))
  (fss_cons (fs_if (ft_cmp (op_neA hu) sim_ne (fe_var 2) (fe_new (fl_lst fa_nil)) (nomark _)) (fss_cons (fs_set (i := 3) sc.nd (fe_popAt (fe_var 2) (fa_cons fe_int fa_nil)))
  (fss_one (fs_if (ft_cmp op_ge sim_ge (fe_var 3) (fe_powc (r := 1000000000000000000) ⟨by decide, by decide, by decide⟩ (by decide +kernel)) (nomark _)) (fss_cons (fs_expr (fe_insert (fe_var 2) (fa_cons fe_int (fa_cons (fe_div (fe_var 3) (fe_var 1)) fa_nil))))
  (fss_one (fs_ret (fe_mod (fe_var 3) (fe_var 1))))) fss_nil))) fss_nil)
  (fss_one (fs_ret (fe_mod (fe_call (ok__law_mixed T) (hr.mono (by decide)) (by rfl) T.g__law_mixed T.F__law_mixed.kp T.b__law_mixed pass0 (fa_cons (fe_var 3) (fa_cons (fe_dget hu1 (fe_var 0) fe_str) fa_nil))) (fe_var 1)))))))))
theorem ok__law_borders (T : Fx K mg) : FnOk P w K mg base CX0 3 T.f__law_borders T.fd__law_borders ["_law_deck_here"] (liftSp K sp__law_borders) := by
  refine fn_ok (k := 2) (wb := sem__law_borders) T.F__law_borders sc__law_borders len__law_borders (fun cdv A outer s H E hr => ?_) pf__law_borders
  have hu := hr.units
  have hu0 := hr.units0
  have hu1 := Z.units1 hu
  have sc := sc__law_borders
  exact (fss_loc (fss_cons (fs_set (i := 1) sc.nd (fe_ixL (fl_lst (fa_cons fe_int (fa_cons (fe_add fe_int (fe_call (ok__law_draw T) (hr.mono (by decide)) (by rfl) T.g__law_draw T.F__law_draw.kp T.b__law_draw pass0 (fa_cons (fe_var 0) (fa_cons fe_int fa_nil)))) fa_nil))) (fe_call (ok__law_draw T) (hr.mono (by decide)) (by rfl) T.g__law_draw T.F__law_draw.kp T.b__law_draw pass0 (fa_cons (fe_var 0) (fa_cons fe_int fa_nil)))))
  (fss_cons (fs_set (i := 2) sc.nd (fe_ixL (fl_lst (fa_cons (fe_add fe_int (fe_call (ok__law_draw T) (hr.mono (by decide)) (by rfl) T.g__law_draw T.F__law_draw.kp T.b__law_draw pass0 (fa_cons (fe_var 0) (fa_cons fe_int fa_nil)))) (fa_cons (fe_var 1) fa_nil))) (fe_intB (by rfl) T.m_int (fe_cmp (op_eqA hu) sim_eq (fe_call (ok__law_draw T) (hr.mono (by decide)) (by rfl) T.g__law_draw T.F__law_draw.kp T.b__law_draw pass0 (fa_cons (fe_var 0) (fa_cons fe_int fa_nil))) fe_int (nomark _)))))
  (fss_cons (fs_set (i := 3) sc.nd (fe_new (fl_lst (fa_cons fe_int fa_nil))))
  (fss_cons (fs_while PassesOwn.never (ft_cmp (op_ltB hu0) sim_ltB (fe_len (by rfl) T.m_len (fe_var 3)) (fe_var 2) (nomark _)) (fss_loc (fss_cons (fs_set (i := 4) sc.nd (fe_ixL (fl_lst (fa_cons fe_int (fa_cons fe_int (fa_cons fe_int (fa_cons (fe_add fe_int (fe_call (ok__law_draw T) (hr.mono (by decide)) (by rfl) T.g__law_draw T.F__law_draw.kp T.b__law_draw pass0 (fa_cons (fe_var 0) (fa_cons fe_int fa_nil)))) (fa_cons (fe_add fe_int (fe_call (ok__law_draw T) (hr.mono (by decide)) (by rfl) T.g__law_draw T.F__law_draw.kp T.b__law_draw pass0 (fa_cons (fe_var 0) (fa_cons (fe_mul fe_int (fe_powc (r := 1000000) ⟨by decide, by decide, by decide⟩ (by decide +kernel))) fa_nil)))) fa_nil)))))) (fe_call (ok__law_draw T) (hr.mono (by decide)) (by rfl) T.g__law_draw T.F__law_draw.kp T.b__law_draw pass0 (fa_cons (fe_var 0) (fa_cons fe_int fa_nil)))))
  (fss_one (fs_expr (fe_append (fe_var 3) (fa_cons (fe_add (fe_ix (fe_var 3) (fe_neg fe_int)) (fe_var 4)) fa_nil)))))))
  (fss_loc (fss_cons (fs_if (ft_w (fw_and (ft_cmp op_gt sim_gt (fe_var 2) fe_int (nomark _)) (fw_and1 (ft_cmp (op_eqA hu) sim_eq (fe_call (ok__law_draw T) (hr.mono (by decide)) (by rfl) T.g__law_draw T.F__law_draw.kp T.b__law_draw pass0 (fa_cons (fe_var 0) (fa_cons fe_int fa_nil))) fe_int (nomark _))))) (fss_one (fs_asg (fe_powc (r := 1000000000) ⟨by decide, by decide, by decide⟩ (by decide +kernel)) (fg_ix (fe_var 3) (fe_neg fe_int)))) fss_nil)
  (fss_one (fs_ret (fe_var 3))))))))))
theorem ok__law_truths (T : Fx K mg) : FnOk P w K mg base CX0 3 T.f__law_truths T.fd__law_truths ["_law_deck_here", "_law_many"] (liftSp K sp__law_truths) := by
  refine fn_ok (k := 2) (wb := sem__law_truths) T.F__law_truths sc__law_truths len__law_truths (fun cdv A outer s H E hr => ?_) pf__law_truths
  have hu := hr.units
  have hu0 := hr.units0
  have hu1 := Z.units1 hu
  have sc := sc__law_truths
  exact (fss_loc (fss_cons (fs_set (i := 2) sc.nd (fe_call (ok__law_draw T) (hr.mono (by decide)) (by rfl) T.g__law_draw T.F__law_draw.kp T.b__law_draw pass0 (fa_cons (fe_var 0) (fa_cons fe_int fa_nil))))
  (fss_cons (fs_if (ft_cmp (op_ltB hu0) sim_ltB (fe_var 2) fe_int (nomark _)) (fss_one (fs_ret (fe_new (fl_lc (own := [("_law_k", 3)]) rfl sc.nd (fi_range1 (by rfl) T.m_range (fa_cons (fe_var 1) fa_nil)) (blkOk_by (N := N__law_truths) (sc := defScope s__law_truths) (own := [("_law_k", 3)]) (by decide +kernel)) (fun _ _ _ _ _ => (fg_name (i := 3) sc.nd)) (fun _ _ _ _ _ => fts_nil) (fun _ _ _ _ _ => (fe_cmp (op_eqA hu) sim_eq (fe_var 2) fe_int (nomark _))))))) fss_nil)
  (fss_cons (fs_if (ft_cmp (op_eqA hu) sim_eq (fe_var 2) fe_int (nomark _)) (fss_cons (fs_set (i := 4) sc.nd (fe_call (ok__law_draw T) (hr.mono (by decide)) (by rfl) T.g__law_draw T.F__law_draw.kp T.b__law_draw pass0 (fa_cons (fe_var 0) (fa_cons fe_int fa_nil))))
  (fss_one (fs_ret (fe_new (fl_lc (own := [("_law_k", 3)]) rfl sc.nd (fi_range1 (by rfl) T.m_range (fa_cons (fe_var 1) fa_nil)) (blkOk_by (N := N__law_truths) (sc := defScope s__law_truths) (own := [("_law_k", 3)]) (by decide +kernel)) (fun _ _ _ _ _ => (fg_name (i := 3) sc.nd)) (fun _ _ _ _ _ => fts_nil) (fun _ _ _ _ _ => (fe_cmp (op_eqA hu) sim_eq (fe_mod (fe_var 3) fe_int) (fe_var 4) (nomark _)))))))) fss_nil)
  (fss_one (fs_ret (fe_new (fl_lc (own := [("_law_k", 3)]) rfl sc.nd (fi_range1 (by rfl) T.m_range (fa_cons (fe_var 1) fa_nil)) (blkOk_by (N := N__law_truths) (sc := defScope s__law_truths) (own := [("_law_k", 3)]) (by decide +kernel)) (fun _ _ _ _ _ => (fg_name (i := 3) sc.nd)) (fun _ _ _ _ _ => fts_nil) (fun _ _ _ _ _ => (fe_cmp (op_eqA hu) sim_eq (fe_call (ok__law_draw T) (hr.mono (by decide)) (by rfl) T.g__law_draw T.F__law_draw.kp T.b__law_draw pass0 (fa_cons (fe_var 0) (fa_cons fe_int fa_nil))) fe_int (nomark _)))))))))))
theorem ok__law_laid (T : Fx K mg) : FnOk P w K mg base CX0 1 T.f__law_laid T.fd__law_laid ["_law_borders_here", "_law_truths_here"] (liftSp K sp__law_laid) := by
  refine fn_ok (k := 0) (wb := sem__law_laid) T.F__law_laid sc__law_laid len__law_laid (fun cdv A outer s H E hr => ?_) pf__law_laid
  have hu := hr.units
  have hu0 := hr.units0
  have hu1 := Z.units1 hu
  have sc := sc__law_laid
  exact (fss_loc (fss_cons (fs_set (i := 2) sc.nd (fe_new (fl_lst fa_nil)))
  (fss_cons (fs_for PassesOwn.never rfl (fi_range1 (by rfl) T.m_range (fa_cons (fe_len (by rfl) T.m_len (fe_var 0)) fa_nil)) (fg_name (i := 3) sc.nd) (fss_loc (fss_cons (fs_set (i := 4) sc.nd (fe_ixL (fl_catE (fe_var 0) (fl_lst (fa_cons fe_non fa_nil))) (fe_add (fe_var 3) fe_int)))
  (fss_one (fs_if (ft_w (fw_and (ft_val (fe_ix (fe_var 1) (fe_var 3))) (fw_and (ft_cmp (op_neA hu) sim_ne (fe_var 2) (fe_new (fl_lst fa_nil)) (nomark _)) (fw_and1 (ft_cmp (op_eqA hu) sim_eq (fe_ix (fe_ix (fe_var 2) (fe_neg fe_int)) fe_int) (fe_ix (fe_var 0) (fe_var 3)) (nomark _)))))) (fss_one (fs_asg (fe_tup (fa_cons (fe_ix (fe_ix (fe_var 2) (fe_neg fe_int)) fe_int) (fa_cons (fe_var 4) fa_nil))) (fg_ix (fe_var 2) (fe_neg fe_int)))) (fss_one (fs_if (ft_val (fe_ix (fe_var 1) (fe_var 3))) (fss_one (fs_expr (fe_append (fe_var 2) (fa_cons (fe_tup (fa_cons (fe_ix (fe_var 0) (fe_var 3)) (fa_cons (fe_var 4) fa_nil))) fa_nil)))) fss_nil)))))))
  (fss_loc (fss_one (fs_ret (fe_QT call_tuple_of sim_tuple (by rfl) T.m_tuple (by decide +kernel) (fq_of (fe_var 2)))))))))
theorem ok__law_whole (T : Fx K mg) : FnOk P w K mg base CX0 1 T.f__law_whole T.fd__law_whole ["_law_thing"] (liftSp K sp__law_whole) := by
  refine fn_ok (k := 0) (wb := sem__law_whole) T.F__law_whole sc__law_whole len__law_whole (fun cdv A outer s H E hr => ?_) pf__law_whole
  have hu := hr.units
  have hu0 := hr.units0
  have hu1 := Z.units1 hu
  have sc := sc__law_whole
  exact (fss_one (fs_ret (fe_and (fe_isi (T := .int) (by decide) (by rfl) T.m_isinstance (by rfl) T.m_int (by decide +kernel) (fe_var 0)) (fe_one (fe_not (fe_isi (T := .bool) (by decide) (by rfl) T.m_isinstance (by rfl) T.m_bool (by decide +kernel) (fe_var 0)))))))
theorem ok__law_is_pair (T : Fx K mg) : FnOk P w K mg base CX0 2 T.f__law_is_pair T.fd__law_is_pair ["_law_thing"] (liftSp K sp__law_is_pair) := by
  refine fn_ok (k := 1) (wb := sem__law_is_pair) T.F__law_is_pair sc__law_is_pair len__law_is_pair (fun cdv A outer s H E hr => ?_) pf__law_is_pair
  have hu := hr.units
  have hu0 := hr.units0
  have hu1 := Z.units1 hu
  have sc := sc__law_is_pair
  exact (fss_cons (fs_if (ft_w (fw_or (ft_not (ft_val (fe_isi (T := .tuple) (by decide) (by rfl) T.m_isinstance (by rfl) T.m_tuple (by decide +kernel) (fe_var 0)))) (fw_or (ft_cmp (op_neA hu) sim_ne (fe_len (by rfl) T.m_len (fe_var 0)) fe_int (nomark _)) (fw_or (ft_not (ft_val (fe_call (ok__law_whole T) (hr.mono (by decide)) (by rfl) T.g__law_whole T.F__law_whole.kp T.b__law_whole pass0 (fa_cons (fe_ix (fe_var 0) fe_int) fa_nil)))) (fw_or1 (ft_cmp (op_ltB hu0) sim_ltB (fe_ix (fe_var 0) fe_int) fe_int (nomark _))))))) (fss_one (fs_ret fe_bl)) fss_nil)
  (fss_cons (fs_if (ft_cmp op_isA sim_is (fe_ix (fe_var 0) fe_int) fe_non (nomark _)) (fss_one (fs_ret fe_bl)) fss_nil)
  (fss_one (fs_ret (fe_and (fe_call (ok__law_whole T) (hr.mono (by decide)) (by rfl) T.g__law_whole T.F__law_whole.kp T.b__law_whole pass0 (fa_cons (fe_ix (fe_var 0) fe_int) fa_nil)) (fe_one (fe_cmp op_gt sim_gt (fe_ix (fe_var 0) fe_int) (fe_ix (fe_var 0) fe_int) (nomark _))))))))
theorem ok__law_are_spans (T : Fx K mg) : FnOk P w K mg base CX0 3 T.f__law_are_spans T.fd__law_are_spans ["_law_thing"] (liftSp K sp__law_are_spans) := by
  refine fn_ok (k := 2) (wb := sem__law_are_spans) T.F__law_are_spans sc__law_are_spans len__law_are_spans (fun cdv A outer s H E hr => ?_) pf__law_are_spans
  have hu := hr.units
  have hu0 := hr.units0
  have hu1 := Z.units1 hu
  have sc := sc__law_are_spans
  exact (fss_cons (fs_if (ft_not (ft_val (fe_isi (T := .tuple) (by decide) (by rfl) T.m_isinstance (by rfl) T.m_tuple (by decide +kernel) (fe_var 0)))) (fss_one (fs_ret fe_bl)) fss_nil)
  (fss_cons (fs_set (i := 1) sc.nd (fe_neg fe_int))
  (fss_cons (fs_for PassesOwn.never rfl (fi_seq (fe_var 0)) (fg_name (i := 2) sc.nd) (fss_cons (fs_if (ft_w (fw_or (ft_cmp op_isA sim_is (fe_var 1) fe_non (nomark _)) (fw_or (ft_not (ft_val (fe_call (ok__law_is_pair T) (hr.mono (by decide)) (by rfl) T.g__law_is_pair T.F__law_is_pair.kp T.b__law_is_pair pass0 (fa_cons (fe_var 2) fa_nil)))) (fw_or1 (ft_cmp op_le sim_le (fe_ix (fe_var 2) fe_int) (fe_var 1) (nomark _)))))) (fss_one (fs_ret fe_bl)) fss_nil)
  (fss_one (fs_set (i := 1) sc.nd (fe_ix (fe_var 2) fe_int)))))
  (fss_one (fs_ret fe_bl)))))
theorem ok__law_odd_number (T : Fx K mg) : FnOk P w K mg base CX0 3 T.f__law_odd_number T.fd__law_odd_number ["_law_deck_here", "_law_number", "_law_twin"] (liftSp K sp__law_odd_number) := by
  refine fn_ok (k := 2) (wb := sem__law_odd_number) T.F__law_odd_number sc__law_odd_number len__law_odd_number (fun cdv A outer s H E hr => ?_) pf__law_odd_number
  have hu := hr.units
  have hu0 := hr.units0
  have hu1 := Z.units1 hu
  have sc := sc__law_odd_number
  exact (fss_cons (fs_set (i := 3) sc.nd (fe_var 1))
  (fss_cons (fs_if (ft_cmp op_isA sim_is (fe_var 1) fe_non (nomark _)) (fss_one (fs_set (i := 3) sc.nd (fe_var 2))) fss_nil)
  (fss_cons (fs_set (i := 4) sc.nd (fe_new (fl_lst (fa_cons (fe_sub (fe_var 3) fe_int) (fa_cons (fe_add (fe_var 3) fe_int) (fa_cons (fe_var 2) (fa_cons fe_int (fa_cons (fe_neg fe_int) (fa_cons (fe_sub fe_int (fe_var 3)) (fa_cons (fe_sub (fe_powc (r := 10000000000000000000000000000000000000000) ⟨by decide, by decide, by decide⟩ (by decide +kernel)) fe_int) (fa_cons fe_non (fa_cons fe_bl (fa_cons fe_bl fa_nil)))))))))))))
  (fss_cons (fs_set (i := 4) sc.nd (fe_new (fl_catE (fe_var 4) (fl_lst (fa_cons (fe_strI (by rfl) T.m_str (fe_var 3)) (fa_cons fe_str (fa_cons (fe_tup (fa_cons (fe_var 3) fa_nil)) (fa_cons (fe_new (fl_lst (fa_cons (fe_var 3) fa_nil))) (fa_cons fe_newK (fa_cons (fe_add (fe_add (fe_var 3) fe_int) (fe_call (ok__law_draw T) (hr.mono (by decide)) (by rfl) T.g__law_draw T.F__law_draw.kp T.b__law_draw pass0 (fa_cons (fe_var 0) (fa_cons fe_int fa_nil)))) fa_nil))))))))))
  (fss_one (fs_ret (fe_ix (fe_var 4) (fe_call (ok__law_draw T) (hr.mono (by decide)) (by rfl) T.g__law_draw T.F__law_draw.kp T.b__law_draw pass0 (fa_cons (fe_var 0) (fa_cons fe_int fa_nil))))))))))
theorem ok__law_odd_pair (T : Fx K mg) : FnOk P w K mg base CX0 4 T.f__law_odd_pair T.fd__law_odd_pair ["_law_deck_here", "_law_pair"] (liftSp K sp__law_odd_pair) := by
  refine fn_ok (k := 3) (wb := sem__law_odd_pair) T.F__law_odd_pair sc__law_odd_pair len__law_odd_pair (fun cdv A outer s H E hr => ?_) pf__law_odd_pair
  have hu := hr.units
  have hu0 := hr.units0
  have hu1 := Z.units1 hu
  have sc := sc__law_odd_pair
  exact (fss_cons (fs_asg (fe_var 1) (fg_tup rfl (fgs_cons (fg_name (i := 2) sc.nd) (fgs_cons (fg_name (i := 3) sc.nd) fgs_nil))))
  (fss_cons (fs_set (i := 4) sc.nd (fe_var 3))
  (fss_cons (fs_if (ft_cmp op_isA sim_is (fe_var 3) fe_non (nomark _)) (fss_one (fs_set (i := 4) sc.nd (fe_add (fe_var 2) fe_int))) fss_nil)
  (fss_cons (fs_set (i := 5) sc.nd (fe_call (ok__law_draw T) (hr.mono (by decide)) (by rfl) T.g__law_draw T.F__law_draw.kp T.b__law_draw pass0 (fa_cons (fe_var 0) (fa_cons fe_int fa_nil))))
  (fss_cons (fs_if (ft_cmp (op_eqA hu) sim_eq (fe_var 5) fe_int (nomark _)) (fss_one (fs_ret (fe_tup (fa_cons (fe_call (ok__law_odd_number T) (hr.mono (by decide)) (by rfl) T.g__law_odd_number T.F__law_odd_number.kp T.b__law_odd_number pass0 (fa_cons (fe_var 0) (fa_cons (fe_var 2) (fa_cons (fe_var 4) fa_nil)))) (fa_cons (fe_var 3) fa_nil))))) fss_nil)
  (fss_cons (fs_if (ft_cmp (op_eqA hu) sim_eq (fe_var 5) fe_int (nomark _)) (fss_one (fs_ret (fe_tup (fa_cons (fe_var 2) (fa_cons (fe_call (ok__law_odd_number T) (hr.mono (by decide)) (by rfl) T.g__law_odd_number T.F__law_odd_number.kp T.b__law_odd_number pass0 (fa_cons (fe_var 0) (fa_cons (fe_var 3) (fa_cons (fe_var 2) fa_nil)))) fa_nil))))) fss_nil)
  (fss_cons (fs_set (i := 6) sc.nd (fe_new (fl_lst (fa_cons (fe_tup (fa_cons (fe_var 2) fa_nil)) (fa_cons (fe_tup (fa_cons (fe_var 2) (fa_cons (fe_var 3) (fa_cons (fe_var 4) fa_nil)))) (fa_cons (fe_tup (fa_cons (fe_var 4) (fa_cons (fe_var 2) fa_nil))) (fa_cons (fe_tup (fa_cons (fe_var 2) (fa_cons (fe_var 2) fa_nil))) (fa_cons (fe_new (fl_lst (fa_cons (fe_var 2) (fa_cons (fe_var 3) fa_nil)))) (fa_cons (fe_var 2) (fa_cons fe_non (fa_cons fe_str (fa_cons (fe_tup fa_nil) (fa_cons (fe_tup (fa_cons (fe_tup (fa_cons (fe_var 2) (fa_cons (fe_var 3) fa_nil))) fa_nil)) fa_nil)))))))))))))
  (fss_one (fs_ret (fe_ix (fe_var 6) (fe_call (ok__law_draw T) (hr.mono (by decide)) (by rfl) T.g__law_draw T.F__law_draw.kp T.b__law_draw pass0 (fa_cons (fe_var 0) (fa_cons fe_int fa_nil)))))))))))))
theorem ok__law_bent (T : Fx K mg) : FnOk P w K mg base CX0 5 T.f__law_bent T.fd__law_bent ["_law_deck_here", "_law_spans"] (liftSp K sp__law_bent) := by
  refine fn_ok (k := 4) (wb := sem__law_bent) T.F__law_bent sc__law_bent len__law_bent (fun cdv A outer s H E hr => ?_) pf__law_bent
  have hu := hr.units
  have hu0 := hr.units0
  have hu1 := Z.units1 hu
  have sc := sc__law_bent
  exact (fss_cons (fs_if (ft_cmp (op_eqA hu) sim_eq (fe_var 1) (fe_tup fa_nil) (nomark _)) (fss_cons (fs_set (i := 2) sc.nd (fe_new (fl_lst (fa_cons fe_non (fa_cons (fe_new (fl_lst fa_nil)) (fa_cons fe_newK (fa_cons fe_str (fa_cons fe_int (fa_cons fe_bl (fa_cons (fe_tup (fa_cons (fe_tup fa_nil) fa_nil)) (fa_cons (fe_tup (fa_cons fe_non fa_nil)) (fa_cons (fe_tup (fa_cons (fe_tup (fa_cons fe_int (fa_cons fe_non (fa_cons fe_non fa_nil)))) fa_nil)) (fa_cons (fe_tup (fa_cons (fe_tup (fa_cons fe_non (fa_cons fe_int fa_nil))) fa_nil)) fa_nil)))))))))))))
  (fss_one (fs_ret (fe_ix (fe_var 2) (fe_call (ok__law_draw T) (hr.mono (by decide)) (by rfl) T.g__law_draw T.F__law_draw.kp T.b__law_draw pass0 (fa_cons (fe_var 0) (fa_cons fe_int fa_nil))))))) fss_nil)
  (fss_cons (fs_set (i := 3) sc.nd (fe_call (ok__law_draw T) (hr.mono (by decide)) (by rfl) T.g__law_draw T.F__law_draw.kp T.b__law_draw pass0 (fa_cons (fe_var 0) (fa_cons (fe_len (by rfl) T.m_len (fe_var 1)) fa_nil))))
  (fss_cons (fs_set (i := 4) sc.nd (fe_ix (fe_var 1) (fe_var 3)))
  (fss_cons (fs_set (i := 5) sc.nd (fe_call (ok__law_draw T) (hr.mono (by decide)) (by rfl) T.g__law_draw T.F__law_draw.kp T.b__law_draw pass0 (fa_cons (fe_var 0) (fa_cons fe_int fa_nil))))
  (fss_cons (fs_if (ft_cmp (op_ltB hu0) sim_ltB (fe_var 5) fe_int (nomark _)) (fss_one (fs_ret (fe_add (fe_add (fe_sl (fe_var 1) fo_none (fo_some (fe_var 3))) (fe_tup (fa_cons (fe_call (ok__law_odd_pair T) (hr.mono (by decide)) (by rfl) T.g__law_odd_pair T.F__law_odd_pair.kp T.b__law_odd_pair pass0 (fa_cons (fe_var 0) (fa_cons (fe_var 4) fa_nil))) fa_nil))) (fe_sl (fe_var 1) (fo_some (fe_add (fe_var 3) fe_int)) fo_none)))) fss_nil)
  (fss_cons (fs_if (ft_cmp (op_eqA hu) sim_eq (fe_var 5) fe_int (nomark _)) (fss_one (fs_ret (fe_add (fe_add (fe_sl (fe_var 1) fo_none (fo_some (fe_var 3))) (fe_tup (fa_cons (fe_var 4) fa_nil))) (fe_sl (fe_var 1) (fo_some (fe_var 3)) fo_none)))) fss_nil)
  (fss_cons (fs_if (ft_cmp (op_eqA hu) sim_eq (fe_var 5) fe_int (nomark _)) (fss_one (fs_ret (fe_add (fe_add (fe_add (fe_sl (fe_var 1) fo_none (fo_some (fe_var 3))) (fe_sl (fe_var 1) (fo_some (fe_add (fe_var 3) fe_int)) (fo_some (fe_add (fe_var 3) fe_int)))) (fe_tup (fa_cons (fe_var 4) fa_nil))) (fe_sl (fe_var 1) (fo_some (fe_add (fe_var 3) fe_int)) fo_none)))) fss_nil)
  (fss_cons (fs_if (ft_cmp (op_eqA hu) sim_eq (fe_var 5) fe_int (nomark _)) (fss_one (fs_ret (fe_add (fe_sl (fe_var 1) fo_none (fo_some (fe_var 3))) (fe_sl (fe_var 1) (fo_some (fe_add (fe_var 3) fe_int)) fo_none)))) fss_nil)
  (fss_cons (fs_if (ft_cmp (op_eqA hu) sim_eq (fe_var 5) fe_int (nomark _)) (fss_cons (fs_set (i := 2) sc.nd (fe_new (fl_lst (fa_cons (fe_backT (fe_var 1) fo_none fo_none (fo_some (fe_neg fe_int))) (fa_cons (fe_new (fl_list (by rfl) T.m_list (fq_of (fe_var 1)))) (fa_cons (fe_add (fe_var 1) (fe_tup (fa_cons fe_non fa_nil))) (fa_cons (fe_add (fe_var 1) (fe_tup (fa_cons (fe_tup (fa_cons (fe_powc (r := 1000000000000) ⟨by decide, by decide, by decide⟩ (by decide +kernel)) (fa_cons fe_non fa_nil))) fa_nil))) (fa_cons (fe_tup (fa_cons (fe_var 1) fa_nil)) fa_nil))))))))
  (fss_one (fs_ret (fe_ix (fe_var 2) (fe_call (ok__law_draw T) (hr.mono (by decide)) (by rfl) T.g__law_draw T.F__law_draw.kp T.b__law_draw pass0 (fa_cons (fe_var 0) (fa_cons fe_int fa_nil))))))) fss_nil)
  (fss_cons (fs_set (i := 6) sc.nd (fe_ix (fe_var 4) fe_int))
  (fss_cons (fs_if (ft_cmp op_isA sim_is (fe_var 6) fe_non (nomark _)) (fss_one (fs_set (i := 6) sc.nd (fe_ix (fe_var 4) fe_int))) fss_nil)
  (fss_cons (fs_set (i := 7) sc.nd (fe_tup (fa_cons (fe_add (fe_var 6) (fe_call (ok__law_draw T) (hr.mono (by decide)) (by rfl) T.g__law_draw T.F__law_draw.kp T.b__law_draw pass0 (fa_cons (fe_var 0) (fa_cons fe_int fa_nil)))) (fa_cons fe_non fa_nil))))
  (fss_one (fs_ret (fe_add (fe_add (fe_sl (fe_var 1) fo_none (fo_some (fe_add (fe_var 3) fe_int))) (fe_tup (fa_cons (fe_var 7) fa_nil))) (fe_sl (fe_sl (fe_var 1) (fo_some (fe_add (fe_var 3) fe_int)) fo_none) fo_none (fo_some (fe_call (ok__law_draw T) (hr.mono (by decide)) (by rfl) T.g__law_draw T.F__law_draw.kp T.b__law_draw pass0 (fa_cons (fe_var 0) (fa_cons fe_int fa_nil))))))))))))))))))))
theorem ok__law_great_right (T : Fx K mg) : FnOk P w K mg base CX0 5 T.f__law_great_right T.fd__law_great_right ["_law_deck_here"] (liftSp K sp__law_great_right) := by
  refine fn_ok (k := 4) (wb := sem__law_great_right) T.F__law_great_right sc__law_great_right len__law_great_right (fun cdv A outer s H E hr => ?_) pf__law_great_right
  have hu := hr.units
  have hu0 := hr.units0
  have hu1 := Z.units1 hu
  have sc := sc__law_great_right
  exact (fss_cons (fs_set (i := 1) sc.nd (fe_add fe_int (fe_call (ok__law_draw T) (hr.mono (by decide)) (by rfl) T.g__law_draw T.F__law_draw.kp T.b__law_draw pass0 (fa_cons (fe_var 0) (fa_cons fe_int fa_nil)))))
  (fss_cons (fs_set (i := 2) sc.nd (fe_add fe_int (fe_call (ok__law_draw T) (hr.mono (by decide)) (by rfl) T.g__law_draw T.F__law_draw.kp T.b__law_draw pass0 (fa_cons (fe_var 0) (fa_cons fe_int fa_nil)))))
  (fss_cons (fs_set (i := 3) sc.nd (fe_QT call_tuple_of sim_tuple (by rfl) T.m_tuple (by decide +kernel) (fq_new (fl_lc (own := [("_law_k", 4)]) rfl sc.nd (fi_range1 (by rfl) T.m_range (fa_cons (fe_var 1) fa_nil)) (blkOk_by (N := N__law_great_right) (sc := defScope s__law_great_right) (own := [("_law_k", 4)]) (by decide +kernel)) (fun _ _ _ _ _ => (fg_name (i := 4) sc.nd)) (fun _ _ _ _ _ => fts_nil) (fun _ _ _ _ _ => (fe_tup (fa_cons (fe_mul (fe_var 2) (fe_var 4)) (fa_cons (fe_add (fe_mul (fe_var 2) (fe_var 4)) fe_int) fa_nil))))))))
  (fss_cons (fs_set (i := 5) sc.nd (fe_ixL (fl_lst (fa_cons (fe_sub (fe_var 1) fe_int) (fa_cons (fe_call (ok__law_draw T) (hr.mono (by decide)) (by rfl) T.g__law_draw T.F__law_draw.kp T.b__law_draw pass0 (fa_cons (fe_var 0) (fa_cons (fe_var 1) fa_nil))) fa_nil))) (fe_call (ok__law_draw T) (hr.mono (by decide)) (by rfl) T.g__law_draw T.F__law_draw.kp T.b__law_draw pass0 (fa_cons (fe_var 0) (fa_cons fe_int fa_nil)))))
  (fss_cons (fs_set (i := 6) sc.nd (fe_add (fe_add (fe_sl (fe_var 3) fo_none (fo_some (fe_var 5))) (fe_tup (fa_cons (fe_call (ok__law_odd_pair T) (hr.mono (by decide)) (by rfl) T.g__law_odd_pair T.F__law_odd_pair.kp T.b__law_odd_pair pass0 (fa_cons (fe_var 0) (fa_cons (fe_ix (fe_var 3) (fe_var 5)) fa_nil))) fa_nil))) (fe_sl (fe_var 3) (fo_some (fe_add (fe_var 5) fe_int)) fo_none)))
  (fss_cons (fs_set (i := 7) sc.nd (fe_new (fl_lst (fa_cons (fe_call (ok_is_spans T) (hr.mono (by decide)) (by rfl) T.g_is_spans T.F_is_spans.kp T.b_is_spans pass0 (fa_cons (fe_var 3) fa_nil)) (fa_cons (fe_call (ok_is_spans T) (hr.mono (by decide)) (by rfl) T.g_is_spans T.F_is_spans.kp T.b_is_spans pass0 (fa_cons (fe_var 6) fa_nil)) (fa_cons (fe_call (ok_is_spans T) (hr.mono (by decide)) (by rfl) T.g_is_spans T.F_is_spans.kp T.b_is_spans pass0 (fa_cons (fe_add (fe_var 3) (fe_sl (fe_var 3) (fo_some (fe_neg fe_int)) fo_none)) fa_nil)) fa_nil))))))
  (fss_one (fs_ret (fe_and (fe_cmp op_isA sim_is (fe_ix (fe_var 7) fe_int) fe_bl (nomark _)) (fe_and (fe_isi (T := .bool) (by decide) (by rfl) T.m_isinstance (by rfl) T.m_bool (by decide +kernel) (fe_ix (fe_var 7) fe_int)) (fe_and (fe_cmp (op_eqA hu) sim_eq (fe_ix (fe_var 7) fe_int) (fe_call (ok__law_are_spans T) (hr.mono (by decide)) (by rfl) T.g__law_are_spans T.F__law_are_spans.kp T.b__law_are_spans pass0 (fa_cons (fe_var 6) fa_nil)) (nomark _)) (fe_one (fe_cmp op_isA sim_is (fe_ix (fe_var 7) fe_int) fe_bl (nomark _))))))))))))))
theorem ok_law (T : Fx K mg) : FnG P w K mg base 6 T.f_law T.fd_law ["_law_script"] (liftSp K sp_law) := by
  refine fnG_ok (k := 5) (wb := sem_law) T.F_law sc_law len_law (fun cdv A outer s H E hgd hr => ?_) pf_law
  have hu := hr.units
  have hu0 := hr.units0
  have hu1 := Z.units1 hu
  have sc := sc_law
  exact (fss_cons (fs_set (i := 1) sc.nd (fe_call (ok__law_deck T) (hr.mono (by decide)) (by rfl) T.g__law_deck T.F__law_deck.kp T.b__law_deck pass0 (fa_cons (fe_var 0) fa_nil)))
  (fss_cons (fs_if (ft_w (fw_and (ft_cmp (op_eqA hu) sim_eq (fe_call (ok__law_draw T) (hr.mono (by decide)) (by rfl) T.g__law_draw T.F__law_draw.kp T.b__law_draw pass0 (fa_cons (fe_var 1) (fa_cons fe_int fa_nil))) fe_int (nomark _)) (fw_and1 (ft_not (ft_val (fe_call (ok__law_great_right T) (hr.mono (by decide)) (by rfl) T.g__law_great_right T.F__law_great_right.kp T.b__law_great_right pass0 (fa_cons (fe_var 1) fa_nil))))))) (fss_one (fs_ret fe_bl)) fss_nil)
  (fss_cons (fs_set (i := 2) sc.nd (fe_call (ok__law_borders T) (hr.mono (by decide)) (by rfl) T.g__law_borders T.F__law_borders.kp T.b__law_borders pass0 (fa_cons (fe_var 1) fa_nil)))
  (fss_cons (fs_set (i := 3) sc.nd (fe_call (ok__law_laid T) (hr.mono (by decide)) (by rfl) T.g__law_laid T.F__law_laid.kp T.b__law_laid pass0 (fa_cons (fe_var 2) (fa_cons (fe_call (ok__law_truths T) (hr.mono (by decide)) (by rfl) T.g__law_truths T.F__law_truths.kp T.b__law_truths pass0 (fa_cons (fe_var 1) (fa_cons (fe_len (by rfl) T.m_len (fe_var 2)) fa_nil))) fa_nil))))
  (fss_cons (fs_if (ft_w (fw_or (ft_cmp op_isnotA sim_isnot (fe_call (ok_is_spans T) (hr.mono (by decide)) (by rfl) T.g_is_spans T.F_is_spans.kp T.b_is_spans pass0 (fa_cons (fe_var 3) fa_nil)) fe_bl (nomark _)) (fw_or (ft_cmp op_isnotA sim_isnot (fe_call (ok_is_spans T) (hr.mono (by decide)) (by rfl) T.g_is_spans T.F_is_spans.kp T.b_is_spans pass0 (fa_cons (fe_tup fa_nil) fa_nil)) fe_bl (nomark _)) (fw_or1 (ft_not (ft_val (fe_call (ok__law_are_spans T) (hr.mono (by decide)) (by rfl) T.g__law_are_spans T.F__law_are_spans.kp T.b__law_are_spans pass0 (fa_cons (fe_var 3) fa_nil)))))))) (fss_one (fs_ret fe_bl)) fss_nil)
  (fss_cons (fs_for PassesOwn.never rfl (fi_range1 (by rfl) T.m_range (fa_cons fe_int fa_nil)) (fg_name (i := 4) sc.nd) (fss_cons (fs_set (i := 5) sc.nd (fe_call (ok__law_bent T) (hr.mono (by decide)) (by rfl) T.g__law_bent T.F__law_bent.kp T.b__law_bent pass0 (fa_cons (fe_var 1) (fa_cons (fe_var 3) fa_nil))))
  (fss_cons (fs_set (i := 6) sc.nd (fe_reprD (Z.units66 hr) hgd (by rfl) T.m_repr (fe_var 5)))
  (fss_cons (fs_set (i := 7) sc.nd (fe_call (ok_is_spans T) (hr.mono (by decide)) (by rfl) T.g_is_spans T.F_is_spans.kp T.b_is_spans pass0 (fa_cons (fe_var 5) fa_nil)))
  (fss_one (fs_if (ft_w (fw_or (ft_not (ft_val (fe_isi (T := .bool) (by decide) (by rfl) T.m_isinstance (by rfl) T.m_bool (by decide +kernel) (fe_var 7)))) (fw_or (ft_cmp (op_neA hu) sim_ne (fe_var 7) (fe_call (ok__law_are_spans T) (hr.mono (by decide)) (by rfl) T.g__law_are_spans T.F__law_are_spans.kp T.b__law_are_spans pass0 (fa_cons (fe_var 5) fa_nil)) (nomark _)) (fw_or1 (ft_cmp (op_neA hu) sim_ne (fe_reprD (Z.units66 hr) hgd (by rfl) T.m_repr (fe_var 5)) (fe_var 6) (nomark _)))))) (fss_one (fs_ret fe_bl)) fss_nil))))))
  (fss_one (fs_ret (fe_cmp op_isA sim_is (fe_call (ok_is_spans T) (hr.mono (by decide)) (by rfl) T.g_is_spans T.F_is_spans.kp T.b_is_spans pass0 (fa_cons (fe_var 3) fa_nil)) fe_bl (nomark _))))))))))
end
set_option maxHeartbeats 0 in
theorem all_mk {l : PySem.W.OpenLaw} {w : World} {K : PySem.W.Frag} {h : Heap} {mg : Str → Option Value} {fa : Addr} (X : K.In h) (G : h.Ns mainGlobals mg) (hfa : mg "law" = some (.ref fa))
    {f0 : Addr} {od0 an0 : Option Addr} {sl0 : Array (Option Value)} {oc0 kV0 dc0 pm0 cd0 ct0 : Value}
    (a0 : PySem.W.nsIn K mainGlobals "is_whole" = some (some (.ref f0))) (l0 : K.lookup f0 = some ⟨oc0, od0, .func (PySem.W.fnOf "is_whole" "is_whole" (defArgs s_is_whole) (defBody s_is_whole) (defScope s_is_whole) .none kV0 dc0 pm0 an0 cd0 ct0), sl0⟩) (c0 : PySem.W.codeIn K cd0 "is_whole" = true) (k0 : PySem.W.keepIn K (.ref f0) = true)
    {f1 : Addr} {od1 an1 : Option Addr} {sl1 : Array (Option Value)} {oc1 kV1 dc1 pm1 cd1 ct1 : Value}
    (a1 : PySem.W.nsIn K mainGlobals "is_pair" = some (some (.ref f1))) (l1 : K.lookup f1 = some ⟨oc1, od1, .func (PySem.W.fnOf "is_pair" "is_pair" (defArgs s_is_pair) (defBody s_is_pair) (defScope s_is_pair) .none kV1 dc1 pm1 an1 cd1 ct1), sl1⟩) (c1 : PySem.W.codeIn K cd1 "is_pair" = true) (k1 : PySem.W.keepIn K (.ref f1) = true)
    {f2 : Addr} {od2 an2 : Option Addr} {sl2 : Array (Option Value)} {oc2 kV2 dc2 pm2 cd2 ct2 : Value}
    (a2 : PySem.W.nsIn K mainGlobals "is_spans" = some (some (.ref f2))) (l2 : K.lookup f2 = some ⟨oc2, od2, .func (PySem.W.fnOf "is_spans" "is_spans" (defArgs s_is_spans) (defBody s_is_spans) (defScope s_is_spans) .none kV2 dc2 pm2 an2 cd2 ct2), sl2⟩) (c2 : PySem.W.codeIn K cd2 "is_spans" = true) (k2 : PySem.W.keepIn K (.ref f2) = true)
    {f3 : Addr} {od3 an3 : Option Addr} {sl3 : Array (Option Value)} {oc3 kV3 dc3 pm3 cd3 ct3 : Value}
    (a3 : PySem.W.nsIn K mainGlobals "_law_deck" = some (some (.ref f3))) (l3 : K.lookup f3 = some ⟨oc3, od3, .func (PySem.W.fnOf "_law_deck" "_law_deck" (defArgs s__law_deck) (defBody s__law_deck) (defScope s__law_deck) .none kV3 dc3 pm3 an3 cd3 ct3), sl3⟩) (c3 : PySem.W.codeIn K cd3 "_law_deck" = true) (k3 : PySem.W.keepIn K (.ref f3) = true)
    {f4 : Addr} {od4 an4 : Option Addr} {sl4 : Array (Option Value)} {oc4 kV4 dc4 pm4 cd4 ct4 : Value}
    (a4 : PySem.W.nsIn K mainGlobals "_law_mixed" = some (some (.ref f4))) (l4 : K.lookup f4 = some ⟨oc4, od4, .func (PySem.W.fnOf "_law_mixed" "_law_mixed" (defArgs s__law_mixed) (defBody s__law_mixed) (defScope s__law_mixed) .none kV4 dc4 pm4 an4 cd4 ct4), sl4⟩) (c4 : PySem.W.codeIn K cd4 "_law_mixed" = true) (k4 : PySem.W.keepIn K (.ref f4) = true)
    {f5 : Addr} {od5 an5 : Option Addr} {sl5 : Array (Option Value)} {oc5 kV5 dc5 pm5 cd5 ct5 : Value}
    (a5 : PySem.W.nsIn K mainGlobals "_law_draw" = some (some (.ref f5))) (l5 : K.lookup f5 = some ⟨oc5, od5, .func (PySem.W.fnOf "_law_draw" "_law_draw" (defArgs s__law_draw) (defBody s__law_draw) (defScope s__law_draw) .none kV5 dc5 pm5 an5 cd5 ct5), sl5⟩) (c5 : PySem.W.codeIn K cd5 "_law_draw" = true) (k5 : PySem.W.keepIn K (.ref f5) = true)
    {f6 : Addr} {od6 an6 : Option Addr} {sl6 : Array (Option Value)} {oc6 kV6 dc6 pm6 cd6 ct6 : Value}
    (a6 : PySem.W.nsIn K mainGlobals "_law_borders" = some (some (.ref f6))) (l6 : K.lookup f6 = some ⟨oc6, od6, .func (PySem.W.fnOf "_law_borders" "_law_borders" (defArgs s__law_borders) (defBody s__law_borders) (defScope s__law_borders) .none kV6 dc6 pm6 an6 cd6 ct6), sl6⟩) (c6 : PySem.W.codeIn K cd6 "_law_borders" = true) (k6 : PySem.W.keepIn K (.ref f6) = true)
    {f7 : Addr} {od7 an7 : Option Addr} {sl7 : Array (Option Value)} {oc7 kV7 dc7 pm7 cd7 ct7 : Value}
    (a7 : PySem.W.nsIn K mainGlobals "_law_truths" = some (some (.ref f7))) (l7 : K.lookup f7 = some ⟨oc7, od7, .func (PySem.W.fnOf "_law_truths" "_law_truths" (defArgs s__law_truths) (defBody s__law_truths) (defScope s__law_truths) .none kV7 dc7 pm7 an7 cd7 ct7), sl7⟩) (c7 : PySem.W.codeIn K cd7 "_law_truths" = true) (k7 : PySem.W.keepIn K (.ref f7) = true)
    {f8 : Addr} {od8 an8 : Option Addr} {sl8 : Array (Option Value)} {oc8 kV8 dc8 pm8 cd8 ct8 : Value}
    (a8 : PySem.W.nsIn K mainGlobals "_law_laid" = some (some (.ref f8))) (l8 : K.lookup f8 = some ⟨oc8, od8, .func (PySem.W.fnOf "_law_laid" "_law_laid" (defArgs s__law_laid) (defBody s__law_laid) (defScope s__law_laid) .none kV8 dc8 pm8 an8 cd8 ct8), sl8⟩) (c8 : PySem.W.codeIn K cd8 "_law_laid" = true) (k8 : PySem.W.keepIn K (.ref f8) = true)
    {f9 : Addr} {od9 an9 : Option Addr} {sl9 : Array (Option Value)} {oc9 kV9 dc9 pm9 cd9 ct9 : Value}
    (a9 : PySem.W.nsIn K mainGlobals "_law_whole" = some (some (.ref f9))) (l9 : K.lookup f9 = some ⟨oc9, od9, .func (PySem.W.fnOf "_law_whole" "_law_whole" (defArgs s__law_whole) (defBody s__law_whole) (defScope s__law_whole) .none kV9 dc9 pm9 an9 cd9 ct9), sl9⟩) (c9 : PySem.W.codeIn K cd9 "_law_whole" = true) (k9 : PySem.W.keepIn K (.ref f9) = true)
    {f10 : Addr} {od10 an10 : Option Addr} {sl10 : Array (Option Value)} {oc10 kV10 dc10 pm10 cd10 ct10 : Value}
    (a10 : PySem.W.nsIn K mainGlobals "_law_is_pair" = some (some (.ref f10))) (l10 : K.lookup f10 = some ⟨oc10, od10, .func (PySem.W.fnOf "_law_is_pair" "_law_is_pair" (defArgs s__law_is_pair) (defBody s__law_is_pair) (defScope s__law_is_pair) .none kV10 dc10 pm10 an10 cd10 ct10), sl10⟩) (c10 : PySem.W.codeIn K cd10 "_law_is_pair" = true) (k10 : PySem.W.keepIn K (.ref f10) = true)
    {f11 : Addr} {od11 an11 : Option Addr} {sl11 : Array (Option Value)} {oc11 kV11 dc11 pm11 cd11 ct11 : Value}
    (a11 : PySem.W.nsIn K mainGlobals "_law_are_spans" = some (some (.ref f11))) (l11 : K.lookup f11 = some ⟨oc11, od11, .func (PySem.W.fnOf "_law_are_spans" "_law_are_spans" (defArgs s__law_are_spans) (defBody s__law_are_spans) (defScope s__law_are_spans) .none kV11 dc11 pm11 an11 cd11 ct11), sl11⟩) (c11 : PySem.W.codeIn K cd11 "_law_are_spans" = true) (k11 : PySem.W.keepIn K (.ref f11) = true)
    {f12 : Addr} {od12 an12 : Option Addr} {sl12 : Array (Option Value)} {oc12 kV12 dc12 pm12 cd12 ct12 : Value}
    (a12 : PySem.W.nsIn K mainGlobals "_law_odd_number" = some (some (.ref f12))) (l12 : K.lookup f12 = some ⟨oc12, od12, .func (PySem.W.fnOf "_law_odd_number" "_law_odd_number" (defArgs s__law_odd_number) (defBody s__law_odd_number) (defScope s__law_odd_number) .none kV12 dc12 pm12 an12 cd12 ct12), sl12⟩) (c12 : PySem.W.codeIn K cd12 "_law_odd_number" = true) (k12 : PySem.W.keepIn K (.ref f12) = true)
    {f13 : Addr} {od13 an13 : Option Addr} {sl13 : Array (Option Value)} {oc13 kV13 dc13 pm13 cd13 ct13 : Value}
    (a13 : PySem.W.nsIn K mainGlobals "_law_odd_pair" = some (some (.ref f13))) (l13 : K.lookup f13 = some ⟨oc13, od13, .func (PySem.W.fnOf "_law_odd_pair" "_law_odd_pair" (defArgs s__law_odd_pair) (defBody s__law_odd_pair) (defScope s__law_odd_pair) .none kV13 dc13 pm13 an13 cd13 ct13), sl13⟩) (c13 : PySem.W.codeIn K cd13 "_law_odd_pair" = true) (k13 : PySem.W.keepIn K (.ref f13) = true)
    {f14 : Addr} {od14 an14 : Option Addr} {sl14 : Array (Option Value)} {oc14 kV14 dc14 pm14 cd14 ct14 : Value}
    (a14 : PySem.W.nsIn K mainGlobals "_law_bent" = some (some (.ref f14))) (l14 : K.lookup f14 = some ⟨oc14, od14, .func (PySem.W.fnOf "_law_bent" "_law_bent" (defArgs s__law_bent) (defBody s__law_bent) (defScope s__law_bent) .none kV14 dc14 pm14 an14 cd14 ct14), sl14⟩) (c14 : PySem.W.codeIn K cd14 "_law_bent" = true) (k14 : PySem.W.keepIn K (.ref f14) = true)
    {f15 : Addr} {od15 an15 : Option Addr} {sl15 : Array (Option Value)} {oc15 kV15 dc15 pm15 cd15 ct15 : Value}
    (a15 : PySem.W.nsIn K mainGlobals "_law_great_right" = some (some (.ref f15))) (l15 : K.lookup f15 = some ⟨oc15, od15, .func (PySem.W.fnOf "_law_great_right" "_law_great_right" (defArgs s__law_great_right) (defBody s__law_great_right) (defScope s__law_great_right) .none kV15 dc15 pm15 an15 cd15 ct15), sl15⟩) (c15 : PySem.W.codeIn K cd15 "_law_great_right" = true) (k15 : PySem.W.keepIn K (.ref f15) = true)
    {f16 : Addr} {od16 an16 : Option Addr} {sl16 : Array (Option Value)} {oc16 kV16 dc16 pm16 cd16 ct16 : Value}
    (a16 : PySem.W.nsIn K mainGlobals "law" = some (some (.ref f16))) (l16 : K.lookup f16 = some ⟨oc16, od16, .func (PySem.W.fnOf "law" "law" (defArgs s_law) (defBody s_law) (defScope s_law) .none kV16 dc16 pm16 an16 cd16 ct16), sl16⟩) (c16 : PySem.W.codeIn K cd16 "law" = true) (k16 : PySem.W.keepIn K (.ref f16) = true)
    (z_all : PySem.W.nsIn K mainGlobals "all" = some none)
    (z_bool : PySem.W.nsIn K mainGlobals "bool" = some none)
    (z_int : PySem.W.nsIn K mainGlobals "int" = some none)
    (z_isinstance : PySem.W.nsIn K mainGlobals "isinstance" = some none)
    (z_len : PySem.W.nsIn K mainGlobals "len" = some none)
    (z_list : PySem.W.nsIn K mainGlobals "list" = some none)
    (z_range : PySem.W.nsIn K mainGlobals "range" = some none)
    (z_repr : PySem.W.nsIn K mainGlobals "repr" = some none)
    (z_str : PySem.W.nsIn K mainGlobals "str" = some none)
    (z_sum : PySem.W.nsIn K mainGlobals "sum" = some none)
    (z_tuple : PySem.W.nsIn K mainGlobals "tuple" = some none)
    (z_zip : PySem.W.nsIn K mainGlobals "zip" = some none)
    : ∃ fd : FuncData, (∀ (s : Shared) (v : Value), BindsTo s fd ⟨[v], []⟩ [("_law_script", v)]) ∧ ∀ base : Heap, K.In base → base.Ns mainGlobals mg → FnG l.prog w K mg base 6 fa fd ["_law_script"] (liftSp K sp_law) := by
  have e := hfa.symm.trans (PySem.W.mg_of X G a16)
  cases e
  have F0 := fun_mk (st := s_is_whole) l0 c0 k0
  have F1 := fun_mk (st := s_is_pair) l1 c1 k1
  have F2 := fun_mk (st := s_is_spans) l2 c2 k2
  have F3 := fun_mk (st := s__law_deck) l3 c3 k3
  have F4 := fun_mk (st := s__law_mixed) l4 c4 k4
  have F5 := fun_mk (st := s__law_draw) l5 c5 k5
  have F6 := fun_mk (st := s__law_borders) l6 c6 k6
  have F7 := fun_mk (st := s__law_truths) l7 c7 k7
  have F8 := fun_mk (st := s__law_laid) l8 c8 k8
  have F9 := fun_mk (st := s__law_whole) l9 c9 k9
  have F10 := fun_mk (st := s__law_is_pair) l10 c10 k10
  have F11 := fun_mk (st := s__law_are_spans) l11 c11 k11
  have F12 := fun_mk (st := s__law_odd_number) l12 c12 k12
  have F13 := fun_mk (st := s__law_odd_pair) l13 c13 k13
  have F14 := fun_mk (st := s__law_bent) l14 c14 k14
  have F15 := fun_mk (st := s__law_great_right) l15 c15 k15
  have F16 := fun_mk (st := s_law) l16 c16 k16
  exact ⟨PySem.W.fnOf "law" "law" (defArgs s_law) (defBody s_law) (defScope s_law) .none kV16 dc16 pm16 an16 cd16 ct16, fun s v => .of_eq rfl, fun base _ _ => ok_law (P := l.prog) (w := w) (base := base) { f_is_whole := _, fd_is_whole := _, F_is_whole := F0, b_is_whole := (F0.binds (ps := ["thing"]) fun _ _ _ _ _ _ us hl => match us, hl with | [_], _ => rfl), g_is_whole := PySem.W.mg_of X G a0, f_is_pair := _, fd_is_pair := _, F_is_pair := F1, b_is_pair := (F1.binds (ps := ["thing"]) fun _ _ _ _ _ _ us hl => match us, hl with | [_], _ => rfl), g_is_pair := PySem.W.mg_of X G a1, f_is_spans := _, fd_is_spans := _, F_is_spans := F2, b_is_spans := (F2.binds (ps := ["thing"]) fun _ _ _ _ _ _ us hl => match us, hl with | [_], _ => rfl), g_is_spans := PySem.W.mg_of X G a2, f__law_deck := _, fd__law_deck := _, F__law_deck := F3, b__law_deck := (F3.binds (ps := ["_law_script"]) fun _ _ _ _ _ _ us hl => match us, hl with | [_], _ => rfl), g__law_deck := PySem.W.mg_of X G a3, f__law_mixed := _, fd__law_mixed := _, F__law_mixed := F4, b__law_mixed := (F4.binds (ps := ["_law_cell", "_law_k"]) fun _ _ _ _ _ _ us hl => match us, hl with | [_, _], _ => rfl), g__law_mixed := PySem.W.mg_of X G a4, f__law_draw := _, fd__law_draw := _, F__law_draw := F5, b__law_draw := (F5.binds (ps := ["_law_deck_here", "_law_most"]) fun _ _ _ _ _ _ us hl => match us, hl with | [_, _], _ => rfl), g__law_draw := PySem.W.mg_of X G a5, f__law_borders := _, fd__law_borders := _, F__law_borders := F6, b__law_borders := (F6.binds (ps := ["_law_deck_here"]) fun _ _ _ _ _ _ us hl => match us, hl with | [_], _ => rfl), g__law_borders := PySem.W.mg_of X G a6, f__law_truths := _, fd__law_truths := _, F__law_truths := F7, b__law_truths := (F7.binds (ps := ["_law_deck_here", "_law_many"]) fun _ _ _ _ _ _ us hl => match us, hl with | [_, _], _ => rfl), g__law_truths := PySem.W.mg_of X G a7, f__law_laid := _, fd__law_laid := _, F__law_laid := F8, b__law_laid := (F8.binds (ps := ["_law_borders_here", "_law_truths_here"]) fun _ _ _ _ _ _ us hl => match us, hl with | [_, _], _ => rfl), g__law_laid := PySem.W.mg_of X G a8, f__law_whole := _, fd__law_whole := _, F__law_whole := F9, b__law_whole := (F9.binds (ps := ["_law_thing"]) fun _ _ _ _ _ _ us hl => match us, hl with | [_], _ => rfl), g__law_whole := PySem.W.mg_of X G a9, f__law_is_pair := _, fd__law_is_pair := _, F__law_is_pair := F10, b__law_is_pair := (F10.binds (ps := ["_law_thing"]) fun _ _ _ _ _ _ us hl => match us, hl with | [_], _ => rfl), g__law_is_pair := PySem.W.mg_of X G a10, f__law_are_spans := _, fd__law_are_spans := _, F__law_are_spans := F11, b__law_are_spans := (F11.binds (ps := ["_law_thing"]) fun _ _ _ _ _ _ us hl => match us, hl with | [_], _ => rfl), g__law_are_spans := PySem.W.mg_of X G a11, f__law_odd_number := _, fd__law_odd_number := _, F__law_odd_number := F12, b__law_odd_number := (F12.binds (ps := ["_law_deck_here", "_law_number", "_law_twin"]) fun _ _ _ _ _ _ us hl => match us, hl with | [_, _, _], _ => rfl), g__law_odd_number := PySem.W.mg_of X G a12, f__law_odd_pair := _, fd__law_odd_pair := _, F__law_odd_pair := F13, b__law_odd_pair := (F13.binds (ps := ["_law_deck_here", "_law_pair"]) fun _ _ _ _ _ _ us hl => match us, hl with | [_, _], _ => rfl), g__law_odd_pair := PySem.W.mg_of X G a13, f__law_bent := _, fd__law_bent := _, F__law_bent := F14, b__law_bent := (F14.binds (ps := ["_law_deck_here", "_law_spans"]) fun _ _ _ _ _ _ us hl => match us, hl with | [_, _], _ => rfl), g__law_bent := PySem.W.mg_of X G a14, f__law_great_right := _, fd__law_great_right := _, F__law_great_right := F15, b__law_great_right := (F15.binds (ps := ["_law_deck_here"]) fun _ _ _ _ _ _ us hl => match us, hl with | [_], _ => rfl), g__law_great_right := PySem.W.mg_of X G a15, f_law := _, fd_law := _, F_law := F16, b_law := (F16.binds (ps := ["_law_script"]) fun _ _ _ _ _ _ us hl => match us, hl with | [_], _ => rfl), g_law := PySem.W.mg_of X G a16, m_all := PySem.W.mg_none_of X G z_all, m_bool := PySem.W.mg_none_of X G z_bool, m_int := PySem.W.mg_none_of X G z_int, m_isinstance := PySem.W.mg_none_of X G z_isinstance, m_len := PySem.W.mg_none_of X G z_len, m_list := PySem.W.mg_none_of X G z_list, m_range := PySem.W.mg_none_of X G z_range, m_repr := PySem.W.mg_none_of X G z_repr, m_str := PySem.W.mg_none_of X G z_str, m_sum := PySem.W.mg_none_of X G z_sum, m_tuple := PySem.W.mg_none_of X G z_tuple, m_zip := PySem.W.mg_none_of X G z_zip }⟩
end K11
open PySem PySem.W PyProof.Rows
set_option maxHeartbeats 0 in
theorem PySem.Challenge.cw_joinedever_k11_what_are_spans_holds : PySem.Challenge.rw_joinedever_k11_what_are_spans.Holds := by
  w_on; o_law; k_head; (case hw => w_witness2)
  k_fill
  refine Z.walk_ofG (l := PySem.Challenge.rw_joinedever_k11_what_are_spans) (n := 63) (k := 6) (x := "_law_script") (sp := fun w => Z.liftSp _ K11.sp_law) rfl (by decide) rfl ⟨rfl, by decide, by decide⟩ (fun w h Y => PySem.W.kIn_of Y) ?F (fun w H a ns hl hO hS => Z.law_sp hO hS (K11.law_true ns hl))
  case F =>
    intro w mg fa h KX G hmg
    refine' K11.all_mk KX G hmg ?a0 ?l0 ?c0 ?k0 ?a1 ?l1 ?c1 ?k1 ?a2 ?l2 ?c2 ?k2 ?a3 ?l3 ?c3 ?k3 ?a4 ?l4 ?c4 ?k4 ?a5 ?l5 ?c5 ?k5 ?a6 ?l6 ?c6 ?k6 ?a7 ?l7 ?c7 ?k7 ?a8 ?l8 ?c8 ?k8 ?a9 ?l9 ?c9 ?k9 ?a10 ?l10 ?c10 ?k10 ?a11 ?l11 ?c11 ?k11 ?a12 ?l12 ?c12 ?k12 ?a13 ?l13 ?c13 ?k13 ?a14 ?l14 ?c14 ?k14 ?a15 ?l15 ?c15 ?k15 ?a16 ?l16 ?c16 ?k16 ?z_all ?z_bool ?z_int ?z_isinstance ?z_len ?z_list ?z_range ?z_repr ?z_str ?z_sum ?z_tuple ?z_zip
    (case a0 => k_is); (case l0 => k_is); (case c0 => k_is); (case k0 => k_is); (case a1 => k_is); (case l1 => k_is); (case c1 => k_is); (case k1 => k_is); (case a2 => k_is); (case l2 => k_is); (case c2 => k_is); (case k2 => k_is); (case a3 => k_is); (case l3 => k_is); (case c3 => k_is); (case k3 => k_is); (case a4 => k_is); (case l4 => k_is); (case c4 => k_is); (case k4 => k_is); (case a5 => k_is); (case l5 => k_is); (case c5 => k_is); (case k5 => k_is); (case a6 => k_is); (case l6 => k_is); (case c6 => k_is); (case k6 => k_is); (case a7 => k_is); (case l7 => k_is); (case c7 => k_is); (case k7 => k_is); (case a8 => k_is); (case l8 => k_is); (case c8 => k_is); (case k8 => k_is); (case a9 => k_is); (case l9 => k_is); (case c9 => k_is); (case k9 => k_is); (case a10 => k_is); (case l10 => k_is); (case c10 => k_is); (case k10 => k_is); (case a11 => k_is); (case l11 => k_is); (case c11 => k_is); (case k11 => k_is); (case a12 => k_is); (case l12 => k_is); (case c12 => k_is); (case k12 => k_is); (case a13 => k_is); (case l13 => k_is); (case c13 => k_is); (case k13 => k_is); (case a14 => k_is); (case l14 => k_is); (case c14 => k_is); (case k14 => k_is); (case a15 => k_is); (case l15 => k_is); (case c15 => k_is); (case k15 => k_is); (case a16 => k_is); (case l16 => k_is); (case c16 => k_is); (case k16 => k_is); (case z_all => k_is); (case z_bool => k_is); (case z_int => k_is); (case z_isinstance => k_is); (case z_len => k_is); (case z_list => k_is); (case z_range => k_is); (case z_repr => k_is); (case z_str => k_is); (case z_sum => k_is); (case z_tuple => k_is); (case z_zip => k_is)
