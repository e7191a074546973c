import PyProof.Rows.All
import Wide.All
import OpenK.AllK
import Wide.FinOn
import HandS.ForMost
import HandS.Walk
import HandS.Wide
import HandS.TupAny
import HandS.Style
import HandS.IsInst
import HandS.StrMore
import HandS.WordsExc
import HandS.More
import HandS.Zip
import HandS.SetFor
import HandS.Conv
import HandS.SetKeys
import HandS.SortInts
import HandS.Iter
import HandS.Dict
import PySem.Challenge.RW_joinedever_k30_greatest_layers
set_option Elab.async false
set_option linter.all false
set_option maxRecDepth 100000
namespace Z
open PySem PySem.Spec PyProof.Rows L2
abbrev Frag := PySem.W.Frag

/-! data: what never changes is a tree; what may change is told by its number in the store -/
inductive D where
  | non | bl (b : Bool) | int (i : Int) | str (x : Str) | tup (xs : List D) | rol (xs : List D) | ref (i : Nat) | ty (n : String) | cst (a : Addr)
inductive O where
  | lst (xs : List D) | dK (kvs : List (Key × D)) | dT (kvs : List (List Key × D)) | ins (C : Addr) (fs : List (Str × D))
/-- a text by its codes -/
abbrev T (l : List Nat) : Str := ⟨l.toArray⟩
abbrev Sto := List O
abbrev En := List (Option D)

def SqR (K : Frag) (H : Hp) (a : Addr) (xs : List V) : Prop :=
  (∃ o, H a = some (.frz o (.lst xs))) ∨
    ∃ (o : Obj) (its : Array Value) (n : Nat), K.lookup a = some o ∧ o.cls = .type "list" ∧ o.dict = none ∧ o.data = .seq its n ∧ its.size ≤ sizeLine ∧ Vals xs its.toList
theorem SqR.sq {K : Frag} {H : Hp} {a : Addr} {xs : List V} (h : SqR K H a xs) : SqL K H a xs := by
  rcases h with ⟨o, h⟩ | h
  · exact .inl (.inr ⟨o, h⟩)
  · exact .inr h

mutual
def VR (K : Frag) (m : List Addr) (H : Hp) : D → V → Prop
  | .non, v => v = .non
  | .bl b, v => v = .bl b
  | .int i, v => v = .int i
  | .str x, v => v = .str x
  | .tup xs, v => ∃ a us, v = .ref a ∧ H a = some (.tup us) ∧ VRs K m H xs us
  | .rol xs, v => ∃ a us, v = .ref a ∧ SqR K H a us ∧ VRs K m H xs us
  | .ref i, v => ∃ a, v = .ref a ∧ m[i]? = some a
  | .ty n, v => v = .ty n
  | .cst a, v => v = .ref a
def VRs (K : Frag) (m : List Addr) (H : Hp) : List D → List V → Prop
  | [], us => us = []
  | x :: xs, us => ∃ u r, us = u :: r ∧ VR K m H x u ∧ VRs K m H xs r
end

structure Ex (K : Frag) (m : List Addr) (H : Hp) (m' : List Addr) (H' : Hp) : Prop where
  tup : ∀ (a : Addr) (us : List V), H a = some (.tup us) → H' a = some (.tup us)
  rol : ∀ (a : Addr) (us : List V), SqR K H a us → SqR K H' a us
  pre : ∀ (i : Nat) (a : Addr), m[i]? = some a → m'[i]? = some a
structure Ext (K : Frag) (m : List Addr) (H : Hp) (m' : List Addr) (H' : Hp) : Prop extends Ex K m H m' H' where
  fr : ∀ (a : Addr) (o : HO), H a = some o → a ∉ m → H' a = some o ∧ a ∉ m'
theorem Ext.refl {K : Frag} {m : List Addr} {H : Hp} : Ext K m H m H := ⟨⟨fun _ _ h => h, fun _ _ h => h, fun _ _ h => h⟩, fun _ _ h n => ⟨h, n⟩⟩
theorem Ext.trans {K : Frag} {m m1 m2 : List Addr} {H H1 H2 : Hp} (a : Ext K m H m1 H1) (b : Ext K m1 H1 m2 H2) : Ext K m H m2 H2 :=
  ⟨⟨fun x us h => b.tup x us (a.tup x us h), fun x us h => b.rol x us (a.rol x us h), fun i x h => b.pre i x (a.pre i x h)⟩, fun x o h n => let ⟨h1, n1⟩ := a.fr x o h n; b.fr x o h1 n1⟩
theorem pre_app {m : List Addr} {p : Addr} : ∀ (i : Nat) (a : Addr), m[i]? = some a → (m ++ [p])[i]? = some a := fun i a h => by
  rw [List.getElem?_append_left (List.getElem?_eq_some_iff.mp h).1]; exact h
theorem Ex.app {K : Frag} {m : List Addr} {H : Hp} {p : Addr} : Ex K m H (m ++ [p]) H := ⟨fun _ _ h => h, fun _ _ h => h, pre_app⟩
theorem Ext.adopt {K : Frag} {m m' : List Addr} {H H' : Hp} {p : Addr} (e : Ext K m H m' H') (hp : H p = none) : Ext K m H (m' ++ [p]) H' := by
  refine ⟨⟨e.tup, e.rol, fun i a h => pre_app _ _ (e.pre i a h)⟩, fun a o h n => ⟨(e.fr a o h n).1, fun z => ?_⟩⟩
  rcases List.mem_append.mp z with z | z
  · exact (e.fr a o h n).2 z
  · rw [List.mem_singleton.mp z, hp] at h; cases h

section
variable {K : Frag} {m m' : List Addr} {H H' : Hp}
mutual
theorem VR.ext (e : Ex K m H m' H') : ∀ {d : D} {v : V}, VR K m H d v → VR K m' H' d v
  | .non, _, h => by simp only [VR] at h ⊢; exact h
  | .bl _, _, h => by simp only [VR] at h ⊢; exact h
  | .int _, _, h => by simp only [VR] at h ⊢; exact h
  | .str _, _, h => by simp only [VR] at h ⊢; exact h
  | .tup xs, _, h => by
    simp only [VR] at h ⊢
    obtain ⟨a, us, h1, h2, h3⟩ := h
    exact ⟨a, us, h1, e.tup _ _ h2, VRs.ext e h3⟩
  | .rol xs, _, h => by
    simp only [VR] at h ⊢
    obtain ⟨a, us, h1, h2, h3⟩ := h
    exact ⟨a, us, h1, e.rol _ _ h2, VRs.ext e h3⟩
  | .ref i, _, h => by
    simp only [VR] at h ⊢
    obtain ⟨a, h1, h2⟩ := h
    exact ⟨a, h1, e.pre _ _ h2⟩
  | .ty _, _, h => by simp only [VR] at h ⊢; exact h
  | .cst _, _, h => by simp only [VR] at h ⊢; exact h
theorem VRs.ext (e : Ex K m H m' H') : ∀ {xs : List D} {us : List V}, VRs K m H xs us → VRs K m' H' xs us
  | [], _, h => by simp only [VRs] at h ⊢; exact h
  | x :: xs, _, h => by
    simp only [VRs] at h ⊢
    obtain ⟨u, r, h1, h2, h3⟩ := h
    exact ⟨u, r, h1, VR.ext e h2, VRs.ext e h3⟩
end
theorem VRs.nil : VRs K m H [] [] := by simp only [VRs]
theorem VRs.cons {x : D} {u : V} {xs : List D} {us : List V} (h : VR K m H x u) (t : VRs K m H xs us) : VRs K m H (x :: xs) (u :: us) := by
  simp only [VRs]; exact ⟨u, us, rfl, h, t⟩
theorem VRs.nil_inv {us : List V} (h : VRs K m H [] us) : us = [] := by simp only [VRs] at h; exact h
theorem VRs.cons_inv {x : D} {xs : List D} {us : List V} (h : VRs K m H (x :: xs) us) : ∃ u r, us = u :: r ∧ VR K m H x u ∧ VRs K m H xs r := by simp only [VRs] at h; exact h
theorem VRs.length : ∀ {xs : List D} {us : List V}, VRs K m H xs us → xs.length = us.length
  | [], _, h => by rw [h.nil_inv]; rfl
  | x :: xs, _, h => by
    obtain ⟨u, r, rfl, _, h3⟩ := h.cons_inv
    simp [h3.length]
theorem VRs.app : ∀ {xs ys : List D} {us ws : List V}, VRs K m H xs us → VRs K m H ys ws → VRs K m H (xs ++ ys) (us ++ ws)
  | [], _, _, _, h, t => by rw [h.nil_inv]; exact t
  | x :: xs, _, _, _, h, t => by
    obtain ⟨u, r, rfl, h2, h3⟩ := h.cons_inv
    exact .cons h2 (h3.app t)
theorem VRs.get : ∀ {xs : List D} {us : List V} {i : Nat} {x : D}, VRs K m H xs us → xs[i]? = some x → ∃ u, us[i]? = some u ∧ VR K m H x u
  | [], _, _, _, _, e => by simp at e
  | y :: xs, _, 0, x, h, e => by
    obtain ⟨u, r, rfl, h2, h3⟩ := h.cons_inv
    simp at e; subst e
    exact ⟨u, by simp, h2⟩
  | y :: xs, _, i + 1, x, h, e => by
    obtain ⟨u, r, rfl, h2, h3⟩ := h.cons_inv
    obtain ⟨u', e', r'⟩ := h3.get (i := i) (by simpa using e)
    exact ⟨u', by simpa using e', r'⟩
theorem VRs.take : ∀ {xs : List D} {us : List V} (n : Nat), VRs K m H xs us → VRs K m H (xs.take n) (us.take n)
  | _, _, 0, _ => .nil
  | [], _, n + 1, h => by rw [h.nil_inv]; exact .nil
  | x :: xs, _, n + 1, h => by
    obtain ⟨u, r, rfl, h2, h3⟩ := h.cons_inv
    exact .cons h2 (h3.take n)
theorem VRs.drop : ∀ {xs : List D} {us : List V} (n : Nat), VRs K m H xs us → VRs K m H (xs.drop n) (us.drop n)
  | _, _, 0, h => h
  | [], _, n + 1, h => by rw [h.nil_inv]; exact .nil
  | x :: xs, _, n + 1, h => by
    obtain ⟨u, r, rfl, h2, h3⟩ := h.cons_inv
    exact h3.drop n
theorem VRs.set {x : D} {u : V} (hx : VR K m H x u) : ∀ {xs : List D} {us : List V} (n : Nat), VRs K m H xs us → VRs K m H (xs.set n x) (us.set n u)
  | [], _, _, h => by rw [h.nil_inv]; exact .nil
  | _ :: xs, _, 0, h => by
    obtain ⟨u, r, rfl, h2, h3⟩ := h.cons_inv
    exact .cons hx h3
  | y :: xs, _, n + 1, h => by
    obtain ⟨u, r, rfl, h2, h3⟩ := h.cons_inv
    exact .cons h2 (VRs.set hx n h3)
theorem VRs.rev {xs : List D} {us : List V} (h : VRs K m H xs us) : VRs K m H xs.reverse us.reverse := by
  induction xs generalizing us with
  | nil => rw [h.nil_inv]; exact .nil
  | cons x xs ih =>
    obtain ⟨u, r, rfl, h2, h3⟩ := h.cons_inv
    rw [List.reverse_cons, List.reverse_cons]
    exact (ih h3).app (.cons h2 .nil)
theorem VRs.erase {xs : List D} {us : List V} (h : VRs K m H xs us) (k : Nat) : VRs K m H (xs.eraseIdx k) (us.eraseIdx k) := by
  rw [List.eraseIdx_eq_take_drop_succ, List.eraseIdx_eq_take_drop_succ]
  exact (h.take _).app (h.drop _)
theorem VRs.dropLast {xs : List D} {us : List V} (h : VRs K m H xs us) : VRs K m H xs.dropLast us.dropLast := by
  rw [List.dropLast_eq_take, List.dropLast_eq_take, h.length]
  exact h.take _
theorem VRs.rep {xs : List D} {us : List V} (h : VRs K m H xs us) (k : Nat) : VRs K m H (List.replicate k xs).flatten (List.replicate k us).flatten := by
  induction k with
  | zero => exact .nil
  | succ k ih => rw [List.replicate_succ, List.replicate_succ, List.flatten_cons, List.flatten_cons]; exact h.app ih
theorem VRs.ints : ∀ {ns : List Int} {us : List V}, VRs K m H (ns.map D.int) us → us = ns.map V.int
  | [], _, h => h.nil_inv
  | n :: ns, _, h => by
    obtain ⟨u, r, rfl, h2, h3⟩ := h.cons_inv
    simp only [VR] at h2
    rw [h2, h3.ints]; rfl
theorem VRs.of_ints : ∀ (ns : List Int), VRs K m H (ns.map D.int) (ns.map V.int)
  | [] => .nil
  | n :: ns => .cons (by simp only [VR]) (VRs.of_ints ns)
theorem VRs.strs : ∀ {ns : List Str} {us : List V}, VRs K m H (ns.map D.str) us → us = ns.map V.str
  | [], _, h => h.nil_inv
  | n :: ns, _, h => by
    obtain ⟨u, r, rfl, h2, h3⟩ := h.cons_inv
    simp only [VR] at h2
    rw [h2, h3.strs]; rfl
theorem VRs.of_strs : ∀ (ns : List Str), VRs K m H (ns.map D.str) (ns.map V.str)
  | [] => .nil
  | n :: ns => .cons (by simp only [VR]) (VRs.of_strs ns)
theorem VRs.bls : ∀ {ns : List Bool} {us : List V}, VRs K m H (ns.map D.bl) us → us = ns.map V.bl
  | [], _, h => h.nil_inv
  | n :: ns, _, h => by
    obtain ⟨u, r, rfl, h2, h3⟩ := h.cons_inv
    simp only [VR] at h2
    rw [h2, h3.bls]; rfl
end

/-! the store -/
inductive KVR {κ : Type} (K : Frag) (m : List Addr) (H : Hp) : List (κ × D) → List (κ × V) → Prop where
  | nil : KVR K m H [] []
  | cons {k : κ} {d : D} {v : V} {r : List (κ × D)} {t : List (κ × V)} : VR K m H d v → KVR K m H r t → KVR K m H ((k, d) :: r) ((k, v) :: t)
theorem KVR.ext {κ : Type} {K : Frag} {m m' : List Addr} {H H' : Hp} (e : Ex K m H m' H') : ∀ {r : List (κ × D)} {t : List (κ × V)}, KVR K m H r t → KVR K m' H' r t
  | _, _, .nil => .nil
  | _, _, .cons h t => .cons (h.ext e) (t.ext e)
theorem KVR.length {κ : Type} {K : Frag} {m : List Addr} {H : Hp} : ∀ {r : List (κ × D)} {t : List (κ × V)}, KVR K m H r t → r.length = t.length
  | _, _, .nil => rfl
  | _, _, .cons _ t => by simp [t.length]

def OA (K : Frag) (m : List Addr) (H : Hp) (a : Addr) : O → Prop
  | .lst xs => ∃ us, H a = some (.lst us) ∧ VRs K m H xs us
  | .dK kvs => ∃ us, H a = some (.dK us) ∧ KVR K m H kvs us
  | .dT kvs => ∃ us, H a = some (.dT us) ∧ KVR K m H kvs us
  | .ins C fs => ∃ dx us, H a = some (.ins C dx us) ∧ KVR K m H fs us
/-- a changeable thing stands at a -/
def Chg : Option HO → Prop
  | some (.lst _) => True
  | some (.dK _) => True
  | some (.dT _) => True
  | some (.ins _ _ _) => True
  | _ => False
section
variable {K : Frag} {m m' : List Addr} {H H' : Hp} {a : Addr} {o : O}
theorem OA.chg (h : OA K m H a o) : Chg (H a) := by
  cases o with
  | lst xs => obtain ⟨us, h, _⟩ := h; rw [h]; trivial
  | dK xs => obtain ⟨us, h, _⟩ := h; rw [h]; trivial
  | dT xs => obtain ⟨us, h, _⟩ := h; rw [h]; trivial
  | ins C fs => obtain ⟨dx, us, h, _⟩ := h; rw [h]; trivial
theorem OA.keep (h : OA K m H a o) (e : Ex K m H m' H') (k : H' a = H a) : OA K m' H' a o := by
  cases o with
  | lst xs => obtain ⟨us, h, t⟩ := h; exact ⟨us, by rw [k]; exact h, t.ext e⟩
  | dK xs => obtain ⟨us, h, t⟩ := h; exact ⟨us, by rw [k]; exact h, t.ext e⟩
  | dT xs => obtain ⟨us, h, t⟩ := h; exact ⟨us, by rw [k]; exact h, t.ext e⟩
  | ins C fs => obtain ⟨dx, us, h, t⟩ := h; exact ⟨dx, us, by rw [k]; exact h, t.ext e⟩
end

structure SR (K : Frag) (m : List Addr) (H : Hp) (S : Sto) : Prop where
  len : m.length = S.length
  nd : m.Nodup
  at_ : ∀ (i : Nat) (o : O), S[i]? = some o → ∃ a, m[i]? = some a ∧ OA K m H a o
section
variable {K : Frag} {m : List Addr} {H : Hp} {S : Sto}
theorem SR.mem (s : SR K m H S) {a : Addr} (h : a ∈ m) : Chg (H a) := by
  obtain ⟨i, hi, e⟩ := List.mem_iff_getElem.mp h
  have hS : i < S.length := by rw [← s.len]; exact hi
  obtain ⟨b, h1, h2⟩ := s.at_ i S[i] (List.getElem?_eq_getElem hS)
  have : a = b := by
    rw [List.getElem?_eq_getElem hi, e] at h1
    exact Option.some.inj h1
  rw [this]; exact h2.chg
theorem Chg.ne {H : Hp} {a b : Addr} {o : HO} (h : Chg (H a)) (h' : H b = some o) (n : ¬ Chg (some o)) : b ≠ a := by
  intro e; subst e; rw [h'] at h; exact n h
/-- a new tuple, or a thing that is not in the store -/
theorem SR.laid (s : SR K m H S) {p : Addr} {ho : HO} (hp : H p = none) : p ∉ m ∧ Ext K m H m (upd H p ho) ∧ SR K m (upd H p ho) S := by
  have nm : p ∉ m := fun h => by have := s.mem h; rw [hp] at this; exact this
  have e : Ext K m H m (upd H p ho) := by
    refine ⟨⟨fun a us h => ?_, fun a us h => ?_, fun _ _ h => h⟩, fun a o h n => ⟨?_, n⟩⟩
    · rw [upd_ne (ne_of_none h hp)]; exact h
    · rcases h with ⟨o, h⟩ | h
      · exact .inl ⟨o, by rw [upd_ne (ne_of_none h hp)]; exact h⟩
      · exact .inr h
    · rw [upd_ne (ne_of_none h hp)]; exact h
  refine ⟨nm, e, s.len, s.nd, fun i o h => ?_⟩
  obtain ⟨a, h1, h2⟩ := s.at_ i o h
  refine ⟨a, h1, h2.keep e.toEx (upd_ne fun z => nm ?_)⟩
  rw [← z]; exact List.mem_of_getElem? h1
/-- a new thing in the store -/
theorem SR.new (s : SR K m H S) {p : Addr} {ho : HO} {o : O} (hp : H p = none) (h : ∀ (m' : List Addr) (H' : Hp), Ext K m H m' H' → H' p = some ho → OA K m' H' p o) :
    Ext K m H (m ++ [p]) (upd H p ho) ∧ SR K (m ++ [p]) (upd H p ho) (S ++ [o]) ∧ (m ++ [p])[S.length]? = some p := by
  obtain ⟨nm, e, s'⟩ := s.laid (ho := ho) hp
  have e2 : Ext K m H (m ++ [p]) (upd H p ho) := by
    refine ⟨⟨e.tup, e.rol, pre_app⟩, fun a o h n => ⟨(e.fr a o h n).1, ?_⟩⟩
    · intro z
      rcases List.mem_append.mp z with z | z
      · exact n z
      · rw [List.mem_singleton.mp z, hp] at h; cases h
  refine ⟨e2, ⟨by simp [s.len], ?_, fun i o' hi => ?_⟩, ?_⟩
  · rw [List.nodup_append]
    exact ⟨s.nd, by simp, fun a ha b hb z => nm (by rw [← List.mem_singleton.mp hb, ← z]; exact ha)⟩
  · by_cases hl : i < S.length
    · rw [List.getElem?_append_left hl] at hi
      obtain ⟨a, h1, h2⟩ := s.at_ i o' hi
      refine ⟨a, e2.pre _ _ h1, h2.keep e2.toEx (upd_ne fun z => nm ?_)⟩
      rw [← z]; exact List.mem_of_getElem? h1
    · have hi' : i = S.length := by
        have := (List.getElem?_eq_some_iff.mp hi).1
        simp at this; omega
      subst hi'
      simp at hi; subst hi
      exact ⟨p, by rw [← s.len]; simp, h _ _ e2 upd_same⟩
  · rw [← s.len]; simp
/-- a thing of the heap that the store does not know is taken in -/
theorem SR.adopt (s : SR K m H S) {p : Addr} {o : O} (nm : p ∉ m) (h : OA K (m ++ [p]) H p o) : SR K (m ++ [p]) H (S ++ [o]) ∧ (m ++ [p])[S.length]? = some p := by
  refine ⟨⟨by simp [s.len], ?_, fun i o' hi => ?_⟩, by rw [← s.len]; simp⟩
  · rw [List.nodup_append]
    exact ⟨s.nd, by simp, fun a ha b hb z => nm (by rw [← List.mem_singleton.mp hb, ← z]; exact ha)⟩
  · by_cases hl : i < S.length
    · rw [List.getElem?_append_left hl] at hi
      obtain ⟨a, h1, h2⟩ := s.at_ i o' hi
      exact ⟨a, pre_app _ _ h1, h2.keep Ex.app rfl⟩
    · have hi' : i = S.length := by
        have := (List.getElem?_eq_some_iff.mp hi).1
        simp at this; omega
      subst hi'
      simp at hi; subst hi
      exact ⟨p, by rw [← s.len]; simp, h⟩
/-- a thing of the store changes -/
theorem SR.write (s : SR K m H S) {i : Nat} {a : Addr} {ho : HO} {o : O} (hi : m[i]? = some a) (h : ∀ H' : Hp, Ext K m H m H' → H' a = some ho → OA K m H' a o) :
    Ext K m H m (upd H a ho) ∧ SR K m (upd H a ho) (S.set i o) := by
  have hm : a ∈ m := List.mem_of_getElem? hi
  have hc := s.mem hm
  have e : Ext K m H m (upd H a ho) := by
    refine ⟨⟨fun b us h => ?_, fun b us h => ?_, fun _ _ h => h⟩, fun b o h n => ⟨?_, n⟩⟩
    · rw [upd_ne (hc.ne h fun z => z)]; exact h
    · rcases h with ⟨o, h⟩ | h
      · exact .inl ⟨o, by rw [upd_ne (hc.ne h fun z => z)]; exact h⟩
      · exact .inr h
    · rw [upd_ne (fun z => n (by rw [z]; exact hm))]; exact h
  refine ⟨e, by simp [s.len], s.nd, fun j o' hj => ?_⟩
  by_cases hij : i = j
  · subst hij
    have hl : i < S.length := by rw [← s.len]; exact (List.getElem?_eq_some_iff.mp hi).1
    rw [List.getElem?_set_self hl] at hj
    cases hj
    exact ⟨a, hi, h _ e upd_same⟩
  · rw [List.getElem?_set_ne hij] at hj
    obtain ⟨b, h1, h2⟩ := s.at_ j o' hj
    refine ⟨b, h1, h2.keep e.toEx (upd_ne fun z => hij ?_)⟩
    subst z
    obtain ⟨l1, e1⟩ := List.getElem?_eq_some_iff.mp hi
    obtain ⟨l2, e2⟩ := List.getElem?_eq_some_iff.mp h1
    exact (List.getElem_inj s.nd).mp (e1.trans e2.symm)
theorem SR.lst (s : SR K m H S) {i : Nat} {a : Addr} {xs : List D} (hi : m[i]? = some a) (h : S[i]? = some (.lst xs)) : ∃ us, H a = some (.lst us) ∧ VRs K m H xs us := by
  obtain ⟨b, h1, h2⟩ := s.at_ i _ h
  rw [hi] at h1; cases h1; exact h2
end

/-! the slots -/
structure ER (K : Frag) (m : List Addr) (H : Hp) (env : En) (σ : L2.St) : Prop where
  len : env.length = σ.length
  at_ : ∀ (i : Nat) (d : D), env[i]? = some (some d) → ∃ v, σ[i]? = some (some v) ∧ VR K m H d v
theorem ER.ext {K : Frag} {m m' : List Addr} {H H' : Hp} {env : En} {σ : L2.St} (e : Ex K m H m' H') (r : ER K m H env σ) : ER K m' H' env σ :=
  ⟨r.len, fun i d h => let ⟨v, h1, h2⟩ := r.at_ i d h; ⟨v, h1, h2.ext e⟩⟩
theorem ER.set {K : Frag} {m : List Addr} {H : Hp} {env : En} {σ : L2.St} (r : ER K m H env σ) (i : Nat) {d : D} {v : V} (h : VR K m H d v) : ER K m H (env.set i (some d)) (σ.set i (some v)) := by
  refine ⟨by simp [r.len], fun j d' hj => ?_⟩
  by_cases e : i = j
  · subst e
    have hl : i < env.length := by
      have := (List.getElem?_eq_some_iff.mp hj).1
      simpa using this
    rw [List.getElem?_set_self hl] at hj
    cases hj
    exact ⟨v, by rw [List.getElem?_set_self (by rw [← r.len]; exact hl)], h⟩
  · rw [List.getElem?_set_ne e] at hj ⊢
    exact r.at_ j d' hj
def wipeD (env : En) : List Nat → En
  | [] => env
  | v :: vs => (wipeD env vs).set v none
theorem ER.none_ {K : Frag} {m : List Addr} {H : Hp} {env : En} {σ : L2.St} (r : ER K m H env σ) (i : Nat) : ER K m H (env.set i none) (σ.set i none) := by
  refine ⟨by simp [r.len], fun j d' hj => ?_⟩
  by_cases e : i = j
  · subst e
    by_cases hl : i < env.length
    · rw [List.getElem?_set_self hl] at hj; cases hj
    · rw [List.getElem?_eq_none (by simpa using hl)] at hj; cases hj
  · rw [List.getElem?_set_ne e] at hj ⊢
    exact r.at_ j d' hj
theorem ER.wipe {K : Frag} {m : List Addr} {H : Hp} {env : En} {σ : L2.St} (r : ER K m H env σ) : ∀ vs : List Nat, ER K m H (wipeD env vs) (L2.wipe σ vs)
  | [] => r
  | v :: vs => (r.wipe vs).none_ v
end Z
namespace Z
open PySem PySem.Spec PyProof.Rows L2

abbrev WK := D → Sto → Prop
abbrev WE := En → Sto → WK → Prop
abbrev WT := En → Sto → (Bool → Sto → Prop) → Prop
abbrev WA := En → Sto → (List D → Sto → Prop) → Prop
structure WEnds where
  nx : En → Sto → Prop
  rt : WK
  bk : En → Sto → Prop := fun _ _ => False
  ct : En → Sto → Prop := fun _ _ => False
abbrev WS := WEnds → En → Sto → Prop
abbrev WG := D → En → Sto → (En → Sto → Prop) → Prop
abbrev WGs := List D → En → Sto → (En → Sto → Prop) → Prop
abbrev DX := Addr → List (Str × D) → Sto → Prop
abbrev DSp := List D → Sto → WK → DX → Prop

section
variable (K : Frag) (m : List Addr) (H : Hp)
def Kt (Q0 : WK) (Q : VK) : Prop := ∀ d S' u H' m', Q0 d S' → Ext K m H m' H' → SR K m' H' S' → VR K m' H' d u → Q u H'
def KtT (Q0 : Bool → Sto → Prop) (Q : Bool → Hp → Prop) : Prop := ∀ b S' H' m', Q0 b S' → Ext K m H m' H' → SR K m' H' S' → Q b H'
def KtA (Q0 : List D → Sto → Prop) (Q : List V → Hp → Prop) : Prop := ∀ ds S' us H' m', Q0 ds S' → Ext K m H m' H' → SR K m' H' S' → VRs K m' H' ds us → Q us H'
/-- a new list that is not in the store -/
def KtL (Q0 : List D → Sto → Prop) (Q : VK) : Prop := ∀ ds S' a us H' m', Q0 ds S' → Ext K m H m' H' → SR K m' H' S' → H a = none → a ∉ m' → H' a = some (.lst us) → VRs K m' H' ds us → Q (.ref a) H'
/-- a list or tuple to be read -/
def KtQ (Q0 : List D → Sto → Prop) (Q : VK) : Prop := ∀ ds S' a us H' m', Q0 ds S' → Ext K m H m' H' → SR K m' H' S' → (SqL K H' a us ∨ H' a = some (.tup us)) → VRs K m' H' ds us → Q (.ref a) H'
structure KtS (D0 : WEnds) (D : Ends) : Prop where
  nx : ∀ env' S' σ' H' m', D0.nx env' S' → Ext K m H m' H' → SR K m' H' S' → ER K m' H' env' σ' → D.nx σ' H'
  rt : Kt K m H D0.rt D.rt
  bk : ∀ env' S' σ' H' m', D0.bk env' S' → Ext K m H m' H' → SR K m' H' S' → ER K m' H' env' σ' → D.bk σ' H'
  ct : ∀ env' S' σ' H' m', D0.ct env' S' → Ext K m H m' H' → SR K m' H' S' → ER K m' H' env' σ' → D.ct σ' H'
def KtG (is : List Nat) (σ : L2.St) (Q0 : En → Sto → Prop) (Q : L2.St → Hp → Prop) : Prop :=
  ∀ env' S' σ' H' m', Q0 env' S' → Ext K m H m' H' → SR K m' H' S' → ER K m' H' env' σ' → σ'.length = σ.length → (∀ k, k ∉ is → σ'[k]? = σ[k]?) → Q σ' H'
def XR (d : Option Addr) (fs : List (Str × D)) : Prop := (d = none ∧ fs = []) ∨ ∃ a us, d = some a ∧ H a = some (.xd us) ∧ KVR K m H fs us
def KtX (E0 : DX) (E : XK) : Prop := ∀ C fs S' d H' m', E0 C fs S' → Ext K m H m' H' → SR K m' H' S' → XR K m' H' d fs → E (.ref C) d H'
end
section
variable {K : Frag} {m m1 : List Addr} {H H1 : Hp} (e : Ext K m H m1 H1)
include e
theorem Kt.ext {Q0 : WK} {Q : VK} (k : Kt K m H Q0 Q) : Kt K m1 H1 Q0 Q := fun d S' u H' m' q x s r => k d S' u H' m' q (e.trans x) s r
theorem KtT.ext {Q0 : Bool → Sto → Prop} {Q : Bool → Hp → Prop} (k : KtT K m H Q0 Q) : KtT K m1 H1 Q0 Q := fun b S' H' m' q x s => k b S' H' m' q (e.trans x) s
theorem KtA.ext {Q0 : List D → Sto → Prop} {Q : List V → Hp → Prop} (k : KtA K m H Q0 Q) : KtA K m1 H1 Q0 Q := fun d S' u H' m' q x s r => k d S' u H' m' q (e.trans x) s r
theorem KtS.ext {D0 : WEnds} {D : Ends} (k : KtS K m H D0 D) : KtS K m1 H1 D0 D :=
  ⟨fun a b c d f q x s r => k.nx a b c d f q (e.trans x) s r, k.rt.ext e, fun a b c d f q x s r => k.bk a b c d f q (e.trans x) s r, fun a b c d f q x s r => k.ct a b c d f q (e.trans x) s r⟩
theorem KtX.ext {E0 : DX} {E : XK} (k : KtX K m H E0 E) : KtX K m1 H1 E0 E := fun C fs S' d H' m' q x s r => k C fs S' d H' m' q (e.trans x) s r
end

section
variable (K : Frag)
def lift (w : WE) : TE := fun σ H Q => ∃ env S m Q0, SR K m H S ∧ ER K m H env σ ∧ w env S Q0 ∧ Kt K m H Q0 Q
def liftT (w : WT) : TT := fun σ H Q => ∃ env S m Q0, SR K m H S ∧ ER K m H env σ ∧ w env S Q0 ∧ KtT K m H Q0 Q
def liftA (w : WA) : TA := fun σ H Q => ∃ env S m Q0, SR K m H S ∧ ER K m H env σ ∧ w env S Q0 ∧ KtA K m H Q0 Q
def liftL (w : WA) : TE := fun σ H Q => ∃ env S m Q0, SR K m H S ∧ ER K m H env σ ∧ w env S Q0 ∧ KtL K m H Q0 Q
def liftQ (w : WA) : TE := fun σ H Q => ∃ env S m Q0, SR K m H S ∧ ER K m H env σ ∧ w env S Q0 ∧ KtQ K m H Q0 Q
def liftS (w : WS) : TS := fun D σ H => ∃ env S m D0, SR K m H S ∧ ER K m H env σ ∧ w D0 env S ∧ KtS K m H D0 D
def liftG (is : List Nat) (w : WG) : TG := fun v σ H Q => ∃ d env S m Q0, SR K m H S ∧ ER K m H env σ ∧ VR K m H d v ∧ w d env S Q0 ∧ KtG K m H is σ Q0 Q
def liftGs (is : List Nat) (w : WGs) : TGs := fun vs σ H Q => ∃ ds env S m Q0, SR K m H S ∧ ER K m H env σ ∧ VRs K m H ds vs ∧ w ds env S Q0 ∧ KtG K m H is σ Q0 Q
def liftSp (sp : DSp) : Sp := fun vs H Q E => ∃ ds S m Q0 E0, SR K m H S ∧ VRs K m H ds vs ∧ sp ds S Q0 E0 ∧ Kt K m H Q0 Q ∧ KtX K m H E0 E
end

theorem PE.imp {X : Cx} {e : Expr} {t t' : TE} (h : PE X e t) (i : ∀ σ H Q, t' σ H Q → t σ H Q) : PE X e t' := ⟨fun pins s σ H Q I q => h.run pins s σ H Q I (i σ H Q q)⟩
theorem PT.imp {X : Cx} {e : Expr} {t t' : TT} (h : PT X e t) (i : ∀ σ H Q, t' σ H Q → t σ H Q) : PT X e t' := ⟨fun pins s σ H Q I q => h.run pins s σ H Q I (i σ H Q q)⟩
theorem PW.imp {X : Cx} {e : Expr} {t t' : TT} (h : PW X e t) (i : ∀ σ H Q, t' σ H Q → t σ H Q) : PW X e t' := ⟨fun wh pins s σ H Q I q => h.run wh pins s σ H Q I (i σ H Q q)⟩
theorem PTs.imp {X : Cx} {e : List Expr} {t t' : TT} (h : PTs X e t) (i : ∀ σ H Q, t' σ H Q → t σ H Q) : PTs X e t' := ⟨fun pins s σ H Q I q => h.run pins s σ H Q I (i σ H Q q)⟩
theorem PA.imp {X : Cx} {e : List Expr} {t t' : TA} (h : PA X e t) (i : ∀ σ H Q, t' σ H Q → t σ H Q) : PA X e t' := ⟨fun pos pins s σ H Q I q => h.run pos pins s σ H Q I (i σ H Q q)⟩
theorem PS.imp {X : Cx} {e : Stmt} {t t' : TS} (h : PS X e t) (i : ∀ D σ H, t' D σ H → t D σ H) : PS X e t' := ⟨fun pins s σ H D I q => h.run pins s σ H D I (i D σ H q)⟩
theorem PSs.imp {X : Cx} {e : List Stmt} {t t' : TS} (h : PSs X e t) (i : ∀ D σ H, t' D σ H → t D σ H) : PSs X e t' := ⟨fun pins s σ H D I q => h.run pins s σ H D I (i D σ H q)⟩
theorem PG.imp {X : Cx} {e : Expr} {t t' : TG} (h : PG X e t) (i : ∀ v σ H Q, t' v σ H Q → t v σ H Q) : PG X e t' := ⟨fun pins s σ H v u Q I r q => h.run pins s σ H v u Q I r (i v σ H Q q)⟩
theorem PGs.imp {X : Cx} {e : List Expr} {t t' : TGs} (h : PGs X e t) (i : ∀ v σ H Q, t' v σ H Q → t v σ H Q) : PGs X e t' := ⟨fun pins s σ H v u Q I r q => h.run pins s σ H v u Q I r (i v σ H Q q)⟩

structure FE (X : Cx) (e : Expr) (w : WE) : Prop where
  p : PE X e (lift X.K w)
structure FT (X : Cx) (e : Expr) (w : WT) : Prop where
  p : PT X e (liftT X.K w)
structure FW (X : Cx) (e : Expr) (w : WT) : Prop where
  p : PW X e (liftT X.K w)
structure FTs (X : Cx) (e : List Expr) (w : WT) : Prop where
  p : PTs X e (liftT X.K w)
structure FA (X : Cx) (e : List Expr) (w : WA) : Prop where
  p : PA X e (liftA X.K w)
structure FL (X : Cx) (e : Expr) (w : WA) : Prop where
  p : PE X e (liftL X.K w)
structure FQ (X : Cx) (e : Expr) (w : WA) : Prop where
  p : PE X e (liftQ X.K w)
structure FS (X : Cx) (e : Stmt) (w : WS) : Prop where
  p : PS X e (liftS X.K w)
structure FSs (X : Cx) (e : List Stmt) (w : WS) : Prop where
  p : PSs X e (liftS X.K w)
structure FG (X : Cx) (e : Expr) (is : List Nat) (w : WG) : Prop where
  p : PG X e (liftG X.K is w)
structure FGs (X : Cx) (e : List Expr) (is : List Nat) (w : WGs) : Prop where
  p : PGs X e (liftGs X.K is w)

/-! what follows a value -/
section
variable {K : Frag} {m : List Addr} {H : Hp} {env : En} {σ : L2.St} {S : Sto}
theorem lift_k {w : WE} {Q0 : WK} {Q : VK} (s : SR K m H S) (r : ER K m H env σ) (h : w env S Q0) (k : Kt K m H Q0 Q) : lift K w σ H Q := ⟨env, S, m, Q0, s, r, h, k⟩
/-- a tuple is made -/
theorem Kt.tup {Q0 : WK} {Q : VK} (k : Kt K m H Q0 Q) (s : SR K m H S) {ds : List D} {us : List V} (h : VRs K m H ds us) {p : Addr} (hp : H p = none) (q : Q0 (.tup ds) S) : Q (.ref p) (upd H p (.tup us)) := by
  obtain ⟨_, e, s'⟩ := s.laid (ho := .tup us) hp
  refine k _ _ _ _ _ q e s' ?_
  simp only [VR]
  exact ⟨p, us, rfl, upd_same, VRs.ext e.toEx h⟩
/-- a list is made, kept in the store -/
theorem Kt.lst {Q0 : WK} {Q : VK} (k : Kt K m H Q0 Q) (s : SR K m H S) {ds : List D} {us : List V} (h : VRs K m H ds us) {p : Addr} (hp : H p = none) (q : Q0 (.ref S.length) (S ++ [.lst ds])) : Q (.ref p) (upd H p (.lst us)) := by
  obtain ⟨e, s', g⟩ := s.new (ho := .lst us) (o := .lst ds) hp fun m' H' e' hh => ⟨us, hh, VRs.ext e'.toEx h⟩
  refine k _ _ _ _ _ q e s' ?_
  simp only [VR]
  exact ⟨p, rfl, g⟩
/-- .. not in the store -/
theorem KtL.lst {Q0 : List D → Sto → Prop} {Q : VK} (k : KtL K m H Q0 Q) {m1 : List Addr} {H1 : Hp} (e1 : Ext K m H m1 H1) (s : SR K m1 H1 S) {ds : List D} {us : List V} (h : VRs K m1 H1 ds us) {p : Addr} (hp : H1 p = none) (hp0 : H p = none) (q : Q0 ds S) : Q (.ref p) (upd H1 p (.lst us)) := by
  obtain ⟨nm, e, s'⟩ := s.laid (ho := .lst us) hp
  exact k _ _ _ _ _ _ q (e1.trans e) s' hp0 nm upd_same (VRs.ext e.toEx h)
end

/-! names, constants -/
def wVar (i : Nat) : WE := fun env S Q => match env[i]? with | some (some v) => Q v S | _ => False
def wC (d : D) : WE := fun _ S Q => Q d S
section
variable {X : Cx} {e a b c : Expr} {w wa wb wc : WE} {pos : Pos}
theorem fe_var (i : Nat) {x : Str} {pos : Pos} (hN : X.N[i]? = some x := by rfl) (hv : Vis X.env.scope x := by first | exact Or.inl rfl | exact Or.inr (Or.inl rfl) | exact Or.inr (Or.inr rfl)) (hd : (x == ("__debug__" : Str)) = false := by decide)
    (hcd : (x == ("__classdict__" : Str)) = false := by decide) : FE X (.Name x pos) (wVar i) := by
  refine ⟨PE.imp (pe_var hN hv hd hcd) fun σ H Q ⟨env, S, m, Q0, s, r, h, k⟩ => ?_⟩
  unfold wVar at h
  split at h
  · rename_i v hv
    obtain ⟨u, h1, h2⟩ := r.at_ _ _ hv
    exact ⟨u, h1, k _ _ _ _ _ h Ext.refl s h2⟩
  · exact h.elim
theorem fe_int {i : Int} {j pos} : FE X (.Constant (.int i) j pos) (wC (.int i)) := ⟨PE.imp pe_int fun σ H Q ⟨env, S, m, Q0, s, r, h, k⟩ => k _ _ _ _ _ h Ext.refl s (by simp only [VR])⟩
theorem fe_bl {i : Bool} {j pos} : FE X (.Constant (.bool i) j pos) (wC (.bl i)) := ⟨PE.imp pe_bl fun σ H Q ⟨env, S, m, Q0, s, r, h, k⟩ => k _ _ _ _ _ h Ext.refl s (by simp only [VR])⟩
theorem fe_str {i : Str} {j pos} : FE X (.Constant (.str i) j pos) (wC (.str i)) := ⟨PE.imp pe_str fun σ H Q ⟨env, S, m, Q0, s, r, h, k⟩ => k _ _ _ _ _ h Ext.refl s (by simp only [VR])⟩
theorem fe_non {j pos} : FE X (.Constant .none j pos) (wC .non) := ⟨PE.imp pe_non fun σ H Q ⟨env, S, m, Q0, s, r, h, k⟩ => k _ _ _ _ _ h Ext.refl s (by simp only [VR])⟩
/-- a constant of the module: an int, a text -/
theorem fe_gint {x : Str} {i : Int} {t : Tok} (hg : Gl X x) (hm : X.mg x = some (.int i t)) (hd : (x == ("__debug__" : Str)) = false := by decide) : FE X (.Name x pos) (wC (.int i)) :=
  ⟨PE.imp (pe_glob (v := .int i) hg hm ⟨t, rfl⟩ hd) fun σ H Q ⟨env, S, m, Q0, s, r, h, k⟩ => k _ _ _ _ _ h Ext.refl s (by simp only [VR])⟩
theorem fe_gstr {x : Str} {i : Str} {t : Tok} (hg : Gl X x) (hm : X.mg x = some (.str i t)) (hd : (x == ("__debug__" : Str)) = false := by decide) : FE X (.Name x pos) (wC (.str i)) :=
  ⟨PE.imp (pe_glob (v := .str i) hg hm ⟨t, rfl⟩ hd) fun σ H Q ⟨env, S, m, Q0, s, r, h, k⟩ => k _ _ _ _ _ h Ext.refl s (by simp only [VR])⟩
theorem fe_gref {x : Str} {i : Addr} (hg : Gl X x) (hm : X.mg x = some (.ref i)) (hd : (x == ("__debug__" : Str)) = false := by decide) : FE X (.Name x pos) (wC (.cst i)) :=
  ⟨PE.imp (pe_glob (v := .ref i) hg hm rfl hd) fun σ H Q ⟨env, S, m, Q0, s, r, h, k⟩ => k _ _ _ _ _ h Ext.refl s (by simp only [VR])⟩
end

/-! arguments, displays -/
def aNil : WA := fun _ S Q => Q [] S
def aCons (w : WE) (r : WA) : WA := fun env S Q => w env S fun x S1 => r env S1 fun xs S2 => Q (x :: xs) S2
def wTup (r : WA) : WE := fun env S Q => r env S fun xs S1 => xs.length ≤ sizeLine ∧ Q (.tup xs) S1
def lLst (r : WA) : WA := fun env S Q => r env S fun xs S1 => xs.length ≤ sizeLine ∧ Q xs S1
def wNew (r : WA) : WE := fun env S Q => r env S fun xs S1 => Q (.ref S1.length) (S1 ++ [.lst xs])
def dSeq (v : D) (S : Sto) (R : List D → Prop) : Prop := match v with
  | .tup xs => R xs
  | .rol xs => R xs
  | .ref p => ∃ xs, S[p]? = some (.lst xs) ∧ R xs
  | _ => False
def qSeq (w : WE) : WA := fun env S Q => w env S fun v S1 => dSeq v S1 fun xs => Q xs S1
section
variable {X : Cx} {e a b c : Expr} {es : List Expr} {w wa wb wc : WE} {wr : WA} {pos : Pos}
theorem fa_nil : FA X [] aNil := ⟨PA.imp pa_nil fun σ H Q ⟨env, S, m, Q0, s, r, h, k⟩ => k _ _ _ _ _ h Ext.refl s VRs.nil⟩
theorem fa_cons (ha : FE X e w) (hr : FA X es wr) (hs : starEach (e :: es) X.env = (false, eval e X.env) :: starEach es X.env := by rfl) : FA X (e :: es) (aCons w wr) := by
  refine ⟨PA.imp (pa_cons ha.p hr.p hs) fun σ H Q ⟨env, S, m, Q0, s, r, h, k⟩ => ?_⟩
  refine lift_k s r h fun x S1 u H1 m1 q1 e1 s1 v1 => ?_
  exact ⟨env, S1, m1, _, s1, r.ext e1.toEx, q1, fun xs S2 us H2 m2 q2 e2 s2 v2 => k _ _ _ _ _ q2 (e1.trans e2) s2 (.cons (v1.ext e2.toEx) v2)⟩
theorem fe_tup {x1} (h : FA X es wr) : FE X (.Tuple es x1 pos) (wTup wr) := by
  refine ⟨PE.imp (pe_tup h.p) fun σ H Q ⟨env, S, m, Q0, s, r, h, k⟩ => ?_⟩
  refine ⟨env, S, m, _, s, r, h, fun xs S1 us H1 m1 q1 e1 s1 v1 => ⟨by rw [← v1.length]; exact q1.1, fun p hp => ?_⟩⟩
  exact (k.ext e1).tup s1 v1 hp q1.2
theorem fl_lst (h : FA X es wr) : FL X (.List es pos) (lLst wr) := by
  refine ⟨PE.imp (pe_lst h.p) fun σ H Q ⟨env, S, m, Q0, s, r, h, k⟩ => ?_⟩
  refine ⟨env, S, m, _, s, r, h, fun xs S1 us H1 m1 q1 e1 s1 v1 => ⟨by rw [← v1.length]; exact q1.1, fun p hp => ?_⟩⟩
  have hp0 : H p = none := by
    cases hq : H p with
    | none => rfl
    | some o =>
      by_cases hm : p ∈ m
      · obtain ⟨i, hi, ei⟩ := List.mem_iff_getElem.mp hm
        have := s1.mem (List.mem_of_getElem? (e1.pre i p (by rw [List.getElem?_eq_getElem hi, ei])))
        rw [hp] at this; exact this.elim
      · have := (e1.fr p o hq hm).1
        rw [hp] at this; cases this
  exact k.lst e1 s1 v1 hp hp0 q1.2
/-- what was there is there -/
theorem Ext.back {K : Frag} {m m1 : List Addr} {H H1 : Hp} {S1 : Sto} (e : Ext K m H m1 H1) (s1 : SR K m1 H1 S1) {p : Addr} (hp : H1 p = none) : H p = none := by
  cases hq : H p with
  | none => rfl
  | some o =>
    by_cases hm : p ∈ m
    · obtain ⟨i, hi, ei⟩ := List.mem_iff_getElem.mp hm
      have := s1.mem (List.mem_of_getElem? (e.pre i p (by rw [List.getElem?_eq_getElem hi, ei])))
      rw [hp] at this; exact this.elim
    · have := (e.fr p o hq hm).1
      rw [hp] at this; cases this
/-- a new list is taken into the store -/
theorem fe_new (h : FL X e wr) : FE X e (wNew wr) := by
  refine ⟨PE.imp h.p fun σ H Q ⟨env, S, m, Q0, s, r, h, k⟩ => ?_⟩
  refine ⟨env, S, m, _, s, r, h, fun ds S1 a us H1 m1 q1 e1 s1 h0 nm ha v1 => ?_⟩
  obtain ⟨s2, g⟩ := s1.adopt (p := a) (o := .lst ds) nm ⟨us, ha, VRs.ext Ex.app v1⟩
  refine k _ _ _ _ _ q1 (e1.adopt h0) s2 ?_
  simp only [VR]
  exact ⟨a, rfl, g⟩
theorem fq_new (h : FL X e wr) : FQ X e wr := by
  refine ⟨PE.imp h.p fun σ H Q ⟨env, S, m, Q0, s, r, h, k⟩ => ?_⟩
  exact ⟨env, S, m, _, s, r, h, fun ds S1 a us H1 m1 q1 e1 s1 h0 nm ha v1 => k _ _ _ _ _ _ q1 e1 s1 (.inl (SqL.of ha)) v1⟩
theorem dSeq_rd {K : Frag} {m : List Addr} {H : Hp} {S : Sto} (s : SR K m H S) {v : D} {u : V} {R : List D → Prop} (r : VR K m H v u) (h : dSeq v S R) : ∃ xs a us, R xs ∧ u = .ref a ∧ (SqL K H a us ∨ H a = some (.tup us)) ∧ VRs K m H xs us := by
  cases v with
  | tup xs => simp only [VR] at r; obtain ⟨a, us, h1, h2, h3⟩ := r; exact ⟨xs, a, us, h, h1, .inr h2, h3⟩
  | rol xs => simp only [VR] at r; obtain ⟨a, us, h1, h2, h3⟩ := r; exact ⟨xs, a, us, h, h1, .inl h2.sq, h3⟩
  | ref p =>
    simp only [VR] at r
    obtain ⟨a, h1, h2⟩ := r
    obtain ⟨xs, h3, h4⟩ := h
    obtain ⟨us, h5, h6⟩ := s.lst h2 h3
    exact ⟨xs, a, us, h4, h1, .inl (SqL.of h5), h6⟩
  | _ => exact h.elim
theorem fq_of (h : FE X e w) : FQ X e (qSeq w) := by
  refine ⟨PE.imp h.p fun σ H Q ⟨env, S, m, Q0, s, r, h, k⟩ => ?_⟩
  refine ⟨env, S, m, _, s, r, h, fun v S1 u H1 m1 q1 e1 s1 v1 => ?_⟩
  obtain ⟨xs, a, us, h1, rfl, h3, h4⟩ := dSeq_rd s1 v1 q1
  exact k _ _ _ _ _ _ h1 e1 s1 h3 h4
end

/-! operators by values -/
abbrev R2D := D → D → Sto → WK → Prop
def Sim2 (K : Frag) (r : R2) (d : R2D) : Prop := ∀ (m : List Addr) (H : Hp) (S : Sto) (x y : D) (u v : V) (Q0 : WK) (Q : VK), SR K m H S → VR K m H x u → VR K m H y v → d x y S Q0 → Kt K m H Q0 Q → r u v H Q
def wOp (d : R2D) (wa wb : WE) : WE := fun env S Q => wa env S fun x S1 => wb env S1 fun y S2 => d x y S2 Q
def dB (d : D) (Q : Bool → Prop) : Prop := match d with | .bl b => Q b | _ => False
def tOf (w : WE) : WT := fun env S Q => w env S fun v S1 => dB v fun b => Q b S1
section
variable {X : Cx} {e a b c : Expr} {es : List Expr} {w wa wb wc : WE} {wr : WA} {pos : Pos} {r : R2} {d : R2D}
theorem lift_op (hd : Sim2 X.K r d) {σ : L2.St} {H : Hp} {Q : VK} (h : lift X.K (wOp d wa wb) σ H Q) : tOp r (lift X.K wa) (lift X.K wb) σ H Q := by
  obtain ⟨env, S, m, Q0, s, rr, h, k⟩ := h
  refine lift_k s rr h fun x S1 u H1 m1 q1 e1 s1 v1 => ?_
  refine lift_k s1 (rr.ext e1.toEx) q1 fun y S2 v H2 m2 q2 e2 s2 v2 => ?_
  exact hd _ _ _ _ _ _ _ _ _ s2 (v1.ext e2.toEx) v2 q2 (k.ext (e1.trans e2))
theorem fe_op {op : Operator} (ho : OpR X (binaryOp op) r) (hd : Sim2 X.K r d) (ha : FE X a wa) (hb : FE X b wb) : FE X (.BinOp a op b pos) (wOp d wa wb) :=
  ⟨PE.imp (pe_op ho ha.p hb.p) fun σ H Q h => lift_op hd h⟩
theorem fe_cmp {op : CmpOp} (ho : OpR X (compareOp op) r) (hd : Sim2 X.K r d) (ha : FE X a wa) (hb : FE X b wb) (hm : behindInMarks op b = false) : FE X (.Compare a [op] [b] pos) (wOp d wa wb) :=
  ⟨PE.imp (pe_cmpR ho ha.p hb.p hm) fun σ H Q h => lift_op hd h⟩
theorem dB_k {K : Frag} {m : List Addr} {H : Hp} {Q0 : Bool → Sto → Prop} {Q : Bool → Hp → Prop} (k : KtT K m H Q0 Q) : Kt K m H (fun v S1 => dB v fun b => Q0 b S1) (fun x H' => ∃ k, x = .bl k ∧ Q k H') := fun v S1 u H1 m1 q1 e1 s1 v1 => by
  cases v with
  | bl b => simp only [VR] at v1; exact ⟨b, v1, k _ _ _ _ q1 e1 s1⟩
  | _ => exact q1.elim
theorem ft_cmp {op : CmpOp} (ho : OpR X (compareOp op) r) (hd : Sim2 X.K r d) (ha : FE X a wa) (hb : FE X b wb) (hm : behindInMarks op b = false) : FT X (.Compare a [op] [b] pos) (tOf (wOp d wa wb)) := by
  refine ⟨PT.imp (pt_cmpR ho ha.p hb.p hm) fun σ H Q ⟨env, S, m, Q0, s, rr, h, k⟩ => ?_⟩
  exact lift_op hd ⟨env, S, m, _, s, rr, h, dB_k k⟩
def wCh (d d' : R2D) (wa wb wc : WE) : WE := fun env S Q => wa env S fun x S1 => wb env S1 fun y S2 => d x y S2 fun z S3 => dB z fun k => (k = true → wc env S3 fun u S4 => d' y u S4 Q) ∧ (k = false → Q (.bl false) S3)
theorem lift_ch {r' : R2} {d' : R2D} (hd : Sim2 X.K r d) (hd' : Sim2 X.K r' d') {σ : L2.St} {H : Hp} {Q : VK} (h : lift X.K (wCh d d' wa wb wc) σ H Q) : tChain r r' (lift X.K wa) (lift X.K wb) (lift X.K wc) σ H Q := by
  obtain ⟨env, S, m, Q0, s, rr, h, k⟩ := h
  refine lift_k s rr h fun x S1 u H1 m1 q1 e1 s1 v1 => ?_
  refine lift_k s1 (rr.ext e1.toEx) q1 fun y S2 v H2 m2 q2 e2 s2 v2 => ?_
  refine hd _ _ _ _ _ _ _ _ _ s2 (v1.ext e2.toEx) v2 q2 fun z S3 vz H3 m3 q3 e3 s3 v3 => ?_
  cases z with
  | bl b =>
    simp only [VR] at v3
    refine ⟨b, v3, ?_⟩
    cases b with
    | true =>
      rw [if_pos rfl]
      refine lift_k s3 (rr.ext ((e1.trans e2).trans e3).toEx) (q3.1 rfl) fun t S4 vt H4 m4 q4 e4 s4 v4 => ?_
      exact hd' _ _ _ _ _ _ _ _ _ s4 (v2.ext (e3.trans e4).toEx) v4 q4 (k.ext (((e1.trans e2).trans e3).trans e4))
    | false =>
      rw [if_neg Bool.false_ne_true]
      exact k _ _ _ _ _ (q3.2 rfl) ((e1.trans e2).trans e3) s3 (by simp only [VR])
  | _ => exact q3.elim
theorem fe_chain {op op' : CmpOp} {r' : R2} {d' : R2D} (ho : OpR X (compareOp op) r) (ho' : OpR X (compareOp op') r') (hd : Sim2 X.K r d) (hd' : Sim2 X.K r' d') (ha : FE X a wa) (hb : FE X b wb) (hc : FE X c wc)
    (hm : lastMarks [op, op'] [b, c] = false := by rfl) : FE X (.Compare a [op, op'] [b, c] pos) (wCh d d' wa wb wc) :=
  ⟨PE.imp (pe_chain ho ho' ha.p hb.p hc.p hm) fun σ H Q h => lift_ch hd hd' h⟩
theorem ft_chain {op op' : CmpOp} {r' : R2} {d' : R2D} (ho : OpR X (compareOp op) r) (ho' : OpR X (compareOp op') r') (hd : Sim2 X.K r d) (hd' : Sim2 X.K r' d') (ha : FE X a wa) (hb : FE X b wb) (hc : FE X c wc)
    (hm : lastMarks [op, op'] [b, c] = false := by rfl) : FT X (.Compare a [op, op'] [b, c] pos) (tOf (wCh d d' wa wb wc)) := by
  refine ⟨PT.imp (pt_chain ho ho' ha.p hb.p hc.p hm) fun σ H Q ⟨env, S, m, Q0, s, rr, h, k⟩ => ?_⟩
  exact lift_ch hd hd' ⟨env, S, m, _, s, rr, h, dB_k k⟩
end

/-! tests -/
def tAndD (a b : WT) : WT := fun env S Q => a env S fun c S1 => (c = true → b env S1 Q) ∧ (c = false → Q false S1)
def tOrD (a b : WT) : WT := fun env S Q => a env S fun c S1 => (c = true → Q true S1) ∧ (c = false → b env S1 Q)
def tNotD (a : WT) : WT := fun env S Q => a env S fun c S1 => Q (!c) S1
def tYesD : WT := fun _ S Q => Q true S
def wAnd (a b : WE) : WE := fun env S Q => a env S fun v S1 => dB v fun c => (c = true → b env S1 Q) ∧ (c = false → Q (.bl false) S1)
def wOr (a b : WE) : WE := fun env S Q => a env S fun v S1 => dB v fun c => (c = true → Q (.bl true) S1) ∧ (c = false → b env S1 Q)
def wNot (a : WE) : WE := fun env S Q => a env S fun v S1 => dB v fun c => Q (.bl (!c)) S1
def wIfE (t : WT) (a b : WE) : WE := fun env S Q => t env S fun c S1 => (c = true → a env S1 Q) ∧ (c = false → b env S1 Q)
section
variable {X : Cx} {e a b c : Expr} {es : List Expr} {w wa wb wc : WE} {ta tb : WT} {pos : Pos}
theorem ft_val (h : FE X e w) (he : ∀ whole, isTrue e X.env whole = (do let v ← whole; standAt e.pos; holding [v] (truthy v)) := by intro _; rfl) : FT X e (tOf w) := by
  refine ⟨PT.imp (pt_val h.p he) fun σ H Q ⟨env, S, m, Q0, s, rr, h, k⟩ => ?_⟩
  exact ⟨env, S, m, _, s, rr, h, dB_k k⟩
theorem liftT_if {t : WT} {σ : L2.St} {H : Hp} {env : En} {S : Sto} {m : List Addr} {K : Frag} {A : Bool → Hp → Prop} {Q0 : Bool → Sto → Prop} (s : SR K m H S) (rr : ER K m H env σ) (h : t env S Q0) (k : KtT K m H Q0 A) : liftT K t σ H A := ⟨env, S, m, _, s, rr, h, k⟩
theorem fw_and1 (h : FT X a ta) : FW X (.BoolOp .And [a] pos) ta := ⟨pw_and1 h.p⟩
theorem fw_or1 (h : FT X a ta) : FW X (.BoolOp .Or [a] pos) ta := ⟨pw_or1 h.p⟩
theorem fw_and {rest : List Expr} (ha : FT X a ta) (hb : FW X (.BoolOp .And (b :: rest) pos) tb) : FW X (.BoolOp .And (a :: b :: rest) pos) (tAndD ta tb) := by
  refine ⟨PW.imp (pw_and ha.p hb.p) fun σ H Q ⟨env, S, m, Q0, s, rr, h, k⟩ => ?_⟩
  refine liftT_if s rr h fun c S1 H1 m1 q1 e1 s1 => ?_
  cases c with
  | true => rw [if_pos rfl]; exact liftT_if s1 (rr.ext e1.toEx) (q1.1 rfl) (k.ext e1)
  | false => rw [if_neg Bool.false_ne_true]; exact k _ _ _ _ (q1.2 rfl) e1 s1
theorem fw_or {rest : List Expr} (ha : FT X a ta) (hb : FW X (.BoolOp .Or (b :: rest) pos) tb) : FW X (.BoolOp .Or (a :: b :: rest) pos) (tOrD ta tb) := by
  refine ⟨PW.imp (pw_or ha.p hb.p) fun σ H Q ⟨env, S, m, Q0, s, rr, h, k⟩ => ?_⟩
  refine liftT_if s rr h fun c S1 H1 m1 q1 e1 s1 => ?_
  cases c with
  | true => rw [if_pos rfl]; exact k _ _ _ _ (q1.1 rfl) e1 s1
  | false => rw [if_neg Bool.false_ne_true]; exact liftT_if s1 (rr.ext e1.toEx) (q1.2 rfl) (k.ext e1)
theorem ft_w (h : FW X a ta) : FT X a ta := ⟨h.p.pt⟩
theorem ft_not (h : FT X a ta) : FT X (.UnaryOp .Not a pos) (tNotD ta) := by
  refine ⟨PT.imp (pt_not h.p) fun σ H Q ⟨env, S, m, Q0, s, rr, h, k⟩ => ?_⟩
  exact liftT_if s rr h fun c S1 H1 m1 q1 e1 s1 => k _ _ _ _ q1 e1 s1
theorem fts_nil : FTs X [] tYesD := ⟨PTs.imp pts_nil fun σ H Q ⟨env, S, m, Q0, s, rr, h, k⟩ => k _ _ _ _ h Ext.refl s⟩
theorem fts_one (h : FT X a ta) : FTs X [a] ta := ⟨pts_one h.p⟩
theorem fe_one {op} (h : FE X a wa) : FE X (.BoolOp op [a] pos) wa := ⟨pe_one h.p⟩
theorem fe_and {rest : List Expr} (ha : FE X a wa) (hb : FE X (.BoolOp .And (b :: rest) pos) wb) : FE X (.BoolOp .And (a :: b :: rest) pos) (wAnd wa wb) := by
  refine ⟨PE.imp (pe_and ha.p hb.p) fun σ H Q ⟨env, S, m, Q0, s, rr, h, k⟩ => ?_⟩
  refine lift_k s rr h fun v S1 u H1 m1 q1 e1 s1 v1 => ?_
  cases v with
  | bl c =>
    simp only [VR] at v1
    refine ⟨c, v1, ?_⟩
    cases c with
    | true => rw [if_pos rfl]; exact lift_k s1 (rr.ext e1.toEx) (q1.1 rfl) (k.ext e1)
    | false => rw [if_neg Bool.false_ne_true]; exact k _ _ _ _ _ (q1.2 rfl) e1 s1 (by simp only [VR])
  | _ => exact q1.elim
theorem fe_or {rest : List Expr} (ha : FE X a wa) (hb : FE X (.BoolOp .Or (b :: rest) pos) wb) : FE X (.BoolOp .Or (a :: b :: rest) pos) (wOr wa wb) := by
  refine ⟨PE.imp (pe_or ha.p hb.p) fun σ H Q ⟨env, S, m, Q0, s, rr, h, k⟩ => ?_⟩
  refine lift_k s rr h fun v S1 u H1 m1 q1 e1 s1 v1 => ?_
  cases v with
  | bl c =>
    simp only [VR] at v1
    refine ⟨c, v1, ?_⟩
    cases c with
    | true => rw [if_pos rfl]; exact k _ _ _ _ _ (q1.1 rfl) e1 s1 (by simp only [VR])
    | false => rw [if_neg Bool.false_ne_true]; exact lift_k s1 (rr.ext e1.toEx) (q1.2 rfl) (k.ext e1)
  | _ => exact q1.elim
theorem fe_not (ha : FE X a wa) : FE X (.UnaryOp .Not a pos) (wNot wa) := by
  refine ⟨PE.imp (pe_not ha.p) fun σ H Q ⟨env, S, m, Q0, s, rr, h, k⟩ => ?_⟩
  refine lift_k s rr h fun v S1 u H1 m1 q1 e1 s1 v1 => ?_
  cases v with
  | bl c => simp only [VR] at v1; exact ⟨c, v1, k _ _ _ _ _ q1 e1 s1 (by simp only [VR])⟩
  | _ => exact q1.elim
theorem fe_ifE (hc : FT X c ta) (ha : FE X a wa) (hb : FE X b wb) : FE X (.IfExp c a b pos) (wIfE ta wa wb) := by
  refine ⟨PE.imp (pe_ifExp hc.p ha.p hb.p) fun σ H Q ⟨env, S, m, Q0, s, rr, h, k⟩ => ?_⟩
  refine liftT_if s rr h fun c S1 H1 m1 q1 e1 s1 => ?_
  cases c with
  | true => rw [if_pos rfl]; exact lift_k s1 (rr.ext e1.toEx) (q1.1 rfl) (k.ext e1)
  | false => rw [if_neg Bool.false_ne_true]; exact lift_k s1 (rr.ext e1.toEx) (q1.2 rfl) (k.ext e1)
end
end Z
namespace Z
open PySem PySem.Spec PyProof.Rows L2

/-! targets -/
def gNameD (i : Nat) : WG := fun d env S Q => Q (env.set i (some d)) S
def gNilD : WGs := fun ds env S Q => match ds with | [] => Q env S | _ => False
def gConsD (g : WG) (r : WGs) : WGs := fun ds env S Q => match ds with | d :: t => g d env S fun env1 S1 => r t env1 S1 Q | [] => False
def gTupD (n : Nat) (r : WGs) : WG := fun d env S Q => match d with | .tup xs => xs.length = n ∧ r xs env S Q | _ => False
section
variable {X : Cx} {e a b c o i : Expr} {es : List Expr} {w wa wb wc wo wi : WE} {ta tb : WT} {pos : Pos} {is js : List Nat} {g : WG} {gs : WGs}
theorem fg_name {i : Nat} {x : Str} (hN : X.N.Nodup) (hi : X.N[i]? = some x := by rfl) (hx : Loc X.env.scope x := by first | exact Or.inl rfl | exact Or.inr rfl) (hf : X.fn x = true ∨ X.env.scope.names.lookup x = some .local := by first | exact .inl rfl | exact .inr rfl | assumption) : FG X (.Name x pos) [i] (gNameD i) := by
  refine ⟨PG.imp (pg_name hN hi hx hf) fun v σ H Q ⟨d, env, S, m, Q0, s, r, hv, h, k⟩ => ?_⟩
  exact k _ _ _ _ _ h Ext.refl s (r.set i hv) (by simp) fun j hj => by rw [List.getElem?_set_ne (fun z => hj (by simp [z]))]
theorem fgs_nil : FGs X [] [] gNilD := by
  refine ⟨PGs.imp pgs_nil fun v σ H Q ⟨ds, env, S, m, Q0, s, r, hv, h, k⟩ => ?_⟩
  cases ds with
  | nil => exact ⟨hv.nil_inv, k _ _ _ _ _ h Ext.refl s r rfl fun _ _ => rfl⟩
  | cons _ _ => exact h.elim
theorem fgs_cons (h1 : FG X e is g) (h2 : FGs X es js gs) (hs : (assignEach (e :: es) X.env).map (·.2) = assign e X.env :: (assignEach es X.env).map (·.2) := by rfl) : FGs X (e :: es) (is ++ js) (gConsD g gs) := by
  refine ⟨PGs.imp (pgs_cons h1.p h2.p hs) fun vs σ H Q ⟨ds, env, S, m, Q0, s, r, hv, h, k⟩ => ?_⟩
  cases ds with
  | nil => exact h.elim
  | cons d t =>
    obtain ⟨u, us, rfl, h3, h4⟩ := hv.cons_inv
    refine ⟨u, us, rfl, d, env, S, m, _, s, r, h3, h, fun env1 S1 σ1 H1 m1 q1 e1 s1 r1 l1 f1 => ?_⟩
    refine ⟨t, env1, S1, m1, _, s1, r1, h4.ext e1.toEx, q1, fun env2 S2 σ2 H2 m2 q2 e2 s2 r2 l2 f2 => ?_⟩
    exact k _ _ _ _ _ q2 (e1.trans e2) s2 r2 (l2.trans l1) fun j hj => (f2 j fun z => hj (List.mem_append_right _ z)).trans (f1 j fun z => hj (List.mem_append_left _ z))
theorem fg_tup {k : Nat} {n : Nat} (hc : X.calm = true) (h : FGs X es is gs) (hn : (assignEach es X.env).length = n := by rfl) (hst : (assignEach es X.env).findIdx? (·.1) = none := by rfl) : FG X (.Tuple es k pos) is (gTupD n gs) := by
  refine ⟨PG.imp (pg_tup hc h.p hn hst) fun v σ H Q ⟨d, env, S, m, Q0, s, r, hv, h, k⟩ => ?_⟩
  cases d with
  | tup xs =>
    simp only [VR] at hv
    obtain ⟨a, us, h1, h2, h3⟩ := hv
    exact ⟨a, us, h1, SqT.of h2, by rw [← h3.length]; exact h.1, xs, env, S, m, _, s, r, h3, h.2, k⟩
  | _ => exact h.elim
abbrev DSet := D → D → D → Sto → (Sto → Prop) → Prop
def SimS (K : Frag) (t : TSet) (d : DSet) : Prop := ∀ (m : List Addr) (H : Hp) (S : Sto) (x y z : D) (u v w : V) (Q0 : Sto → Prop) (Q : Hp → Prop), SR K m H S → VR K m H x u → VR K m H y v → VR K m H z w → d x y z S Q0 →
  (∀ S' H' m', Q0 S' → Ext K m H m' H' → SR K m' H' S' → Q H') → t u v w H Q
def gSubD (wo wi : WE) (d : DSet) : WG := fun v env S Q => wo env S fun x S1 => wi env S1 fun y S2 => d x y v S2 fun S3 => Q env S3
theorem fg_sub {t : TSet} {d : DSet} (ho : FE X o wo) (hi : FE X i wi) (hs : PSet X t) (hd : SimS X.K t d)
    (ha : ∀ v, assign (.Subscript o i pos) X.env v = (do
      let ov ← holding [v] (eval o X.env)
      let iv ← holding [v, ov] (eval i X.env)
      standAt pos
      holding [v, ov, iv] (setItem ov iv v)
      release [v, ov, iv] []) := by intro _; rfl) : FG X (.Subscript o i pos) [] (gSubD wo wi d) := by
  refine ⟨PG.imp (pg_sub ho.p hi.p hs ha) fun v σ H Q ⟨z, env, S, m, Q0, s, r, hv, h, k⟩ => ?_⟩
  refine lift_k s r h fun x S1 u H1 m1 q1 e1 s1 v1 => ?_
  refine lift_k s1 (r.ext e1.toEx) q1 fun y S2 v H2 m2 q2 e2 s2 v2 => ?_
  refine hd _ _ _ _ _ _ _ _ _ _ _ s2 (v1.ext e2.toEx) v2 (hv.ext (e1.trans e2).toEx) q2 fun S3 H3 m3 q3 e3 s3 => ?_
  exact k _ _ _ _ _ q3 ((e1.trans e2).trans e3) s3 (r.ext ((e1.trans e2).trans e3).toEx) rfl fun _ _ => rfl
end

/-! statements -/
def sNext : WS := fun D env S => D.nx env S
def sSeq (t u : WS) : WS := fun D env S => t { D with nx := u D } env S
def sBreak : WS := fun D env S => D.bk env S
def sCont : WS := fun D env S => D.ct env S
def sDrop (w : WE) : WS := fun D env S => w env S fun _ S1 => D.nx env S1
def sRet (w : WE) : WS := fun D env S => w env S D.rt
def sRetN : WS := fun D _ S => D.rt .non S
def sIf (c : WT) (t u : WS) : WS := fun D env S => c env S fun b S1 => (b = true → t D env S1) ∧ (b = false → u D env S1)
def sAsg (w : WE) (g : WG) : WS := fun D env S => w env S fun v S1 => g v env S1 D.nx
def sWhile (c : WT) (b : WS) : WS := fun D env S => ∃ W : Nat → En → Sto → Prop, (∃ k, W k env S) ∧ ∀ k env S, W k env S →
  c env S fun t S1 => (t = true → b { D with nx := fun e s => ∃ k', k' < k ∧ W k' e s, ct := fun e s => ∃ k', k' < k ∧ W k' e s, bk := D.nx } env S1) ∧ (t = false → D.nx env S1)
structure Iter where
  items : List D
  ok : Sto → Prop
abbrev WI := En → Sto → (Iter → Sto → Prop) → Prop
def sFor (wi : WI) (g : WG) (b : WS) : WS := fun D env S => wi env S fun J S1 => ∃ P : Nat → En → Sto → Prop, P 0 env S1 ∧ (∀ i env S, i ≤ J.items.length → P i env S → J.ok S) ∧
  (∀ i d env S, J.items[i]? = some d → P i env S → g d env S fun env2 S2 => b { D with nx := P (i + 1), ct := P (i + 1), bk := D.nx } env2 S2) ∧ (∀ env S, P J.items.length env S → D.nx env S)
/-- a list made: P by the turn, what is made so far, the store -/
def lLc (wi : WI) (g : WG) (t : WT) (w : WE) (vs : List Nat) : WA := fun env S R => wi env S fun J S1 => ∃ P : Nat → List D → Sto → Prop, P 0 [] S1 ∧ (∀ i acc S, i ≤ J.items.length → P i acc S → J.ok S) ∧
  (∀ i d acc S, J.items[i]? = some d → P i acc S → g d (wipeD env vs) S fun env2 S2 => t env2 S2 fun b S3 => (b = true → w env2 S3 fun y S4 => acc.length < sizeLine ∧ P (i + 1) (acc ++ [y]) S4) ∧ (b = false → P (i + 1) acc S3)) ∧
  (∀ acc S, P J.items.length acc S → R acc S)
structure WalkD (K : Frag) (m0 : List Addr) (H0 : Hp) (J : It) (J0 : Iter) : Prop where
  goes : ∀ (i : Nat) (H : Hp) (m : List Addr) (S : Sto), i < J0.items.length → Ext K m0 H0 m H → SR K m H S → J0.ok S → J.go i H
  stops : ∀ (H : Hp) (m : List Addr) (S : Sto), Ext K m0 H0 m H → SR K m H S → J0.ok S → J.stop J0.items.length H
  yields : ∀ (i : Nat) (H : Hp) (m : List Addr) (S : Sto) (x : V) (H' : Hp), i < J0.items.length → Ext K m0 H0 m H → SR K m H S → J0.ok S → J.yld i H x H' →
    Ext K m H m H' ∧ SR K m H' S ∧ ∃ d, J0.items[i]? = some d ∧ VR K m H' d x
def liftI (K : Frag) (w : WI) : TI := fun σ H R => ∃ env S m R0, SR K m H S ∧ ER K m H env σ ∧ w env S R0 ∧ ∀ J0 S' m' H', R0 J0 S' → Ext K m H m' H' → SR K m' H' S' → ∀ J, WalkD K m' H' J J0 → R J H'
structure FI (X : Cx) (tg iter : Expr) (w : WI) : Prop where
  p : PI X tg iter (liftI X.K w)
section
variable {X : Cx} {e a b c o i : Expr} {es : List Expr} {w wa wb wc : WE} {ta tb : WT} {pos : Pos} {is js : List Nat} {g : WG} {st : Stmt} {rest body els : List Stmt} {u v : WS} {wi : WI} {tg iter : Expr}
theorem fss_nil : FSs X [] sNext := ⟨PSs.imp pss_nil fun D σ H ⟨env, S, m, D0, s, r, h, k⟩ => k.nx _ _ _ _ _ h Ext.refl s r⟩
theorem fss_cons (h1 : FS X st u) (h2 : FSs X rest v) : FSs X (st :: rest) (sSeq u v) := by
  refine ⟨PSs.imp (pss_cons h1.p h2.p) fun D σ H ⟨env, S, m, D0, s, r, h, k⟩ => ?_⟩
  refine ⟨env, S, m, _, s, r, h, ⟨fun env' S' σ' H' m' q e s' r' => ?_, k.rt, k.bk, k.ct⟩⟩
  exact ⟨env', S', m', D0, s', r', q, k.ext e⟩
theorem fss_one (h1 : FS X st u) : FSs X [st] u := ⟨pss_one h1.p⟩
theorem fs_pass : FS X (.Pass pos) sNext := ⟨PS.imp ps_pass fun D σ H ⟨env, S, m, D0, s, r, h, k⟩ => k.nx _ _ _ _ _ h Ext.refl s r⟩
theorem fs_break : FS X (.Break pos) sBreak := ⟨PS.imp ps_break fun D σ H ⟨env, S, m, D0, s, r, h, k⟩ => k.bk _ _ _ _ _ h Ext.refl s r⟩
theorem fs_expr (he : FE X e w) (hs : swapsWith e none pos.line X.env = pure false := by rfl) : FS X (.Expr e pos) (sDrop w) := by
  refine ⟨PS.imp (ps_expr he.p hs) fun D σ H ⟨env, S, m, D0, s, r, h, k⟩ => ?_⟩
  exact lift_k s r h fun d S1 x H1 m1 q1 e1 s1 v1 => k.nx _ _ _ _ _ q1 e1 s1 (r.ext e1.toEx)
theorem fs_ret (he : FE X e w) : FS X (.Return (some e) pos) (sRet w) := by
  refine ⟨PS.imp (ps_ret he.p) fun D σ H ⟨env, S, m, D0, s, r, h, k⟩ => ?_⟩
  exact lift_k s r h k.rt
theorem fs_retN : FS X (.Return none pos) sRetN := ⟨PS.imp ps_retN fun D σ H ⟨env, S, m, D0, s, r, h, k⟩ => k.rt _ _ _ _ _ h Ext.refl s (by simp only [VR])⟩
theorem fs_if (hc : FT X c ta) (ha : FSs X body u) (hb : FSs X els v) : FS X (.If c body els pos) (sIf ta u v) := by
  refine ⟨PS.imp (ps_if hc.p ha.p hb.p) fun D σ H ⟨env, S, m, D0, s, r, h, k⟩ => ?_⟩
  refine liftT_if s r h fun b S1 H1 m1 q1 e1 s1 => ?_
  cases b with
  | true => rw [if_pos rfl]; exact ⟨env, S1, m1, D0, s1, r.ext e1.toEx, q1.1 rfl, k.ext e1⟩
  | false => rw [if_neg Bool.false_ne_true]; exact ⟨env, S1, m1, D0, s1, r.ext e1.toEx, q1.2 rfl, k.ext e1⟩
theorem fs_set {i : Nat} {x : Str} {pos' : Pos} (hN : X.N.Nodup) (he : FE X e w) (hi : X.N[i]? = some x := by rfl) (hx : Loc X.env.scope x := by first | exact Or.inl rfl | exact Or.inr rfl) (hs : swapsWith e (some (.Name x pos')) pos.line X.env = pure false := by rfl)
    (hf : X.fn x = true ∨ X.env.scope.names.lookup x = some .local := by first | exact .inl rfl | exact .inr rfl | assumption) : FS X (.Assign [.Name x pos'] e pos) (sAsg w (gNameD i)) := by
  refine ⟨PS.imp (ps_set hN hi hx he.p hs hf) fun D σ H ⟨env, S, m, D0, s, r, h, k⟩ => ?_⟩
  exact lift_k s r h fun d S1 x H1 m1 q1 e1 s1 v1 => k.nx _ _ _ _ _ q1 e1 s1 ((r.ext e1.toEx).set i v1)
theorem fs_asg (he : FE X e w) (hg : FG X tg is g) (hs : swapsWithSole [tg] e pos.line X.env = pure false := by rfl) (hw : swappedStores [tg] e X.env = pure none := by rfl)
    (h1 : (assignEach [tg] X.env).map (·.2) = [assign tg X.env] := by rfl) : FS X (.Assign [tg] e pos) (sAsg w g) := by
  refine ⟨PS.imp (ps_asg he.p hg.p hs hw h1) fun D σ H ⟨env, S, m, D0, s, r, h, k⟩ => ?_⟩
  refine lift_k s r h fun d S1 x H1 m1 q1 e1 s1 v1 => ?_
  exact ⟨d, env, S1, m1, _, s1, r.ext e1.toEx, v1, q1, fun env' S' σ' H' m' q e' s' r' _ _ => k.nx _ _ _ _ _ q (e1.trans e') s' r'⟩
theorem fs_while (hp : PassesOwn (model X.prog X.w) X.A X.env X.xe) (hc : FT X c ta) (hb : FSs X body u) : FS X (.While c body [] pos) (sWhile ta u) := by
  refine ⟨PS.imp (ps_while hp hc.p hb.p) fun D σ H ⟨env, S, m, D0, s, r, h, k⟩ => ?_⟩
  obtain ⟨W, ⟨k0, h0⟩, turn⟩ := h
  refine ⟨fun n σ1 H1 => ∃ env1 S1 m1, Ext X.K m H m1 H1 ∧ SR X.K m1 H1 S1 ∧ ER X.K m1 H1 env1 σ1 ∧ W n env1 S1, ⟨k0, env, S, m, Ext.refl, s, r, h0⟩, fun n σ1 H1 ⟨env1, S1, m1, e1, s1, r1, w1⟩ => ?_⟩
  refine liftT_if s1 r1 (turn n env1 S1 w1) fun b S2 H2 m2 q2 e2 s2 => ?_
  cases b with
  | true =>
    rw [if_pos rfl]
    refine ⟨fun σ3 H3 => ∃ n', n' < n ∧ ∃ env3 S3 m3, Ext X.K m H m3 H3 ∧ SR X.K m3 H3 S3 ∧ ER X.K m3 H3 env3 σ3 ∧ W n' env3 S3, fun σ3 H3 ⟨n', hn, z⟩ => ⟨n', hn, z⟩, ?_⟩
    refine ⟨env1, S2, m2, _, s2, r1.ext e2.toEx, q2.1 rfl, ⟨fun env3 S3 σ3 H3 m3 ⟨n', hn, w3⟩ e3 s3 r3 => ⟨n', hn, env3, S3, m3, (e1.trans e2).trans e3, s3, r3, w3⟩, (k.ext (e1.trans e2)).rt, fun env3 S3 σ3 H3 m3 q3 e3 s3 r3 => (k.ext (e1.trans e2)).nx _ _ _ _ _ q3 e3 s3 r3,
      fun env3 S3 σ3 H3 m3 ⟨n', hn, w3⟩ e3 s3 r3 => ⟨n', hn, env3, S3, m3, (e1.trans e2).trans e3, s3, r3, w3⟩⟩⟩
  | false =>
    rw [if_neg Bool.false_ne_true]
    exact k.nx _ _ _ _ _ (q2.2 rfl) (e1.trans e2) s2 (r1.ext e2.toEx)
theorem fs_for (hp : PassesOwn (model X.prog X.w) X.A X.env X.xe) (hc : X.calm = true) (hi : FI X tg iter wi) (hg : FG X tg is g) (hb : FSs X body u) (hs : ∀ x, foldedSetIterable iter X.env x = pure x := by intro _; rfl) : FS X (.For tg iter body [] pos) (sFor wi g u) := by
  refine ⟨PS.imp (ps_for hp hc hi.p hg.p hb.p hs) fun D σ H ⟨env, S, m, D0, s, r, h, k⟩ => ?_⟩
  refine ⟨env, S, m, _, s, r, h, fun J0 S1 m1 H1 ⟨P, p0, pok, turn, done⟩ e1 s1 J wk => ?_⟩
  refine ⟨fun i n σ2 H2 => n = J0.items.length - i ∧ i ≤ J0.items.length ∧ ∃ env2 S2 m2, Ext X.K m1 H1 m2 H2 ∧ SR X.K m2 H2 S2 ∧ ER X.K m2 H2 env2 σ2 ∧ P i env2 S2, ⟨J0.items.length, by simp, Nat.zero_le _, env, S1, m1, Ext.refl, s1, r.ext e1.toEx, p0⟩, ?_⟩
  rintro i n σ2 H2 ⟨rfl, hi, env2, S2, m2, e2, s2, r2, p2⟩
  have ok2 := pok i env2 S2 hi p2
  by_cases hlt : i < J0.items.length
  · refine .inr ⟨wk.goes i H2 m2 S2 hlt e2 s2 ok2, fun σ3 H3 => ∃ env3 S3 m3, Ext X.K m1 H1 m3 H3 ∧ SR X.K m3 H3 S3 ∧ ER X.K m3 H3 env3 σ3 ∧ P (i + 1) env3 S3, fun σ3 H3 ⟨env3, S3, m3, e3, s3, r3, p3⟩ => ⟨J0.items.length - (i + 1), by omega, rfl, hlt, env3, S3, m3, e3, s3, r3, p3⟩, fun x H' y => ?_⟩
    obtain ⟨e3, s3, d, hd, v3⟩ := wk.yields i H2 m2 S2 x H' hlt e2 s2 ok2 y
    refine ⟨d, env2, S2, m2, _, s3, r2.ext e3.toEx, v3, turn i d env2 S2 hd p2, fun env4 S4 σ4 H4 m4 q4 e4 s4 r4 _ _ => ?_⟩
    have e14 := (e2.trans e3).trans e4
    exact ⟨env4, S4, m4, _, s4, r4, q4, ⟨fun env5 S5 σ5 H5 m5 q5 e5 s5 r5 => ⟨env5, S5, m5, e14.trans e5, s5, r5, q5⟩, (k.ext (e1.trans e14)).rt, fun env5 S5 σ5 H5 m5 q5 e5 s5 r5 => (k.ext (e1.trans e14)).nx _ _ _ _ _ q5 e5 s5 r5,
      fun env5 S5 σ5 H5 m5 q5 e5 s5 r5 => ⟨env5, S5, m5, e14.trans e5, s5, r5, q5⟩⟩⟩
  · have e : i = J0.items.length := by omega
    subst e
    exact .inl ⟨wk.stops H2 m2 S2 e2 s2 ok2, k.nx _ _ _ _ _ (done env2 S2 p2) (e1.trans e2) s2 r2⟩

theorem wipe_get (σ : L2.St) (i : Nat) : ∀ vs : List Nat, (L2.wipe σ vs)[i]? = if i ∈ vs then (if i < σ.length then some none else none) else σ[i]?
  | [] => by simp [L2.wipe]
  | v :: vs => by
    unfold L2.wipe
    by_cases h : v = i
    · subst h
      rw [List.getElem?_set, if_pos rfl, if_pos List.mem_cons_self, L2.wipe_length]
    · rw [List.getElem?_set_ne h, wipe_get σ i vs]
      simp only [List.mem_cons, Ne.symm h, false_or]
theorem wipe_eq {σ σ' : L2.St} {vs is : List Nat} (hs : ∀ i ∈ is, i ∈ vs) (hl : σ'.length = σ.length) (hf : ∀ k, k ∉ is → σ'[k]? = (L2.wipe σ vs)[k]?) : L2.wipe σ' vs = L2.wipe σ vs := by
  apply List.ext_getElem?
  intro i
  rw [wipe_get, wipe_get]
  by_cases h : i ∈ vs
  · rw [if_pos h, if_pos h, hl]
  · rw [if_neg h, if_neg h, hf i fun z => h (hs i z), wipe_get, if_neg h]
theorem hid {K : Frag} {m : List Addr} {H : Hp} {S : Sto} {p : Addr} {us : List V} {o : HO} (s : SR K m H S) (nm : p ∉ m) (h : H p = some (.lst us)) : Ex K m H m (upd H p o) ∧ SR K m (upd H p o) S ∧ ∀ m1 H1, Ext K m1 H1 m H → H1 p = none → Ext K m1 H1 m (upd H p o) := by
  have ex : Ex K m H m (upd H p o) := by
    refine ⟨fun b us h' => ?_, fun b us h' => ?_, fun _ _ h => h⟩
    · rw [upd_ne (fun z => by rw [z, h] at h'; cases h')]; exact h'
    · rcases h' with ⟨o, h'⟩ | h'
      · exact .inl ⟨o, by rw [upd_ne (fun z => by rw [z, h] at h'; cases h')]; exact h'⟩
      · exact .inr h'
  refine ⟨ex, ⟨s.len, s.nd, fun i o' hi => ?_⟩, fun m1 H1 e h1 => ?_⟩
  · obtain ⟨a, h1, h2⟩ := s.at_ i o' hi
    refine ⟨a, h1, h2.keep ex (upd_ne fun z => nm ?_)⟩
    rw [← z]; exact List.mem_of_getElem? h1
  · refine ⟨⟨fun a us z => ex.tup a us (e.tup a us z), fun a us z => ex.rol a us (e.rol a us z), e.pre⟩, fun a o' z n => ⟨?_, (e.fr a o' z n).2⟩⟩
    rw [upd_ne (ne_of_none z h1)]
    exact (e.fr a o' z n).1
abbrev BX (X : Cx) (scope : Scope) (s : Shared) (H : Hp) (C : Addr) (cl : List (Str × Addr)) (fp : List Addr) : Cx := X.blk s H scope (compEnvC scope cl C X.env) fp
theorem lift_lc {own : List (Str × Nat)} {g : WG} {t : WT} {w : WE} {wi : WI} {σ : L2.St} {H : Hp} {Q : VK} (hsub : ∀ i ∈ is, i ∈ own.map (·.2)) (h : liftL X.K (lLc wi g t w (own.map (·.2))) σ H Q) :
    tLc (liftI X.K wi) (liftG X.K is g) (liftT X.K t) (lift X.K w) (own.map (·.2)) σ H Q := by
  obtain ⟨env, S, m, Q0, s, r, h, k⟩ := h
  refine ⟨env, S, m, _, s, r, h, fun J0 S1 m1 H1 ⟨P, p0, pok, turn, done⟩ e1 s1 J wk Da hD => ?_⟩
  have hD0 := e1.back s1 hD
  obtain ⟨nm, e1', s1'⟩ := s1.laid (ho := .lst []) hD
  refine ⟨fun i n H2 => n = J0.items.length - i ∧ i ≤ J0.items.length ∧ ∃ acc us S2 m2, Ext X.K m1 H1 m2 H2 ∧ SR X.K m2 H2 S2 ∧ Da ∉ m2 ∧ H2 Da = some (.lst us) ∧ VRs X.K m2 H2 acc us ∧ P i acc S2, ⟨J0.items.length, by simp, Nat.zero_le _, [], [], S1, m1, e1', s1', nm, upd_same, .nil, p0⟩, ?_⟩
  rintro i n H2 ⟨rfl, hi, acc, us, S2, m2, e2, s2, nm2, hD2, v2, p2⟩
  have ok2 := pok i acc S2 hi p2
  by_cases hlt : i < J0.items.length
  · refine .inr ⟨wk.goes i H2 m2 S2 hlt e2 s2 ok2, fun H3 => ∃ acc us S3 m3, Ext X.K m1 H1 m3 H3 ∧ SR X.K m3 H3 S3 ∧ Da ∉ m3 ∧ H3 Da = some (.lst us) ∧ VRs X.K m3 H3 acc us ∧ P (i + 1) acc S3, fun H3 ⟨acc3, us3, S3, m3, z⟩ => ⟨J0.items.length - (i + 1), by omega, rfl, hlt, acc3, us3, S3, m3, z⟩, fun x H' y => ?_⟩
    obtain ⟨e3, s3, d, hd, v3⟩ := wk.yields i H2 m2 S2 x H' hlt e2 s2 ok2 y
    refine ⟨d, wipeD env _, S2, m2, _, s3, (r.ext ((e1.trans e2).trans e3).toEx).wipe _, v3, turn i d acc S2 hd p2, fun env4 S4 σ4 H4 m4 q4 e4 s4 r4 l4 f4 => ⟨wipe_eq hsub (l4.trans (L2.wipe_length _ _)) f4, ?_⟩⟩
    have d4 := e3.fr _ _ hD2 nm2
    have d4' := e4.fr _ _ d4.1 d4.2
    refine liftT_if s4 r4 q4 fun b S5 H5 m5 q5 e5 s5 => ?_
    have d5 := e5.fr _ _ d4'.1 d4'.2
    cases b with
    | true =>
      rw [if_pos rfl]
      refine lift_k s5 (r4.ext e5.toEx) (q5.1 rfl) fun z S6 u H6 m6 q6 e6 s6 v6 => ?_
      have d6 := e6.fr _ _ d5.1 d5.2
      have e26 := (((e3.trans e4).trans e5).trans e6)
      have v2' := v2.ext e26.toEx
      refine ⟨us, d6.1, by rw [← v2.length]; exact q6.1, ?_⟩
      obtain ⟨x7, s7, g7⟩ := hid (o := .lst (us ++ [u])) s6 d6.2 d6.1
      exact ⟨acc ++ [z], us ++ [u], S6, m6, g7 _ _ (e2.trans e26) hD, s7, d6.2, upd_same, (v2'.app (.cons v6 .nil)).ext x7, q6.2⟩
    | false =>
      rw [if_neg Bool.false_ne_true]
      exact ⟨acc, us, S5, m5, ((e2.trans e3).trans e4).trans e5, s5, d5.2, d5.1, v2.ext ((e3.trans e4).trans e5).toEx, q5.2 rfl⟩
  · have e : i = J0.items.length := by omega
    subst e
    exact .inl ⟨wk.stops H2 m2 S2 e2 s2 ok2, k _ _ _ _ _ _ (done acc S2 p2) (e1.trans e2) s2 hD0 nm2 hD2 v2⟩

theorem fl_lc {elt : Expr} {ifs : List Expr} {scope : Scope} {own : List (Str × Nat)} (hc : X.calm = true) (hN : X.N.Nodup) (hi : FI X tg iter wi) (ok : BlkOk X.N X.env.scope scope own)
    (hg : ∀ (s : Shared) (H : Hp) (C : Addr) (cl : List (Str × Addr)) (fp : List Addr), FG (BX X scope s H C cl fp) tg is g) (ht : ∀ (s : Shared) (H : Hp) (C : Addr) (cl : List (Str × Addr)) (fp : List Addr), FTs (BX X scope s H C cl fp) ifs ta)
    (he : ∀ (s : Shared) (H : Hp) (C : Addr) (cl : List (Str × Addr)) (fp : List Addr), FE (BX X scope s H C cl fp) elt w) (hsub : ∀ i ∈ is, i ∈ own.map (·.2) := by decide) (hs : ∀ x, foldedSetIterable iter X.env x = pure x := by intro _; rfl) :
    FL X (.ListComp elt [⟨tg, iter, ifs, 0⟩] scope pos) (lLc wi g ta w (own.map (·.2))) :=
  ⟨PE.imp (pe_lc (te := lift X.K w) (tt := liftT X.K ta) (g := liftG X.K is g) hc hN hi.p ok (fun s H C cl fp => (hg s H C cl fp).p) (fun s H C cl fp => (ht s H C cl fp).p) (fun s H C cl fp => (he s H C cl fp).p) hs) fun σ H Q h => lift_lc hsub h⟩
theorem fs_setLc {i : Nat} {y : Str} {py spos : Pos} {elt : Expr} {ifs : List Expr} {scope : Scope} {own : List (Str × Nat)} (hc : X.calm = true) (hN : X.N.Nodup) (hi : FI X tg iter wi) (ok : BlkOk X.N X.env.scope scope own)
    (hg : ∀ (s : Shared) (H : Hp) (C : Addr) (cl : List (Str × Addr)) (fp : List Addr), FG (BX X scope s H C cl fp) tg is g) (ht : ∀ (s : Shared) (H : Hp) (C : Addr) (cl : List (Str × Addr)) (fp : List Addr), FTs (BX X scope s H C cl fp) ifs ta)
    (he : ∀ (s : Shared) (H : Hp) (C : Addr) (cl : List (Str × Addr)) (fp : List Addr), FE (BX X scope s H C cl fp) elt w) (hsub : ∀ i ∈ is, i ∈ own.map (·.2) := by decide) (hy : X.N[i]? = some y := by rfl) (hyl : X.env.scope.names.lookup y = some .local := by rfl)
    (hsw : swapsWith (.ListComp elt [⟨tg, iter, ifs, 0⟩] scope pos) (some (.Name y py)) spos.line X.env = pure true := by exact sw_true rfl rfl rfl (by decide +kernel)) (hs : ∀ x, foldedSetIterable iter X.env x = pure x := by intro _; rfl) :
    FS X (.Assign [.Name y py] (.ListComp elt [⟨tg, iter, ifs, 0⟩] scope pos) spos) (sAsg (wNew (lLc wi g ta w (own.map (·.2)))) (gNameD i)) := by
  refine ⟨PS.imp (ps_setLc (te := lift X.K w) (tt := liftT X.K ta) (g := liftG X.K is g) hc hN hy hyl hsw hi.p ok (fun s H C cl fp => (hg s H C cl fp).p) (fun s H C cl fp => (ht s H C cl fp).p) (fun s H C cl fp => (he s H C cl fp).p) hs) fun D σ H ⟨env, S, m, D0, s, r, h, k⟩ => ?_⟩
  refine lift_lc hsub ⟨env, S, m, _, s, r, h, fun ds S1 a us H1 m1 q1 e1 s1 h0 nm ha v1 => ?_⟩
  obtain ⟨s2, g2⟩ := s1.adopt (p := a) (o := .lst ds) nm ⟨us, ha, VRs.ext Ex.app v1⟩
  have e2 := e1.adopt h0
  refine k.nx _ _ _ _ _ q1 e2 s2 ((r.ext e2.toEx).set i ?_)
  simp only [VR]
  exact ⟨a, rfl, g2⟩
end

/-! what is walked -/
def signs (x : Str) : List D := x.cps.toList.map fun c => D.str (T [c])
def iSeq (w : WE) : WI := fun env S R => w env S fun v S1 => match v with
  | .tup xs => R ⟨xs, fun _ => True⟩ S1
  | .rol xs => R ⟨xs, fun _ => True⟩ S1
  | .str x => R ⟨signs x, fun _ => True⟩ S1
  | .ref p => ∃ xs, S1[p]? = some (.lst xs) ∧ R ⟨xs, fun S => S[p]? = some (.lst xs)⟩ S1
  | _ => False
def iL (w : WA) : WI := fun env S R => w env S fun xs S1 => R ⟨xs, fun _ => True⟩ S1
def rangeD (lo : Int) (n : Nat) : List D := (List.range n).map fun (i : Nat) => D.int (lo + (i : Int))
def iRange1 (w : WA) : WI := fun env S R => w env S fun xs S1 => match xs with
  | [.int j] => (-(2 ^ 62) ≤ j ∧ j < 2 ^ 62) ∧ R ⟨rangeD 0 j.toNat, fun _ => True⟩ S1
  | _ => False
def iRange2 (w : WA) : WI := fun env S R => w env S fun xs S1 => match xs with
  | [.int i, .int j] => (-(2 ^ 62) ≤ i ∧ i < 2 ^ 62 ∧ -(2 ^ 62) ≤ j ∧ j < 2 ^ 62) ∧ R ⟨rangeD i (j - i).toNat, fun _ => True⟩ S1
  | _ => False
theorem rangeD_get {lo : Int} {n i : Nat} (h : i < n) : (rangeD lo n)[i]? = some (.int (lo + i)) := by
  unfold rangeD; rw [List.getElem?_map, List.getElem?_range h]; rfl
theorem rangeD_len {lo : Int} {n : Nat} : (rangeD lo n).length = n := by unfold rangeD; simp
section
variable {K : Frag} {m m0 : List Addr} {H H0 : Hp} {S : Sto}
theorem WalkD.list {xs : List D} {us : List V} {a : Addr} {ok : Sto → Prop} (v : VRs K m0 H0 xs us) (h : ∀ H m S, Ext K m0 H0 m H → SR K m H S → ok S → ∃ us, SqL K H a us ∧ VRs K m H xs us) : WalkD K m0 H0 (Itl K a) ⟨xs, ok⟩ := by
  refine ⟨fun i H m S hi e s o => ?_, fun H m S e s o => ?_, fun i H m S x H' hi e s o y => ?_⟩
  · obtain ⟨us, h1, h2⟩ := h H m S e s o
    obtain ⟨u, h3, h4⟩ := h2.get (i := i) (x := xs[i]'hi) (by simp)
    exact ⟨us, u, h1, h3⟩
  · obtain ⟨us, h1, h2⟩ := h H m S e s o
    exact ⟨us, h1, by show us.length ≤ xs.length; rw [h2.length]; exact Nat.le_refl _⟩
  · obtain ⟨us, h1, h2⟩ := h H m S e s o
    obtain ⟨rfl, y2⟩ := y
    obtain ⟨u, h3, h4⟩ := h2.get (i := i) (x := xs[i]'hi) (by simp)
    have := y2 us h1
    rw [h3] at this; cases this
    exact ⟨Ext.refl, s, xs[i]'hi, by simp, h4⟩
theorem WalkD.tup {xs : List D} {us : List V} {a : Addr} {ok : Sto → Prop} (h0 : H0 a = some (.tup us)) (v : VRs K m0 H0 xs us) : WalkD K m0 H0 (Itt K a) ⟨xs, ok⟩ := by
  refine ⟨fun i H m S hi e s o => ?_, fun H m S e s o => ?_, fun i H m S x H' hi e s o y => ?_⟩
  · obtain ⟨u, h3, h4⟩ := v.get (i := i) (x := xs[i]'hi) (by simp)
    exact ⟨us, u, SqT.of (e.tup _ _ h0), h3⟩
  · exact ⟨us, SqT.of (e.tup _ _ h0), by show us.length ≤ xs.length; rw [v.length]; exact Nat.le_refl _⟩
  · obtain ⟨rfl, y2⟩ := y
    obtain ⟨u, h3, h4⟩ := v.get (i := i) (x := xs[i]'hi) (by simp)
    have := y2 us (SqT.of (e.tup _ _ h0))
    rw [h3] at this; cases this
    exact ⟨Ext.refl, s, xs[i]'hi, by simp, h4.ext e.toEx⟩
theorem WalkD.str {x : Str} {ok : Sto → Prop} : WalkD K m0 H0 (Its x) ⟨signs x, ok⟩ := by
  refine ⟨fun i H m S hi e s o => ?_, fun H m S e s o => ?_, fun i H m S v H' hi e s o y => ?_⟩
  · show i < x.cps.size
    simpa [signs] using hi
  · show x.cps.size ≤ (signs x).length
    simp [signs]
  · obtain ⟨rfl, c, h1, h2⟩ := y
    refine ⟨Ext.refl, s, .str ⟨#[c]⟩, ?_, by rw [h2]; simp only [VR]⟩
    show (signs x)[i]? = _
    unfold signs
    rw [List.getElem?_map, Array.getElem?_toList, h1]; rfl
theorem WalkD.range {lo : Int} {n : Nat} {ok : Sto → Prop} : WalkD K m0 H0 (Itr lo n) ⟨rangeD lo n, ok⟩ := by
  refine ⟨fun i H m S hi e s o => ?_, fun H m S e s o => ?_, fun i H m S v H' hi e s o y => ?_⟩
  · show i < n
    simpa [rangeD_len] using hi
  · show n ≤ (rangeD lo n).length
    rw [rangeD_len]; exact Nat.le_refl _
  · obtain ⟨rfl, h2⟩ := y
    have hi' : i < n := by simpa [rangeD_len] using hi
    exact ⟨Ext.refl, s, _, rangeD_get hi', by rw [h2]; simp only [VR]⟩
end
section
variable {X : Cx} {tg e : Expr} {es : List Expr} {w : WE} {wr : WA} {te : TE}
theorem pi_any (he : PE X e te) : PI X tg e (fun σ H R => te σ H fun v H1 => (∃ a, v = .ref a ∧ (∃ xs, SqL X.K H1 a xs) ∧ R (Itl X.K a) H1) ∨ (∃ a, v = .ref a ∧ (∃ xs, SqT X.K H1 a xs) ∧ R (Itt X.K a) H1) ∨ (∃ x, v = .str x ∧ R (Its x) H1)) := by
  refine ⟨fun pins s σ H R I h => ?_⟩
  refine thn (he.run pins s σ H _ I h) fun v s1 ⟨y, H1, I1, r1, q⟩ => ?_
  rcases q with ⟨a, rfl, ⟨xs, hq⟩, q⟩ | ⟨a, rfl, ⟨xs, hq⟩, q⟩ | ⟨x, rfl, q⟩
  · cases r1
    obtain ⟨its, rv, p, hz⟩ := I1.list hq
    refine wpAny_pyIter_list p.isList ?_
    refine ⟨s1.heap.objs.size, [s1.heap.objs.size], _, _, H1, rfl, I1.kept (t' := s1.toks) fun b o e => Heap.get?_push_of_some _ e, turn_list a _, ⟨_, Heap.get?_push_size _ rfl, rfl, rfl⟩, fun b hb => ?_, q⟩
    have e : b = s1.heap.objs.size := by simpa using hb
    subst e
    exact I1.fpOk (Nat.le_refl _) (I1.hok.fresh (Nat.le_refl _))
  · cases r1
    obtain ⟨its, rv, p, hz⟩ := I1.tuple hq
    refine wpAny_pyIter_tuple (show s1.heap.IsTuple a its.toArray from p) ?_
    refine ⟨s1.heap.objs.size, [s1.heap.objs.size], _, _, H1, rfl, I1.kept (t' := s1.toks) fun b o e => Heap.get?_push_of_some _ e, turn_tuple a _, ⟨_, Heap.get?_push_size _ rfl, rfl, rfl⟩, fun b hb => ?_, q⟩
    have e : b = s1.heap.objs.size := by simpa using hb
    subst e
    exact I1.fpOk (Nat.le_refl _) (I1.hok.fresh (Nat.le_refl _))
  · obtain ⟨t, rfl⟩ := r1
    cases ha : x.cps.all (· < 128)
    · exact wpAny_pyIter_wide ha (pi_one (tk := s1.toks) I1 _ (turn_str _ x t "str_iterator" (.inr rfl)) ⟨_, Heap.get?_push_size _ rfl, rfl, rfl⟩ q)
    · exact wpAny_pyIter_ascii ha (pi_one (tk := s1.toks) I1 _ (turn_str _ x t "str_ascii_iterator" (.inl rfl)) ⟨_, Heap.get?_push_size _ rfl, rfl, rfl⟩ q)
theorem PI.imp {t t' : TI} (h : PI X tg e t) (i : ∀ σ H R, t' σ H R → t σ H R) : PI X tg e t' := ⟨fun pins s σ H R I q => h.run pins s σ H R I (i σ H R q)⟩
theorem fi_seq (h : FE X e w) : FI X tg e (iSeq w) := by
  refine ⟨PI.imp (pi_any h.p) fun σ H R ⟨env, S, m, R0, s, r, h, k⟩ => ?_⟩
  refine lift_k s r h fun v S1 u H1 m1 q1 e1 s1 v1 => ?_
  cases v with
  | tup xs =>
    simp only [VR] at v1
    obtain ⟨a, us, h1, h2, h3⟩ := v1
    exact .inr (.inl ⟨a, h1, ⟨us, SqT.of h2⟩, k _ _ _ _ q1 e1 s1 _ (WalkD.tup h2 h3)⟩)
  | rol xs =>
    simp only [VR] at v1
    obtain ⟨a, us, h1, h2, h3⟩ := v1
    exact .inl ⟨a, h1, ⟨us, h2.sq⟩, k _ _ _ _ q1 e1 s1 _ (WalkD.list h3 fun H m S e s o => ⟨us, (e.rol _ _ h2).sq, h3.ext e.toEx⟩)⟩
  | str x => simp only [VR] at v1; exact .inr (.inr ⟨x, v1, k _ _ _ _ q1 e1 s1 _ WalkD.str⟩)
  | ref p =>
    simp only [VR] at v1
    obtain ⟨a, h1, h2⟩ := v1
    obtain ⟨xs, h3, q1⟩ := q1
    obtain ⟨us, h4, h5⟩ := s1.lst h2 h3
    refine .inl ⟨a, h1, ⟨us, SqL.of h4⟩, k _ _ _ _ q1 e1 s1 _ (WalkD.list h5 fun H m S e s o => ?_)⟩
    obtain ⟨us', h6, h7⟩ := s.lst (e.pre _ _ h2) o
    exact ⟨us', SqL.of h6, h7⟩
  | _ => exact q1.elim
theorem fi_l (h : FL X e wr) : FI X tg e (iL wr) := by
  refine ⟨PI.imp (pi_any h.p) fun σ H R ⟨env, S, m, R0, s, r, h, k⟩ => ?_⟩
  refine ⟨env, S, m, _, s, r, h, fun xs S1 a us H1 m1 q1 e1 s1 h0 nm ha v1 => ?_⟩
  refine .inl ⟨a, rfl, ⟨us, SqL.of ha⟩, k _ _ _ _ q1 e1 s1 _ (WalkD.list v1 fun H m S e s o => ?_)⟩
  exact ⟨us, SqL.of (e.fr _ _ ha nm).1, v1.ext e.toEx⟩
theorem fi_range1 {a : Expr} {p pos : Pos} (hg : Gl X "range") (hm : X.mg "range" = none) (ha : FA X [a] wr) (hs : starEach [a] X.env = [(false, eval a X.env)] := by rfl) : FI X tg (.Call (.Name "range" p) [a] [] pos) (iRange1 wr) := by
  refine ⟨PI.imp (pi_range1 hg hm ha.p hs) fun σ H R ⟨env, S, m, R0, s, r, h, k⟩ => ?_⟩
  refine ⟨env, S, m, _, s, r, h, fun xs S1 us H1 m1 q1 e1 s1 v1 => ?_⟩
  match xs, q1 with
  | [.int j], q1 =>
    obtain ⟨u, t, rfl, h1, h2⟩ := v1.cons_inv
    cases h2.nil_inv
    simp only [VR] at h1
    exact ⟨j, by rw [h1], q1.1.1, q1.1.2, k _ _ _ _ q1.2 e1 s1 _ WalkD.range⟩
theorem fi_range2 {a b : Expr} {p pos : Pos} (hg : Gl X "range") (hm : X.mg "range" = none) (ha : FA X [a, b] wr) (hs : starEach [a, b] X.env = [(false, eval a X.env), (false, eval b X.env)] := by rfl) (hs2 : starEach [b] X.env = [(false, eval b X.env)] := by rfl) : FI X tg (.Call (.Name "range" p) [a, b] [] pos) (iRange2 wr) := by
  refine ⟨PI.imp (pi_range2 hg hm ha.p hs hs2) fun σ H R ⟨env, S, m, R0, s, r, h, k⟩ => ?_⟩
  refine ⟨env, S, m, _, s, r, h, fun xs S1 us H1 m1 q1 e1 s1 v1 => ?_⟩
  match xs, q1 with
  | [.int i, .int j], q1 =>
    obtain ⟨u, t, rfl, h1, h2⟩ := v1.cons_inv
    obtain ⟨u2, t2, rfl, h3, h4⟩ := h2.cons_inv
    cases h4.nil_inv
    simp only [VR] at h1 h3
    exact ⟨i, j, by rw [h1, h3], q1.1, k _ _ _ _ q1.2 e1 s1 _ WalkD.range⟩
end
end Z
namespace Z
open PySem PySem.Spec PyProof.Rows L2

def startD (N : List Str) (ds : List D) : En := ds.map some ++ List.replicate (N.length - ds.length) none
section
variable {K : Frag} {m : List Addr} {H : Hp}
theorem VRs.somes : ∀ {ds : List D} {vs : List V} {i : Nat} {d : D}, VRs K m H ds vs → (ds.map some)[i]? = some (some d) → ∃ v, (vs.map some)[i]? = some (some v) ∧ VR K m H d v := fun {ds vs i d} h e => by
  rw [List.getElem?_map] at e
  cases hd : ds[i]? with
  | none => rw [hd] at e; cases e
  | some x =>
    rw [hd] at e
    have : x = d := by simpa using e
    subst this
    obtain ⟨v, h1, h2⟩ := h.get hd
    exact ⟨v, by rw [List.getElem?_map, h1]; rfl, h2⟩
theorem ER.start {N : List Str} {ds : List D} {vs : List V} (h : VRs K m H ds vs) : ER K m H (startD N ds) (L2.start N vs) := by
  have hl := h.length
  refine ⟨by simp [startD, L2.start, hl], fun i d e => ?_⟩
  unfold startD at e
  unfold L2.start
  by_cases hi : i < ds.length
  · rw [List.getElem?_append_left (by simpa using hi)] at e
    obtain ⟨v, h1, h2⟩ := h.somes e
    exact ⟨v, by rw [List.getElem?_append_left (by simp; omega)]; exact h1, h2⟩
  · rw [List.getElem?_append_right (by simpa using hi)] at e
    have := List.mem_of_getElem? e
    rw [List.mem_replicate] at this
    cases this.2
end
section
variable {P : Program} {w : World} {K : Frag} {mg : Str → Option Value} {base : Heap}
/-- a def that raises nothing -/
theorem fn_ok {x qual : Str} {st : Stmt} {f : Addr} {fd : FuncData} {N ps : List Str} {k : Nat} {sp : DSp} {wb : WS} (F : Fun K x qual st f fd) (S : FnScope N ps (defScope st)) (len : ∀ ds S Q E, sp ds S Q E → ds.length = ps.length)
    (hb : ∀ (cdv : Value) (A : Around) (outer : List Env) (s : Shared) (H : Hp) (E : XK), Room k (A.deeper (envOfC qual (defScope st) s.heap.objs.size f cdv)) → FSs (cxOf CX0 P w K mg base N qual (defScope st) f cdv A outer s H E).nox (defBody st) wb)
    (hs : ∀ ds S Q E, sp ds S Q E → wb { nx := fun _ S' => Q .non S', rt := Q } (startD N ds) S) : FnOk P w K mg base CX0 (k + 1) f fd ps (liftSp K sp) := by
  refine F.ok S (fun vs H Q E ⟨ds, S, m, Q0, E0, s, v, h, k, _⟩ => by rw [← v.length]; exact len _ _ _ _ h) (fun cdv A outer s H vs Q E hr ⟨ds, S, m, Q0, E0, sr, v, h, k, _⟩ => ?_)
  refine ⟨_, (hb cdv A outer s H E hr).p, startD N ds, S, m, _, sr, ER.start v, hs _ _ _ _ h, ⟨fun env' S' σ' H' m' q e s' r' => k _ _ _ _ _ q e s' (by simp only [VR]), k, fun _ _ _ _ _ q => q.elim, fun _ _ _ _ _ q => q.elim⟩⟩
end
def wCall (sp : DSp) (r : WA) : WE := fun env S Q => r env S fun ds S1 => sp ds S1 Q fun _ _ _ => False
section
variable {X : Cx} {CX : CXT} {k : Nat} {f C : Addr} {fd : FuncData} {ps : List Str} {sp : DSp} {x m : Str} {p pos apos : Pos} {e o : Expr} {es : List Expr} {wr : WA} {wo : WE}
theorem lift_call {σ : L2.St} {H : Hp} {Q : VK} (h : lift X.K (wCall sp wr) σ H Q) : tCall (liftSp X.K sp) [] E0 (liftA X.K wr) σ H Q := by
  obtain ⟨env, S, m, Q0, s, r, h, k⟩ := h
  refine ⟨env, S, m, _, s, r, h, fun ds S1 vs H1 m1 q1 e1 s1 v1 => ?_⟩
  show liftSp X.K sp (vs ++ []) H1 Q E0
  rw [List.append_nil]
  exact ⟨ds, S1, m1, Q0, _, s1, v1, q1, k.ext e1, fun _ _ _ _ _ _ z => z.elim⟩
theorem fe_call (F : FnOk X.prog X.w X.K X.mg X.base CX k f fd ps (liftSp X.K sp)) (hr : Room k X.A) (hg : Gl X x) (hm : X.mg x = some (.ref f)) (hk : PySem.W.keepIn X.K (.ref f) = true) (hb : Binds X.K fd ps []) (hx : Passes CX X E0)
    (ha : FA X (e :: es) wr) (hdb : (x == ("__debug__" : Str)) = false := by decide) (he : starEach (e :: es) X.env = (false, eval e X.env) :: starEach es X.env := by rfl) (hpl : (backTo pos (starEach es X.env)).any (·.1) = false := by rfl) :
    FE X (.Call (.Name x p) (e :: es) [] pos) (wCall sp wr) :=
  ⟨PE.imp (pe_call F hr hg hm hk hb .nil hx ha.p hdb he hpl) fun σ H Q h => lift_call h⟩
theorem fe_call0 (F : FnOk X.prog X.w X.K X.mg X.base CX k f fd ps (liftSp X.K sp)) (hr : Room k X.A) (hg : Gl X x) (hm : X.mg x = some (.ref f)) (hk : PySem.W.keepIn X.K (.ref f) = true) (hb : Binds X.K fd ps []) (hx : Passes CX X E0)
    (hdb : (x == ("__debug__" : Str)) = false := by decide) : FE X (.Call (.Name x p) [] [] pos) (wCall sp aNil) := by
  refine ⟨PE.imp (pe_call0 F hr hg hm hk hb .nil hx hdb) fun σ H Q ⟨env, S, m, Q0, s, r, h, k⟩ => ?_⟩
  exact ⟨[], S, m, Q0, _, s, .nil, h, k, fun _ _ _ _ _ _ z => z.elim⟩
end
/-- the law's promise, from its script -/
theorem law_sp {K : Frag} {sp : DSp} {H : Hp} {a : Addr} {ns : List Int} (hO : Only H) (hS : SqL K H a (ns.map V.int)) (h : sp [.rol (ns.map D.int)] [] (fun v _ => v = .bl true) fun _ _ _ => False) : liftSp K sp [.ref a] H (fun v _ => v = .bl true) fun _ _ _ => False := by
  have hR : SqR K H a (ns.map V.int) := by
    rcases hS with (h | ⟨o, h⟩) | h
    · rcases hO a with q | ⟨o, xs, q⟩
      · rw [q] at h; cases h
      · rw [q] at h; cases h
    · exact .inl ⟨o, h⟩
    · exact .inr h
  refine ⟨_, [], [], _, _, ⟨rfl, List.nodup_nil, fun i o e => by simp at e⟩, .cons ?_ .nil, h, fun d S' u H' m' q e s v => ?_, fun _ _ _ _ _ _ z => z.elim⟩
  · simp only [VR]; exact ⟨a, _, rfl, hR, VRs.of_ints ns⟩
  · subst q; simp only [VR] at v; exact v
end Z
namespace Z
open PySem PySem.Spec PyProof.Rows L2

/-! operators -/
def dAdd : R2D := fun x y S Q => match x, y with
  | .int i, .int j => Q (.int (i + j)) S
  | .str a, .str b => a.length + b.length ≤ sizeLine ∧ Q (.str (a ++ b)) S
  | .tup a, .tup b => a.length + b.length ≤ sizeLine ∧ Q (.tup (a ++ b)) S
  | _, _ => False
def dSub : R2D := fun x y S Q => match x, y with | .int i, .int j => Q (.int (i - j)) S | _, _ => False
def strMul (x : Str) (n : Int) : Str := Txt.mul x n
def dMul : R2D := fun x y S Q => match x, y with
  | .int i, .int j => (CMul i j ∨ CMulW i j) ∧ Q (.int (i * j)) S
  | .str a, .int j => (a.length ≤ 1000 ∧ j ≤ 1000 ∧ -1000 ≤ j) ∧ Q (.str (strMul a j)) S
  | _, _ => False
def dDiv : R2D := fun x y S Q => match x, y with | .int i, .int j => (CDiv i j ∨ CDivW i j) ∧ Q (.int (i / j)) S | _, _ => False
def dMod : R2D := fun x y S Q => match x, y with | .int i, .int j => 0 < j ∧ Q (.int (i % j)) S | _, _ => False
def dPow : R2D := fun x y S Q => match x, y with | .int i, .int j => CPow i j ∧ Q (.int (i ^ j.toNat)) S | _, _ => False
def dLt : R2D := fun x y S Q => match x, y with
  | .int i, .int j => Q (.bl (decide (i < j))) S
  | .str a, .str b => Q (.bl (decide (a.cps.toList < b.cps.toList))) S
  | _, _ => False
def dLe : R2D := fun x y S Q => match x, y with | .int i, .int j => Q (.bl (decide (i ≤ j))) S | _, _ => False
def dGt : R2D := fun x y S Q => match x, y with | .int i, .int j => Q (.bl (decide (j < i))) S | _, _ => False
def dGe : R2D := fun x y S Q => match x, y with | .int i, .int j => Q (.bl (decide (j ≤ i))) S | _, _ => False
def isN : D → Bool | .non => true | _ => false
def dIs : R2D := fun x y S Q => match y with
  | .non => Q (.bl (isN x)) S
  | .bl b => match x with | .bl a => Q (.bl (decide (a = b))) S | _ => False
  | _ => False
def dIsNot : R2D := fun x y S Q => match y with
  | .non => Q (.bl (!isN x)) S
  | .bl b => match x with | .bl a => Q (.bl (!decide (a = b))) S | _ => False
  | _ => False
section
variable {X : Cx}
theorem Kt.v {K : Frag} {m : List Addr} {H : Hp} {S : Sto} {Q0 : WK} {Q : VK} (k : Kt K m H Q0 Q) (s : SR K m H S) {d : D} {v : V} (q : Q0 d S) (r : VR K m H d v) : Q v H := k _ _ _ _ _ q Ext.refl s r
theorem op_mul_str : OpR X (binaryOp .Mult) (fun x y H Q => ∃ a j, x = .str a ∧ y = .int j ∧ (a.length ≤ 1000 ∧ j ≤ 1000 ∧ -1000 ≤ j) ∧ Q (.str (strMul a j)) H) := by
  intro pins s σ H x y v u Q I rx ry ⟨a, j, ex, ey, ⟨h1, h2, h3⟩, q⟩
  subst ex; subst ey
  obtain ⟨t, rfl⟩ := rx
  obtain ⟨t', rfl⟩ := ry
  refine PySem.SB.mul ⟨?_, fun h4 h5 => ?_, fun h4 h5 => ?_⟩ fun t2 k => ⟨.str _, H, I.tok _, ⟨_, rfl⟩, q⟩
  · rw [Bool.or_eq_false_iff]; exact ⟨decide_eq_false (by omega), decide_eq_false (by omega)⟩
  · have h6 : (1000 : Int) ≤ (2 ^ 63 - 1) / j := by
      have : (1000 : Int) = 1000000 / 1000 := by decide
      apply Int.le_ediv_of_mul_le (by omega)
      have : (1000 : Int) * j ≤ 1000 * 1000 := by omega
      omega
    omega
  · have : a.length * j.toNat ≤ 1000 * 1000 := Nat.mul_le_mul h1 (by omega)
    unfold Builtin.Str.tooLong
    have e : sizeLine = 16777216 := sizeLine_eq
    simp only [decide_eq_false_iff_not]
    omega
theorem sim_add : Sim2 X.K (fun x y H Q => rI0 (fun i j => .int (i + j)) x y H Q ∨ (fun x y H Q => (∃ i j, x = .str i ∧ y = .str j ∧ i.length + j.length ≤ sizeLine ∧ Q (.str (i ++ j)) H) ∨ rCatA X.K x y H Q) x y H Q) dAdd := by
  intro m H S x y u v Q0 Q s rx ry h k
  cases x <;> cases y <;> simp only [dAdd] at h <;> first | exact h.elim | skip
  · simp only [VR] at rx ry
    exact .inl ⟨_, _, rx, ry, k.v s h (by simp only [VR])⟩
  · simp only [VR] at rx ry
    exact .inr (.inl ⟨_, _, rx, ry, h.1, k.v s h.2 (by simp only [VR])⟩)
  · simp only [VR] at rx ry
    rename_i xs ys
    obtain ⟨a, us, h1, h2, h3⟩ := rx
    obtain ⟨b, ws, h4, h5, h6⟩ := ry
    refine .inr (.inr ⟨a, b, us, ws, h1, h4, SqT.of h2, SqT.of h5, by rw [← h3.length, ← h6.length]; exact h.1, fun e => ?_, fun e1 e2 => ?_, fun e1 e2 p hp => ?_⟩)
    · subst e
      have : xs = [] := List.length_eq_zero_iff.mp h3.length
      subst this
      refine k.v s h.2 ?_
      simp only [VR, List.nil_append]
      exact ⟨b, ws, rfl, h5, h6⟩
    · subst e2
      have : ys = [] := List.length_eq_zero_iff.mp h6.length
      subst this
      refine k.v s h.2 ?_
      simp only [VR, List.append_nil]
      exact ⟨a, us, rfl, h2, h3⟩
    · exact k.tup s (h3.app h6) hp h.2
theorem op_addA : OpR X (binaryOp .Add) (fun x y H Q => rI0 (fun i j => .int (i + j)) x y H Q ∨ (fun x y H Q => (∃ i j, x = .str i ∧ y = .str j ∧ i.length + j.length ≤ sizeLine ∧ Q (.str (i ++ j)) H) ∨ rCatA X.K x y H Q) x y H Q) := op_add.or (op_add_str.or op_catA)
variable {a b c : Expr} {wa wb wc : WE} {pos : Pos}
theorem fe_add (ha : FE X a wa) (hb : FE X b wb) : FE X (.BinOp a .Add b pos) (wOp dAdd wa wb) := fe_op op_addA sim_add ha hb
theorem sim_int {K : Frag} {C : Int → Int → Prop} {g : Int → Int → V} {gd : Int → Int → D} {d : R2D} (hd : ∀ x y S Q, d x y S Q → ∃ i j, x = .int i ∧ y = .int j ∧ C i j ∧ Q (gd i j) S) (hg : ∀ m H i j, VR K m H (gd i j) (g i j)) : Sim2 K (rI C g) d := by
  intro m H S x y u v Q0 Q s rx ry h k
  obtain ⟨i, j, rfl, rfl, hc, q⟩ := hd _ _ _ _ h
  simp only [VR] at rx ry
  exact ⟨i, j, rx, ry, hc, k.v s q (hg _ _ _ _)⟩
theorem sim_int0 {K : Frag} {g : Int → Int → V} {gd : Int → Int → D} {d : R2D} (hd : ∀ x y S Q, d x y S Q → ∃ i j, x = .int i ∧ y = .int j ∧ Q (gd i j) S) (hg : ∀ m H i j, VR K m H (gd i j) (g i j)) : Sim2 K (rI0 g) d := by
  intro m H S x y u v Q0 Q s rx ry h k
  obtain ⟨i, j, rfl, rfl, q⟩ := hd _ _ _ _ h
  simp only [VR] at rx ry
  exact ⟨i, j, rx, ry, k.v s q (hg _ _ _ _)⟩
theorem fe_sub (ha : FE X a wa) (hb : FE X b wb) : FE X (.BinOp a .Sub b pos) (wOp dSub wa wb) :=
  fe_op op_sub (sim_int0 (gd := fun i j => .int (i - j)) (fun x y S Q h => by cases x <;> cases y <;> simp only [dSub] at h <;> first | exact h.elim | exact ⟨_, _, rfl, rfl, h⟩) fun _ _ _ _ => by simp only [VR]) ha hb
theorem fe_mod (ha : FE X a wa) (hb : FE X b wb) : FE X (.BinOp a .Mod b pos) (wOp dMod wa wb) :=
  fe_op op_mod (sim_int (gd := fun i j => .int (i % j)) (fun x y S Q h => by cases x <;> cases y <;> simp only [dMod] at h <;> first | exact h.elim | exact ⟨_, _, rfl, rfl, h⟩) fun _ _ _ _ => by simp only [VR]) ha hb
theorem fe_pow (ha : FE X a wa) (hb : FE X b wb) : FE X (.BinOp a .Pow b pos) (wOp dPow wa wb) :=
  fe_op op_pow (sim_int (gd := fun i j => .int (i ^ j.toNat)) (fun x y S Q h => by cases x <;> cases y <;> simp only [dPow] at h <;> first | exact h.elim | exact ⟨_, _, rfl, rfl, h⟩) fun _ _ _ _ => by simp only [VR]) ha hb
/-- a power that is written, by its value -/
theorem fe_powc {i j r : Int} {p1 p2 n1 n2} (h : CPow i j) (e : i ^ j.toNat = r) : FE X (.BinOp (.Constant (.int i) n1 p1) .Pow (.Constant (.int j) n2 p2) pos) (wC (.int r)) := by
  refine ⟨PE.imp (fe_pow fe_int fe_int).p fun σ H Q ⟨env, S, m, Q0, s, rr, q, k⟩ => ⟨env, S, m, Q0, s, rr, ?_, k⟩⟩
  subst e
  exact ⟨h, q⟩
theorem fe_div (ha : FE X a wa) (hb : FE X b wb) : FE X (.BinOp a .FloorDiv b pos) (wOp dDiv wa wb) := by
  refine fe_op (op_fdiv.or op_fdivW) (fun m H S x y u v Q0 Q s rx ry h k => ?_) ha hb
  cases x <;> cases y <;> simp only [dDiv] at h <;> first | exact h.elim | skip
  simp only [VR] at rx ry
  rcases h.1 with h1 | h1
  · exact .inl ⟨_, _, rx, ry, h1, k.v s h.2 (by simp only [VR])⟩
  · exact .inr ⟨_, _, rx, ry, h1, k.v s h.2 (by simp only [VR])⟩
theorem fe_mul (ha : FE X a wa) (hb : FE X b wb) : FE X (.BinOp a .Mult b pos) (wOp dMul wa wb) := by
  refine fe_op ((op_mul.or op_mulW).or op_mul_str) (fun m H S x y u v Q0 Q s rx ry h k => ?_) ha hb
  cases x <;> cases y <;> simp only [dMul] at h <;> first | exact h.elim | skip
  · simp only [VR] at rx ry
    rcases h.1 with h1 | h1
    · exact .inl (.inl ⟨_, _, rx, ry, h1, k.v s h.2 (by simp only [VR])⟩)
    · exact .inl (.inr ⟨_, _, rx, ry, h1, k.v s h.2 (by simp only [VR])⟩)
  · simp only [VR] at rx ry
    exact .inr ⟨_, _, rx, ry, h.1, k.v s h.2 (by simp only [VR])⟩
def wNeg (wa : WE) : WE := fun env S Q => wa env S fun x S1 => match x with | .int i => Q (.int (-i)) S1 | _ => False
theorem fe_neg (ha : FE X a wa) : FE X (.UnaryOp .USub a pos) (wNeg wa) := by
  refine ⟨PE.imp (pe_un un_neg ha.p) fun σ H Q ⟨env, S, m, Q0, s, r, h, k⟩ => ?_⟩
  refine lift_k s r h fun x S1 u H1 m1 q1 e1 s1 v1 => ?_
  cases x with
  | int i => simp only [VR] at v1; exact ⟨i, v1, (k.ext e1).v s1 q1 (by simp only [VR])⟩
  | _ => exact q1.elim
/-! comparisons -/
theorem sim_lt : Sim2 X.K (fun x y H Q => rI0 (fun i j => .bl (decide (i < j))) x y H Q ∨ (fun x y H Q => ∃ i j, x = .str i ∧ y = .str j ∧ Q (.bl (decide (i.cps.toList < j.cps.toList))) H) x y H Q) dLt := by
  intro m H S x y u v Q0 Q s rx ry h k
  cases x <;> cases y <;> simp only [dLt] at h <;> first | exact h.elim | skip
  · simp only [VR] at rx ry; exact .inl ⟨_, _, rx, ry, k.v s h (by simp only [VR])⟩
  · simp only [VR] at rx ry; exact .inr ⟨_, _, rx, ry, k.v s h (by simp only [VR])⟩
theorem op_ltA : OpR X (compareOp .Lt) (fun x y H Q => rI0 (fun i j => .bl (decide (i < j))) x y H Q ∨ (fun x y H Q => ∃ i j, x = .str i ∧ y = .str j ∧ Q (.bl (decide (i.cps.toList < j.cps.toList))) H) x y H Q) := op_lt.or op_lt_str
theorem sim_le : Sim2 X.K (rI0 fun i j => .bl (decide (i ≤ j))) dLe := sim_int0 (gd := fun i j => .bl (decide (i ≤ j))) (fun x y S Q h => by cases x <;> cases y <;> simp only [dLe] at h <;> first | exact h.elim | exact ⟨_, _, rfl, rfl, h⟩) fun _ _ _ _ => by simp only [VR]
theorem sim_gt : Sim2 X.K (rI0 fun i j => .bl (decide (j < i))) dGt := sim_int0 (gd := fun i j => .bl (decide (j < i))) (fun x y S Q h => by cases x <;> cases y <;> simp only [dGt] at h <;> first | exact h.elim | exact ⟨_, _, rfl, rfl, h⟩) fun _ _ _ _ => by simp only [VR]
theorem sim_ge : Sim2 X.K (rI0 fun i j => .bl (decide (j ≤ i))) dGe := sim_int0 (gd := fun i j => .bl (decide (j ≤ i))) (fun x y S Q h => by cases x <;> cases y <;> simp only [dGe] at h <;> first | exact h.elim | exact ⟨_, _, rfl, rfl, h⟩) fun _ _ _ _ => by simp only [VR]
theorem isN_v {K : Frag} {m : List Addr} {H : Hp} {x : D} {u : V} (r : VR K m H x u) : isN x = decide (u = .non) := by
  cases x <;> simp only [VR] at r
  · rw [r]; rfl
  all_goals first
    | (rw [r]; rfl)
    | (obtain ⟨a, us, h1, _⟩ := r; rw [h1]; rfl)
    | (obtain ⟨a, h1, _⟩ := r; rw [h1]; rfl)
theorem sim_is : Sim2 X.K (fun x y H Q => (fun x y H Q => y = .non ∧ Q (.bl (decide (x = .non))) H) x y H Q ∨ rIsB x y H Q) dIs := by
  intro m H S x y u v Q0 Q s rx ry h k
  cases y with
  | non => simp only [VR] at ry; exact .inl ⟨ry, by rw [← isN_v rx]; exact k.v s h (by simp only [VR])⟩
  | bl b =>
    cases x with
    | bl a => simp only [VR] at rx ry; exact .inr ⟨a, b, rx, ry, k.v s h (by simp only [VR])⟩
    | _ => exact h.elim
  | _ => exact h.elim
theorem sim_isnot : Sim2 X.K (fun x y H Q => (fun x y H Q => y = .non ∧ Q (.bl (!decide (x = .non))) H) x y H Q ∨ rNotB x y H Q) dIsNot := by
  intro m H S x y u v Q0 Q s rx ry h k
  cases y with
  | non => simp only [VR] at ry; exact .inl ⟨ry, by rw [← isN_v rx]; exact k.v s h (by simp only [VR])⟩
  | bl b =>
    cases x with
    | bl a => simp only [VR] at rx ry; exact .inr ⟨a, b, rx, ry, k.v s h (by simp only [VR])⟩
    | _ => exact h.elim
  | _ => exact h.elim
theorem op_isA : OpR X (compareOp .Is) (fun x y H Q => (fun x y H Q => y = .non ∧ Q (.bl (decide (x = .non))) H) x y H Q ∨ rIsB x y H Q) := op_isN.or op_isBl
theorem op_isnotA : OpR X (compareOp .IsNot) (fun x y H Q => (fun x y H Q => y = .non ∧ Q (.bl (!decide (x = .non))) H) x y H Q ∨ rNotB x y H Q) := op_notN.or op_notBl
end

/-! == of data -/
mutual
def D.pd : D → PyData
  | .non => .none
  | .bl b => .bool b
  | .int i => .int i
  | .str x => .str x
  | .tup xs => .tuple (D.pds xs)
  | .rol xs => .list (D.pds xs)
  | _ => .none
def D.pds : List D → List PyData
  | [] => []
  | x :: xs => D.pd x :: D.pds xs
end
mutual
def D.plain : D → Bool
  | .non | .bl _ | .int _ | .str _ => true
  | .tup xs => D.plains xs
  | .rol xs => D.plains xs
  | _ => false
def D.plains : List D → Bool
  | [] => true
  | x :: xs => D.plain x && D.plains xs
end
mutual
def D.eqv : D → D → Bool
  | .non, .non => true
  | .bl a, .bl b => a == b
  | .bl a, .int j => (if a then 1 else 0) == j
  | .int i, .bl b => i == (if b then 1 else 0)
  | .int i, .int j => i == j
  | .str x, .str y => x == y
  | .tup xs, .tup ys => D.eqvs xs ys
  | .rol xs, .rol ys => D.eqvs xs ys
  | _, _ => false
def D.eqvs : List D → List D → Bool
  | [], [] => true
  | x :: xs, y :: ys => D.eqv x y && D.eqvs xs ys
  | [], _ :: _ => false
  | _ :: _, [] => false
end
mutual
theorem D.eqv_pd : ∀ x y : D, x.plain = true → y.plain = true → D.eqv x y = PyData.eqv x.pd y.pd
  | .tup xs, .tup ys, h1, h2 => by
    simp only [D.plain] at h1 h2
    simp only [D.eqv, D.pd, PyData.eqv]
    exact D.eqvs_pd xs ys h1 h2
  | .rol xs, .rol ys, h1, h2 => by
    simp only [D.plain] at h1 h2
    simp only [D.eqv, D.pd, PyData.eqv]
    exact D.eqvs_pd xs ys h1 h2
  | .non, y, _, h => by cases y <;> simp only [D.plain, Bool.false_eq_true] at h <;> simp [D.eqv, D.pd, PyData.eqv]
  | .bl _, y, _, h => by cases y <;> simp only [D.plain, Bool.false_eq_true] at h <;> simp [D.eqv, D.pd, PyData.eqv]
  | .int _, y, _, h => by cases y <;> simp only [D.plain, Bool.false_eq_true] at h <;> simp [D.eqv, D.pd, PyData.eqv]
  | .str _, y, _, h => by cases y <;> simp only [D.plain, Bool.false_eq_true] at h <;> simp [D.eqv, D.pd, PyData.eqv]
  | .tup _, .non, _, h => by simp [D.eqv, D.pd, PyData.eqv]
  | .tup _, .bl _, _, h => by simp [D.eqv, D.pd, PyData.eqv]
  | .tup _, .int _, _, h => by simp [D.eqv, D.pd, PyData.eqv]
  | .tup _, .str _, _, h => by simp [D.eqv, D.pd, PyData.eqv]
  | .tup _, .rol _, _, h => by simp [D.eqv, D.pd, PyData.eqv]
  | .tup _, .ref _, _, h => by simp [D.plain] at h
  | .tup _, .ty _, _, h => by simp [D.plain] at h
  | .tup _, .cst _, _, h => by simp [D.plain] at h
  | .rol _, .non, _, h => by simp [D.eqv, D.pd, PyData.eqv]
  | .rol _, .bl _, _, h => by simp [D.eqv, D.pd, PyData.eqv]
  | .rol _, .int _, _, h => by simp [D.eqv, D.pd, PyData.eqv]
  | .rol _, .str _, _, h => by simp [D.eqv, D.pd, PyData.eqv]
  | .rol _, .tup _, _, h => by simp [D.eqv, D.pd, PyData.eqv]
  | .rol _, .ref _, _, h => by simp [D.plain] at h
  | .rol _, .ty _, _, h => by simp [D.plain] at h
  | .rol _, .cst _, _, h => by simp [D.plain] at h
  | .ref _, _, h, _ => by simp [D.plain] at h
  | .ty _, _, h, _ => by simp [D.plain] at h
  | .cst _, _, h, _ => by simp [D.plain] at h
theorem D.eqvs_pd : ∀ xs ys : List D, D.plains xs = true → D.plains ys = true → D.eqvs xs ys = PyData.eqvAll (D.pds xs) (D.pds ys)
  | [], [], _, _ => by simp [D.eqvs, D.pds, PyData.eqvAll]
  | [], _ :: _, _, _ => by simp [D.eqvs, D.pds, PyData.eqvAll]
  | _ :: _, [], _, _ => by simp [D.eqvs, D.pds, PyData.eqvAll]
  | x :: xs, y :: ys, h1, h2 => by
    simp only [D.plains, Bool.and_eq_true] at h1 h2
    simp only [D.eqvs, D.pds, PyData.eqvAll]
    rw [D.eqv_pd x y h1.1 h2.1, D.eqvs_pd xs ys h1.2 h2.2]
end
section
variable {K : Frag} {m : List Addr} {H : Hp}
mutual
theorem VR.dp : ∀ {x : D} {u : V}, VR K m H x u → x.plain = true → Dp K H u x.pd
  | .non, _, h, _ => by simp only [VR] at h; subst h; simp only [D.pd]; exact .non
  | .bl b, _, h, _ => by simp only [VR] at h; subst h; simp only [D.pd]; exact .bl b
  | .int b, _, h, _ => by simp only [VR] at h; subst h; simp only [D.pd]; exact .int b
  | .str b, _, h, _ => by simp only [VR] at h; subst h; simp only [D.pd]; exact .str b
  | .tup xs, _, h, p => by
    simp only [VR] at h; simp only [D.plain] at p; simp only [D.pd]
    obtain ⟨a, us, rfl, h2, h3⟩ := h
    exact .tup (SqT.of h2) (VRs.dp h3 p)
  | .rol xs, _, h, p => by
    simp only [VR] at h; simp only [D.plain] at p; simp only [D.pd]
    obtain ⟨a, us, rfl, h2, h3⟩ := h
    exact .lst h2.sq (VRs.dp h3 p)
  | .ref _, _, _, p => by simp [D.plain] at p
  | .ty _, _, _, p => by simp [D.plain] at p
  | .cst _, _, _, p => by simp [D.plain] at p
theorem VRs.dp : ∀ {xs : List D} {us : List V}, VRs K m H xs us → D.plains xs = true → DpAll K H us (D.pds xs)
  | [], _, h, _ => by rw [h.nil_inv]; simp only [D.pds]; exact .nil
  | x :: xs, _, h, p => by
    obtain ⟨u, r, rfl, h2, h3⟩ := h.cons_inv
    simp only [D.plains, Bool.and_eq_true] at p
    simp only [D.pds]
    exact .cons (VR.dp h2 p.1) (VRs.dp h3 p.2)
end
end
def okD (x : D) : Prop := x.plain = true ∧ SeqAt.shaped x.pd = true
def okL (xs : List D) : Prop := D.plains xs = true ∧ SeqAt.shaped (.list (D.pds xs)) = true
def dEqB (f : Bool → Bool) : R2D := fun x y S Q => match x, y with
  | .int i, .int j => Q (.bl (f (decide (i = j)))) S
  | .str i, .str j => Q (.bl (f (decide (i = j)))) S
  | .bl i, .bl j => Q (.bl (f (decide (i = j)))) S
  | .ref p, .ref q => ∃ xs ys, S[p]? = some (.lst xs) ∧ S[q]? = some (.lst ys) ∧ okL xs ∧ okL ys ∧ Q (.bl (f (D.eqvs xs ys))) S
  | x, y => okD x ∧ okD y ∧ Q (.bl (f (D.eqv x y))) S
abbrev dEq : R2D := dEqB id
abbrev dNe : R2D := dEqB not
section
variable {X : Cx}
theorem sim_eqB (f : Bool → Bool) (r : R2) (h1 : ∀ {x y H Q}, scal x y = true ∧ Q (.bl (f (decide (x = y)))) H → r x y H Q) (h2 : ∀ {x y H Q}, (∃ d e, Dp X.K H x d ∧ Dp X.K H y e ∧ SeqAt.shaped d = true ∧ SeqAt.shaped e = true ∧ Q (.bl (f (PyData.eqv d e))) H) → r x y H Q) : Sim2 X.K r (dEqB f) := by
  intro m H S x y u v Q0 Q s rx ry h k
  have gen : okD x ∧ okD y ∧ Q0 (.bl (f (D.eqv x y))) S → r u v H Q := fun ⟨ox, oy, q⟩ => by
    refine h2 ⟨x.pd, y.pd, rx.dp ox.1, ry.dp oy.1, ox.2, oy.2, ?_⟩
    rw [← D.eqv_pd x y ox.1 oy.1]
    exact k.v s q (by simp only [VR])
  cases x <;> cases y <;> simp only [dEqB] at h <;> first | exact gen h | skip
  · simp only [VR] at rx ry; subst rx; subst ry
    rename_i i j
    refine h1 ⟨rfl, ?_⟩
    have e : decide (V.bl i = V.bl j) = decide (i = j) := by rw [dec_bl, Bool.eq_iff_iff]; simp
    rw [e]; exact k.v s h (by simp only [VR])
  · simp only [VR] at rx ry; subst rx; subst ry
    rename_i i j
    refine h1 ⟨rfl, ?_⟩
    have e : decide (V.int i = V.int j) = decide (i = j) := by rw [dec_int, Bool.eq_iff_iff]; simp
    rw [e]; exact k.v s h (by simp only [VR])
  · simp only [VR] at rx ry; subst rx; subst ry
    rename_i i j
    refine h1 ⟨rfl, ?_⟩
    have e : decide (V.str i = V.str j) = decide (i = j) := by rw [dec_str, Bool.eq_iff_iff]; simp
    rw [e]; exact k.v s h (by simp only [VR])
  · simp only [VR] at rx ry
    obtain ⟨a, rfl, e1⟩ := rx
    obtain ⟨b, rfl, e2⟩ := ry
    obtain ⟨xs, ys, g1, g2, o1, o2, q⟩ := h
    obtain ⟨us, t1, t2⟩ := s.lst e1 g1
    obtain ⟨ws, t3, t4⟩ := s.lst e2 g2
    refine h2 ⟨.list (D.pds xs), .list (D.pds ys), .lst (SqL.of t1) (t2.dp o1.1), .lst (SqL.of t3) (t4.dp o2.1), o1.2, o2.2, ?_⟩
    have e : PyData.eqv (.list (D.pds xs)) (.list (D.pds ys)) = D.eqvs xs ys := by
      simp only [PyData.eqv]; exact (D.eqvs_pd xs ys o1.1 o2.1).symm
    rw [e]; exact k.v s q (by simp only [VR])
theorem op_eqA (hu : X.A.units + 64 < cLine) : OpR X (compareOp .Eq) (fun x y H Q => rEq x y H Q ∨ rEqD X.K x y H Q) := op_eq.or (op_eqD hu)
theorem op_neA (hu : X.A.units + 64 < cLine) : OpR X (compareOp .NotEq) (fun x y H Q => rNe x y H Q ∨ rNeD X.K x y H Q) := op_ne.or (op_neD hu)
theorem sim_eq : Sim2 X.K (fun x y H Q => rEq x y H Q ∨ rEqD X.K x y H Q) dEq := sim_eqB id _ (fun h => .inl h) fun h => .inr h
theorem sim_ne : Sim2 X.K (fun x y H Q => rNe x y H Q ∨ rNeD X.K x y H Q) dNe := sim_eqB not _ (fun h => .inl h) fun h => .inr h
end
end Z
namespace Z
open PySem PySem.Spec PyProof.Rows L2

/-! items by place -/
def dIx : R2D := fun x y S Q => match y with
  | .int i => match x with
    | .tup xs => ∃ d, atI xs i = some d ∧ Q d S
    | .rol xs => ∃ d, atI xs i = some d ∧ Q d S
    | .str z => z.length ≤ sizeLine ∧ ∃ c, atI z.cps.toList i = some c ∧ Q (.str (T [c])) S
    | .ref p => ∃ xs, S[p]? = some (.lst xs) ∧ ∃ d, atI xs i = some d ∧ Q d S
    | _ => False
  | _ => False
section
variable {K : Frag} {m : List Addr} {H : Hp}
theorem VRs.atI {xs : List D} {us : List V} {i : Int} {d : D} (r : VRs K m H xs us) (h : L2.atI xs i = some d) : ∃ u, L2.atI us i = some u ∧ VR K m H d u := by
  unfold L2.atI at h ⊢
  rw [← r.length]
  cases e : ixN xs.length i with
  | none => rw [e] at h; cases h
  | some j =>
    rw [e] at h
    exact r.get (i := j) h
end
section
variable {X : Cx} {a b c e o : Expr} {es : List Expr} {w wa wb wc wo : WE} {wr wq : WA} {pos apos cpos p2 : Pos}
theorem fe_ix (ha : FE X a wa) (hb : FE X b wb) (hs : PlainIx b := by exact fun _ _ => rfl) : FE X (.Subscript a b pos) (wOp dIx wa wb) := by
  refine ⟨PE.imp (pe_ix ix_seq ha.p hb.p hs) fun σ H Q h => lift_op (r := rIx X.K) (d := dIx) (fun m H S x y u v Q0 Q s rx ry h k => ?_) h⟩
  cases y with
  | int i =>
    simp only [VR] at ry
    cases x with
    | tup xs =>
      simp only [VR] at rx
      obtain ⟨p, us, h1, h2, h3⟩ := rx
      obtain ⟨d, h4, q⟩ := h
      obtain ⟨u', h5, h6⟩ := h3.atI h4
      exact .inr (.inl ⟨p, us, i, u', h1, ry, SqT.of h2, h5, k.v s q h6⟩)
    | rol xs =>
      simp only [VR] at rx
      obtain ⟨p, us, h1, h2, h3⟩ := rx
      obtain ⟨d, h4, q⟩ := h
      obtain ⟨u', h5, h6⟩ := h3.atI h4
      exact .inl ⟨p, us, i, u', h1, ry, h2.sq, h5, k.v s q h6⟩
    | str z =>
      simp only [VR] at rx
      obtain ⟨hz, c, h4, q⟩ := h
      exact .inr (.inr ⟨z, i, c, rx, ry, hz, h4, k.v s q (by simp only [VR])⟩)
    | ref p =>
      simp only [VR] at rx
      obtain ⟨a, h1, h2⟩ := rx
      obtain ⟨xs, h3, d, h4, q⟩ := h
      obtain ⟨us, h5, h6⟩ := s.lst h2 h3
      obtain ⟨u', h7, h8⟩ := h6.atI h4
      exact .inl ⟨a, us, i, u', h1, ry, SqL.of h5, h7, k.v s q h8⟩
    | _ => exact h.elim
  | _ => exact h.elim
/-- [..][i]: the list is made, read, and let go -/
def wIxL (wr : WA) (wb : WE) : WE := fun env S Q => wr env S fun xs S1 => wb env S1 fun y S2 => match y with | .int i => ∃ d, atI xs i = some d ∧ Q d S2 | _ => False
theorem fe_ixL (ha : FL X a wr) (hb : FE X b wb) (hs : PlainIx b := by exact fun _ _ => rfl) : FE X (.Subscript a b pos) (wIxL wr wb) := by
  refine ⟨PE.imp (pe_ix ix_list ha.p hb.p hs) fun σ H Q ⟨env, S, m, Q0, s, r, h, k⟩ => ?_⟩
  refine ⟨env, S, m, _, s, r, h, fun xs S1 a us H1 m1 q1 e1 s1 h0 nm ha v1 => ?_⟩
  refine lift_k s1 (r.ext e1.toEx) q1 fun y S2 v H2 m2 q2 e2 s2 v2 => ?_
  cases y with
  | int i =>
    simp only [VR] at v2
    obtain ⟨d, h4, q⟩ := q2
    obtain ⟨u', h5, h6⟩ := (v1.ext e2.toEx).atI h4
    exact ⟨a, us, i, u', rfl, v2, SqL.of (e2.fr _ _ ha nm).1, h5, (k.ext (e1.trans e2)).v s2 q h6⟩
  | _ => exact q2.elim
/-- a[i] = v of a list -/
def dSet : DSet := fun o i v S Q => match o, i with
  | .ref p, .int k => ∃ xs, S[p]? = some (.lst xs) ∧ ∃ j, ixN xs.length k = some j ∧ Q (S.set p (.lst (xs.set j v)))
  | _, _ => False
theorem sim_set : SimS X.K rSetL dSet := by
  intro m H S x y z u v w' Q0 Q s rx ry rz h k
  cases x <;> cases y <;> simp only [dSet] at h <;> first | exact h.elim | skip
  simp only [VR] at rx ry
  obtain ⟨a, h1, h2⟩ := rx
  obtain ⟨xs, h3, j, h4, q⟩ := h
  obtain ⟨us, h5, h6⟩ := s.lst h2 h3
  obtain ⟨e, s'⟩ := s.write (ho := .lst (us.set j w')) (o := .lst (xs.set j z)) h2 fun H' e' hh => ⟨_, hh, (h6.ext e'.toEx).set (rz.ext e'.toEx) j⟩
  exact ⟨a, us, _, j, h1, ry, h5, by rw [← h6.length]; exact h4, k _ _ _ q e s'⟩
theorem fg_ix (ho : FE X o wo) (hi : FE X b wb) (ha : ∀ v, assign (.Subscript o b pos) X.env v = (do
      let ov ← holding [v] (eval o X.env)
      let iv ← holding [v, ov] (eval b X.env)
      standAt pos
      holding [v, ov, iv] (setItem ov iv v)
      release [v, ov, iv] []) := by intro _; rfl) : FG X (.Subscript o b pos) [] (gSubD wo wb dSet) := fg_sub ho hi set_list sim_set ha

/-! slices -/
abbrev WO := En → Sto → (Option Int → Sto → Prop) → Prop
def oNone : WO := fun _ S Q => Q none S
def oSome (w : WE) : WO := fun env S Q => w env S fun v S1 => match v with | .int i => Q (some i) S1 | _ => False
def KtO (K : Frag) (m : List Addr) (H : Hp) (Q0 : Option Int → Sto → Prop) (Q : Option Int → Hp → Prop) : Prop := ∀ b S' H' m', Q0 b S' → Ext K m H m' H' → SR K m' H' S' → Q b H'
structure FO (X : Cx) (e : Option Expr) (w : WO) : Prop where
  p : PO X e (fun σ H Q => ∃ env S m Q0, SR X.K m H S ∧ ER X.K m H env σ ∧ w env S Q0 ∧ KtO X.K m H Q0 Q)
theorem PO.imp {e : Option Expr} {t t' : TO} (h : PO X e t) (i : ∀ σ H Q, t' σ H Q → t σ H Q) : PO X e t' := ⟨fun pins s σ H Q I q => h.run pins s σ H Q I (i σ H Q q)⟩
theorem fo_none : FO X none oNone := ⟨PO.imp po_none fun σ H Q ⟨env, S, m, Q0, s, r, h, k⟩ => k _ _ _ _ h Ext.refl s⟩
theorem fo_some (h : FE X e w) : FO X (some e) (oSome w) := by
  refine ⟨PO.imp (po_some h.p) fun σ H Q ⟨env, S, m, Q0, s, r, h, k⟩ => ?_⟩
  refine lift_k s r h fun v S1 u H1 m1 q1 e1 s1 v1 => ?_
  cases v with
  | int i => simp only [VR] at v1; exact ⟨i, v1, k _ _ _ _ q1 e1 s1⟩
  | _ => exact q1.elim
def cutD (xs : List D) (lo hi : Option Int) : List D := (xs.drop (HT.sIx xs.length 0 lo)).take (HT.sIx xs.length xs.length hi - HT.sIx xs.length 0 lo)
theorem VRs.cut {K : Frag} {m : List Addr} {H : Hp} {xs : List D} {us : List V} (h : VRs K m H xs us) (lo hi : Option Int) : VRs K m H (cutD xs lo hi) (cutV us lo hi) := by
  unfold cutD cutV
  rw [h.length]
  exact (h.drop _).take _
/-- a tuple's, a text's slice -/
def wSl (w : WE) (l u : WO) : WE := fun env S Q => w env S fun x S1 => l env S1 fun lo S2 => u env S2 fun hi S3 => match x with
  | .tup xs => Q (.tup (cutD xs lo hi)) S3
  | .str z => z.length ≤ sizeLine ∧ Q (.str (cutS z lo hi)) S3
  | _ => False
/-- a list's slice: a new list -/
def lSl (w : WE) (l u : WO) : WA := fun env S Q => w env S fun x S1 => l env S1 fun lo S2 => u env S2 fun hi S3 => match x with
  | .rol xs => Q (cutD xs lo hi) S3
  | .ref p => ∃ xs, S3[p]? = some (.lst xs) ∧ Q (cutD xs lo hi) S3
  | _ => False
def lSlL (w : WA) (l u : WO) : WA := fun env S Q => w env S fun xs S1 => l env S1 fun lo S2 => u env S2 fun hi S3 => Q (cutD xs lo hi) S3
theorem fe_sl {lo hi : Option Expr} {wl wu : WO} (he : FE X e w) (hl : FO X lo wl) (hu : FO X hi wu) : FE X (.Subscript e (.Slice lo hi none p2) pos) (wSl w wl wu) := by
  refine ⟨PE.imp (pe_slice (sl_tupA.or sl_str) he.p hl.p hu.p) fun σ H Q ⟨env, S, m, Q0, s, r, h, k⟩ => ?_⟩
  refine lift_k s r h fun x S1 u H1 m1 q1 e1 s1 v1 => ?_
  refine ⟨env, S1, m1, _, s1, r.ext e1.toEx, q1, fun lo S2 H2 m2 q2 e2 s2 => ?_⟩
  refine ⟨env, S2, m2, _, s2, r.ext (e1.trans e2).toEx, q2, fun hi S3 H3 m3 q3 e3 s3 => ?_⟩
  have k3 := k.ext ((e1.trans e2).trans e3)
  have v3 := v1.ext (e2.trans e3).toEx
  cases x with
  | tup xs =>
    simp only [VR] at v3
    obtain ⟨a, us, h1, h2, h3⟩ := v3
    refine .inl ⟨a, us, h1, SqT.of h2, fun ⟨e4, e5⟩ => ?_, fun _ p hp => k3.tup s3 (h3.cut lo hi) hp q3⟩
    have e6 : cutD xs lo hi = xs := by unfold cutD; rw [h3.length, e4, e5, ← h3.length]; simp
    have q3' : Q0 (.tup (cutD xs lo hi)) S3 := q3
    rw [e6] at q3'
    exact k3.v s3 q3' (by simp only [VR]; exact ⟨a, us, rfl, h2, h3⟩)
  | str z =>
    simp only [VR] at v3
    exact .inr ⟨z, v3, q3.1, k3.v s3 q3.2 (by simp only [VR])⟩
  | _ => exact q3.elim
theorem fl_sl {lo hi : Option Expr} {wl wu : WO} (he : FE X e w) (hl : FO X lo wl) (hu : FO X hi wu) : FL X (.Subscript e (.Slice lo hi none p2) pos) (lSl w wl wu) := by
  refine ⟨PE.imp (pe_slice sl_list he.p hl.p hu.p) fun σ H Q ⟨env, S, m, Q0, s, r, h, k⟩ => ?_⟩
  refine lift_k s r h fun x S1 u H1 m1 q1 e1 s1 v1 => ?_
  refine ⟨env, S1, m1, _, s1, r.ext e1.toEx, q1, fun lo S2 H2 m2 q2 e2 s2 => ?_⟩
  refine ⟨env, S2, m2, _, s2, r.ext (e1.trans e2).toEx, q2, fun hi S3 H3 m3 q3 e3 s3 => ?_⟩
  have e13 := (e1.trans e2).trans e3
  have v3 := v1.ext (e2.trans e3).toEx
  cases x with
  | rol xs =>
    simp only [VR] at v3
    obtain ⟨a, us, h1, h2, h3⟩ := v3
    exact ⟨a, us, h1, h2.sq, fun p hp => k.lst e13 s3 (h3.cut lo hi) hp (e13.back s3 hp) q3⟩
  | ref i =>
    simp only [VR] at v3
    obtain ⟨a, h1, h2⟩ := v3
    obtain ⟨xs, h3, q⟩ := q3
    obtain ⟨us, h4, h5⟩ := s3.lst h2 h3
    exact ⟨a, us, h1, SqL.of h4, fun p hp => k.lst e13 s3 (h5.cut lo hi) hp (e13.back s3 hp) q⟩
  | _ => exact q3.elim
theorem fl_slL {lo hi : Option Expr} {wl wu : WO} (he : FL X e wr) (hl : FO X lo wl) (hu : FO X hi wu) : FL X (.Subscript e (.Slice lo hi none p2) pos) (lSlL wr wl wu) := by
  refine ⟨PE.imp (pe_slice sl_list he.p hl.p hu.p) fun σ H Q ⟨env, S, m, Q0, s, r, h, k⟩ => ?_⟩
  refine ⟨env, S, m, _, s, r, h, fun xs S1 a us H1 m1 q1 e1 s1 h0 nm ha v1 => ?_⟩
  refine ⟨env, S1, m1, _, s1, r.ext e1.toEx, q1, fun lo S2 H2 m2 q2 e2 s2 => ?_⟩
  refine ⟨env, S2, m2, _, s2, r.ext (e1.trans e2).toEx, q2, fun hi S3 H3 m3 q3 e3 s3 => ?_⟩
  have e13 := (e1.trans e2).trans e3
  exact ⟨a, us, rfl, SqL.of ((e2.trans e3).fr _ _ ha nm).1, fun p hp => k.lst e13 s3 ((v1.ext (e2.trans e3).toEx).cut lo hi) hp (e13.back s3 hp) q3⟩
/-- list + list, list * int -/
def lCat (w1 w2 : WA) : WA := fun env S Q => w1 env S fun xs S1 => w2 env S1 fun ys S2 => xs.length + ys.length ≤ sizeLine ∧ Q (xs ++ ys) S2
def lCatE (w1 : WE) (w2 : WA) : WA := fun env S Q => w1 env S fun x S1 => w2 env S1 fun ys S2 => match x with | .ref p => ∃ xs, S2[p]? = some (.lst xs) ∧ xs.length + ys.length ≤ sizeLine ∧ Q (xs ++ ys) S2 | _ => False
def lCatEE (w1 : WE) (w2 : WE) : WA := fun env S Q => w1 env S fun x S1 => w2 env S1 fun y S2 => match x, y with | .ref p, .ref q => ∃ xs ys, S2[p]? = some (.lst xs) ∧ S2[q]? = some (.lst ys) ∧ xs.length + ys.length ≤ sizeLine ∧ Q (xs ++ ys) S2 | _, _ => False
def lCatLE (w1 : WA) (w2 : WE) : WA := fun env S Q => w1 env S fun xs S1 => w2 env S1 fun y S2 => match y with | .ref q => ∃ ys, S2[q]? = some (.lst ys) ∧ xs.length + ys.length ≤ sizeLine ∧ Q (xs ++ ys) S2 | _ => False
theorem fl_cat {w1 w2 : WA} (h1 : FL X a w1) (h2 : FL X b w2) : FL X (.BinOp a .Add b pos) (lCat w1 w2) := by
  refine ⟨PE.imp (pe_op op_cat h1.p h2.p) fun σ H Q ⟨env, S, m, Q0, s, r, h, k⟩ => ?_⟩
  refine ⟨env, S, m, _, s, r, h, fun xs S1 a us H1 m1 q1 e1 s1 h0 nm ha v1 => ?_⟩
  refine ⟨env, S1, m1, _, s1, r.ext e1.toEx, q1, fun ys S2 b ws H2 m2 q2 e2 s2 h02 nm2 hb v2 => ?_⟩
  have e12 := e1.trans e2
  exact ⟨a, b, us, ws, rfl, rfl, (e2.fr _ _ ha nm).1, hb, by rw [← v1.length, ← v2.length]; exact q2.1, fun p hp => k.lst e12 s2 ((v1.ext e2.toEx).app v2) hp (e12.back s2 hp) q2.2⟩
theorem fl_catE {w1 : WE} {w2 : WA} (h1 : FE X a w1) (h2 : FL X b w2) : FL X (.BinOp a .Add b pos) (lCatE w1 w2) := by
  refine ⟨PE.imp (pe_op op_cat h1.p h2.p) fun σ H Q ⟨env, S, m, Q0, s, r, h, k⟩ => ?_⟩
  refine lift_k s r h fun x S1 u H1 m1 q1 e1 s1 v1 => ?_
  refine ⟨env, S1, m1, _, s1, r.ext e1.toEx, q1, fun ys S2 b ws H2 m2 q2 e2 s2 h02 nm2 hb v2 => ?_⟩
  have e12 := e1.trans e2
  cases x with
  | ref i =>
    have v1 := v1.ext e2.toEx
    simp only [VR] at v1
    obtain ⟨a, h3, h4⟩ := v1
    obtain ⟨xs, h5, h6, q⟩ := q2
    obtain ⟨us, h7, h8⟩ := s2.lst h4 h5
    exact ⟨a, b, us, ws, h3, rfl, h7, hb, by rw [← h8.length, ← v2.length]; exact h6, fun p hp => k.lst e12 s2 (h8.app v2) hp (e12.back s2 hp) q⟩
  | _ => exact q2.elim
theorem fl_catLE {w1 : WA} {w2 : WE} (h1 : FL X a w1) (h2 : FE X b w2) : FL X (.BinOp a .Add b pos) (lCatLE w1 w2) := by
  refine ⟨PE.imp (pe_op op_cat h1.p h2.p) fun σ H Q ⟨env, S, m, Q0, s, r, h, k⟩ => ?_⟩
  refine ⟨env, S, m, _, s, r, h, fun xs S1 a us H1 m1 q1 e1 s1 h0 nm ha v1 => ?_⟩
  refine lift_k s1 (r.ext e1.toEx) q1 fun y S2 u H2 m2 q2 e2 s2 v2 => ?_
  have e12 := e1.trans e2
  cases y with
  | ref i =>
    simp only [VR] at v2
    obtain ⟨b, h3, h4⟩ := v2
    obtain ⟨ys, h5, h6, q⟩ := q2
    obtain ⟨ws, h7, h8⟩ := s2.lst h4 h5
    exact ⟨a, b, us, ws, rfl, h3, (e2.fr _ _ ha nm).1, h7, by rw [← h8.length, ← v1.length]; exact h6, fun p hp => k.lst e12 s2 ((v1.ext e2.toEx).app h8) hp (e12.back s2 hp) q⟩
  | _ => exact q2.elim
theorem fl_catEE {w1 w2 : WE} (h1 : FE X a w1) (h2 : FE X b w2) : FL X (.BinOp a .Add b pos) (lCatEE w1 w2) := by
  refine ⟨PE.imp (pe_op op_cat h1.p h2.p) fun σ H Q ⟨env, S, m, Q0, s, r, h, k⟩ => ?_⟩
  refine lift_k s r h fun x S1 u H1 m1 q1 e1 s1 v1 => ?_
  refine lift_k s1 (r.ext e1.toEx) q1 fun y S2 u2 H2 m2 q2 e2 s2 v2 => ?_
  have e12 := e1.trans e2
  cases x <;> cases y <;> first | exact q2.elim | skip
  have v1 := v1.ext e2.toEx
  simp only [VR] at v1 v2
  obtain ⟨a, h3, h4⟩ := v1
  obtain ⟨b, h5, h6⟩ := v2
  obtain ⟨xs, ys, g1, g2, g3, q⟩ := q2
  obtain ⟨us, h7, h8⟩ := s2.lst h4 g1
  obtain ⟨ws, h9, h10⟩ := s2.lst h6 g2
  exact ⟨a, b, us, ws, h3, h5, h7, h9, by rw [← h8.length, ← h10.length]; exact g3, fun p hp => k.lst e12 s2 (h8.app h10) hp (e12.back s2 hp) q⟩
def lRep (w1 : WA) (w2 : WE) : WA := fun env S Q => w1 env S fun xs S1 => w2 env S1 fun y S2 => match y with | .int j => (-(2 ^ 63) ≤ j ∧ j < 2 ^ 63 ∧ xs.length * j.toNat ≤ sizeLine) ∧ Q (List.replicate j.toNat xs).flatten S2 | _ => False
theorem fl_rep {w1 : WA} {w2 : WE} (h1 : FL X a w1) (h2 : FE X b w2) : FL X (.BinOp a .Mult b pos) (lRep w1 w2) := by
  refine ⟨PE.imp (pe_op op_rep h1.p h2.p) fun σ H Q ⟨env, S, m, Q0, s, r, h, k⟩ => ?_⟩
  refine ⟨env, S, m, _, s, r, h, fun xs S1 a us H1 m1 q1 e1 s1 h0 nm ha v1 => ?_⟩
  refine lift_k s1 (r.ext e1.toEx) q1 fun y S2 u H2 m2 q2 e2 s2 v2 => ?_
  have e12 := e1.trans e2
  cases y with
  | int j =>
    simp only [VR] at v2
    exact ⟨a, j, us, rfl, v2, (e2.fr _ _ ha nm).1, q2.1.1, q2.1.2.1, by rw [← v1.length]; exact q2.1.2.2, fun p hp => k.lst e12 s2 ((v1.ext e2.toEx).rep _) hp (e12.back s2 hp) q2.2⟩
  | _ => exact q2.elim
end

/-! built-ins upon a list or a tuple -/
abbrev RQ := List D → Sto → WK → Prop
def SimQ (K : Frag) (r : List V → Hp → VK → Prop) (d : RQ) : Prop := ∀ (m : List Addr) (H : Hp) (S : Sto) (a : Addr) (us : List V) (ds : List D) (Q0 : WK) (Q : VK), SR K m H S → (SqL K H a us ∨ H a = some (.tup us)) → VRs K m H ds us → d ds S Q0 → Kt K m H Q0 Q → r [.ref a] H Q
def SimL (K : Frag) (r : List V → Hp → VK → Prop) (d : RQ) : Prop := ∀ (m : List Addr) (H : Hp) (S : Sto) (a : Addr) (us : List V) (ds : List D) (Q0 : WK) (Q : VK), SR K m H S → SqL K H a us → VRs K m H ds us → d ds S Q0 → Kt K m H Q0 Q → r [.ref a] H Q
def wQ (d : RQ) (wq : WA) : WE := fun env S Q => wq env S fun ds S1 => d ds S1 Q
def dAll : RQ := fun ds S Q => ∃ bs : List Bool, ds = bs.map D.bl ∧ Q (.bl (bs.all id)) S
def dAny : RQ := fun ds S Q => ∃ bs : List Bool, ds = bs.map D.bl ∧ Q (.bl (bs.any id)) S
def dSum : RQ := fun ds S Q => ∃ ns : List Int, ds = ns.map D.int ∧ Q (.int ns.sum) S
def dLen : RQ := fun ds S Q => Q (.int ds.length) S
def dTuple : RQ := fun ds S Q => Q (.tup ds) S
def dMax : RQ := fun ds S Q => ∃ ns : List Int, ds = ns.map D.int ∧ 0 < ns.length ∧ ∀ k, k ∈ ns → (∀ y, y ∈ ns → y ≤ k) → Q (.int k) S
def dMin : RQ := fun ds S Q => ∃ ns : List Int, ds = ns.map D.int ∧ 0 < ns.length ∧ ∀ k, k ∈ ns → (∀ y, y ∈ ns → k ≤ y) → Q (.int k) S
section
variable {X : Cx} {a b c e o : Expr} {es : List Expr} {w wa wb wc wo : WE} {wr wq : WA} {p pos apos cpos p2 : Pos} {r : List V → Hp → VK → Prop} {d : RQ} {id T : String} {x : Str}
theorem fe_Q (hc : CallR X (.builtin id) r) (hd : SimQ X.K r d) (hg : Gl X x) (hm : X.mg x = none) (hv : bootBuiltins x = some (.builtin id)) (ha : FQ X e wq) (hn : x ≠ "__name__" := by decide) (hdb : (x == ("__debug__" : Str)) = false := by decide)
    (he : starEach [e] X.env = (false, eval e X.env) :: starEach [] X.env := by rfl) (hpl : (backTo pos (starEach [] X.env)).any (·.1) = false := by rfl) : FE X (.Call (.Name x p) [e] [] pos) (wQ d wq) := by
  refine ⟨PE.imp (pe_callB hc hg hm hv (pa_cons ha.p pa_nil he) hn hdb he hpl) fun σ H Q ⟨env, S, m, Q0, s, r, h, k⟩ => ?_⟩
  exact ⟨env, S, m, _, s, r, h, fun ds S1 a us H1 m1 q1 e1 s1 sq v1 => hd _ _ _ _ _ _ _ _ s1 sq v1 q1 (k.ext e1)⟩
theorem fe_QT (hc : CallR X (.type T) r) (hd : SimQ X.K r d) (hg : Gl X x) (hm : X.mg x = none) (hv : bootBuiltins x = some (.type T)) (ha : FQ X e wq) (hn : x ≠ "__name__" := by decide) (hdb : (x == ("__debug__" : Str)) = false := by decide)
    (he : starEach [e] X.env = (false, eval e X.env) :: starEach [] X.env := by rfl) (hpl : (backTo pos (starEach [] X.env)).any (·.1) = false := by rfl) : FE X (.Call (.Name x p) [e] [] pos) (wQ d wq) := by
  refine ⟨PE.imp (pe_callTy hc hg hm hv (pa_cons ha.p pa_nil he) hn hdb he hpl) fun σ H Q ⟨env, S, m, Q0, s, r, h, k⟩ => ?_⟩
  exact ⟨env, S, m, _, s, r, h, fun ds S1 a us H1 m1 q1 e1 s1 sq v1 => hd _ _ _ _ _ _ _ _ s1 sq v1 q1 (k.ext e1)⟩
/-- .. upon a new list alone -/
theorem fe_L (hc : CallR X (.builtin id) r) (hd : SimL X.K r d) (hg : Gl X x) (hm : X.mg x = none) (hv : bootBuiltins x = some (.builtin id)) (ha : FL X e wq) (hn : x ≠ "__name__" := by decide) (hdb : (x == ("__debug__" : Str)) = false := by decide)
    (he : starEach [e] X.env = (false, eval e X.env) :: starEach [] X.env := by rfl) (hpl : (backTo pos (starEach [] X.env)).any (·.1) = false := by rfl) : FE X (.Call (.Name x p) [e] [] pos) (wQ d wq) := by
  refine ⟨PE.imp (pe_callB hc hg hm hv (pa_cons ha.p pa_nil he) hn hdb he hpl) fun σ H Q ⟨env, S, m, Q0, s, r, h, k⟩ => ?_⟩
  exact ⟨env, S, m, _, s, r, h, fun ds S1 a us H1 m1 q1 e1 s1 h0 nm ha v1 => hd _ _ _ _ _ _ _ _ s1 (SqL.of ha) v1 q1 (k.ext e1)⟩
/-- .. upon a list by its value -/
def dRef (d : RQ) (x : D) (S : Sto) (Q : WK) : Prop := match x with | .ref p => ∃ xs, S[p]? = some (.lst xs) ∧ d xs S Q | .rol xs => d xs S Q | _ => False
def wRef (d : RQ) (w : WE) : WE := fun env S Q => w env S fun x S1 => dRef d x S1 Q
theorem fe_R (hc : CallR X (.builtin id) r) (hd : SimL X.K r d) (hg : Gl X x) (hm : X.mg x = none) (hv : bootBuiltins x = some (.builtin id)) (ha : FE X e w) (hn : x ≠ "__name__" := by decide) (hdb : (x == ("__debug__" : Str)) = false := by decide)
    (he : starEach [e] X.env = (false, eval e X.env) :: starEach [] X.env := by rfl) (hpl : (backTo pos (starEach [] X.env)).any (·.1) = false := by rfl) : FE X (.Call (.Name x p) [e] [] pos) (wRef d w) := by
  refine ⟨PE.imp (pe_callB hc hg hm hv (pa_cons ha.p pa_nil he) hn hdb he hpl) fun σ H Q ⟨env, S, m, Q0, s, r, h, k⟩ => ?_⟩
  refine lift_k s r h fun y S1 u H1 m1 q1 e1 s1 v1 => ?_
  cases y with
  | ref i =>
    simp only [VR] at v1
    obtain ⟨a, rfl, h2⟩ := v1
    obtain ⟨xs, h3, q⟩ := q1
    obtain ⟨us, h4, h5⟩ := s1.lst h2 h3
    exact hd _ _ _ _ _ _ _ _ s1 (SqL.of h4) h5 q (k.ext e1)
  | rol xs =>
    simp only [VR] at v1
    obtain ⟨a, us, rfl, h2, h3⟩ := v1
    exact hd _ _ _ _ _ _ _ _ s1 h2.sq h3 q1 (k.ext e1)
  | _ => exact q1.elim
theorem sim_all : SimL X.K (rAll X.K) dAll := fun m H S a us ds Q0 Q s sq v ⟨bs, e, q⟩ k => by
  subst e; exact ⟨a, bs, rfl, by rw [← v.bls]; exact sq, k.v s q (by simp only [VR])⟩
theorem sim_any : SimL X.K (rAny X.K) dAny := fun m H S a us ds Q0 Q s sq v ⟨bs, e, q⟩ k => by
  subst e; exact ⟨a, bs, rfl, by rw [← v.bls]; exact sq, k.v s q (by simp only [VR])⟩
theorem sim_sum : SimL X.K (rSum X.K) dSum := fun m H S a us ds Q0 Q s sq v ⟨bs, e, q⟩ k => by
  subst e; exact ⟨a, bs, rfl, by rw [← v.ints]; exact sq, k.v s q (by simp only [VR])⟩
theorem sim_max : SimL X.K (rMax X.K) dMax := fun m H S a us ds Q0 Q s sq v ⟨bs, e, h, q⟩ k => by
  subst e; exact ⟨a, bs, rfl, by rw [← v.ints]; exact sq, h, fun j h1 h2 => k.v s (q j h1 h2) (by simp only [VR])⟩
theorem sim_min : SimL X.K (rMin X.K) dMin := fun m H S a us ds Q0 Q s sq v ⟨bs, e, h, q⟩ k => by
  subst e; exact ⟨a, bs, rfl, by rw [← v.ints]; exact sq, h, fun j h1 h2 => k.v s (q j h1 h2) (by simp only [VR])⟩
theorem sim_len : SimQ X.K (fun xs H Q => ∃ p ys, xs = [.ref p] ∧ (SqL X.K H p ys ∨ SqT X.K H p ys) ∧ Q (.int ys.length) H) dLen := fun m H S a us ds Q0 Q s sq v q k =>
  ⟨a, us, rfl, sq.imp (fun h => h) fun h => SqT.of h, k.v s q (by rw [v.length]; simp only [VR])⟩
theorem sim_tuple : SimQ X.K (fun xs H Q => ∃ p ys, xs = [.ref p] ∧ ((SqL X.K H p ys ∧ ∀ l, H l = none → Q (.ref l) (upd H l (.tup ys))) ∨ (SqT X.K H p ys ∧ Q (.ref p) H))) dTuple := fun m H S a us ds Q0 Q s sq v q k => by
  rcases sq with sq | sq
  · exact ⟨a, us, rfl, .inl ⟨sq, fun l hl => k.tup s v hl q⟩⟩
  · exact ⟨a, us, rfl, .inr ⟨SqT.of sq, k.v s q (by simp only [VR]; exact ⟨a, us, rfl, sq, v⟩)⟩⟩
/-- list(x): a new list -/
theorem fl_list (hg : Gl X "list") (hm : X.mg "list" = none) (ha : FQ X e wq) (hs : starEach [e] X.env = (false, eval e X.env) :: starEach [] X.env := by rfl) : FL X (.Call (.Name "list" p) [e] [] pos) wq := by
  refine ⟨PE.imp (pe_callTy call_list_of hg hm (by decide +kernel) (pa_cons ha.p pa_nil hs) (by decide) (by decide) hs rfl) fun σ H Q ⟨env, S, m, Q0, s, r, h, k⟩ => ?_⟩
  refine ⟨env, S, m, _, s, r, h, fun ds S1 a us H1 m1 q1 e1 s1 sq v1 => ⟨a, us, rfl, sq.imp (fun h => h) fun h => SqT.of h, fun l hl => k.lst e1 s1 v1 hl (e1.back s1 hl) q1⟩⟩
/-- len(x), by its value -/
def dLenV (x : D) (S : Sto) (Q : WK) : Prop := match x with
  | .str z => z.length ≤ sizeLine ∧ Q (.int z.length) S
  | .tup xs => Q (.int xs.length) S
  | .rol xs => Q (.int xs.length) S
  | .ref p => ∃ xs, S[p]? = some (.lst xs) ∧ Q (.int xs.length) S
  | _ => False
def wLen (w : WE) : WE := fun env S Q => w env S fun x S1 => dLenV x S1 Q
theorem fe_len (hg : Gl X "len") (hm : X.mg "len" = none) (ha : FE X e w) (hs : starEach [e] X.env = (false, eval e X.env) :: starEach [] X.env := by rfl) : FE X (.Call (.Name "len" p) [e] [] pos) (wLen w) := by
  refine ⟨PE.imp (pe_callB call_len hg hm (by decide +kernel) (pa_cons ha.p pa_nil hs) (by decide) (by decide) hs rfl) fun σ H Q ⟨env, S, m, Q0, s, r, h, k⟩ => ?_⟩
  refine lift_k s r h fun y S1 u H1 m1 q1 e1 s1 v1 => ?_
  cases y with
  | str z => simp only [VR] at v1; subst v1; exact ⟨_, _, rfl, ⟨q1.1, rfl⟩, (k.ext e1).v s1 q1.2 (by simp only [VR])⟩
  | tup xs =>
    simp only [VR] at v1
    obtain ⟨a, us, rfl, h2, h3⟩ := v1
    exact ⟨_, _, rfl, .inr ⟨us, SqT.of h2, rfl⟩, (k.ext e1).v s1 q1 (by rw [h3.length]; simp only [VR])⟩
  | rol xs =>
    simp only [VR] at v1
    obtain ⟨a, us, rfl, h2, h3⟩ := v1
    exact ⟨_, _, rfl, .inl ⟨us, h2.sq, rfl⟩, (k.ext e1).v s1 q1 (by rw [h3.length]; simp only [VR])⟩
  | ref i =>
    simp only [VR] at v1
    obtain ⟨a, rfl, h2⟩ := v1
    obtain ⟨xs, h3, q⟩ := q1
    obtain ⟨us, h4, h5⟩ := s1.lst h2 h3
    exact ⟨_, _, rfl, .inl ⟨us, SqL.of h4, rfl⟩, (k.ext e1).v s1 q (by rw [h5.length]; simp only [VR])⟩
  | _ => exact q1.elim
/-! max, min of two ints; int of a truth; isinstance -/
def wMax2 (wr : WA) : WE := fun env S Q => wr env S fun xs S1 => match xs with | [.int i, .int j] => Q (.int (max i j)) S1 | _ => False
def wMin2 (wr : WA) : WE := fun env S Q => wr env S fun xs S1 => match xs with | [.int i, .int j] => Q (.int (min i j)) S1 | _ => False
theorem fe_max2 (hc : X.calm = true) (hg : Gl X "max") (hm : X.mg "max" = none) (ha : FA X (a :: es) wr) (he : starEach (a :: es) X.env = (false, eval a X.env) :: starEach es X.env := by rfl) (hpl : (backTo pos (starEach es X.env)).any (·.1) = false := by rfl) : FE X (.Call (.Name "max" p) (a :: es) [] pos) (wMax2 wr) := by
  refine ⟨PE.imp (pe_callB (call_max2 hc) hg hm (by decide +kernel) ha.p (by decide) (by decide) he hpl) fun σ H Q ⟨env, S, m, Q0, s, r, h, k⟩ => ?_⟩
  refine ⟨env, S, m, _, s, r, h, fun xs S1 us H1 m1 q1 e1 s1 v1 => ?_⟩
  match xs, q1 with
  | [.int i, .int j], q1 =>
    obtain ⟨u, t, rfl, h1, h2⟩ := v1.cons_inv
    obtain ⟨u2, t2, rfl, h3, h4⟩ := h2.cons_inv
    cases h4.nil_inv
    simp only [VR] at h1 h3
    refine ⟨i, j, by rw [h1, h3], ?_⟩
    have e : (if j > i then j else i) = max i j := by split <;> omega
    rw [e]
    exact (k.ext e1).v s1 q1 (by simp only [VR])
theorem fe_min2 (hc : X.calm = true) (hg : Gl X "min") (hm : X.mg "min" = none) (ha : FA X (a :: es) wr) (he : starEach (a :: es) X.env = (false, eval a X.env) :: starEach es X.env := by rfl) (hpl : (backTo pos (starEach es X.env)).any (·.1) = false := by rfl) : FE X (.Call (.Name "min" p) (a :: es) [] pos) (wMin2 wr) := by
  refine ⟨PE.imp (pe_callB (call_min2 hc) hg hm (by decide +kernel) ha.p (by decide) (by decide) he hpl) fun σ H Q ⟨env, S, m, Q0, s, r, h, k⟩ => ?_⟩
  refine ⟨env, S, m, _, s, r, h, fun xs S1 us H1 m1 q1 e1 s1 v1 => ?_⟩
  match xs, q1 with
  | [.int i, .int j], q1 =>
    obtain ⟨u, t, rfl, h1, h2⟩ := v1.cons_inv
    obtain ⟨u2, t2, rfl, h3, h4⟩ := h2.cons_inv
    cases h4.nil_inv
    simp only [VR] at h1 h3
    refine ⟨i, j, by rw [h1, h3], ?_⟩
    have e : (if j < i then j else i) = min i j := by split <;> omega
    rw [e]
    exact (k.ext e1).v s1 q1 (by simp only [VR])
def wIntB (w : WE) : WE := fun env S Q => w env S fun x S1 => match x with | .bl b => Q (.int (if b then 1 else 0)) S1 | .int i => Q (.int i) S1 | _ => False
theorem fe_intB (hg : Gl X "int") (hm : X.mg "int" = none) (ha : FE X e w) (hs : starEach [e] X.env = (false, eval e X.env) :: starEach [] X.env := by rfl) : FE X (.Call (.Name "int" p) [e] [] pos) (wIntB w) := by
  refine ⟨PE.imp (pe_callTy call_int1 hg hm (by decide +kernel) (pa_cons ha.p pa_nil hs) (by decide) (by decide) hs rfl) fun σ H Q ⟨env, S, m, Q0, s, r, h, k⟩ => ?_⟩
  refine lift_k s r h fun y S1 u H1 m1 q1 e1 s1 v1 => ?_
  cases y with
  | bl b => simp only [VR] at v1; subst v1; exact .inr ⟨b, rfl, (k.ext e1).v s1 q1 (by simp only [VR])⟩
  | int i => simp only [VR] at v1; subst v1; exact .inl ⟨i, rfl, (k.ext e1).v s1 q1 (by simp only [VR])⟩
  | _ => exact q1.elim
end
inductive Ty where
  | non | bool | int | str | tuple | list | dict
  deriving DecidableEq
def Ty.name : Ty → String
  | .non => "NoneType" | .bool => "bool" | .int => "int" | .str => "str" | .tuple => "tuple" | .list => "list" | .dict => "dict"
def Ty.sub : Ty → Ty → Bool
  | .bool, .int => true
  | .non, .non => true | .bool, .bool => true | .int, .int => true | .str, .str => true | .tuple, .tuple => true | .list, .list => true | .dict, .dict => true
  | _, _ => false
theorem ty_kit (a b : Ty) (h : b ≠ .non) : kitB a.name b.name = some (Ty.sub a b) := by cases a <;> cases b <;> first | exact absurd rfl h | decide +kernel
def tyIn (x : D) (S : Sto) (R : Ty → Prop) : Prop := match x with
  | .non => R .non | .bl _ => R .bool | .int _ => R .int | .str _ => R .str | .tup _ => R .tuple | .rol _ => R .list
  | .ref p => ∃ o, S[p]? = some o ∧ (match o with | .lst _ => R .list | .dK _ => R .dict | .dT _ => R .dict | _ => False)
  | _ => False
def wIsi (T : Ty) (w : WE) : WE := fun env S Q => w env S fun x S1 => tyIn x S1 fun t => Q (.bl (Ty.sub t T)) S1
section
variable {X : Cx} {e t : Expr} {w : WE} {p pos pt : Pos}
theorem vr_ty {K : Frag} {m : List Addr} {H : Hp} {S : Sto} {x : D} {u : V} {R : Ty → Prop} (s : SR K m H S) (r : VR K m H x u) (h : tyIn x S R) : ∃ t, R t ∧ TyX K H u (.type t.name) := by
  cases x with
  | non => simp only [VR] at r; subst r; exact ⟨_, h, .base .non⟩
  | bl b => simp only [VR] at r; subst r; exact ⟨_, h, .base (.bl b)⟩
  | int b => simp only [VR] at r; subst r; exact ⟨_, h, .base (.int b)⟩
  | str b => simp only [VR] at r; subst r; exact ⟨_, h, .base (.str b)⟩
  | tup xs =>
    simp only [VR] at r
    obtain ⟨a, us, rfl, h2, h3⟩ := r
    refine ⟨_, h, ?_⟩
    exact .base (.tup h2)
  | rol xs =>
    simp only [VR] at r
    obtain ⟨a, us, rfl, h2, h3⟩ := r
    refine ⟨_, h, ?_⟩
    rcases h2 with ⟨o, h2⟩ | ⟨o, its, n, h2, h4, _⟩
    · exact .base (.frz h2)
    · exact .kList h2 h4
  | ref i =>
    simp only [VR] at r
    obtain ⟨a, rfl, h2⟩ := r
    obtain ⟨o, h3, q⟩ := h
    obtain ⟨b, h4, h5⟩ := s.at_ i o h3
    rw [h2] at h4; cases h4
    cases o with
    | lst xs => obtain ⟨us, h6, _⟩ := h5; exact ⟨_, q, .base (.lst h6)⟩
    | dK xs => obtain ⟨us, h6, _⟩ := h5; exact ⟨_, q, .base (.dK h6)⟩
    | dT xs => obtain ⟨us, h6, _⟩ := h5; exact ⟨_, q, .base (.dT h6)⟩
    | ins C fs => exact q.elim
  | _ => exact h.elim
/-- isinstance(e, T), T a built-in class -/
theorem fe_isi {T : Ty} {x : Str} (hT : T ≠ .non) (hg : Gl X "isinstance") (hm : X.mg "isinstance" = none) (hg2 : Gl X x) (hm2 : X.mg x = none) (hv2 : bootBuiltins x = some (.type T.name)) (ha : FE X e w) (hn : x ≠ "__name__" := by decide) (hdb : (x == ("__debug__" : Str)) = false := by decide)
    (hs : starEach [e, .Name x pt] X.env = (false, eval e X.env) :: starEach [.Name x pt] X.env := by rfl) (hs2 : starEach [.Name x pt] X.env = (false, eval (.Name x pt) X.env) :: starEach [] X.env := by rfl) (hpl : (backTo pos (starEach [.Name x pt] X.env)).any (·.1) = false := by rfl) : FE X (.Call (.Name "isinstance" p) [e, .Name x pt] [] pos) (wIsi T w) := by
  refine ⟨PE.imp (pe_callB call_isi hg hm (by decide +kernel) (pa_cons ha.p (pa_cons (pe_bltn (v := .ty T.name) hg2 hm2 hv2 rfl hn hdb) pa_nil hs2) hs) (by decide) (by decide) hs hpl) fun σ H Q ⟨env, S, m, Q0, s, r, h, k⟩ => ?_⟩
  refine lift_k s r h fun y S1 u H1 m1 q1 e1 s1 v1 => ?_
  obtain ⟨t, q, ty⟩ := vr_ty s1 v1 q1
  exact ⟨u, .ty T.name, .type t.name, .type T.name, _, rfl, .ty _, ty, kit_ty (ty_kit t T hT), (k.ext e1).v s1 q (by simp only [VR])⟩
end
end Z
namespace Z
open PySem PySem.Spec PyProof.Rows L2 RZ

/-! in -/
def D.flat : D → Bool
  | .non | .bl _ | .int _ | .str _ => true
  | _ => false
def dInL (f : Bool → Bool) (x : D) (xs : List D) (S : Sto) (Q : WK) : Prop := x.flat = true ∧ xs.all D.flat = true ∧ Q (.bl (f (xs.any fun y => D.eqv y x))) S
/-- in a list or tuple of flat things, in a text (of one sign) -/
def dInB (f : Bool → Bool) : R2D := fun x y S Q => match y with
  | .tup xs => dInL f x xs S Q
  | .rol xs => dInL f x xs S Q
  | .ref p => ∃ xs, S[p]? = some (.lst xs) ∧ dInL f x xs S Q
  | .str z => match x with | .str t => ∃ c, t = T [c] ∧ Q (.bl (f (decide (c ∈ z.cps.toList)))) S | _ => False
  | _ => False
abbrev dIn : R2D := dInB id
abbrev dNotIn : R2D := dInB not
section
variable {K : Frag} {m : List Addr} {H : Hp}
theorem VR.flat {x : D} {u : V} (h : VR K m H x u) (f : x.flat = true) : flatV u = true := by
  cases x <;> simp only [D.flat, Bool.false_eq_true] at f <;> (simp only [VR] at h; subst h; rfl)
theorem VR.eqV {x y : D} {u v : V} (h : VR K m H x u) (h2 : VR K m H y v) (f : x.flat = true) (g : y.flat = true) : L2.eqV u v = D.eqv x y := by
  cases x <;> simp only [D.flat, Bool.false_eq_true] at f <;> (cases y <;> simp only [D.flat, Bool.false_eq_true] at g <;> (simp only [VR] at h h2; subst h; subst h2; simp [L2.eqV, D.eqv]))
theorem VRs.flat : ∀ {xs : List D} {us : List V}, VRs K m H xs us → xs.all D.flat = true → us.all flatV = true
  | [], _, h, _ => by rw [h.nil_inv]; rfl
  | x :: xs, _, h, f => by
    obtain ⟨u, r, rfl, h2, h3⟩ := h.cons_inv
    simp only [List.all_cons, Bool.and_eq_true] at f ⊢
    exact ⟨h2.flat f.1, h3.flat f.2⟩
theorem VRs.inV {x : D} {u : V} (hx : VR K m H x u) (fx : x.flat = true) : ∀ {xs : List D} {us : List V}, VRs K m H xs us → xs.all D.flat = true → L2.inV u us = xs.any fun y => D.eqv y x
  | [], _, h, _ => by rw [h.nil_inv]; rfl
  | y :: xs, _, h, f => by
    obtain ⟨v, r, rfl, h2, h3⟩ := h.cons_inv
    simp only [List.all_cons, Bool.and_eq_true] at f
    have ih := VRs.inV hx fx h3 f.2
    unfold L2.inV at ih ⊢
    rw [List.any_cons, List.any_cons, ih, h2.eqV hx f.1 fx]
end
section
variable {X : Cx} {a b c e o : Expr} {es : List Expr} {w wa wb wc wo : WE} {wr wq : WA} {p pos apos cpos p2 : Pos}
theorem sim_inB (f : Bool → Bool) (neg : Bool) (hf : ∀ b, (if neg then !b else b) = f b) : Sim2 X.K (fun x y H Q => rIn X.K neg x y H Q ∨ (fun x y H Q => ∃ (c : Nat) (z : Str), x = .str ⟨#[c]⟩ ∧ y = .str z ∧ Q (.bl (f (decide (c ∈ z.cps.toList)))) H) x y H Q) (dInB f) := by
  intro m H S x y u v Q0 Q s rx ry h k
  have seq : ∀ xs p us, v = .ref p → (SqL X.K H p us ∨ SqT X.K H p us) → VRs X.K m H xs us → dInL f x xs S Q0 → rIn X.K neg u v H Q := fun xs p us e sq vs ⟨h1, h2, h3⟩ => by
    refine ⟨p, us, e, sq, rx.flat h1, vs.flat h2, ?_⟩
    have e2 : (if neg then !L2.inV u us else L2.inV u us) = f (xs.any fun y => D.eqv y x) := by rw [← VRs.inV rx h1 vs h2]; exact hf _
    rw [e2]
    exact k.v s h3 (by simp only [VR])
  cases y with
  | tup xs => simp only [VR] at ry; obtain ⟨a, us, h1, h2, h3⟩ := ry; exact .inl (seq xs a us h1 (.inr (SqT.of h2)) h3 h)
  | rol xs => simp only [VR] at ry; obtain ⟨a, us, h1, h2, h3⟩ := ry; exact .inl (seq xs a us h1 (.inl h2.sq) h3 h)
  | ref i =>
    simp only [VR] at ry
    obtain ⟨a, h1, h2⟩ := ry
    obtain ⟨xs, h3, h⟩ := h
    obtain ⟨us, h4, h5⟩ := s.lst h2 h3
    exact .inl (seq xs a us h1 (.inl (SqL.of h4)) h5 h)
  | str z =>
    cases x with
    | str t =>
      simp only [VR] at rx ry
      obtain ⟨c, rfl, q⟩ := h
      exact .inr ⟨c, z, rx, ry, k.v s q (by simp only [VR])⟩
    | _ => exact h.elim
  | _ => exact h.elim
theorem fe_in (ha : FE X a wa) (hb : FE X b wb) (hm : behindInMarks .In b = false := by rfl) : FE X (.Compare a [.In] [b] pos) (wOp dIn wa wb) := fe_cmp (op_in_seq.or op_in_sign) (sim_inB id false fun _ => rfl) ha hb hm
theorem ft_in (ha : FE X a wa) (hb : FE X b wb) (hm : behindInMarks .In b = false := by rfl) : FT X (.Compare a [.In] [b] pos) (tOf (wOp dIn wa wb)) := ft_cmp (op_in_seq.or op_in_sign) (sim_inB id false fun _ => rfl) ha hb hm
theorem fe_notin (ha : FE X a wa) (hb : FE X b wb) (hm : behindInMarks .NotIn b = false := by rfl) : FE X (.Compare a [.NotIn] [b] pos) (wOp dNotIn wa wb) := fe_cmp (op_notIn_seq.or op_notIn_sign) (sim_inB not true fun _ => rfl) ha hb hm
theorem ft_notin (ha : FE X a wa) (hb : FE X b wb) (hm : behindInMarks .NotIn b = false := by rfl) : FT X (.Compare a [.NotIn] [b] pos) (tOf (wOp dNotIn wa wb)) := ft_cmp (op_notIn_seq.or op_notIn_sign) (sim_inB not true fun _ => rfl) ha hb hm

/-! methods of built-in types -/
abbrev RM := D → List D → Sto → WK → Prop
def tyL (x : D) (S : Sto) : Prop := match x with | .ref p => ∃ xs, S[p]? = some (.lst xs) | .rol _ => True | _ => False
def tyS (x : D) (S : Sto) : Prop := match x with | .str _ => True | _ => False
theorem tyL_v {K : Frag} {m : List Addr} {H : Hp} {S : Sto} {x : D} {u : V} (s : SR K m H S) (r : VR K m H x u) (h : tyL x S) : tyV K "list" u H := by
  cases x with
  | ref i =>
    simp only [VR] at r
    obtain ⟨a, rfl, h2⟩ := r
    obtain ⟨xs, h3⟩ := h
    obtain ⟨us, h4, h5⟩ := s.lst h2 h3
    exact .inl ⟨rfl, us, SqL.of h4⟩
  | rol xs =>
    simp only [VR] at r
    obtain ⟨a, us, rfl, h2, h3⟩ := r
    exact .inl ⟨rfl, us, h2.sq⟩
  | _ => exact h.elim
theorem tyS_v {K : Frag} {m : List Addr} {H : Hp} {S : Sto} {x : D} {u : V} (s : SR K m H S) (r : VR K m H x u) (h : tyS x S) : tyV K "str" u H := by
  cases x with
  | str z => simp only [VR] at r; subst r; exact rfl
  | _ => exact h.elim
def SimM (K : Frag) (r : V → List V → Hp → VK → Prop) (d : RM) : Prop := ∀ (m : List Addr) (H : Hp) (S : Sto) (x : D) (u : V) (ds : List D) (us : List V) (Q0 : WK) (Q : VK), SR K m H S → VR K m H x u → VRs K m H ds us → d x ds S Q0 → Kt K m H Q0 Q → r u us H Q
def wM (ty : D → Sto → Prop) (d : RM) (wo : WE) (wr : WA) : WE := fun env S Q => wo env S fun x S1 => ty x S1 ∧ wr env S1 fun ds S2 => d x ds S2 Q
def wM0 (ty : D → Sto → Prop) (d : RM) (wo : WE) : WE := fun env S Q => wo env S fun x S1 => ty x S1 ∧ d x [] S1 Q
variable {T id : String} {name : Str} {r : V → List V → Hp → VK → Prop} {d : RM} {ty : D → Sto → Prop}
theorem fe_bm (pa : PlainAttrs T) (slot : Slot T name id) (hty : typeOf (.builtin id) = pure (.type "method_descriptor")) (hm : MtR X id r) (hd : SimM X.K r d) (htv : ∀ {m H S x u}, SR X.K m H S → VR X.K m H x u → ty x S → tyV X.K T u H) (ho : FE X o wo) (ha : FA X (e :: es) wr)
    (hbase : attributeBase o name X.env (eval o X.env) = eval o X.env := by rfl)
    (hfew : ((backTo cpos (starEach (e :: es) X.env)).all (fun x => !x.1) && (backToKw cpos (keywordEach [] X.env)).all (fun x => x.1.isSome)
      && decide ((e :: es).length + ([] : List Keyword).length + (if ([] : List Keyword).isEmpty then 0 else 1) < 30)) = true := by rfl)
    (hline : (apos.endLine == cpos.line) = true := by rfl) (hs : starEach (e :: es) X.env = (false, eval e X.env) :: starEach es X.env := by rfl) (hplain : (backTo cpos (starEach es X.env)).any (·.1) = false := by rfl) :
    FE X (.Call (.Attribute o name apos) (e :: es) [] cpos) (wM ty d wo wr) := by
  refine ⟨PE.imp (pe_bm pa slot hty hm ho.p ha.p hbase hfew hline hs hplain) fun σ H Q ⟨env, S, m, Q0, s, r, h, k⟩ => ?_⟩
  refine lift_k s r h fun x S1 u H1 m1 q1 e1 s1 v1 => ⟨htv s1 v1 q1.1, env, S1, m1, _, s1, r.ext e1.toEx, q1.2, fun ds S2 us H2 m2 q2 e2 s2 v2 => ?_⟩
  exact hd _ _ _ _ _ _ _ _ _ s2 (v1.ext e2.toEx) v2 q2 (k.ext (e1.trans e2))
theorem fe_bm0 (pa : PlainAttrs T) (slot : Slot T name id) (hty : typeOf (.builtin id) = pure (.type "method_descriptor")) (hm : MtR X id r) (hd : SimM X.K r d) (htv : ∀ {m H S x u}, SR X.K m H S → VR X.K m H x u → ty x S → tyV X.K T u H) (ho : FE X o wo)
    (hbase : attributeBase o name X.env (eval o X.env) = eval o X.env := by rfl) (hline : (apos.endLine == cpos.line) = true := by rfl) : FE X (.Call (.Attribute o name apos) [] [] cpos) (wM0 ty d wo) := by
  refine ⟨PE.imp (pe_bm0 pa slot hty hm ho.p hbase hline) fun σ H Q ⟨env, S, m, Q0, s, r, h, k⟩ => ?_⟩
  refine lift_k s r h fun x S1 u H1 m1 q1 e1 s1 v1 => ⟨htv s1 v1 q1.1, ?_⟩
  exact hd _ _ _ _ _ _ _ _ _ s1 v1 VRs.nil q1.2 (k.ext e1)
def dAppend : RM := fun x ds S Q => match x, ds with | .ref p, [y] => ∃ xs, S[p]? = some (.lst xs) ∧ xs.length < sizeLine ∧ Q .non (S.set p (.lst (xs ++ [y]))) | _, _ => False
def dPop : RM := fun x ds S Q => match x, ds with | .ref p, [] => ∃ xs, S[p]? = some (.lst xs) ∧ ∃ y, xs[xs.length - 1]? = some y ∧ Q y (S.set p (.lst xs.dropLast)) | _, _ => False
def dPopAt : RM := fun x ds S Q => match x, ds with | .ref p, [.int i] => ∃ xs, S[p]? = some (.lst xs) ∧ (-(2 ^ 63) ≤ i ∧ i < 2 ^ 63) ∧ ∃ k y, seqIndex? i xs.length = some k ∧ xs[k]? = some y ∧ Q y (S.set p (.lst (xs.eraseIdx k))) | _, _ => False
def dInsert : RM := fun x ds S Q => match x, ds with | .ref p, [.int i, y] => ∃ xs, S[p]? = some (.lst xs) ∧ xs.length < sizeLine ∧ (0 ≤ i ∧ i < 2 ^ 63) ∧ Q .non (S.set p (.lst (xs.take i.toNat ++ [y] ++ xs.drop i.toNat))) | _, _ => False
def dExtend : RM := fun x ds S Q => match x, ds with | .ref p, [.ref q] => ∃ xs ys, S[p]? = some (.lst xs) ∧ S[q]? = some (.lst ys) ∧ xs.length + ys.length ≤ sizeLine ∧ Q .non (S.set p (.lst (xs ++ ys))) | _, _ => False
def dCount : RM := fun x ds S Q => match x, ds with | .ref p, [.int i] => ∃ ns : List Int, S[p]? = some (.lst (ns.map D.int)) ∧ Q (.int (ns.count i : Nat)) S | _, _ => False
theorem SR.lst_write {K : Frag} {m : List Addr} {H : Hp} {S : Sto} (s : SR K m H S) {i : Nat} {a : Addr} {xs : List D} {us : List V} (hi : m[i]? = some a) (h : VRs K m H xs us) : Ext K m H m (upd H a (.lst us)) ∧ SR K m (upd H a (.lst us)) (S.set i (.lst xs)) :=
  s.write hi fun H' e hh => ⟨us, hh, h.ext e.toEx⟩
theorem sim_append : SimM X.K rAppend dAppend := by
  intro m H S x u ds us Q0 Q s r rs h k
  match x, ds, h with
  | .ref p, [y], ⟨xs, h1, h2, q⟩ =>
    simp only [VR] at r
    obtain ⟨a, rfl, h3⟩ := r
    obtain ⟨v, t, rfl, h4, h5⟩ := rs.cons_inv
    cases h5.nil_inv
    obtain ⟨ws, h6, h7⟩ := s.lst h3 h1
    obtain ⟨e, s'⟩ := s.lst_write h3 (h7.app (.cons h4 .nil))
    exact ⟨a, ws, v, rfl, rfl, h6, by rw [← h7.length]; exact h2, k _ _ _ _ _ q e s' (by simp only [VR])⟩
theorem sim_pop : SimM X.K rPop dPop := by
  intro m H S x u ds us Q0 Q s r rs h k
  match x, ds, h with
  | .ref p, [], ⟨xs, h1, y, h2, q⟩ =>
    simp only [VR] at r
    obtain ⟨a, rfl, h3⟩ := r
    cases rs.nil_inv
    obtain ⟨ws, h6, h7⟩ := s.lst h3 h1
    obtain ⟨v, h8, h9⟩ := h7.get h2
    obtain ⟨e, s'⟩ := s.lst_write h3 h7.dropLast
    exact ⟨a, ws, v, rfl, rfl, h6, by rw [← h7.length]; exact h8, k _ _ _ _ _ q e s' (h9.ext e.toEx)⟩
theorem sim_popAt : SimM X.K rPopAt dPopAt := by
  intro m H S x u ds us Q0 Q s r rs h k
  match x, ds, h with
  | .ref p, [.int i], ⟨xs, h1, hb, j, y, h2, h20, q⟩ =>
    simp only [VR] at r
    obtain ⟨a, rfl, h3⟩ := r
    obtain ⟨v, t, rfl, h4, h5⟩ := rs.cons_inv
    cases h5.nil_inv
    simp only [VR] at h4
    subst h4
    obtain ⟨ws, h6, h7⟩ := s.lst h3 h1
    obtain ⟨v, h8, h9⟩ := h7.get h20
    obtain ⟨e, s'⟩ := s.lst_write h3 (h7.erase j)
    exact ⟨a, ws, i, j, v, rfl, rfl, h6, hb.1, hb.2, by rw [← h7.length]; exact h2, h8, k _ _ _ _ _ q e s' (h9.ext e.toEx)⟩
theorem sim_insert : SimM X.K (fun x vs H Q => ∃ (l : Addr) (xs : List V) (i : Int) (y : V), x = .ref l ∧ vs = [.int i, y] ∧ H l = some (.lst xs) ∧ xs.length < sizeLine ∧ 0 ≤ i ∧ i < 2 ^ 63 ∧ Q .non (upd H l (.lst (xs.take i.toNat ++ [y] ++ xs.drop i.toNat)))) dInsert := by
  intro m H S x u ds us Q0 Q s r rs h k
  match x, ds, h with
  | .ref p, [.int i, y], ⟨xs, h1, h2, hb, q⟩ =>
    simp only [VR] at r
    obtain ⟨a, rfl, h3⟩ := r
    obtain ⟨v, t, rfl, h4, h5⟩ := rs.cons_inv
    obtain ⟨v2, t, rfl, h40, h5⟩ := h5.cons_inv
    cases h5.nil_inv
    simp only [VR] at h4
    subst h4
    obtain ⟨ws, h6, h7⟩ := s.lst h3 h1
    obtain ⟨e, s'⟩ := s.lst_write h3 (((h7.take i.toNat).app (.cons h40 .nil)).app (h7.drop i.toNat))
    exact ⟨a, ws, i, v2, rfl, rfl, h6, by rw [← h7.length]; exact h2, hb.1, hb.2, k _ _ _ _ _ q e s' (by simp only [VR])⟩
theorem sim_extend : SimM X.K rExtend dExtend := by
  intro m H S x u ds us Q0 Q s r rs h k
  match x, ds, h with
  | .ref p, [.ref j], ⟨xs, ys, h1, h10, h2, q⟩ =>
    simp only [VR] at r
    obtain ⟨a, rfl, h3⟩ := r
    obtain ⟨v, t, rfl, h4, h5⟩ := rs.cons_inv
    cases h5.nil_inv
    simp only [VR] at h4
    obtain ⟨b, rfl, h30⟩ := h4
    obtain ⟨ws, h6, h7⟩ := s.lst h3 h1
    obtain ⟨zs, h60, h70⟩ := s.lst h30 h10
    obtain ⟨e, s'⟩ := s.lst_write h3 (h7.app h70)
    exact ⟨a, b, ws, zs, rfl, rfl, h6, h60, by rw [← h7.length, ← h70.length]; exact h2, k _ _ _ _ _ q e s' (by simp only [VR])⟩
theorem sim_count : SimM X.K (rCntI X.K) dCount := by
  intro m H S x u ds us Q0 Q s r rs h k
  match x, ds, h with
  | .ref p, [.int i], ⟨ns, h1, q⟩ =>
    simp only [VR] at r
    obtain ⟨a, rfl, h3⟩ := r
    obtain ⟨v, t, rfl, h4, h5⟩ := rs.cons_inv
    cases h5.nil_inv
    simp only [VR] at h4
    subst h4
    obtain ⟨ws, h6, h7⟩ := s.lst h3 h1
    exact ⟨a, ns, i, rfl, rfl, by rw [← h7.ints]; exact SqL.of h6, k.v s q (by simp only [VR])⟩
abbrev wAppend := wM tyL dAppend
theorem fe_append (ho : FE X o wo) (ha : FA X [e] wr) (hbase : attributeBase o "append" X.env (eval o X.env) = eval o X.env := by rfl) (hline : (apos.endLine == cpos.line) = true := by rfl) (hs : starEach [e] X.env = (false, eval e X.env) :: starEach [] X.env := by rfl) : FE X (.Call (.Attribute o "append" apos) [e] [] cpos) (wM tyL dAppend wo wr) :=
  fe_bm PySem.F.plainAttrs_list PySem.F.slot_list_append PySem.F.type_list_append mt_append sim_append tyL_v ho ha hbase (by rw [hs]; rfl) hline hs
theorem fe_extend (ho : FE X o wo) (ha : FA X [e] wr) (hbase : attributeBase o "extend" X.env (eval o X.env) = eval o X.env := by rfl) (hline : (apos.endLine == cpos.line) = true := by rfl) (hs : starEach [e] X.env = (false, eval e X.env) :: starEach [] X.env := by rfl) : FE X (.Call (.Attribute o "extend" apos) [e] [] cpos) (wM tyL dExtend wo wr) :=
  fe_bm PySem.F.plainAttrs_list PySem.F.slot_list_extend PySem.F.type_list_extend mt_extend sim_extend tyL_v ho ha hbase (by rw [hs]; rfl) hline hs
theorem fe_popAt (ho : FE X o wo) (ha : FA X [e] wr) (hbase : attributeBase o "pop" X.env (eval o X.env) = eval o X.env := by rfl) (hline : (apos.endLine == cpos.line) = true := by rfl) (hs : starEach [e] X.env = (false, eval e X.env) :: starEach [] X.env := by rfl) : FE X (.Call (.Attribute o "pop" apos) [e] [] cpos) (wM tyL dPopAt wo wr) :=
  fe_bm PySem.F.plainAttrs_list PySem.F.slot_list_pop PySem.F.type_list_pop mt_popAt sim_popAt tyL_v ho ha hbase (by rw [hs]; rfl) hline hs
theorem fe_pop (ho : FE X o wo) (hbase : attributeBase o "pop" X.env (eval o X.env) = eval o X.env := by rfl) (hline : (apos.endLine == cpos.line) = true := by rfl) : FE X (.Call (.Attribute o "pop" apos) [] [] cpos) (wM0 tyL dPop wo) :=
  fe_bm0 PySem.F.plainAttrs_list PySem.F.slot_list_pop PySem.F.type_list_pop mt_pop sim_pop tyL_v ho hbase hline
theorem fe_insert {e2 : Expr} (ho : FE X o wo) (ha : FA X [e, e2] wr) (hbase : attributeBase o "insert" X.env (eval o X.env) = eval o X.env := by rfl) (hline : (apos.endLine == cpos.line) = true := by rfl) (hs : starEach [e, e2] X.env = (false, eval e X.env) :: starEach [e2] X.env := by rfl) (hpl : (backTo cpos (starEach [e2] X.env)).any (·.1) = false := by rfl)
    (hfew : ((backTo cpos (starEach [e, e2] X.env)).all (fun x => !x.1) && (backToKw cpos (keywordEach [] X.env)).all (fun x => x.1.isSome) && decide ([e, e2].length + ([] : List Keyword).length + (if ([] : List Keyword).isEmpty then 0 else 1) < 30)) = true := by rfl) : FE X (.Call (.Attribute o "insert" apos) [e, e2] [] cpos) (wM tyL dInsert wo wr) :=
  fe_bm PySem.F.plainAttrs_list PySem.F.slot_list_insert PySem.F.type_list_insert mt_insert sim_insert tyL_v ho ha hbase hfew hline hs hpl
theorem fe_count (ho : FE X o wo) (ha : FA X [e] wr) (hbase : attributeBase o "count" X.env (eval o X.env) = eval o X.env := by rfl) (hline : (apos.endLine == cpos.line) = true := by rfl) (hs : starEach [e] X.env = (false, eval e X.env) :: starEach [] X.env := by rfl) : FE X (.Call (.Attribute o "count" apos) [e] [] cpos) (wM tyL dCount wo wr) :=
  fe_bm PySem.F.plainAttrs_list PySem.F.slot_list_count PySem.F.type_list_count mt_lcount sim_count tyL_v ho ha hbase (by rw [hs]; rfl) hline hs
/-- sep.join(a list of texts) -/
def wJoin (wo : WE) (wq : WA) : WE := fun env S Q => wo env S fun x S1 => tyS x S1 ∧ wq env S1 fun ds S2 => match x with | .str z => ∃ ys : List Str, ds = ys.map D.str ∧ (ys.map (·.length)).sum + ys.length * z.length ≤ 16777216 ∧ Q (.str (Txt.join z ys)) S2 | _ => False
theorem fe_join (ho : FE X o wo) (ha : FQ X e wq) (hbase : attributeBase o "join" X.env (eval o X.env) = eval o X.env := by rfl) (hline : (apos.endLine == cpos.line) = true := by rfl) (hs : starEach [e] X.env = (false, eval e X.env) :: starEach [] X.env := by rfl) : FE X (.Call (.Attribute o "join" apos) [e] [] cpos) (wJoin wo wq) := by
  refine ⟨PE.imp (pe_bm (PySem.F.plainAttrs_str) PySem.F.slot_str_join PySem.F.type_str_join mt_join ho.p (pa_cons ha.p pa_nil hs) hbase (by rw [hs]; rfl) hline hs rfl) fun σ H Q ⟨env, S, m, Q0, s, r, h, k⟩ => ?_⟩
  refine lift_k s r h fun x S1 u H1 m1 q1 e1 s1 v1 => ⟨tyS_v s1 v1 q1.1, env, S1, m1, _, s1, r.ext e1.toEx, q1.2, fun ds S2 a us H2 m2 q2 e2 s2 sq v2 => ?_⟩
  cases x with
  | str z =>
    simp only [VR] at v1
    obtain ⟨ys, rfl, h1, q⟩ := q2
    exact ⟨z, a, ys, v1, rfl, by rw [← v2.strs]; exact sq.imp (fun h => h) fun h => SqT.of h, h1, (k.ext (e1.trans e2)).v s2 q (by simp only [VR])⟩
  | _ => exact q2.elim
/-- text.index(a text that is in it) -/
def dIndexS : RM := fun x ds S Q => match x, ds with | .str a, [.str b] => ∃ k, Txt.index0 a b = some k ∧ Q (.int (k : Nat)) S | _, _ => False
theorem fe_indexS (hc : X.calm = true) (ho : FE X o wo) (ha : FA X [e] wr) (hbase : attributeBase o "index" X.env (eval o X.env) = eval o X.env := by rfl) (hline : (apos.endLine == cpos.line) = true := by rfl) (hs : starEach [e] X.env = (false, eval e X.env) :: starEach [] X.env := by rfl) : FE X (.Call (.Attribute o "index" apos) [e] [] cpos) (wM tyS dIndexS wo wr) := by
  refine ⟨PE.imp (pe_bmS (PySem.F.plainAttrs_str) PySem.F.slot_str_index PySem.F.type_str_index (mt_indexX hc takes0) ho.p ha.p hbase (by rw [hs]; rfl) hline hs rfl) fun σ H Q ⟨env, S, m, Q0, s, r, h, k⟩ => ?_⟩
  refine lift_k s r h fun x S1 u H1 m1 q1 e1 s1 v1 => ⟨tyS_v s1 v1 q1.1, env, S1, m1, _, s1, r.ext e1.toEx, q1.2, fun ds S2 us H2 m2 q2 e2 s2 v2 => ?_⟩
  match x, ds, q2 with
  | .str a, [.str b], ⟨j, h1, q⟩ =>
    simp only [VR] at v1
    obtain ⟨v, t, rfl, h4, h5⟩ := v2.cons_inv
    cases h5.nil_inv
    simp only [VR] at h4
    subst h4
    refine ⟨a, b, v1, rfl, fun j' h' => ?_, fun h' => by rw [h1] at h'; cases h'⟩
    rw [h1] at h'; cases h'
    exact (k.ext (e1.trans e2)).v s2 q (by simp only [VR])
/-- xs[::-1] -/
def lRev (w : WE) : WA := fun env S Q => w env S fun x S1 => match x with | .ref p => ∃ xs, S1[p]? = some (.lst xs) ∧ Q xs.reverse S1 | .rol xs => Q xs.reverse S1 | _ => False
theorem fl_rev {k : Nat} {p1 p2 p3 : Pos} (he : FE X e w) : FL X (.Subscript e (.Slice none none (some (.UnaryOp .USub (.Constant (.int 1) k p1) p2)) p3) pos) (lRev w) := by
  refine ⟨PE.imp (pe_revL he.p) fun σ H Q ⟨env, S, m, Q0, s, r, h, k⟩ => ?_⟩
  refine lift_k s r h fun x S1 u H1 m1 q1 e1 s1 v1 => ?_
  cases x with
  | ref i =>
    simp only [VR] at v1
    obtain ⟨a, rfl, h2⟩ := v1
    obtain ⟨xs, h3, q⟩ := q1
    obtain ⟨us, h4, h5⟩ := s1.lst h2 h3
    exact ⟨a, us, rfl, SqL.of h4, fun p hp => k.lst e1 s1 h5.rev hp (e1.back s1 hp) q⟩
  | rol xs =>
    simp only [VR] at v1
    obtain ⟨a, us, rfl, h2, h3⟩ := v1
    exact ⟨a, us, rfl, h2.sq, fun p hp => k.lst e1 s1 h3.rev hp (e1.back s1 hp) q1⟩
  | _ => exact q1.elim
end

/-! enumerate(list), zip of two lists or two tuples -/
def enumD (xs : List D) : List D := (List.range xs.length).map fun (i : Nat) => D.tup [.int (i : Int), xs.getD i .non]
def zipD (xs ys : List D) : List D := (xs.zip ys).map fun p => D.tup [p.1, p.2]
theorem enumD_len {xs : List D} : (enumD xs).length = xs.length := by simp [enumD]
theorem enumD_get {xs : List D} {i : Nat} {d : D} (h : xs[i]? = some d) : (enumD xs)[i]? = some (.tup [.int (i : Int), d]) := by
  have hi := (List.getElem?_eq_some_iff.mp h).1
  unfold enumD
  rw [List.getElem?_map, List.getElem?_range hi]
  simp [List.getD, h]
theorem zipD_get {xs ys : List D} {i : Nat} {d e : D} (h : xs[i]? = some d) (h2 : ys[i]? = some e) : (zipD xs ys)[i]? = some (.tup [d, e]) := by
  unfold zipD
  rw [List.getElem?_map]
  have : (xs.zip ys)[i]? = some (d, e) := by
    rw [List.getElem?_zip_eq_some]; exact ⟨h, h2⟩
  rw [this]; rfl
theorem pair_new {K : Frag} {m : List Addr} {H : Hp} {S : Sto} (s : SR K m H S) {x y : D} {u v : V} {T : Addr} (hT : H T = none) (rx : VR K m H x u) (ry : VR K m H y v) : Ext K m H m (upd H T (.tup [u, v])) ∧ SR K m (upd H T (.tup [u, v])) S ∧ VR K m (upd H T (.tup [u, v])) (.tup [x, y]) (.ref T) := by
  obtain ⟨_, e, s'⟩ := s.laid (ho := .tup [u, v]) hT
  refine ⟨e, s', ?_⟩
  simp only [VR]
  exact ⟨T, [u, v], rfl, upd_same, .cons (rx.ext e.toEx) (.cons (ry.ext e.toEx) .nil)⟩
section
variable {X : Cx} {a b c e o e2 : Expr} {es elts : List Expr} {w wa wb wc wo w1 w2 : WE} {wr wq : WA} {p pos apos cpos p2 tpos : Pos} {kk : Nat}
/-- a list to be read, that stays: its number, or none where it is not in the store -/
def okR (p : Nat) (xs : List D) : Sto → Prop := fun S => S[p]? = some (.lst xs)
def iEnumL (wq : WA) : WI := fun env S R => wq env S fun xs S1 => R ⟨enumD xs, fun _ => True⟩ S1
def iEnumR (w : WE) : WI := fun env S R => w env S fun x S1 => match x with | .ref p => ∃ xs, S1[p]? = some (.lst xs) ∧ R ⟨enumD xs, okR p xs⟩ S1 | _ => False
theorem WalkD.enum {K : Frag} {m0 : List Addr} {H0 : Hp} {xs : List D} {a : Addr} {ok : Sto → Prop} (h : ∀ H m S, Ext K m0 H0 m H → SR K m H S → ok S → ∃ us, SqL K H a us ∧ VRs K m H xs us) : WalkD K m0 H0 (Ite K a) ⟨enumD xs, ok⟩ := by
  refine ⟨fun i H m S hi e s o => ?_, fun H m S e s o => ?_, fun i H m S x H' hi e s o y => ?_⟩
  · obtain ⟨us, h1, h2⟩ := h H m S e s o
    have hi' : i < xs.length := by simpa [enumD_len] using hi
    obtain ⟨u, h3, h4⟩ := h2.get (i := i) (x := xs[i]'hi') (by simp)
    exact ⟨us, u, h1, h3⟩
  · obtain ⟨us, h1, h2⟩ := h H m S e s o
    exact ⟨us, h1, by show us.length ≤ (enumD xs).length; rw [enumD_len, h2.length]; exact Nat.le_refl _⟩
  · obtain ⟨us, h1, h2⟩ := h H m S e s o
    have hi' : i < xs.length := by simpa [enumD_len] using hi
    obtain ⟨T, z, rfl, hT, rfl, g⟩ := y
    obtain ⟨u, h3, h4⟩ := h2.get (i := i) (x := xs[i]'hi') (by simp)
    have := g us h1
    rw [h3] at this; cases this
    obtain ⟨e5, s5, v5⟩ := pair_new s hT (x := .int (i : Int)) (u := .int (i : Int)) (by simp only [VR]) h4
    exact ⟨e5, s5, _, enumD_get (by simp), v5⟩
theorem fi_enumL (hg : Gl X "enumerate") (hm : X.mg "enumerate" = none) (ha : FL X e wq) (hs : starEach [e] X.env = [(false, eval e X.env)] := by rfl) : FI X (.Tuple elts kk tpos) (.Call (.Name "enumerate" p) [e] [] pos) (iEnumL wq) := by
  refine ⟨PI.imp (pi_enum hg hm (pa_cons ha.p pa_nil (by rw [hs]; rfl)) hs) fun σ H R ⟨env, S, m, R0, s, r, h, k⟩ => ?_⟩
  refine ⟨env, S, m, _, s, r, h, fun xs S1 a us H1 m1 q1 e1 s1 h0 nm ha v1 => ?_⟩
  exact ⟨a, us, rfl, SqL.of ha, k _ _ _ _ q1 e1 s1 _ (WalkD.enum fun H m S e s o => ⟨us, SqL.of (e.fr _ _ ha nm).1, v1.ext e.toEx⟩)⟩
theorem fi_enumR (hg : Gl X "enumerate") (hm : X.mg "enumerate" = none) (ha : FE X e w) (hs : starEach [e] X.env = [(false, eval e X.env)] := by rfl) : FI X (.Tuple elts kk tpos) (.Call (.Name "enumerate" p) [e] [] pos) (iEnumR w) := by
  refine ⟨PI.imp (pi_enum hg hm (pa_cons ha.p pa_nil (by rw [hs]; rfl)) hs) fun σ H R ⟨env, S, m, R0, s, r, h, k⟩ => ?_⟩
  refine lift_k s r h fun x S1 u H1 m1 q1 e1 s1 v1 => ?_
  cases x with
  | ref i =>
    simp only [VR] at v1
    obtain ⟨a, rfl, h2⟩ := v1
    obtain ⟨xs, h3, q⟩ := q1
    obtain ⟨us, h4, h5⟩ := s1.lst h2 h3
    refine ⟨a, us, rfl, SqL.of h4, k _ _ _ _ q e1 s1 _ (WalkD.enum fun H m S e s o => ?_)⟩
    obtain ⟨us', h6, h7⟩ := s.lst (e.pre _ _ h2) o
    exact ⟨us', SqL.of h6, h7⟩
  | _ => exact q1.elim
/-- zip of two things by their values -/
def zOk (x : D) (xs : List D) : Sto → Prop := fun S => match x with | .ref p => S[p]? = some (.lst xs) | _ => True
def iZip (w1 w2 : WE) : WI := fun env S R => w1 env S fun x S1 => w2 env S1 fun y S2 => match x, y with
  | .tup xs, .tup ys => R ⟨zipD xs ys, fun _ => True⟩ S2
  | .ref p, .ref q => ∃ xs ys, S2[p]? = some (.lst xs) ∧ S2[q]? = some (.lst ys) ∧ R ⟨zipD xs ys, fun S => S[p]? = some (.lst xs) ∧ S[q]? = some (.lst ys)⟩ S2
  | _, _ => False
theorem zipD_len {xs ys : List D} : (zipD xs ys).length = min xs.length ys.length := by simp [zipD]
theorem WalkD.zipT {K : Frag} {m0 : List Addr} {H0 : Hp} {xs ys : List D} {us ws : List V} {a b : Addr} {ok : Sto → Prop} (ha : H0 a = some (.tup us)) (hb : H0 b = some (.tup ws)) (va : VRs K m0 H0 xs us) (vb : VRs K m0 H0 ys ws) : WalkD K m0 H0 (ItzT K a b) ⟨zipD xs ys, ok⟩ := by
  refine ⟨fun i H m S hi e s o => ?_, fun H m S e s o => ?_, fun i H m S x H' hi e s o y => ?_⟩
  · have hi' : i < min xs.length ys.length := by simpa [zipD_len] using hi
    obtain ⟨u, h3, h4⟩ := va.get (i := i) (x := xs[i]'(by omega)) (by simp)
    obtain ⟨v, h5, h6⟩ := vb.get (i := i) (x := ys[i]'(by omega)) (by simp)
    exact ⟨us, ws, u, v, SqT.of (e.tup _ _ ha), SqT.of (e.tup _ _ hb), h3, h5⟩
  · refine ⟨us, ws, SqT.of (e.tup _ _ ha), SqT.of (e.tup _ _ hb), ?_⟩
    show us.length ≤ (zipD xs ys).length ∨ ws.length ≤ (zipD xs ys).length
    rw [zipD_len, va.length, vb.length]; omega
  · have hi' : i < min xs.length ys.length := by simpa [zipD_len] using hi
    obtain ⟨T, z1, z2, rfl, hT, rfl, g1, g2⟩ := y
    obtain ⟨u, h3, h4⟩ := va.get (i := i) (x := xs[i]'(by omega)) (by simp)
    obtain ⟨v, h5, h6⟩ := vb.get (i := i) (x := ys[i]'(by omega)) (by simp)
    have e1 := g1 us (SqT.of (e.tup _ _ ha))
    have e2 := g2 ws (SqT.of (e.tup _ _ hb))
    rw [h3] at e1; cases e1
    rw [h5] at e2; cases e2
    obtain ⟨e5, s5, v5⟩ := pair_new s hT (h4.ext e.toEx) (h6.ext e.toEx)
    exact ⟨e5, s5, _, zipD_get (by simp) (by simp), v5⟩
theorem WalkD.zipL {K : Frag} {m0 : List Addr} {H0 : Hp} {xs ys : List D} {a b : Addr} {ok : Sto → Prop} (h : ∀ H m S, Ext K m0 H0 m H → SR K m H S → ok S → ∃ us ws, SqL K H a us ∧ SqL K H b ws ∧ VRs K m H xs us ∧ VRs K m H ys ws) : WalkD K m0 H0 (Itz K a b) ⟨zipD xs ys, ok⟩ := by
  refine ⟨fun i H m S hi e s o => ?_, fun H m S e s o => ?_, fun i H m S x H' hi e s o y => ?_⟩
  · obtain ⟨us, ws, ha, hb, va, vb⟩ := h H m S e s o
    have hi' : i < min xs.length ys.length := by simpa [zipD_len] using hi
    obtain ⟨u, h3, h4⟩ := va.get (i := i) (x := xs[i]'(by omega)) (by simp)
    obtain ⟨v, h5, h6⟩ := vb.get (i := i) (x := ys[i]'(by omega)) (by simp)
    exact ⟨us, ws, u, v, ha, hb, h3, h5⟩
  · obtain ⟨us, ws, ha, hb, va, vb⟩ := h H m S e s o
    refine ⟨us, ws, ha, hb, ?_⟩
    show us.length ≤ (zipD xs ys).length ∨ ws.length ≤ (zipD xs ys).length
    rw [zipD_len, va.length, vb.length]; omega
  · obtain ⟨us, ws, ha, hb, va, vb⟩ := h H m S e s o
    have hi' : i < min xs.length ys.length := by simpa [zipD_len] using hi
    obtain ⟨T, z1, z2, rfl, hT, rfl, g1, g2⟩ := y
    obtain ⟨u, h3, h4⟩ := va.get (i := i) (x := xs[i]'(by omega)) (by simp)
    obtain ⟨v, h5, h6⟩ := vb.get (i := i) (x := ys[i]'(by omega)) (by simp)
    have e1 := g1 us ha
    have e2 := g2 ws hb
    rw [h3] at e1; cases e1
    rw [h5] at e2; cases e2
    obtain ⟨e5, s5, v5⟩ := pair_new s hT h4 h6
    exact ⟨e5, s5, _, zipD_get (by simp) (by simp), v5⟩
theorem fi_zip (hg : Gl X "zip") (hm : X.mg "zip" = none) (h1 : FE X e w1) (h2 : FE X e2 w2)
    (hs : starEach [e, e2] X.env = (false, eval e X.env) :: starEach [e2] X.env := by rfl) (hs2 : starEach [e2] X.env = (false, eval e2 X.env) :: starEach [] X.env := by rfl) (hpl : (backTo pos (starEach [e2] X.env)).any (·.1) = false := by rfl) :
    FI X (.Tuple elts kk tpos) (.Call (.Name "zip" p) [e, e2] [] pos) (iZip w1 w2) := by
  refine ⟨PI.imp (pi_zipA hg hm (pa_cons h1.p (pa_cons h2.p pa_nil hs2) hs) hs hpl) fun σ H R ⟨env, S, m, R0, s, r, h, k⟩ => ?_⟩
  refine lift_k s r h fun x S1 u H1 m1 q1 e1 s1 v1 => ?_
  refine lift_k s1 (r.ext e1.toEx) q1 fun y S2 v H2 m2 q2 e2 s2 v2 => ?_
  have v1 := v1.ext e2.toEx
  cases x <;> cases y <;> first | exact q2.elim | skip
  · simp only [VR] at v1 v2
    obtain ⟨a, us, rfl, h3, h4⟩ := v1
    obtain ⟨b, ws, rfl, h5, h6⟩ := v2
    exact ⟨a, b, us, ws, rfl, .inr ⟨SqT.of h3, SqT.of h5, k _ _ _ _ q2 (e1.trans e2) s2 _ (WalkD.zipT h3 h5 h4 h6)⟩⟩
  · simp only [VR] at v1 v2
    obtain ⟨a, rfl, h3⟩ := v1
    obtain ⟨b, rfl, h5⟩ := v2
    obtain ⟨xs, ys, g1, g2, q⟩ := q2
    obtain ⟨us, h7, h8⟩ := s2.lst h3 g1
    obtain ⟨ws, h9, h10⟩ := s2.lst h5 g2
    refine ⟨a, b, us, ws, rfl, .inl ⟨SqL.of h7, SqL.of h9, k _ _ _ _ q (e1.trans e2) s2 _ (WalkD.zipL fun H m S e s o => ?_)⟩⟩
    obtain ⟨us', h11, h12⟩ := s.lst (e.pre _ _ h3) o.1
    obtain ⟨ws', h13, h14⟩ := s.lst (e.pre _ _ h5) o.2
    exact ⟨us', ws', SqL.of h11, SqL.of h13, h12, h14⟩
end
end Z
namespace Z
open PySem PySem.Spec PyProof.Rows L2 RZ

/-! t < u of tuples of flat things -/
def ltV : V → V → Option Bool
  | .int i, .int j => some (decide (i < j))
  | .str a, .str b => some (decide (a.cps.toList < b.cps.toList))
  | _, _ => none
def lexV : List V → List V → Option Bool
  | [], [] => some false
  | [], _ :: _ => some true
  | _ :: _, [] => some false
  | x :: xs, y :: ys => if L2.eqV x y = true then lexV xs ys else ltV x y
theorem rcLt_V {x y : V} {u v : Value} {r : Bool} (rx : RelV x u) (ry : RelV y v) (h : ltV x y = some r) (A : Around) (s : Shared) (prog : Program) (w : World) (E : Value → Shared → Prop) (Q : Value → Shared → Prop) (q : Q (.bool r) s) :
    wpAny (model prog w) A (richCompare .Lt u v) Q E s := by
  cases x <;> cases y <;> simp only [ltV, Option.some.injEq] at h <;> first | cases h | skip
  · obtain ⟨t, rfl⟩ := rx
    obtain ⟨t', rfl⟩ := ry
    exact (PyProof.Rows.lt_int q : wpAny (model prog w) A (compareOp .Lt _ _) Q E s)
  · obtain ⟨t, rfl⟩ := rx
    obtain ⟨t', rfl⟩ := ry
    exact (lt_str q : wpAny (model prog w) A (compareOp .Lt _ _) Q E s)
section
open PySem.SeqAt
open PySem.AutoSeq1 (wpAny_loadPart')
open PySem.MeetsSeq PySem.MeetsSeq2 PySem.MeetsSeq3
theorem tuple_lt_V (l b : Addr) (items items2 : Array Value) (n n2 : Nat) (dd dd2 : Option Addr) (sl sl2 : Array (Option Value)) (xs ys : List V) (rv : Bool) (hi : Vals xs items.toList) (hj : Vals ys items2.toList) (fx : xs.all flatV = true) (fy : ys.all flatV = true) (hl : lexV xs ys = some rv) :
    Meets (Builtin.«tuple.__lt__» ⟨[.ref l, .ref b], []⟩)
      (fun _ R s => s.heap.get? l = some { cls := .type "tuple", dict := dd, data := .seq items n, slots := sl } ∧ s.heap.get? b = some { cls := .type "tuple", dict := dd2, data := .seq items2 n2, slots := sl2 } ∧
        R (.ok (.ret (.bool rv))) s) :=
  .of_wp fun prog w A R s h => by
    obtain ⟨hp, g, d, tk, os⟩ := s; obtain ⟨hll, hb, h⟩ := h
    have f2 := AutoSeq1.sub_tuple_tuple
    have z1 : items.size = xs.length := by rw [hi.length]; simp
    have z2 : items2.size = ys.length := by rw [hj.length]; simp
    wp_walk using wpAny_loadPart' hll, wpAny_loadPart' hb, wpAny_forIn_list _ (fun rest b s' => b.1 = none ∧ s' = ⟨hp, g, d, tk, os⟩ ∧ ∃ (vs ws : List Value) (ns' ms' : List V), rest = vs.zip ws ∧
      Vals ns' vs ∧ Vals ms' ws ∧ ns'.all flatV = true ∧ ms'.all flatV = true ∧ ns'.length + items2.size = ms'.length + items.size ∧ ∃ rv', lexV ns' ms' = some rv' ∧ R (.ok (.ret (.bool rv'))) ⟨hp, g, d, tk, os⟩) _
    case turn =>
      rintro ⟨y, x⟩ rest b s' ⟨hb', rfl, vs, ws, ns', ms', hz, hvi, hwi, fn, fm, hlen, rv', hlex, hR⟩
      cases hvi with
      | nil => rw [List.zip_nil_left] at hz; cases hz
      | @cons a u _ _ ra hvi' =>
        cases hwi with
        | nil => rw [List.zip_nil_right] at hz; cases hz
        | @cons c v _ _ rc hwi' =>
          rw [List.zip_cons_cons] at hz
          injection hz with hyx hrest
          injection hyx with hy hx
          subst hy hx
          simp only [List.all_cons, Bool.and_eq_true] at fn fm
          simp only [List.length_cons] at hlen
          have he : EqAt A.in1 ⟨hp, g, d, tk, os⟩ y x (L2.eqV a c) := eqAt_V ra rc fn.1 fm.1
          refine wpAny_bind (he prog w _ _ ?_)
          unfold lexV at hlex
          cases e : L2.eqV a c with
          | true =>
            rw [if_pos e] at hlex
            wp_walk
            exact ⟨rfl, rfl, _, _, _, _, hrest, hvi', hwi', fn.2, fm.2, by omega, rv', hlex, hR⟩
          | false =>
            rw [if_neg (by rw [e]; exact Bool.false_ne_true)] at hlex
            have hri := rcLt_V ra rc hlex A.in1 ⟨hp, g, d, tk, os⟩ prog w
            wp_walk using hri
            exact ⟨_, rfl, by simpa using hR⟩
    case fin =>
      rintro ⟨b1, b2⟩ s' ⟨hb', rfl, vs, ws, ns', ms', hz, hvi, hwi, fn, fm, hlen, rv', hlex, hR⟩
      simp only at hb'
      subst hb'
      have hv : rv' = decide (items.size < items2.size) := by
        cases hvi with
        | nil =>
          cases hwi with
          | nil =>
            simp only [List.length_nil] at hlen
            simp only [lexV, Option.some.injEq] at hlex
            rw [← hlex]
            exact (decide_eq_false (by omega)).symm
          | cons u hw =>
            simp only [List.length_nil, List.length_cons] at hlen
            simp only [lexV, Option.some.injEq] at hlex
            rw [← hlex]
            exact (decide_eq_true (by omega)).symm
        | cons t hv =>
          cases hwi with
          | nil =>
            simp only [List.length_nil, List.length_cons] at hlen
            simp only [lexV, Option.some.injEq] at hlex
            rw [← hlex]
            exact (decide_eq_false (by omega)).symm
          | cons u hw =>
            rw [List.zip_cons_cons] at hz
            cases hz
      rw [hv] at hR
      wp_walk
      exact ⟨_, rfl, by simpa [Builtin.Tuple.tupleCompareSizes] using hR⟩
    case h =>
      exact ⟨rfl, rfl, items.toList, items2.toList, xs, ys, rfl, hi, hj, fx, fy, by omega, rv, hl, h⟩
end
def rLtF (K : Frag) : R2 := fun x y H Q => ∃ a b xs ys r, x = .ref a ∧ y = .ref b ∧ SqT K H a xs ∧ SqT K H b ys ∧ xs.all flatV = true ∧ ys.all flatV = true ∧ lexV xs ys = some r ∧ Q (.bl r) H
theorem op_ltF {X : Cx} (hu : X.A.units < cLine) : OpR X (compareOp .Lt) (rLtF X.K) := by
  intro pins s σ H x y v u Q I rx ry ⟨a, b, xs, ys, r, ex, ey, ha, hb, fx, fy, hl, q⟩
  subst ex; subst ey
  cases rx; cases ry
  obtain ⟨its, rv, ⟨⟨cls, dd, data, sl⟩, ho, hc, n, hd⟩, _⟩ := I.tuple ha
  obtain ⟨its2, rv2, ⟨⟨cls2, dd2, data2, sl2⟩, ho2, hc2, n2, hd2⟩, _⟩ := I.tuple hb
  simp only at hc hd hc2 hd2
  subst hc hd hc2 hd2
  exact richCompare_meets_room (op := .Lt) ⟨_, ho, rfl⟩ ⟨_, ho2, rfl⟩ PySem.F.slot_tuple_lt PySem.F.entry_tuple_lt (PySem.F.args_tuple_lt_2 _ _) (tuple_lt_V a b its.toArray its2.toArray n n2 dd dd2 sl sl2 xs ys r (by simpa using rv) (by simpa using rv2) fx fy hl)
    ⟨ho, ho2, show Value.bool r ≠ Value.notImplemented ∧ EP X pins σ Q (.bool r) s from ⟨(fun x => nomatch x), .bl r, H, I, rfl, q⟩⟩ hu

def ltD : D → D → Option Bool
  | .int i, .int j => some (decide (i < j))
  | .str a, .str b => some (decide (a.cps.toList < b.cps.toList))
  | _, _ => none
def lexD : List D → List D → Option Bool
  | [], [] => some false
  | [], _ :: _ => some true
  | _ :: _, [] => some false
  | x :: xs, y :: ys => cond (D.eqv x y) (lexD xs ys) (ltD x y)
/-- < of ints, texts, tuples of flat things -/
def dLtT : R2D := fun x y S Q => match x, y with
  | .int i, .int j => Q (.bl (decide (i < j))) S
  | .str a, .str b => Q (.bl (decide (a.cps.toList < b.cps.toList))) S
  | .tup xs, .tup ys => (xs.all D.flat = true ∧ ys.all D.flat = true) ∧ ∃ r, lexD xs ys = some r ∧ Q (.bl r) S
  | _, _ => False
theorem ltV_D {K : Frag} {m : List Addr} {H : Hp} {x y : D} {u v : V} (rx : VR K m H x u) (ry : VR K m H y v) {r : Bool} (h : ltD x y = some r) : ltV u v = some r := by
  cases x <;> cases y <;> simp only [ltD] at h <;> first | cases h | skip
  · simp only [VR] at rx ry; subst rx; subst ry; rfl
  · simp only [VR] at rx ry; subst rx; subst ry; rfl
theorem lexV_D {K : Frag} {m : List Addr} {H : Hp} : ∀ {xs ys : List D} {us vs : List V} {r : Bool}, VRs K m H xs us → VRs K m H ys vs → xs.all D.flat = true → ys.all D.flat = true → lexD xs ys = some r → lexV us vs = some r
  | [], [], _, _, r, h1, h2, _, _, h => by rw [h1.nil_inv, h2.nil_inv]; exact h
  | [], y :: ys, _, _, r, h1, h2, _, _, h => by obtain ⟨u, t, rfl, _, _⟩ := h2.cons_inv; rw [h1.nil_inv]; exact h
  | x :: xs, [], _, _, r, h1, h2, _, _, h => by obtain ⟨u, t, rfl, _, _⟩ := h1.cons_inv; rw [h2.nil_inv]; exact h
  | x :: xs, y :: ys, _, _, r, h1, h2, f1, f2, h => by
    obtain ⟨u, t, rfl, h3, h4⟩ := h1.cons_inv
    obtain ⟨v, t2, rfl, h5, h6⟩ := h2.cons_inv
    simp only [List.all_cons, Bool.and_eq_true] at f1 f2
    simp only [lexD] at h
    simp only [lexV]
    rw [h3.eqV h5 f1.1 f2.1]
    cases e : D.eqv x y with
    | true => rw [e] at h; rw [if_pos rfl]; exact lexV_D h4 h6 f1.2 f2.2 h
    | false => rw [e] at h; rw [if_neg Bool.false_ne_true]; exact ltV_D h3 h5 h
section
variable {X : Cx}
theorem op_ltB (hu : X.A.units < cLine) : OpR X (compareOp .Lt) (fun x y H Q => (fun x y H Q => rI0 (fun i j => .bl (decide (i < j))) x y H Q ∨ (fun x y H Q => ∃ i j, x = .str i ∧ y = .str j ∧ Q (.bl (decide (i.cps.toList < j.cps.toList))) H) x y H Q) x y H Q ∨ rLtF X.K x y H Q) := op_ltA.or (op_ltF hu)
theorem sim_ltB : Sim2 X.K (fun x y H Q => (fun x y H Q => rI0 (fun i j => .bl (decide (i < j))) x y H Q ∨ (fun x y H Q => ∃ i j, x = .str i ∧ y = .str j ∧ Q (.bl (decide (i.cps.toList < j.cps.toList))) H) x y H Q) x y H Q ∨ rLtF X.K x y H Q) dLtT := by
  intro m H S x y u v Q0 Q s rx ry h k
  cases x <;> cases y <;> simp only [dLtT] at h <;> first | exact h.elim | skip
  · simp only [VR] at rx ry; exact .inl (.inl ⟨_, _, rx, ry, k.v s h (by simp only [VR])⟩)
  · simp only [VR] at rx ry; exact .inl (.inr ⟨_, _, rx, ry, k.v s h (by simp only [VR])⟩)
  · simp only [VR] at rx ry
    obtain ⟨a, us, h1, h2, h3⟩ := rx
    obtain ⟨b, ws, h4, h5, h6⟩ := ry
    obtain ⟨⟨f1, f2⟩, r, h7, q⟩ := h
    exact .inr ⟨a, b, us, ws, r, h1, h4, SqT.of h2, SqT.of h5, h3.flat f1, h6.flat f2, lexV_D h3 h6 f1 f2 h7, k.v s q (by simp only [VR])⟩
end

/-! promises by the number of arguments -/
def sp1 (f : D → Sto → WK → Prop) : DSp := fun ds S Q _ => match ds with | [a] => f a S Q | _ => False
def sp2 (f : D → D → Sto → WK → Prop) : DSp := fun ds S Q _ => match ds with | [a, b] => f a b S Q | _ => False
def sp3 (f : D → D → D → Sto → WK → Prop) : DSp := fun ds S Q _ => match ds with | [a, b, c] => f a b c S Q | _ => False
def sp4 (f : D → D → D → D → Sto → WK → Prop) : DSp := fun ds S Q _ => match ds with | [a, b, c, d] => f a b c d S Q | _ => False
def sp5 (f : D → D → D → D → D → Sto → WK → Prop) : DSp := fun ds S Q _ => match ds with | [a, b, c, d, e] => f a b c d e S Q | _ => False
def sp6 (f : D → D → D → D → D → D → Sto → WK → Prop) : DSp := fun ds S Q _ => match ds with | [a, b, c, d, e, g] => f a b c d e g S Q | _ => False
section
variable {ds : List D} {S : Sto} {Q : WK} {E : DX}
theorem sp1_inv {f} (h : sp1 f ds S Q E) : ∃ a, ds = [a] ∧ f a S Q := by
  unfold sp1 at h; split at h; exact ⟨_, rfl, h⟩; exact h.elim
theorem sp2_inv {f} (h : sp2 f ds S Q E) : ∃ a b, ds = [a, b] ∧ f a b S Q := by
  unfold sp2 at h; split at h; exact ⟨_, _, rfl, h⟩; exact h.elim
theorem sp3_inv {f} (h : sp3 f ds S Q E) : ∃ a b c, ds = [a, b, c] ∧ f a b c S Q := by
  unfold sp3 at h; split at h; exact ⟨_, _, _, rfl, h⟩; exact h.elim
theorem sp4_inv {f} (h : sp4 f ds S Q E) : ∃ a b c d, ds = [a, b, c, d] ∧ f a b c d S Q := by
  unfold sp4 at h; split at h; exact ⟨_, _, _, _, rfl, h⟩; exact h.elim
theorem sp5_inv {f} (h : sp5 f ds S Q E) : ∃ a b c d e, ds = [a, b, c, d, e] ∧ f a b c d e S Q := by
  unfold sp5 at h; split at h; exact ⟨_, _, _, _, _, rfl, h⟩; exact h.elim
theorem sp6_inv {f} (h : sp6 f ds S Q E) : ∃ a b c d e g, ds = [a, b, c, d, e, g] ∧ f a b c d e g S Q := by
  unfold sp6 at h; split at h; exact ⟨_, _, _, _, _, _, rfl, h⟩; exact h.elim
theorem sp1_len {f} (h : sp1 f ds S Q E) : ds.length = 1 := by obtain ⟨a, rfl, _⟩ := sp1_inv h; rfl
theorem sp2_len {f} (h : sp2 f ds S Q E) : ds.length = 2 := by obtain ⟨a, b, rfl, _⟩ := sp2_inv h; rfl
theorem sp3_len {f} (h : sp3 f ds S Q E) : ds.length = 3 := by obtain ⟨a, b, c, rfl, _⟩ := sp3_inv h; rfl
theorem sp4_len {f} (h : sp4 f ds S Q E) : ds.length = 4 := by obtain ⟨a, b, c, d, rfl, _⟩ := sp4_inv h; rfl
theorem sp5_len {f} (h : sp5 f ds S Q E) : ds.length = 5 := by obtain ⟨a, b, c, d, e, rfl, _⟩ := sp5_inv h; rfl
theorem sp6_len {f} (h : sp6 f ds S Q E) : ds.length = 6 := by obtain ⟨a, b, c, d, e, g, rfl, _⟩ := sp6_inv h; rfl
end
abbrev Dend (Q : WK) : WEnds := { nx := fun _ S' => Q .non S', rt := Q }

/-! what stays in the store -/
structure Kp (S S' : Sto) (ex : List Nat) : Prop where
  len : S.length ≤ S'.length
  at_ : ∀ (j : Nat) (o : O), S[j]? = some o → j ∉ ex → S'[j]? = some o
theorem Kp.refl {S : Sto} {ex : List Nat} : Kp S S ex := ⟨Nat.le_refl _, fun _ _ h _ => h⟩
theorem Kp.trans {S S1 S2 : Sto} {ex : List Nat} (a : Kp S S1 ex) (b : Kp S1 S2 ex) : Kp S S2 ex := ⟨Nat.le_trans a.len b.len, fun j o h n => b.at_ j o (a.at_ j o h n) n⟩
theorem Kp.app {S l : Sto} {ex : List Nat} : Kp S (S ++ l) ex := ⟨by simp, fun j o h _ => by rw [List.getElem?_append_left (List.getElem?_eq_some_iff.mp h).1]; exact h⟩
theorem Kp.set {S : Sto} {ex : List Nat} {p : Nat} {o : O} (h : p ∈ ex) : Kp S (S.set p o) ex := ⟨by simp, fun j o' hj n => by rw [List.getElem?_set_ne (fun z => n (by rw [← z]; exact h))]; exact hj⟩
theorem Kp.mono {S S' : Sto} {ex ex' : List Nat} (a : Kp S S' ex) (h : ∀ j ∈ ex, j ∈ ex') : Kp S S' ex' := ⟨a.len, fun j o hj n => a.at_ j o hj fun z => n (h j z)⟩
/-- changes to what is new only -/
theorem Kp.new {S S' : Sto} {ex ex' : List Nat} (a : Kp S S' ex) (h : ∀ j ∈ ex, j < S.length → j ∈ ex') : Kp S S' ex' := ⟨a.len, fun j o hj n => a.at_ j o hj fun z => n (h j z (List.getElem?_eq_some_iff.mp hj).1)⟩
theorem Kp.get {S S' : Sto} {ex : List Nat} {j : Nat} {o : O} (a : Kp S S' ex) (h : S[j]? = some o) (n : j ∉ ex) : S'[j]? = some o := a.at_ j o h n
theorem getS_app {S l : Sto} {j : Nat} {o : O} (h : S[j]? = some o) : (S ++ l)[j]? = some o := by rw [List.getElem?_append_left (List.getElem?_eq_some_iff.mp h).1]; exact h
theorem getS_new {S : Sto} {o : O} {l : Sto} : (S ++ o :: l)[S.length]? = some o := by simp
theorem getS_set {S : Sto} {j : Nat} {o o' : O} (h : S[j]? = some o') : (S.set j o)[j]? = some o := by rw [List.getElem?_set_self (List.getElem?_eq_some_iff.mp h).1]
theorem getS_ne {S : Sto} {j k : Nat} {o o' : O} (h : S[j]? = some o') (n : k ≠ j) : (S.set k o)[j]? = some o' := by rw [List.getElem?_set_ne n]; exact h
theorem getS_lt {S : Sto} {j : Nat} {o : O} (h : S[j]? = some o) : j < S.length := (List.getElem?_eq_some_iff.mp h).1
theorem sizeL {n : Nat} (h : n ≤ 100000) : n < sizeLine := by rw [sizeLine_eq]; omega
theorem sizeLe {n : Nat} (h : n ≤ 100000) : n ≤ sizeLine := by rw [sizeLine_eq]; omega
end Z
namespace Z
open PySem PySem.Spec PyProof.Rows L2 RZ

/-! texts by their codes -/
theorem T_toList (l : List Nat) : (T l).cps.toList = l := by simp [T]
theorem T_len (l : List Nat) : (T l).length = l.length := by simp [T, PySem.Str.length]
theorem T_app (a b : List Nat) : T a ++ T b = T (a ++ b) := by
  show PySem.Str.append _ _ = _
  simp [T, PySem.Str.append]
theorem T_inj {a b : List Nat} (h : T a = T b) : a = b := by
  have := congrArg (fun s : Str => s.cps.toList) h
  simpa [T] using this
theorem T_eta (s : Str) : s = T s.cps.toList := by cases s; simp [T]
theorem T_dec (a b : List Nat) : decide (T a = T b) = decide (a = b) := by
  by_cases h : a = b
  · subst h; simp
  · rw [decide_eq_false h, decide_eq_false fun z => h (T_inj z)]
def letters : List Nat := [97, 98, 99, 100, 101, 102, 103, 104, 105, 106, 107, 108, 109, 110, 111, 112, 113, 114, 115, 116, 117, 118, 119, 120, 121, 122]
theorem letters_T : (Str.ofString "abcdefghijklmnopqrstuvwxyz") = T letters := by decide +kernel
theorem letters_get : ∀ k : Nat, k < 26 → letters[k]? = some (97 + k) := by decide
theorem letters_at {i : Int} (h0 : 0 ≤ i) (h1 : i < 26) : atI letters i = some (97 + i.toNat) := by
  have e : i = ((i.toNat : Nat) : Int) := by omega
  rw [e]
  exact atI_nat (letters_get _ (by omega))
theorem letters_mem {c : Nat} : c ∈ letters ↔ 97 ≤ c ∧ c < 123 := by
  constructor
  · intro h
    simp only [letters, List.mem_cons, List.not_mem_nil, or_false] at h
    omega
  · intro ⟨h1, h2⟩
    simp only [letters, List.mem_cons, List.not_mem_nil, or_false]
    omega
theorem cutS_T (l : List Nat) (lo hi : Option Int) : cutS (T l) lo hi = T ((l.drop (HT.sIx l.length 0 lo)).take (HT.sIx l.length l.length hi - HT.sIx l.length 0 lo)) := by
  unfold cutS
  rw [T_toList, T_len]
theorem sIx_some {n d : Nat} {i : Int} (h0 : 0 ≤ i) : HT.sIx n d (some i) = min i.toNat n := by
  have e : i = ((i.toNat : Nat) : Int) := by omega
  rw [e]; exact HT.sIx_nat _ _ _
theorem cutS_mid {l : List Nat} {i j : Int} (h0 : 0 ≤ i) (h1 : 0 ≤ j) : cutS (T l) (some i) (some j) = T ((l.drop i.toNat).take (j.toNat - i.toNat)) := by
  rw [cutS_T, sIx_some h0, sIx_some h1]
  congr 1
  by_cases h : i.toNat ≤ l.length
  · rw [Nat.min_eq_left h]
    by_cases h2 : j.toNat ≤ l.length
    · rw [Nat.min_eq_left h2]
    · rw [Nat.min_eq_right (by omega)]
      rw [List.take_of_length_le (by simp), List.take_of_length_le (by simp; omega)]
  · rw [Nat.min_eq_right (show l.length ≤ i.toNat by omega), List.drop_of_length_le (Nat.le_refl _), List.drop_of_length_le (show l.length ≤ i.toNat by omega)]
    simp
theorem cutS_to {l : List Nat} {j : Int} (h1 : 0 ≤ j) : cutS (T l) none (some j) = T (l.take j.toNat) := by
  rw [cutS_T, sIx_some h1, HT.sIx_none, Nat.sub_zero, List.drop_zero]
  congr 1
  by_cases h2 : j.toNat ≤ l.length
  · rw [Nat.min_eq_left h2]
  · rw [Nat.min_eq_right (by omega), List.take_of_length_le (by simp), List.take_of_length_le (by omega)]
theorem cutS_from {l : List Nat} {i : Int} (h1 : 0 ≤ i) : cutS (T l) (some i) none = T (l.drop i.toNat) := by
  rw [cutS_T, sIx_some h1, HT.sIx_none]
  congr 1
  by_cases h : i.toNat ≤ l.length
  · rw [Nat.min_eq_left h, List.take_of_length_le (by simp)]
  · rw [Nat.min_eq_right (by omega), List.drop_of_length_le (Nat.le_refl _), List.drop_of_length_le (by omega)]; simp
/-! slices of lists -/
theorem cutD_mid {l : List D} {i j : Int} (h0 : 0 ≤ i) (h1 : 0 ≤ j) : cutD l (some i) (some j) = (l.drop i.toNat).take (j.toNat - i.toNat) := by
  unfold cutD
  rw [sIx_some h0, sIx_some h1]
  by_cases h : i.toNat ≤ l.length
  · rw [Nat.min_eq_left h]
    by_cases h2 : j.toNat ≤ l.length
    · rw [Nat.min_eq_left h2]
    · rw [Nat.min_eq_right (by omega)]
      rw [List.take_of_length_le (by simp), List.take_of_length_le (by simp; omega)]
  · rw [Nat.min_eq_right (show l.length ≤ i.toNat by omega), List.drop_of_length_le (Nat.le_refl _), List.drop_of_length_le (show l.length ≤ i.toNat by omega)]
    simp
theorem cutD_to {l : List D} {j : Int} (h1 : 0 ≤ j) : cutD l none (some j) = l.take j.toNat := by
  unfold cutD
  rw [sIx_some h1, HT.sIx_none, Nat.sub_zero, List.drop_zero]
  by_cases h2 : j.toNat ≤ l.length
  · rw [Nat.min_eq_left h2]
  · rw [Nat.min_eq_right (by omega), List.take_of_length_le (by simp), List.take_of_length_le (by omega)]
theorem cutD_from {l : List D} {i : Int} (h1 : 0 ≤ i) : cutD l (some i) none = l.drop i.toNat := by
  unfold cutD
  rw [sIx_some h1, HT.sIx_none]
  by_cases h : i.toNat ≤ l.length
  · rw [Nat.min_eq_left h, List.take_of_length_le (by simp)]
  · rw [Nat.min_eq_right (by omega), List.drop_of_length_le (Nat.le_refl _), List.drop_of_length_le (by omega)]; simp
/-! joined, multiplied, looked for -/
theorem join_T : ∀ ls : List (List Nat), Txt.join "" (ls.map T) = T ls.flatten := by
  intro ls
  have h : (Txt.join "" (ls.map T)).cps.toList = ls.flatten := by
    rw [TL.join_eq]
    have e := TL.tl_join "" (ls.map T)
    have e2 : ∀ ls : List (List Nat), TL.joinL [] ls = ls.flatten := by
      intro ls
      induction ls with
      | nil => rfl
      | cons a r ih =>
        cases r with
        | nil => simp [TL.joinL]
        | cons b r => rw [TL.joinL, ih]; simp
    have e3 : TL.tl (Str.ofString "") = [] := by decide +kernel
    rw [e3, e2] at e
    have e4 : (ls.map T).map TL.tl = ls := by
      rw [List.map_map]
      conv => rhs; rw [← List.map_id ls]
      apply List.map_congr_left
      intro a _
      exact T_toList a
    rw [e4] at e
    exact e
  rw [T_eta (Txt.join "" (ls.map T)), h]
theorem mul_T0 (l : List Nat) : strMul (T l) 0 = T [] := by
  unfold strMul Txt.mul
  rw [if_pos (by decide)]; rfl
theorem mul_T1 (l : List Nat) : strMul (T l) 1 = T l := by
  unfold strMul Txt.mul
  rw [if_neg (by decide), if_pos (by simp)]
theorem index_letters : ∀ k : Nat, k < 26 → Txt.index0 (T letters) (T [97 + k]) = some k := by decide +kernel
theorem okD_str {l : List Nat} (h : ∀ c ∈ l, c < 1114112) : okD (.str (T l)) := by
  refine ⟨by simp only [D.plain], ?_⟩
  simp only [D.pd, SeqAt.shaped, PyData.canLay0, PyData.strOk, Bool.and_eq_true, decide_eq_true_eq]
  refine ⟨?_, by simp [PyData.depth]⟩
  rw [Array.all_eq_true']
  intro c hc
  have : c ∈ l := by simpa [T] using hc
  simpa using h c this
end Z
namespace Z
open PySem PySem.Spec PyProof.Rows L2 RZ
theorem seq_nat {n j : Nat} (h : j < n) : seqIndex? (j : Int) n = some j := by
  refine (ixN_seq (n := n) (i := (j : Int)) (j := j) ?_).1
  unfold ixN
  rw [if_pos (by omega), if_pos (by omega)]; simp
theorem seq_zero {n : Nat} (h : 0 < n) : seqIndex? 0 n = some 0 := seq_nat h
theorem plains_map {α : Type} (f : α → D) (h : ∀ a, (f a).plain = true) : ∀ l : List α, D.plains (l.map f) = true
  | [] => by simp only [List.map_nil, D.plains]
  | a :: l => by simp only [List.map_cons, D.plains, h a, plains_map f h l, Bool.and_true]
theorem okL_of {xs : List D} (h : D.plains xs = true) (h2 : PyData.canLayAll0 (D.pds xs) = true) (h3 : (PyData.list (D.pds xs)).depth ≤ 64) : okL xs := by
  refine ⟨h, ?_⟩
  simp only [SeqAt.shaped, PyData.canLay0, Bool.and_eq_true, decide_eq_true_eq]
  exact ⟨h2, h3⟩
/-! what == asks: depths and codes -/
mutual
def D.dep : D → Nat
  | .tup xs => D.deps xs + 1
  | .rol xs => D.deps xs + 1
  | _ => 0
def D.deps : List D → Nat
  | [] => 0
  | x :: xs => max (D.dep x) (D.deps xs)
end
mutual
/-- data that == may be asked of -/
def D.fit : D → Prop
  | .non | .bl _ | .int _ => True
  | .str x => ∀ c ∈ x.cps.toList, c < 1114112
  | .tup xs => D.fits xs
  | .rol xs => D.fits xs
  | _ => False
def D.fits : List D → Prop
  | [] => True
  | x :: xs => D.fit x ∧ D.fits xs
end
mutual
theorem fit_plain : ∀ {x : D}, x.fit → x.plain = true ∧ PyData.canLay0 x.pd = true ∧ x.pd.depth = x.dep
  | .non, _ => by simp [D.plain, D.pd, PyData.canLay0, PyData.depth, D.dep]
  | .bl _, _ => by simp [D.plain, D.pd, PyData.canLay0, PyData.depth, D.dep]
  | .int _, _ => by simp [D.plain, D.pd, PyData.canLay0, PyData.depth, D.dep]
  | .str x, h => by
    simp only [D.fit] at h
    refine ⟨by simp [D.plain], ?_, by simp [D.pd, PyData.depth, D.dep]⟩
    simp only [D.pd, PyData.canLay0, PyData.strOk]
    rw [Array.all_eq_true']
    intro c hc
    simpa using h c (by simpa using hc)
  | .tup xs, h => by
    simp only [D.fit] at h
    obtain ⟨h1, h2, h3⟩ := fits_plain h
    exact ⟨by simpa [D.plain] using h1, by simpa [D.pd, PyData.canLay0] using h2, by simp [D.pd, PyData.depth, D.dep, h3]⟩
  | .rol xs, h => by
    simp only [D.fit] at h
    obtain ⟨h1, h2, h3⟩ := fits_plain h
    exact ⟨by simpa [D.plain] using h1, by simpa [D.pd, PyData.canLay0] using h2, by simp [D.pd, PyData.depth, D.dep, h3]⟩
  | .ref _, h => by simp [D.fit] at h
  | .ty _, h => by simp [D.fit] at h
  | .cst _, h => by simp [D.fit] at h
theorem fits_plain : ∀ {xs : List D}, D.fits xs → D.plains xs = true ∧ PyData.canLayAll0 (D.pds xs) = true ∧ PyData.depthAll (D.pds xs) = D.deps xs
  | [], _ => by simp [D.plains, D.pds, PyData.canLayAll0, PyData.depthAll, D.deps]
  | x :: xs, h => by
    simp only [D.fits] at h
    obtain ⟨h1, h2, h3⟩ := fit_plain h.1
    obtain ⟨h4, h5, h6⟩ := fits_plain h.2
    simp [D.plains, D.pds, PyData.canLayAll0, PyData.depthAll, D.deps, h1, h2, h3, h4, h5, h6]
end
theorem okD_fit {x : D} (h : x.fit) (hd : x.dep ≤ 60) : okD x := by
  obtain ⟨h1, h2, h3⟩ := fit_plain h
  exact ⟨h1, by simp only [SeqAt.shaped, Bool.and_eq_true, decide_eq_true_eq]; exact ⟨h2, by omega⟩⟩
theorem okL_fit {xs : List D} (h : D.fits xs) (hd : D.deps xs ≤ 60) : okL xs := by
  obtain ⟨h1, h2, h3⟩ := fits_plain h
  refine okL_of h1 h2 ?_
  simp only [PyData.depth]; omega
theorem fits_map {α : Type} (f : α → D) : ∀ (l : List α), (∀ a ∈ l, (f a).fit) → D.fits (l.map f)
  | [], _ => by simp [D.fits]
  | a :: l, h => by
    simp only [List.map_cons, D.fits]
    exact ⟨h a List.mem_cons_self, fits_map f l fun b hb => h b (List.mem_cons_of_mem _ hb)⟩
theorem deps_map {α : Type} (f : α → D) (n : Nat) : ∀ (l : List α), (∀ a ∈ l, (f a).dep ≤ n) → D.deps (l.map f) ≤ n
  | [], _ => by simp [D.deps]
  | a :: l, h => by
    simp only [List.map_cons, D.deps]
    have := h a List.mem_cons_self
    have := deps_map f n l fun b hb => h b (List.mem_cons_of_mem _ hb)
    omega
theorem okL_ints (l : List Int) : okL (l.map D.int) := okL_fit (fits_map _ _ fun a _ => by simp [D.fit]) (Nat.le_trans (deps_map _ 0 _ fun a _ => by simp [D.dep]) (by omega))
theorem okL_nil : okL [] := okL_ints []
theorem cmul_r {i j : Int} (h : -(2 ^ 64) < j ∧ j < 2 ^ 64) : CMul i j ∨ CMulW i j := .inl (.inr h)
theorem cmul_l {i j : Int} (h : -(2 ^ 64) < i ∧ i < 2 ^ 64) : CMul i j ∨ CMulW i j := .inl (.inl h)
theorem cdiv_s {i j : Int} (h : 0 < j) (h2 : j < 1073741824) : CDiv i j ∨ CDivW i j := .inl ⟨h, h2⟩
end Z
namespace Z
open PySem PySem.Spec PyProof.Rows L2 RZ
theorem alpha_list : (Str.ofString "abcdefghijklmnopqrstuvwxyz").cps.toList = letters := by rw [letters_T, T_toList]
theorem alpha_at {i : Int} (h0 : 0 ≤ i) (h1 : i < 26) : atI (Str.ofString "abcdefghijklmnopqrstuvwxyz").cps.toList i = some (97 + i.toNat) := by rw [alpha_list]; exact letters_at h0 h1
theorem alpha_len : (Str.ofString "abcdefghijklmnopqrstuvwxyz").length ≤ sizeLine := by rw [letters_T, T_len]; exact sizeLe (by decide)
theorem alpha_index {c : Nat} (h : c < 26) : Txt.index0 (Str.ofString "abcdefghijklmnopqrstuvwxyz") (T [97 + c]) = some c := by rw [letters_T]; exact index_letters c h
theorem T_at {l : List Nat} {i : Nat} {c : Nat} (h : l[i]? = some c) : atI (T l).cps.toList (i : Int) = some c := by rw [T_toList]; exact atI_nat h
theorem join_signs (ls : List Nat) : Txt.join "" (ls.map fun c => T [c]) = T ls := by
  have h := join_T (ls.map fun c => [c])
  rw [List.map_map] at h
  have e : ∀ r : List Nat, (r.map fun c => [c]).flatten = r := by
    intro r
    induction r with
    | nil => rfl
    | cons a r ih => simp only [List.map_cons, List.flatten_cons, ih, List.cons_append, List.nil_append]
  rw [e ls] at h
  exact h
theorem map_get {α β : Type} {f : α → β} {l : List α} {i : Nat} {d : β} (h : (l.map f)[i]? = some d) : ∃ a, l[i]? = some a ∧ d = f a := by
  rw [List.getElem?_map] at h
  cases e : l[i]? with
  | none => rw [e] at h; cases h
  | some a => rw [e] at h; exact ⟨a, rfl, (Option.some.inj h).symm⟩
theorem range_get {lo : Int} {n i : Nat} {d : D} (h : (rangeD lo n)[i]? = some d) : i < n ∧ d = .int (lo + i) := by
  have hi := (List.getElem?_eq_some_iff.mp h).1
  rw [rangeD_len] at hi
  rw [rangeD_get hi] at h
  exact ⟨hi, (Option.some.inj h).symm⟩
theorem lex_pair (w w' : Int) (n n' : Str) : lexD [.int w, .str n] [.int w', .str n'] = some (decide (w < w' ∨ (w = w' ∧ n.cps.toList < n'.cps.toList))) := by
  simp only [lexD, D.eqv, ltD]
  by_cases h1 : w = w'
  · subst h1
    have e : (w == w) = true := by simp
    rw [e]
    show cond (n == n') _ _ = _
    by_cases h2 : n = n'
    · subst h2
      have e : (n == n) = true := by simp
      rw [e]
      show some false = _
      congr 1
      exact (decide_eq_false (by rintro (h | ⟨_, h⟩); omega; exact absurd h (List.lt_irrefl _))).symm
    · have e : (n == n') = false := by simpa using h2
      rw [e]
      show some _ = _
      congr 1
      rw [Bool.eq_iff_iff]; simp
  · have e : (w == w') = false := by simpa using h1
    rw [e]
    show some _ = _
    congr 1
    rw [Bool.eq_iff_iff]; simp [h1]
theorem range_map_succ {α : Type} (f : Nat → α) (i : Nat) : (List.range (i + 1)).map f = (List.range i).map f ++ [f i] := by rw [List.range_succ, List.map_append]; rfl
theorem range_map_nodup {α : Type} {f : Nat → α} {n : Nat} (h : ∀ i j, i < n → j < n → f i = f j → i = j) : ((List.range n).map f).Nodup := by
  unfold List.Nodup
  rw [List.pairwise_map]
  refine List.Pairwise.imp_of_mem ?_ (List.nodup_range (n := n))
  intro a b ha hb hab e
  exact hab (h a b (List.mem_range.mp ha) (List.mem_range.mp hb) e)
theorem signs_sum : ∀ ls : List Nat, ((ls.map fun c => T [c]).map (·.length)).sum = ls.length
  | [] => rfl
  | a :: r => by
    have := signs_sum r
    simp only [List.map_cons, List.sum_cons, List.length_cons]
    rw [this, T_len]; simp; omega
theorem join_size (ls : List Nat) (h : ls.length ≤ 1000) : ((ls.map fun c => T [c]).map (·.length)).sum + (ls.map fun c => T [c]).length * (Str.ofString "").length ≤ 16777216 := by
  have e : (Str.ofString "").length = 0 := by decide +kernel
  rw [signs_sum, e]; omega
theorem list_tri : ∀ (a b : List Nat), a ≠ b → (a < b ↔ ¬ b < a)
  | [], [], h => absurd rfl h
  | [], _ :: _, _ => by simp
  | _ :: _, [], _ => by simp
  | x :: xs, y :: ys, h => by
    rw [List.cons_lt_cons_iff, List.cons_lt_cons_iff]
    by_cases e : x = y
    · subst e
      have ih := list_tri xs ys (fun z => h (by rw [z]))
      simp only [Nat.lt_irrefl, false_or, true_and]
      exact ih
    · constructor
      · rintro (h1 | ⟨h1, _⟩)
        · rintro (h2 | ⟨h2, _⟩) <;> omega
        · exact absurd h1 e
      · intro h1
        refine .inl ?_
        have : ¬ y < x := fun z => h1 (.inl z)
        omega
theorem eqv_tup4 (n n' : Str) (a b c a' b' c' : Int) : D.eqv (.tup [.str n, .int a, .int b, .int c]) (.tup [.str n', .int a', .int b', .int c']) = decide (n = n' ∧ a = a' ∧ b = b' ∧ c = c') := by
  simp only [D.eqv, D.eqvs]
  rw [Bool.eq_iff_iff]; simp
theorem cutD_map {α : Type} (f : α → D) (l : List α) (lo hi : Option Int) : cutD (l.map f) lo hi = ((l.drop (HT.sIx l.length 0 lo)).take (HT.sIx l.length l.length hi - HT.sIx l.length 0 lo)).map f := by
  unfold cutD
  rw [List.length_map, List.map_take, List.map_drop]
end Z
namespace Z
open PySem PySem.Spec PyProof.Rows L2 RZ

/-! list(range(..)) -/
def lRange1 (w : WE) : WA := fun env S Q => w env S fun x S1 => match x with | .int j => RgOk 0 j ∧ Q (rangeD 0 j.toNat) S1 | _ => False
def lRange2 (w u : WE) : WA := fun env S Q => w env S fun x S1 => u env S1 fun y S2 => match x, y with | .int i, .int j => RgOk i j ∧ Q (rangeD i (j - i).toNat) S2 | _, _ => False
theorem vrs_range {K : Frag} {m : List Addr} {H : Hp} (a b : Int) : VRs K m H (rangeD a (b - a).toNat) (rgV a b) := by
  have e : rangeD a (b - a).toNat = ((List.range (b - a).toNat).map fun i : Nat => a + (i : Int)).map D.int := by unfold rangeD; rw [List.map_map]; rfl
  have e2 : rgV a b = ((List.range (b - a).toNat).map fun i : Nat => a + (i : Int)).map V.int := by unfold rgV; rw [List.map_map]; rfl
  rw [e, e2]; exact VRs.of_ints _
section
variable {X : Cx} {a b e o : Expr} {es : List Expr} {w wa wb wo : WE} {wr wq : WA} {p p2 pos pos2 apos cpos : Pos}
theorem fl_range1 (hc : X.calm = true) (hg : Gl X "list") (hm : X.mg "list" = none) (hg2 : Gl X "range") (hm2 : X.mg "range" = none) (ha : FE X a w) (na : starEach [a] X.env = (false, eval a X.env) :: starEach [] X.env := by rfl)
    (nb : starEach [.Call (.Name "range" p2) [a] [] pos2] X.env = (false, eval (.Call (.Name "range" p2) [a] [] pos2) X.env) :: starEach [] X.env := by rfl) : FL X (.Call (.Name "list" p) [.Call (.Name "range" p2) [a] [] pos2] [] pos) (lRange1 w) := by
  refine ⟨PE.imp (pe_listRg hc hg hm (prg_1 hg2 hm2 ha.p na) nb) fun σ H Q ⟨env, S, m, Q0, s, r, h, k⟩ => ?_⟩
  refine lift_k s r h fun x S1 u H1 m1 q1 e1 s1 v1 => ?_
  cases x with
  | int j =>
    simp only [VR] at v1
    refine ⟨j, v1, q1.1, fun q hq => ?_⟩
    have v := vrs_range (K := X.K) (m := m1) (H := H1) 0 j
    rw [Int.sub_zero] at v
    exact k.lst e1 s1 v hq (e1.back s1 hq) q1.2
  | _ => exact q1.elim
theorem fl_range2 (hc : X.calm = true) (hg : Gl X "list") (hm : X.mg "list" = none) (hg2 : Gl X "range") (hm2 : X.mg "range" = none) (ha : FE X a wa) (hb : FE X b wb) (na : starEach [a, b] X.env = (false, eval a X.env) :: starEach [b] X.env := by rfl) (nc : starEach [b] X.env = (false, eval b X.env) :: starEach [] X.env := by rfl) (hpl : (backTo pos2 (starEach [b] X.env)).any (·.1) = false := by rfl)
    (nb : starEach [.Call (.Name "range" p2) [a, b] [] pos2] X.env = (false, eval (.Call (.Name "range" p2) [a, b] [] pos2) X.env) :: starEach [] X.env := by rfl) : FL X (.Call (.Name "list" p) [.Call (.Name "range" p2) [a, b] [] pos2] [] pos) (lRange2 wa wb) := by
  refine ⟨PE.imp (pe_listRg hc hg hm (prg_2 hg2 hm2 ha.p hb.p na nc (hp := hpl)) nb) fun σ H Q ⟨env, S, m, Q0, s, r, h, k⟩ => ?_⟩
  refine lift_k s r h fun x S1 u H1 m1 q1 e1 s1 v1 => ?_
  refine lift_k s1 (r.ext e1.toEx) q1 fun y S2 v H2 m2 q2 e2 s2 v2 => ?_
  cases x <;> cases y <;> first | exact q2.elim | skip
  simp only [VR] at v1 v2
  refine ⟨_, _, v1, v2, q2.1, fun q hq => ?_⟩
  exact k.lst (e1.trans e2) s2 (vrs_range _ _) hq ((e1.trans e2).back s2 hq) q2.2
end

/-! len(set(ints)) -/
theorem firstMet_mem (ns : List Int) : ∀ i, i ≤ ns.length → (firstMet (fun i => ns.getD i 0) i).Nodup ∧ ∀ x, x ∈ firstMet (fun i => ns.getD i 0) i ↔ x ∈ ns.take i
  | 0, _ => ⟨by rw [firstMet_zero]; exact List.nodup_nil, fun x => by rw [firstMet_zero]; simp⟩
  | i + 1, hi => by
    obtain ⟨h1, h2⟩ := firstMet_mem ns i (by omega)
    have hlt : i < ns.length := hi
    have e1 : ns.getD i 0 = ns[i] := by rw [List.getD_eq_getElem?_getD, List.getElem?_eq_getElem hlt]; rfl
    have e2 : ns.take (i + 1) = ns.take i ++ [ns[i]] := by rw [List.take_add_one, List.getElem?_eq_getElem hlt]; rfl
    rw [firstMet_succ, e2]
    show (if (firstMet (fun i => ns.getD i 0) i).any (· == ns.getD i 0) then firstMet (fun i => ns.getD i 0) i else firstMet (fun i => ns.getD i 0) i ++ [ns.getD i 0]).Nodup ∧ ∀ x, x ∈ (if (firstMet (fun i => ns.getD i 0) i).any (· == ns.getD i 0) then firstMet (fun i => ns.getD i 0) i else firstMet (fun i => ns.getD i 0) i ++ [ns.getD i 0]) ↔ _
    rw [e1]
    by_cases hb : ns[i] ∈ firstMet (fun i => ns.getD i 0) i
    · have : (firstMet (fun i => ns.getD i 0) i).any (· == ns[i]) = true := List.any_eq_true.mpr ⟨_, hb, by simp⟩
      rw [if_pos this]
      refine ⟨h1, fun x => ?_⟩
      rw [List.mem_append, h2]
      refine ⟨.inl, fun h => h.elim id fun h => ?_⟩
      rw [List.mem_singleton.mp h]; exact (h2 _).mp hb
    · have : ¬ (firstMet (fun i => ns.getD i 0) i).any (· == ns[i]) = true := fun h => by
        obtain ⟨y, hy, ey⟩ := List.any_eq_true.mp h
        rw [eq_of_beq ey] at hy; exact hb hy
      rw [if_neg this]
      refine ⟨?_, fun x => by rw [List.mem_append, List.mem_append, h2]⟩
      rw [List.nodup_append]
      exact ⟨h1, by simp, fun a ha b hb' z => hb (by rw [← List.mem_singleton.mp hb', ← z]; exact ha)⟩
def tLenSetA (K : Frag) (ta : TE) : TE := fun σ H Q => ta σ H fun x H1 => ∃ (l : Addr) (ns : List Int), x = .ref l ∧ SqL K H1 l (ns.map V.int) ∧ ns.length ≤ 4000 ∧ ∀ us : List Int, us.Nodup → (∀ x, x ∈ us ↔ x ∈ ns) → Q (.int (us.length : Nat)) H1
theorem pe_lenSetA {X : Cx} {a : Expr} {ta : TE} {p p2 q pos : Pos} (hg : Gl X "len") (hm : X.mg "len" = none) (hg2 : Gl X "set") (hm2 : X.mg "set" = none) (ha : PE X a ta) (hc : X.calm = true := by rfl)
    (na : starEach [a] X.env = (false, eval a X.env) :: starEach [] X.env := by rfl) : PE X (.Call (.Name "len" p) [.Call (.Name "set" p2) [a] [] q] [] pos) (tLenSetA X.K ta) := by
  refine ⟨fun pins s σ H Q I h => ?_⟩
  refine Call_ (ld_blt I hg hm boot_len ?_)
  refine PyProof.Rows.callWith_builtin1 (PyProof.Rows.args_cons ?_ rfl) rfl rfl
  refine Call_ (ld_blt I hg2 hm2 boot_set ?_)
  refine PyProof.Rows.callWith_type1 (PyProof.Rows.args_cons (thn (ha.run pins s σ H _ I h) fun v s1 ⟨x, H1, I1, r1, q1⟩ => PyProof.Rows.args_nil ?_) na) na rfl
  obtain ⟨l, ns, rfl, hq, hl, q1⟩ := q1
  cases r1
  obtain ⟨its, r, pl, hz⟩ := I1.list hq
  have hlen : its.toArray.size = ns.length := by rw [List.size_toArray, ← r.length, List.length_map]
  refine call_set_list (I1.ok.hd hc) pl.isList (by simpa using intsAre_vals r) (by rw [hlen]; unfold scanBound; omega) fun h' tk hS hk => ?_
  refine PyProof.Rows.args_nil ?_
  rw [hlen] at hS
  obtain ⟨h1, h2⟩ := firstMet_mem ns ns.length (Nat.le_refl _)
  rw [List.take_length] at h2
  have h3 := firstMet_length_le (fun i => ns.getD i 0) ns.length
  generalize firstMet (fun i => ns.getD i 0) ns.length = us at hS h1 h2 h3
  obtain ⟨o, es, ep, t, ho, hex, hd, _, _, _, hf, hn⟩ := hS
  have I2 : Inv X pins σ H1 { s1 with heap := h', toks := tk } := I1.kept fun b o e => hk b o (Heap.lt_size e) e
  exact call_len_set ho hex hd hf (by rw [hn] <;> omega) ⟨.int us.length, H1, I2.tok _, ⟨_, by rw [hn]⟩, q1 us h1 h2⟩
def lenSetK (xs : List D) (S : Sto) (Q : WK) : Prop := ∃ ns : List Int, xs = ns.map D.int ∧ ns.length ≤ 4000 ∧ ∀ us : List Int, us.Nodup → (∀ x, x ∈ us ↔ x ∈ ns) → Q (.int (us.length : Nat)) S
def wLenSet (w : WE) : WE := fun env S Q => w env S fun x S1 => match x with | .ref p => ∃ xs, S1[p]? = some (.lst xs) ∧ lenSetK xs S1 Q | _ => False
def wLenSetL (w : WA) : WE := fun env S Q => w env S fun xs S1 => lenSetK xs S1 Q
section
variable {X : Cx} {a b e o : Expr} {es : List Expr} {w wa wb wo : WE} {wr wq : WA} {p p2 q pos pos2 apos cpos : Pos}
theorem fe_lenSet (hg : Gl X "len") (hm : X.mg "len" = none) (hg2 : Gl X "set") (hm2 : X.mg "set" = none) (hc : X.calm = true) (ha : FE X a w) (na : starEach [a] X.env = (false, eval a X.env) :: starEach [] X.env := by rfl) : FE X (.Call (.Name "len" p) [.Call (.Name "set" p2) [a] [] q] [] pos) (wLenSet w) := by
  refine ⟨PE.imp (pe_lenSetA hg hm hg2 hm2 ha.p hc na) fun σ H Q ⟨env, S, m, Q0, s, r, h, k⟩ => ?_⟩
  refine lift_k s r h fun x S1 u H1 m1 q1 e1 s1 v1 => ?_
  cases x with
  | ref i =>
    simp only [VR] at v1
    obtain ⟨a, rfl, h2⟩ := v1
    obtain ⟨xs, h3, ns, rfl, h4, q⟩ := q1
    obtain ⟨us, h5, h6⟩ := s1.lst h2 h3
    rw [h6.ints] at h5
    exact ⟨a, ns, rfl, SqL.of h5, h4, fun us h7 h8 => (k.ext e1).v s1 (q us h7 h8) (by simp only [VR])⟩
  | _ => exact q1.elim
theorem fe_lenSetL (hg : Gl X "len") (hm : X.mg "len" = none) (hg2 : Gl X "set") (hm2 : X.mg "set" = none) (hc : X.calm = true) (ha : FL X a wq) (na : starEach [a] X.env = (false, eval a X.env) :: starEach [] X.env := by rfl) : FE X (.Call (.Name "len" p) [.Call (.Name "set" p2) [a] [] q] [] pos) (wLenSetL wq) := by
  refine ⟨PE.imp (pe_lenSetA hg hm hg2 hm2 ha.p hc na) fun σ H Q ⟨env, S, m, Q0, s, r, h, k⟩ => ?_⟩
  refine ⟨env, S, m, _, s, r, h, fun xs S1 a us H1 m1 q1 e1 s1 h0 nm ha v1 => ?_⟩
  obtain ⟨ns, rfl, h4, q⟩ := q1
  rw [v1.ints] at ha
  exact ⟨a, ns, rfl, SqL.of ha, h4, fun us h7 h8 => (k.ext e1).v s1 (q us h7 h8) (by simp only [VR])⟩
end
end Z
namespace K30
open PySem PySem.Spec PyProof.Rows L2 Z
def sp_is_name : DSp := sp1 fun _ _ _ => False
def N_is_name : List Str := ["thing", "sign"]
def sem_is_name_1 : WS := (sRet (wQ dAll (lLc (iSeq (wVar 0)) (gNameD 1) tYesD (wOp dIn (wVar 1) (wC (.str "abcdefghijklmnopqrstuvwxyz"))) [1])))
def sem_is_name : WS := (sSeq (sIf (tOrD (tNotD (tOf (wIsi .str (wVar 0)))) (tNotD (tOf (wCh dLe dLe (wC (.int 1)) (wLen (wVar 0)) (wC (.int 8)))))) (sRet (wC (.bl false))) sNext) sem_is_name_1)
theorem len_is_name (ds S Q E) (h : sp_is_name ds S Q E) : ds.length = 1 := sp1_len h
theorem pf_is_name (ds S Q E) (h : sp_is_name ds S Q E) : sem_is_name (Dend Q) (startD N_is_name ds) S := by
  obtain ⟨_, rfl, h⟩ := sp1_inv h
  exact h.elim
def sp_is_whole : DSp := sp3 fun a b c S Q => ∃ i lo hi, a = .int i ∧ b = .int lo ∧ c = .int hi ∧ Q (.bl (decide (lo ≤ i ∧ i ≤ hi))) S
def N_is_whole : List Str := ["thing", "least", "most"]
def sem_is_whole : WS := (sRet (wAnd (wIsi .int (wVar 0)) (wAnd (wNot (wIsi .bool (wVar 0))) (wCh dLe dLe (wVar 1) (wVar 0) (wVar 2)))))
theorem len_is_whole (ds S Q E) (h : sp_is_whole ds S Q E) : ds.length = 3 := sp3_len h
theorem pf_is_whole (ds S Q E) (h : sp_is_whole ds S Q E) : sem_is_whole (Dend Q) (startD N_is_whole ds) S := by
  obtain ⟨a, b, c, rfl, i, lo, hi, rfl, rfl, rfl, q⟩ := sp3_inv h
  refine ⟨fun _ => ⟨fun _ => ⟨fun h => ?_, fun h => ?_⟩, fun h => nomatch h⟩, fun h => nomatch h⟩
  · have h1 := of_decide_eq_true h
    rwa [show decide (lo ≤ i ∧ i ≤ hi) = decide (i ≤ hi) by simp [h1]] at q
  · have h1 := of_decide_eq_false h
    rwa [show decide (lo ≤ i ∧ i ≤ hi) = false by simp [h1]] at q
/-- how often a number can be halved while two or more are left -/
def mlF : Nat → Nat → Nat
  | 0, _ => 0
  | f + 1, m => if m < 4 then 0 else mlF f (m / 2) + 1
def ml (m : Nat) : Nat := mlF 5 m
def sp_most_layer : DSp := sp1 fun a S Q => ∃ m : Nat, a = .int (m : Int) ∧ m < 128 ∧ Q (.int (ml m : Nat)) S
def N_most_layer : List Str := ["many", "layer"]
def sem_most_layer_1 : WS := (sAsg (wOp dAdd (wVar 1) (wC (.int 1))) (gNameD 1))
def sem_most_layer_2 : WS := (sSeq (sAsg (wOp dDiv (wVar 0) (wC (.int 2))) (gNameD 0)) sem_most_layer_1)
def sem_most_layer_3 : WS := (sRet (wVar 1))
def sem_most_layer_4 : WS := (sSeq (sWhile (tOf (wOp dGe (wOp dDiv (wVar 0) (wC (.int 2))) (wC (.int 2)))) sem_most_layer_2) sem_most_layer_3)
def sem_most_layer : WS := (sSeq (sAsg (wC (.int 0)) (gNameD 1)) sem_most_layer_4)
theorem len_most_layer (ds S Q E) (h : sp_most_layer ds S Q E) : ds.length = 1 := sp1_len h
theorem pf_most_layer (ds S Q E) (h : sp_most_layer ds S Q E) : sem_most_layer (Dend Q) (startD N_most_layer ds) S := by
  obtain ⟨a, rfl, m0, rfl, hm, q⟩ := sp1_inv h
  refine ⟨fun k env S' => S' = S ∧ ∃ m l : Nat, env = [some (.int (m : Int)), some (.int (l : Int))] ∧ l + mlF k m = ml m0 ∧ m < 2 ^ (k + 2), ⟨5, rfl, m0, 0, rfl, by simp [ml], by simpa using hm⟩, ?_⟩
  intro k env S' ⟨hS, m, l, he, h1, h2⟩
  subst hS he
  have e1 : (m : Int) / 2 = ((m / 2 : Nat) : Int) := by omega
  refine ⟨cdiv_s (by decide) (by decide), fun h => ?_, fun h => ?_⟩
  · have h3 := of_decide_eq_true h
    cases k with
    | zero => simp at h2; omega
    | succ k =>
      refine ⟨cdiv_s (by decide) (by decide), k, by omega, rfl, m / 2, l + 1, ?_, ?_, ?_⟩
      · rw [← e1]; rfl
      · simp only [mlF] at h1; rw [if_neg (by omega)] at h1; omega
      · have : 2 ^ (k + 1 + 2) = 2 ^ (k + 2) * 2 := by rw [show k + 1 + 2 = (k + 2) + 1 by omega, Nat.pow_succ]
        omega
  · have h3 := of_decide_eq_false h
    have : mlF k m = 0 := by
      cases k with
      | zero => rfl
      | succ k => simp only [mlF]; rw [if_pos (by omega)]
    rw [this] at h1
    rw [← h1] at q
    exact q

def sp_bare_layers : DSp := sp1 fun a S Q => Q (.tup [a, .tup []]) S
def N_bare_layers : List Str := ["many"]
def sem_bare_layers : WS := (sRet (wTup (aCons (wVar 0) (aCons (wTup aNil) aNil))))
theorem len_bare_layers (ds S Q E) (h : sp_bare_layers ds S Q E) : ds.length = 1 := sp1_len h
theorem pf_bare_layers (ds S Q E) (h : sp_bare_layers ds S Q E) : sem_bare_layers (Dend Q) (startD N_bare_layers ds) S := by
  obtain ⟨a, rfl, q⟩ := sp1_inv h
  exact ⟨sizeLe (by simp), sizeLe (by simp), q⟩
def sp_stand_of : DSp := sp1 fun a S Q => ∃ x, a = .tup [x, .tup []] ∧ Q (.tup []) S
def N_stand_of : List Str := ["layers", "row"]
def sem_stand_of : WS := (sRet (wQ dTuple (lLc (iSeq (wOp dIx (wVar 0) (wC (.int 1)))) (gNameD 1) tYesD (wSl (wVar 1) oNone (oSome (wC (.int 4)))) [1])))
theorem len_stand_of (ds S Q E) (h : sp_stand_of ds S Q E) : ds.length = 1 := sp1_len h
theorem pf_stand_of (ds S Q E) (h : sp_stand_of ds S Q E) : sem_stand_of (Dend Q) (startD N_stand_of ds) S := by
  obtain ⟨a, rfl, x, rfl, q⟩ := sp1_inv h
  refine ⟨_, rfl, fun i acc S' => acc = [] ∧ S' = S, ⟨rfl, rfl⟩, fun _ _ _ _ _ => trivial, fun i d acc S' hi _ => by simp at hi, ?_⟩
  intro acc S' ⟨h1, h2⟩
  subst h1 h2
  exact q
def sp_is_row : DSp := sp2 fun _ _ _ _ => False
def N_is_row : List Str := ["thing", "many"]
def sem_is_row_1 : WS := (sRet (wIsi .bool (wOp dIx (wVar 0) (wC (.int 5)))))
def sem_is_row_2 : WS := (sSeq (sIf (tOrD (tNotD (tOf (wCall sp_is_whole (aCons (wOp dIx (wVar 0) (wC (.int 3))) (aCons (wC (.int 0)) (aCons (wC (.int 1000000000)) aNil)))))) (tNotD (tOf (wCall sp_is_whole (aCons (wOp dIx (wVar 0) (wC (.int 4))) (aCons (wC (.int 0)) (aCons (wCall sp_most_layer (aCons (wVar 1) aNil)) aNil))))))) (sRet (wC (.bl false))) sNext) sem_is_row_1)
def sem_is_row_3 : WS := (sSeq (sIf (tOrD (tNotD (tOf (wCall sp_is_whole (aCons (wOp dIx (wVar 0) (wC (.int 1))) (aCons (wC (.int 0)) (aCons (wOp dSub (wVar 1) (wC (.int 1))) aNil)))))) (tOrD (tNotD (tOf (wCall sp_is_whole (aCons (wOp dIx (wVar 0) (wC (.int 2))) (aCons (wC (.int 0)) (aCons (wOp dSub (wVar 1) (wC (.int 1))) aNil)))))) (tOf (wOp dEq (wOp dIx (wVar 0) (wC (.int 1))) (wOp dIx (wVar 0) (wC (.int 2))))))) (sRet (wC (.bl false))) sNext) sem_is_row_2)
def sem_is_row : WS := (sSeq (sIf (tOrD (tNotD (tOf (wIsi .tuple (wVar 0)))) (tOrD (tOf (wOp dNe (wLen (wVar 0)) (wC (.int 6)))) (tNotD (tOf (wCall sp_is_name (aCons (wOp dIx (wVar 0) (wC (.int 0))) aNil)))))) (sRet (wC (.bl false))) sNext) sem_is_row_3)
theorem len_is_row (ds S Q E) (h : sp_is_row ds S Q E) : ds.length = 2 := sp2_len h
theorem pf_is_row (ds S Q E) (h : sp_is_row ds S Q E) : sem_is_row (Dend Q) (startD N_is_row ds) S := by
  obtain ⟨_, _, rfl, h⟩ := sp2_inv h
  exact h.elim
def sp_are_rows : DSp := sp2 fun a b S Q => a = .tup [] ∧ Q (.bl true) S
def N_are_rows : List Str := ["thing", "many", "one", "other"]
def sem_are_rows_1 : WS := (sRet (wQ dAll (lLc (iZip (wVar 0) (wSl (wVar 0) (oSome (wC (.int 1))) oNone)) (gTupD 2 (gConsD (gNameD 2) (gConsD (gNameD 3) gNilD))) tYesD (wOp dLtT (wOp dIx (wVar 2) (wC (.int 0))) (wOp dIx (wVar 3) (wC (.int 0)))) [2, 3])))
def sem_are_rows_2 : WS := (sSeq (sIf (tNotD (tOf (wQ dAll (lLc (iSeq (wVar 0)) (gNameD 2) tYesD (wCall sp_is_row (aCons (wVar 2) (aCons (wVar 1) aNil))) [2])))) (sRet (wC (.bl false))) sNext) sem_are_rows_1)
def sem_are_rows : WS := (sSeq (sIf (tOrD (tNotD (tOf (wIsi .tuple (wVar 0)))) (tOf (wOp dGt (wLen (wVar 0)) (wC (.int 60))))) (sRet (wC (.bl false))) sNext) sem_are_rows_2)
theorem len_are_rows (ds S Q E) (h : sp_are_rows ds S Q E) : ds.length = 2 := sp2_len h
theorem pf_are_rows (ds S Q E) (h : sp_are_rows ds S Q E) : sem_are_rows (Dend Q) (startD N_are_rows ds) S := by
  obtain ⟨a, b, rfl, rfl, q⟩ := sp2_inv h
  refine ⟨(fun h => nomatch h), fun _ => ⟨(fun h => nomatch h), fun _ => ?_⟩⟩
  refine ⟨fun i acc S' => acc = [] ∧ S' = S, ⟨rfl, rfl⟩, fun _ _ _ _ _ => trivial, fun i d acc S' hi _ => by simp at hi, ?_⟩
  intro acc S' ⟨h1, h2⟩
  subst h1 h2
  refine ⟨[], rfl, (fun h => nomatch h), fun _ => ?_⟩
  refine ⟨fun i acc S2 => acc = [] ∧ S2 = S', ⟨rfl, rfl⟩, fun _ _ _ _ _ => ?_, fun i d acc S' hi _ => ?_, ?_⟩
  · trivial
  · simp [zipD] at hi
  · intro acc S2 ⟨h1, h2⟩
    subst h1 h2
    exact ⟨[], rfl, q⟩
def sp_tops_by : DSp := sp2 fun a b S Q => ∃ (m p : Nat), a = .int (m : Int) ∧ m ≤ 24 ∧ b = .ref p ∧ S[p]? = some (.lst []) ∧ Q (.ref S.length) (S ++ [.lst (rangeD 0 m)])
def N_tops_by : List Str := ["many", "rows", "tops", "row", "one", "other", "top"]
def sem_tops_by_1 : WS := (sIf (tOf (wOp dNe (wVar 4) (wVar 5))) (sAsg (wNew (lLc (iSeq (wVar 2)) (gNameD 6) tYesD (wIfE (tOf (wOp dEq (wVar 6) (wVar 5))) (wVar 4) (wVar 6)) [6])) (gNameD 2)) sNext)
def sem_tops_by_2 : WS := (sSeq (sAsg (wOp dIx (wVar 2) (wOp dIx (wVar 3) (wC (.int 2)))) (gNameD 5)) sem_tops_by_1)
def sem_tops_by_3 : WS := (sSeq (sAsg (wOp dIx (wVar 2) (wOp dIx (wVar 3) (wC (.int 1)))) (gNameD 4)) sem_tops_by_2)
def sem_tops_by_4 : WS := (sRet (wVar 2))
def sem_tops_by_5 : WS := (sSeq (sFor (iSeq (wVar 1)) (gNameD 3) sem_tops_by_3) sem_tops_by_4)
def sem_tops_by : WS := (sSeq (sAsg (wNew (lRange1 (wVar 0))) (gNameD 2)) sem_tops_by_5)
theorem len_tops_by (ds S Q E) (h : sp_tops_by ds S Q E) : ds.length = 2 := sp2_len h
theorem pf_tops_by (ds S Q E) (h : sp_tops_by ds S Q E) : sem_tops_by (Dend Q) (startD N_tops_by ds) S := by
  obtain ⟨a, b, rfl, m, p, rfl, hm, rfl, hp, q⟩ := sp2_inv h
  refine ⟨.of_le (by omega) (by omega) (by omega) (by omega), ?_⟩
  rw [Int.toNat_natCast]
  refine ⟨_, getS_app hp, fun i env S' => S' = S ++ [O.lst (rangeD 0 m)] ∧ env[2]? = some (some (.ref S.length)), ⟨rfl, rfl⟩, fun i env S' _ h => ?_, fun i d env S' hi _ => by simp at hi, ?_⟩
  · rw [h.1]; exact getS_app hp
  · intro env S' ⟨h1, h2⟩
    subst h1
    show wVar 2 env _ _
    unfold wVar
    rw [h2]
    exact q
def sp_has_ring : DSp := sp2 fun a b S Q => ∃ (m p : Nat), a = .int (m : Int) ∧ m ≤ 24 ∧ b = .ref p ∧ S[p]? = some (.lst []) ∧ ∀ S', Kp S S' [] → Q (.bl false) S'
def N_has_ring : List Str := ["many", "rows", "tops"]
def sem_has_ring_1 : WS := (sRet (wOp dLtT (wOp dSub (wVar 0) (wLenSet (wVar 2))) (wLen (wVar 1))))
def sem_has_ring : WS := (sSeq (sAsg (wCall sp_tops_by (aCons (wVar 0) (aCons (wVar 1) aNil))) (gNameD 2)) sem_has_ring_1)
theorem len_has_ring (ds S Q E) (h : sp_has_ring ds S Q E) : ds.length = 2 := sp2_len h
theorem range_nodup (m : Nat) : ((List.range m).map fun i : Nat => (0 : Int) + (i : Int)).Nodup := range_map_nodup fun i j _ _ h => by omega
theorem perm_len {us vs : List Int} (h1 : us.Nodup) (h2 : vs.Nodup) (h : ∀ x, x ∈ us ↔ x ∈ vs) : us.length = vs.length := ((List.perm_ext_iff_of_nodup h1 h2).mpr h).length_eq
theorem pf_has_ring (ds S Q E) (h : sp_has_ring ds S Q E) : sem_has_ring (Dend Q) (startD N_has_ring ds) S := by
  obtain ⟨a, b, rfl, m, p, rfl, hm, rfl, hp, q⟩ := sp2_inv h
  refine ⟨m, p, rfl, hm, rfl, hp, ?_⟩
  refine ⟨_, getS_new, (List.range m).map fun i : Nat => (0 : Int) + (i : Int), by unfold rangeD; rw [List.map_map]; rfl, by simp; omega, fun us h1 h2 => ?_⟩
  have e := perm_len h1 (range_nodup m) h2
  rw [List.length_map, List.length_range] at e
  rw [e]
  refine ⟨_, getS_app hp, ?_⟩
  have := q _ (Kp.app (S := S) (l := [.lst (rangeD 0 m)]) (ex := []))
  show Q (.bl (decide ((m : Int) - (m : Int) < (([] : List D).length : Int)))) _
  rwa [show decide ((m : Int) - (m : Int) < (([] : List D).length : Int)) = false by simp]
def sp_layer_holds : DSp := sp3 fun a b c S Q => ∃ (m l : Nat), a = .int (m : Int) ∧ 1 ≤ m ∧ m ≤ 24 ∧ b = .tup [] ∧ c = .int (l : Int) ∧ l < 100 ∧ ∀ S', Kp S S' [] → Q (.bl true) S'
def N_layer_holds : List Str := ["many", "rows", "layer", "here", "row", "tops", "room", "turn", "top"]
def sem_layer_holds_1 : WS := (sAsg (wOp dDiv (wVar 6) (wC (.int 2))) (gNameD 6))
def sem_layer_holds_2 : WS := (sRet (wOp dLe (wQ dMax (lLc (iSeq (wVar 5)) (gNameD 8) tYesD (wM tyL dCount (wVar 5) (aCons (wVar 8) aNil)) [8])) (wMax2 (aCons (wVar 6) (aCons (wC (.int 1)) aNil)))))
def sem_layer_holds_3 : WS := (sSeq (sFor (iRange1 (aCons (wVar 2) aNil)) (gNameD 7) sem_layer_holds_1) sem_layer_holds_2)
def sem_layer_holds_4 : WS := (sSeq (sAsg (wVar 0) (gNameD 6)) sem_layer_holds_3)
def sem_layer_holds_5 : WS := (sSeq (sIf (tNotD (tOf (wQ dAll (lLc (iSeq (wVar 3)) (gNameD 4) tYesD (wOp dEq (wOp dIx (wVar 5) (wOp dIx (wVar 4) (wC (.int 1)))) (wOp dIx (wVar 5) (wOp dIx (wVar 4) (wC (.int 2))))) [4])))) (sRet (wC (.bl false))) sNext) sem_layer_holds_4)
def sem_layer_holds_6 : WS := (sSeq (sAsg (wCall sp_tops_by (aCons (wVar 0) (aCons (wNew (lLc (iSeq (wVar 3)) (gNameD 4) (tOf (wOp dIx (wVar 4) (wC (.int 5)))) (wVar 4) [4])) aNil))) (gNameD 5)) sem_layer_holds_5)
def sem_layer_holds : WS := (sSeq (sAsg (wNew (lLc (iSeq (wVar 1)) (gNameD 4) (tOf (wOp dGe (wOp dIx (wVar 4) (wC (.int 4))) (wVar 2))) (wVar 4) [4])) (gNameD 3)) sem_layer_holds_6)
theorem len_layer_holds (ds S Q E) (h : sp_layer_holds ds S Q E) : ds.length = 3 := sp3_len h
theorem pf_layer_holds (ds S Q E) (h : sp_layer_holds ds S Q E) : sem_layer_holds (Dend Q) (startD N_layer_holds ds) S := by
  obtain ⟨a, b, c, rfl, m, l, rfl, hm1, hm, rfl, rfl, hl, q⟩ := sp3_inv h
  refine ⟨fun i acc S' => acc = [] ∧ S' = S, ⟨rfl, rfl⟩, fun _ _ _ _ _ => trivial, fun i d acc S' hi _ => by simp at hi, ?_⟩
  intro acc S' ⟨h1, h2⟩
  subst h1 h2
  refine ⟨_, getS_new, fun i acc S2 => acc = [] ∧ S2 = S' ++ [.lst []], ⟨rfl, rfl⟩, ?_, fun i d acc S' hi _ => by simp at hi, ?_⟩
  · rintro i acc S2 _ ⟨_, rfl⟩; exact getS_new
  intro acc S2 ⟨h1, h2⟩
  subst h1 h2
  refine ⟨m, _, rfl, hm, rfl, getS_new, ?_⟩
  refine ⟨_, getS_app (getS_app getS_new), fun i acc S2 => acc = [] ∧ S2 = S' ++ [.lst []] ++ [.lst []] ++ [.lst (rangeD 0 m)], ⟨rfl, rfl⟩, ?_, fun i d acc S' hi _ => by simp at hi, ?_⟩
  · rintro i acc S2 _ ⟨_, rfl⟩; exact getS_app (getS_app getS_new)
  intro acc S2 ⟨h1, h2⟩
  subst h1 h2
  refine ⟨[], rfl, (fun h => nomatch h), fun _ => ?_⟩
  have k0 : Kp S' (S' ++ [O.lst []] ++ [O.lst []] ++ [O.lst (rangeD 0 m)]) [] := (Kp.app.trans Kp.app).trans Kp.app
  have g0 : (S' ++ [O.lst []] ++ [O.lst []] ++ [O.lst (rangeD 0 m)])[(S' ++ [O.lst []] ++ [O.lst []]).length]? = some (.lst (rangeD 0 m)) := getS_new
  show sem_layer_holds_4 (Dend Q) [some (.int (m : Int)), some (.tup []), some (.int (l : Int)), some (.ref S'.length), none, some (.ref (S' ++ [O.lst []] ++ [O.lst []]).length), none, none, none] _
  revert k0 g0
  generalize (S' ++ [O.lst []] ++ [O.lst []]).length = t
  generalize S' ++ [O.lst []] ++ [O.lst []] ++ [O.lst (rangeD 0 m)] = S2
  intro k0 g0
  refine ⟨⟨by omega, by omega⟩, fun i env S3 => S3 = S2 ∧ ∃ r x, env = [some (.int (m : Int)), some (.tup []), some (.int (l : Int)), some (.ref S'.length), none, some (.ref t), some (.int r), x, none], ⟨rfl, _, _, rfl⟩, fun _ _ _ _ _ => trivial, ?_, ?_⟩
  · rintro i d env S3 _ ⟨rfl, r, x, rfl⟩
    exact ⟨cdiv_s (by decide) (by decide), rfl, _, _, rfl⟩
  · rintro env S3 ⟨rfl, r, x, rfl⟩
    have hcount : ∀ i : Nat, i < m → ((List.range m).map fun i : Nat => (0 : Int) + (i : Int)).count ((0 : Int) + (i : Int)) = 1 := fun i hi => by
      refine Nat.le_antisymm (List.nodup_iff_count.mp (range_nodup m) _) (List.count_pos_iff.mpr (List.mem_map.mpr ⟨i, List.mem_range.mpr hi, rfl⟩))
    refine ⟨_, g0, fun i acc S4 => S4 = S3 ∧ acc = (List.replicate i (1 : Int)).map D.int, ⟨rfl, rfl⟩, ?_, ?_, ?_⟩
    · rintro i acc S4 _ ⟨rfl, _⟩; exact g0
    · rintro i d acc S4 hi ⟨rfl, rfl⟩
      obtain ⟨hi', rfl⟩ := range_get hi
      refine ⟨fun _ => ⟨⟨_, g0⟩, (List.range m).map fun i : Nat => (0 : Int) + (i : Int), ?_, sizeL (by simp; omega), rfl, ?_⟩, fun h => nomatch h⟩
      · rw [g0]; unfold rangeD; rw [List.map_map]; rfl
      · rw [hcount i hi', List.replicate_succ']; simp
    · rintro acc S4 ⟨rfl, rfl⟩
      rw [rangeD_len]
      refine ⟨_, rfl, by simp; omega, fun k hk _ => ?_⟩
      obtain ⟨_, rfl⟩ := List.mem_replicate.mp hk
      show Q (.bl (decide ((1 : Int) ≤ max r 1))) S4
      rw [show decide ((1 : Int) ≤ max r 1) = true by simp; omega]
      exact q _ k0
def sp_layers_hold : DSp := sp1 fun a S Q => ∃ m : Nat, a = .tup [.int (m : Int), .tup []] ∧ 1 ≤ m ∧ m ≤ 24 ∧ ∀ S', Kp S S' [] → Q (.bl true) S'
def N_layers_hold : List Str := ["thing", "many", "rows", "row", "layer"]
def sem_layers_hold_1 : WS := (sRet (wQ dAll (lLc (iRange1 (aCons (wOp dAdd (wCall sp_most_layer (aCons (wVar 1) aNil)) (wC (.int 1))) aNil)) (gNameD 4) tYesD (wCall sp_layer_holds (aCons (wVar 1) (aCons (wVar 2) (aCons (wVar 4) aNil)))) [4])))
def sem_layers_hold_2 : WS := (sSeq (sIf (tOrD (tNotD (tOf (wCall sp_are_rows (aCons (wVar 2) (aCons (wVar 1) aNil))))) (tOf (wCall sp_has_ring (aCons (wVar 1) (aCons (wNew (lLc (iSeq (wVar 2)) (gNameD 3) (tOf (wOp dIx (wVar 3) (wC (.int 5)))) (wVar 3) [3])) aNil))))) (sRet (wC (.bl false))) sNext) sem_layers_hold_1)
def sem_layers_hold_3 : WS := (sSeq (sAsg (wVar 0) (gTupD 2 (gConsD (gNameD 1) (gConsD (gNameD 2) gNilD)))) sem_layers_hold_2)
def sem_layers_hold : WS := (sSeq (sIf (tOrD (tNotD (tOf (wIsi .tuple (wVar 0)))) (tOrD (tOf (wOp dNe (wLen (wVar 0)) (wC (.int 2)))) (tNotD (tOf (wCall sp_is_whole (aCons (wOp dIx (wVar 0) (wC (.int 0))) (aCons (wC (.int 1)) (aCons (wC (.int 24)) aNil)))))))) (sRet (wC (.bl false))) sNext) sem_layers_hold_3)
theorem len_layers_hold (ds S Q E) (h : sp_layers_hold ds S Q E) : ds.length = 1 := sp1_len h
theorem ml_le (m : Nat) (h : m ≤ 24) : ml m ≤ 4 := (by decide : ∀ m, m < 25 → ml m ≤ 4) m (by omega)
theorem pf_layers_hold (ds S Q E) (h : sp_layers_hold ds S Q E) : sem_layers_hold (Dend Q) (startD N_layers_hold ds) S := by
  obtain ⟨a, rfl, m, rfl, hm1, hm, q⟩ := sp1_inv h
  refine ⟨(fun h => nomatch h), fun _ => ⟨(fun h => nomatch h), fun _ => ⟨_, rfl, _, _, _, rfl, rfl, rfl, ?_⟩⟩⟩
  have e : decide ((1 : Int) ≤ (m : Int) ∧ (m : Int) ≤ 24) = true := decide_eq_true (by omega)
  rw [e]
  refine ⟨(fun h => nomatch h), fun _ => ⟨rfl, rfl, (fun h => nomatch h), fun _ => ?_⟩⟩
  refine ⟨fun i acc S' => acc = [] ∧ S' = S, ⟨rfl, rfl⟩, fun _ _ _ _ _ => trivial, fun i d acc S' hi _ => by simp at hi, ?_⟩
  intro acc S' ⟨h1, h2⟩
  subst h1 h2
  refine ⟨m, _, rfl, hm, rfl, getS_new, fun S1 k1 => ⟨(fun h => nomatch h), fun _ => ?_⟩⟩
  have hl := ml_le m hm
  refine ⟨m, rfl, by omega, ⟨by omega, by omega⟩, fun i acc S2 => Kp S' S2 [] ∧ acc = (List.replicate i true).map D.bl, ⟨Kp.app.trans k1, rfl⟩, fun _ _ _ _ _ => trivial, ?_, ?_⟩
  · rintro i d acc S2 hi ⟨k2, rfl⟩
    obtain ⟨hi', rfl⟩ := range_get hi
    refine ⟨fun _ => ⟨m, i, rfl, hm1, hm, rfl, by simp, by omega, fun S3 k3 => ⟨sizeL (by simp; omega), k2.trans k3, ?_⟩⟩, fun h => nomatch h⟩
    rw [List.replicate_succ']; simp
  · rintro acc S2 ⟨k2, rfl⟩
    refine ⟨_, rfl, ?_⟩
    have := q _ k2
    rwa [show (List.replicate (rangeD 0 ((ml m : Int) + 1).toNat).length true).all id = true by simp]
def sp__law_halved : DSp := sp2 fun a b S Q => ∃ m l : Nat, a = .int (m : Int) ∧ b = .int (l : Int) ∧ l < 100 ∧ Q (.int ((m / 2 ^ l : Nat) : Int)) S
def N__law_halved : List Str := ["_law_many", "_law_layer", "_law_turn"]
def sem__law_halved_1 : WS := (sAsg (wOp dDiv (wVar 0) (wC (.int 2))) (gNameD 0))
def sem__law_halved_2 : WS := (sRet (wVar 0))
def sem__law_halved : WS := (sSeq (sFor (iRange1 (aCons (wVar 1) aNil)) (gNameD 2) sem__law_halved_1) sem__law_halved_2)
theorem len__law_halved (ds S Q E) (h : sp__law_halved ds S Q E) : ds.length = 2 := sp2_len h
theorem pf__law_halved (ds S Q E) (h : sp__law_halved ds S Q E) : sem__law_halved (Dend Q) (startD N__law_halved ds) S := by
  obtain ⟨a, b, rfl, m, l, rfl, rfl, hl, q⟩ := sp2_inv h
  refine ⟨⟨by omega, by omega⟩, fun i env S' => S' = S ∧ ∃ x, env = [some (.int ((m / 2 ^ i : Nat) : Int)), some (.int (l : Int)), x], ⟨rfl, none, by simp; rfl⟩, fun _ _ _ _ _ => trivial, ?_, ?_⟩
  · rintro i d env S' _ ⟨rfl, x, rfl⟩
    refine ⟨cdiv_s (by decide) (by decide), rfl, some d, ?_⟩
    have : ((m / 2 ^ i : Nat) : Int) / 2 = ((m / 2 ^ (i + 1) : Nat) : Int) := by rw [Nat.pow_succ, ← Nat.div_div_eq_div_mul]; omega
    rw [← this]; rfl
  · rintro env S' ⟨rfl, x, rfl⟩
    have e : (rangeD 0 (l : Int).toNat).length = l := by rw [rangeD_len]; omega
    rw [e]; exact q
theorem eqv_bare (i j : Int) : D.eqv (.tup [.int i, .tup []]) (.tup [.int j, .tup []]) = decide (i = j) := by
  simp only [D.eqv, D.eqvs, Bool.and_true]; rfl
theorem bare_ok (i : Int) : okD (.tup [.int i, .tup []]) := okD_fit (by simp [D.fit, D.fits]) (by simp [D.dep, D.deps])
theorem nil_ok : okD (.tup []) := okD_fit (by simp [D.fit, D.fits]) (by simp [D.dep, D.deps])
def sp__law_right : DSp := sp1 fun a S Q => ∃ m : Nat, a = .int (m : Int) ∧ 1 ≤ m ∧ m ≤ 24 ∧ ∀ S', Kp S S' [] → Q (.bl true) S'
def N__law_right : List Str := ["_law_many", "_law_layer", "_law_bare"]
def sem__law_right_1 : WS := (sRet (wAnd (wOp dEq (wCall sp_stand_of (aCons (wVar 2) aNil)) (wTup aNil)) (wAnd (wOp dEq (wCall sp_most_layer (aCons (wVar 0) aNil)) (wVar 1)) (wOp dEq (wCall sp_bare_layers (aCons (wVar 0) aNil)) (wTup (aCons (wVar 0) (aCons (wTup aNil) aNil)))))))
def sem__law_right_2 : WS := (sSeq (sIf (tOrD (tNotD (tOf (wIsi .tuple (wVar 2)))) (tOrD (tOf (wOp dNe (wVar 2) (wTup (aCons (wVar 0) (aCons (wTup aNil) aNil))))) (tOrD (tOf (wIsi .bool (wOp dIx (wVar 2) (wC (.int 0))))) (tOf (wOp dIsNot (wCall sp_layers_hold (aCons (wVar 2) aNil)) (wC (.bl true))))))) (sRet (wC (.bl false))) sNext) sem__law_right_1)
def sem__law_right_3 : WS := (sSeq (sAsg (wCall sp_bare_layers (aCons (wVar 0) aNil)) (gNameD 2)) sem__law_right_2)
def sem__law_right_4 : WS := (sSeq (sIf (tOrD (tAndD (tOf (wOp dGt (wVar 1) (wC (.int 0)))) (tOf (wOp dLtT (wCall sp__law_halved (aCons (wVar 0) (aCons (wVar 1) aNil))) (wC (.int 2))))) (tOf (wOp dGt (wCall sp__law_halved (aCons (wVar 0) (aCons (wOp dAdd (wVar 1) (wC (.int 1))) aNil))) (wC (.int 1))))) (sRet (wC (.bl false))) sNext) sem__law_right_3)
def sem__law_right_5 : WS := (sSeq (sIf (tOrD (tNotD (tOf (wIsi .int (wVar 1)))) (tOrD (tOf (wIsi .bool (wVar 1))) (tOrD (tOf (wOp dLtT (wVar 1) (wC (.int 0)))) (tOf (wOp dGt (wVar 1) (wC (.int 4))))))) (sRet (wC (.bl false))) sNext) sem__law_right_4)
def sem__law_right : WS := (sSeq (sAsg (wCall sp_most_layer (aCons (wVar 0) aNil)) (gNameD 1)) sem__law_right_5)
theorem len__law_right (ds S Q E) (h : sp__law_right ds S Q E) : ds.length = 1 := sp1_len h
theorem ml_facts (m : Nat) (h1 : 1 ≤ m) (h : m ≤ 24) : (0 < ml m → 2 ≤ m / 2 ^ ml m) ∧ m / 2 ^ (ml m + 1) ≤ 1 := (by decide : ∀ m, m < 25 → 1 ≤ m → (0 < ml m → 2 ≤ m / 2 ^ ml m) ∧ m / 2 ^ (ml m + 1) ≤ 1) m (by omega) h1
theorem pf__law_right (ds S Q E) (h : sp__law_right ds S Q E) : sem__law_right (Dend Q) (startD N__law_right ds) S := by
  obtain ⟨a, rfl, m, rfl, hm1, hm, q⟩ := sp1_inv h
  have hl := ml_le m hm
  obtain ⟨f1, f2⟩ := ml_facts m hm1 hm
  refine ⟨m, rfl, by omega, ?_⟩
  show sem__law_right_5 (Dend Q) [some (.int (m : Int)), some (.int (ml m : Int)), none] S
  refine ⟨(fun h => nomatch h), fun _ => ⟨(fun h => nomatch h), fun _ => ⟨fun h => absurd (of_decide_eq_true h) (by omega), fun _ => ⟨fun h => absurd (of_decide_eq_true h) (by omega), fun _ => ?_⟩⟩⟩⟩
  have halved2 : ∀ S' : Sto, S' = S → sem__law_right_3 (Dend Q) [some (.int (m : Int)), some (.int (ml m : Int)), none] S' := by
    rintro S' rfl
    show sem__law_right_2 (Dend Q) [some (.int (m : Int)), some (.int (ml m : Int)), some (.tup [.int (m : Int), .tup []])] S'
    refine ⟨(fun h => nomatch h), fun _ => ⟨sizeLe (by simp), sizeLe (by simp), bare_ok _, bare_ok _, ?_⟩⟩
    rw [eqv_bare]
    refine ⟨fun h => absurd h (by simp), fun _ => ⟨_, rfl, (fun h => nomatch h), fun _ => ⟨m, rfl, hm1, hm, fun S1 k1 => ⟨(fun h => nomatch h), fun _ => ?_⟩⟩⟩⟩
    refine ⟨_, rfl, sizeLe (by simp), nil_ok, nil_ok, fun _ => ⟨m, rfl, by omega, fun _ => ?_, fun h => absurd (of_decide_eq_false h) (by simp)⟩, fun h => nomatch h⟩
    refine ⟨sizeLe (by simp), sizeLe (by simp), bare_ok _, bare_ok _, ?_⟩
    rw [eqv_bare]
    have := q _ k1
    rwa [show decide ((m : Int) = (m : Int)) = true by simp]
  have step2 : ∀ S' : Sto, S' = S → tOf (wOp dGt (wCall sp__law_halved (aCons (wVar 0) (aCons (wOp dAdd (wVar 1) (wC (.int 1))) aNil))) (wC (.int 1))) [some (.int (m : Int)), some (.int (ml m : Int)), none] S' fun b S1 => (b = true → sRet (wC (.bl false)) { nx := sem__law_right_3 (Dend Q), rt := (Dend Q).rt } [some (.int (m : Int)), some (.int (ml m : Int)), none] S1) ∧ (b = false → sNext { nx := sem__law_right_3 (Dend Q), rt := (Dend Q).rt } [some (.int (m : Int)), some (.int (ml m : Int)), none] S1) := by
    rintro S' rfl
    exact ⟨m, ml m + 1, rfl, by simp, by omega, fun h => absurd (of_decide_eq_true h) (by omega), fun _ => halved2 _ rfl⟩
  refine ⟨fun h0 => ⟨m, ml m, rfl, rfl, by omega, fun h => absurd (of_decide_eq_true h) ?_, fun _ => step2 _ rfl⟩, fun _ => ⟨(fun h => nomatch h), fun _ => step2 _ rfl⟩⟩
  have h' : (0 : Int) < (ml m : Int) := of_decide_eq_true h0
  have h1 := f1 (by omega)
  omega
theorem at0 {α : Type} {x : α} {l : List α} : atI (x :: l) 0 = some x := atI_nat (xs := x :: l) (j := 0) rfl
theorem at1 {α : Type} {x y : α} {l : List α} : atI (x :: y :: l) 1 = some y := atI_nat (xs := x :: y :: l) (j := 1) rfl
theorem ix0 {n : Nat} : ixN (n + 1) 0 = some 0 := by unfold ixN; rw [if_pos (by decide), if_pos (by omega)]; rfl
/-- the deck: how many were drawn, a sum, the cells -/
def Deck (S : Sto) (p : Nat) : Prop := ∃ (n s : Int) (xs : List Int), S[p]? = some (.lst (.int n :: .int s :: xs.map D.int)) ∧ xs.length ≤ 63
theorem Deck.keep {S S' : Sto} {p : Nat} (w : Deck S p) {ex : List Nat} (k : Kp S S' ex) (h1 : p ∉ ex) : Deck S' p := by
  obtain ⟨n, s, xs, a, b⟩ := w
  exact ⟨n, s, xs, k.get a h1, b⟩
theorem Deck.lt {S : Sto} {p : Nat} (w : Deck S p) : p < S.length := by
  obtain ⟨n, s, xs, a, b⟩ := w
  exact getS_lt a
def sp__law_deck : DSp := sp1 fun a S Q => ∃ ns : List Int, a = .rol (ns.map D.int) ∧ ns.length ≤ 63 ∧ ∀ p S', Deck S' p → S.length ≤ p → Kp S S' [] → Q (.ref p) S'
def N__law_deck : List Str := ["_law_script", "_law_cells", "_law_k", "_law_cell"]
def sem__law_deck_1 : WS := (sRet (wNew (lCat (lLst (aCons (wC (.int 0)) (aCons (wOp dAdd (wC (.int 7)) (wOp dMod (wQ dSum (lLc (iEnumR (wVar 1)) (gTupD 2 (gConsD (gNameD 2) (gConsD (gNameD 3) gNilD))) tYesD (wOp dMul (wOp dMod (wVar 3) (wC (.int 1000003))) (wOp dAdd (wVar 2) (wC (.int 1)))) [2, 3])) (wC (.int 2147483629)))) aNil))) (lRev (wVar 1)))))
def sem__law_deck : WS := (sSeq (sAsg (wNew (lSl (wVar 0) oNone (oSome (wC (.int 63))))) (gNameD 1)) sem__law_deck_1)
theorem len__law_deck (ds S Q E) (h : sp__law_deck ds S Q E) : ds.length = 1 := sp1_len h
theorem deck_cut (ns : List Int) (k : Int) (h : 0 ≤ k) : Z.cutD (ns.map D.int) none (some k) = (ns.take k.toNat).map D.int := by rw [cutD_to h, List.map_take]
theorem pf__law_deck (ds S Q E) (h : sp__law_deck ds S Q E) : sem__law_deck (Dend Q) (startD N__law_deck ds) S := by
  obtain ⟨a, rfl, ns, rfl, hl, q⟩ := sp1_inv h
  have e : Z.cutD (ns.map D.int) none (some 63) = (ns.take 63).map D.int := deck_cut ns _ (by decide)
  show sem__law_deck_1 (Dend Q) [some (.rol (ns.map D.int)), some (.ref S.length), none, none] (S ++ [O.lst (Z.cutD (ns.map D.int) none (some 63))])
  rw [e]
  have g1 : (S ++ [O.lst ((ns.take 63).map D.int)])[S.length]? = _ := getS_new
  refine ⟨_, g1, fun i acc S' => S' = S ++ [O.lst ((ns.take 63).map D.int)] ∧ ∃ ms : List Int, acc = ms.map D.int ∧ ms.length = i, ⟨rfl, [], rfl, rfl⟩, ?_, ?_, ?_⟩
  · intro i acc S' _ ⟨hS, _⟩; rw [hS]; exact g1
  · intro i d acc S' hi ⟨hS, ms, e1, e2⟩
    subst hS e1
    have hlt : i < ((ns.take 63).map D.int).length := by
      have := (List.getElem?_eq_some_iff.mp hi).1
      rwa [enumD_len] at this
    have hx : ((ns.take 63).map D.int)[i]? = some (((ns.take 63).map D.int)[i]) := List.getElem?_eq_getElem hlt
    obtain ⟨v, _, ev⟩ := map_get hx
    rw [ev] at hx
    rw [enumD_get hx] at hi
    cases hi
    have b1 : 0 ≤ v % 1000003 := Int.emod_nonneg _ (by decide)
    have b2 : v % 1000003 < 1000003 := Int.emod_lt_of_pos _ (by decide)
    refine ⟨rfl, fun _ => ?_, fun h => nomatch h⟩
    refine ⟨by decide, cmul_l ⟨by omega, by omega⟩, sizeL ?_, rfl, ms ++ [v % 1000003 * ((i : Int) + 1)], by simp, by simp [e2]⟩
    rw [List.length_map] at hlt ⊢
    rw [e2]
    have : (ns.take 63).length ≤ 63 := by simp; omega
    omega
  · intro acc S' ⟨hS, ms, e1, e2⟩
    subst hS e1
    refine ⟨ms, rfl, by decide, sizeLe (by simp), _, g1, sizeLe (by simp; omega), ?_⟩
    refine q _ _ ⟨0, 7 + ms.sum % 2147483629, (ns.take 63).reverse, ?_, by simp; omega⟩ (by simp) (Kp.app.trans Kp.app)
    rw [List.map_reverse]
    exact getS_new
def sp__law_draw : DSp := sp2 fun a b S Q => ∃ p m, a = .ref p ∧ b = .int m ∧ 0 < m ∧ m ≤ 1000000001 ∧ Deck S p ∧ ∀ r S', 0 ≤ r → r < m → Deck S' p → Kp S S' [p] → Q (.int r) S'
def N__law_draw : List Str := ["_law_deck_here", "_law_most", "_law_cell", "_law_number"]
def sem__law_draw_1 : WS := (sRet (wOp dMod (wVar 2) (wVar 1)))
def sem__law_draw_2 : WS := (sIf (tOf (wOp dGe (wVar 2) (wC (.int 1000000000000000000)))) (sSeq (sDrop (wM tyL dAppend (wVar 0) (aCons (wOp dDiv (wVar 2) (wVar 1)) aNil))) sem__law_draw_1) sNext)
def sem__law_draw_3 : WS := (sRet (wOp dMod (wOp dDiv (wVar 3) (wC (.int 64))) (wVar 1)))
def sem__law_draw_4 : WS := (sSeq (sAsg (wOp dMod (wOp dAdd (wOp dAdd (wOp dMul (wVar 3) (wVar 3)) (wOp dMul (wC (.int 69621)) (wVar 3))) (wOp dIx (wVar 0) (wC (.int 0)))) (wC (.int 2147483587))) (gNameD 3)) sem__law_draw_3)
def sem__law_draw_5 : WS := (sSeq (sAsg (wOp dMod (wOp dMul (wOp dAdd (wOp dMod (wVar 2) (wC (.int 2147483629))) (wOp dMul (wC (.int 7919)) (wOp dIx (wVar 0) (wC (.int 0))))) (wC (.int 48271))) (wC (.int 2147483647))) (gNameD 3)) sem__law_draw_4)
def sem__law_draw_6 : WS := (sSeq (sIf (tOf (wOp dGt (wLen (wVar 0)) (wC (.int 2)))) (sSeq (sAsg (wM0 tyL dPop (wVar 0)) (gNameD 2)) sem__law_draw_2) sNext) sem__law_draw_5)
def sem__law_draw_7 : WS := (sSeq (sAsg (wOp dAdd (wOp dIx (wVar 0) (wC (.int 1))) (wOp dMul (wC (.int 104729)) (wOp dIx (wVar 0) (wC (.int 0))))) (gNameD 2)) sem__law_draw_6)
def sem__law_draw : WS := (sSeq (sAsg (wOp dAdd (wOp dIx (wVar 0) (wC (.int 0))) (wC (.int 1))) (gSubD (wVar 0) (wC (.int 0)) dSet)) sem__law_draw_7)
theorem len__law_draw (ds S Q E) (h : sp__law_draw ds S Q E) : ds.length = 2 := sp2_len h
theorem pf__law_draw (ds S Q E) (h : sp__law_draw ds S Q E) : sem__law_draw (Dend Q) (startD N__law_draw ds) S := by
  obtain ⟨a, b, rfl, p, m, rfl, rfl, hm, hm2, ⟨n, s, xs, hp, hx⟩, q⟩ := sp2_inv h
  refine ⟨_, hp, _, at0, _, hp, _, ix0, ?_⟩
  have g1 : (S.set p (.lst (.int (n + 1) :: .int s :: xs.map D.int)))[p]? = some (.lst (.int (n + 1) :: .int s :: xs.map D.int)) := getS_set hp
  have k1 : Kp S (S.set p (.lst (.int (n + 1) :: .int s :: xs.map D.int))) [p] := Kp.set (by simp)
  show sSeq _ _ _ _ (S.set p (.lst (.int (n + 1) :: .int s :: xs.map D.int)))
  revert g1 k1
  generalize S.set p (.lst (.int (n + 1) :: .int s :: xs.map D.int)) = S1
  intro g1 k1
  have num : ∀ x : Int, 0 ≤ x % 2147483647 ∧ x % 2147483647 < 2147483647 := fun x => ⟨Int.emod_nonneg _ (by decide), Int.emod_lt_of_pos _ (by decide)⟩
  have fin : ∀ (c n' : Int) (ys : List D) (S2 : Sto), ys.length ≤ 63 → (∃ zs : List Int, ys = zs.map D.int) → S2[p]? = some (.lst (.int n' :: .int s :: ys)) → Kp S S2 [p] →
      sem__law_draw_5 (Dend Q) [some (.ref p), some (.int m), some (.int c), none] S2 := by
    intro c n' ys S2 hl ⟨zs, hz⟩ g2 k2
    subst hz
    refine ⟨by decide, _, g2, _, at0, cmul_l (by decide), cmul_r (by decide), by decide, cmul_r ?_, cmul_l (by decide), _, g2, _, at0, by decide, cdiv_s (by decide) (by decide), hm, ?_⟩
    · have := num ((c % 2147483629 + 7919 * n') * 48271); omega
    · exact q _ _ (Int.emod_nonneg _ (by omega)) (Int.emod_lt_of_pos _ hm) ⟨_, _, zs, g2, by simpa using hl⟩ k2
  refine ⟨_, g1, _, at1, _, g1, _, at0, cmul_l (by decide), ?_⟩
  refine ⟨_, g1, ?_⟩
  cases hxs : xs with
  | nil =>
    subst hxs
    refine ⟨(fun h => nomatch h), fun _ => ?_⟩
    exact fin _ _ [] S1 (by simp) ⟨[], rfl⟩ g1 k1
  | cons x0 xs0 =>
    refine ⟨fun _ => ?_, fun h => ?_⟩
    · obtain ⟨ys, y, he⟩ : ∃ ys y, xs = ys ++ [y] := ⟨xs.dropLast, xs.getLast (by rw [hxs]; simp), (List.dropLast_concat_getLast _).symm⟩
      rw [he] at g1 hx
      rw [List.map_append] at g1
      have e1 : (D.int (n + 1) :: D.int s :: (ys.map D.int ++ [y].map D.int))[(D.int (n + 1) :: D.int s :: (ys.map D.int ++ [y].map D.int)).length - 1]? = some (.int y) := by simp
      have e2 : (D.int (n + 1) :: D.int s :: (ys.map D.int ++ [y].map D.int)).dropLast = .int (n + 1) :: .int s :: ys.map D.int := by
        rw [show D.int (n + 1) :: D.int s :: (ys.map D.int ++ [y].map D.int) = (D.int (n + 1) :: D.int s :: ys.map D.int) ++ [.int y] by simp, List.dropLast_concat]
      refine ⟨⟨_, g1⟩, _, g1, _, e1, ?_⟩
      rw [e2]
      have g2 : (S1.set p (.lst (.int (n + 1) :: .int s :: ys.map D.int)))[p]? = _ := getS_set g1
      have k2 : Kp S (S1.set p (.lst (.int (n + 1) :: .int s :: ys.map D.int))) [p] := k1.trans (Kp.set (by simp))
      show sSeq _ _ _ _ (S1.set p (.lst (.int (n + 1) :: .int s :: ys.map D.int)))
      revert g2 k2
      generalize S1.set p (.lst (.int (n + 1) :: .int s :: ys.map D.int)) = S2
      intro g2 k2
      rw [List.length_append, List.length_singleton] at hx
      refine ⟨fun _ => ?_, fun _ => ?_⟩
      · refine ⟨⟨_, g2⟩, cdiv_s hm (by omega), _, g2, sizeL (by simp; omega), hm, ?_⟩
        refine q _ _ (Int.emod_nonneg _ (by omega)) (Int.emod_lt_of_pos _ hm) ⟨n + 1, s, ys ++ [y / m], ?_, by simp; omega⟩ (k2.trans (Kp.set (by simp)))
        rw [getS_set g2, List.map_append]; simp
      · exact fin _ _ _ S2 (by simp; omega) ⟨ys, rfl⟩ g2 k2
    · exact absurd (of_decide_eq_false h) (by simp [hxs]; omega)

def sp_law : DSp := sp1 fun a S Q => ∃ ns : List Int, a = .rol (ns.map D.int) ∧ ns.length ≤ 63 ∧ ∀ S', Q (.bl true) S'
def N_law : List Str := ["_law_script", "_law_deck_here", "_law_some", "_law_k", "_law_many"]
def sem_law_1 : WS := (sDrop (wM tyL dAppend (wVar 2) (aCons (wOp dAdd (wC (.int 1)) (wCall sp__law_draw (aCons (wVar 1) (aCons (wC (.int 24)) aNil)))) aNil)))
def sem_law_2 : WS := (sRet (wOp dEq (wNew (lLc (iSeq (wVar 2)) (gNameD 4) (tNotD (tOf (wCall sp__law_right (aCons (wVar 4) aNil)))) (wVar 4) [4])) (wNew (lLst aNil))))
def sem_law_3 : WS := (sSeq (sFor (iRange1 (aCons (wMax2 (aCons (wC (.int 1)) (aCons (wMin2 (aCons (wLen (wVar 0)) (aCons (wC (.int 24)) aNil))) aNil))) aNil)) (gNameD 3) sem_law_1) sem_law_2)
def sem_law_4 : WS := (sSeq (sAsg (wNew (lLst (aCons (wC (.int 1)) (aCons (wC (.int 2)) (aCons (wC (.int 3)) (aCons (wC (.int 24)) aNil)))))) (gNameD 2)) sem_law_3)
def sem_law : WS := (sSeq (sAsg (wCall sp__law_deck (aCons (wVar 0) aNil)) (gNameD 1)) sem_law_4)
theorem len_law (ds S Q E) (h : sp_law ds S Q E) : ds.length = 1 := sp1_len h
theorem pf_law (ds S Q E) (h : sp_law ds S Q E) : sem_law (Dend Q) (startD N_law ds) S := by
  obtain ⟨a, rfl, ns, rfl, hn, q⟩ := sp1_inv h
  refine ⟨ns, rfl, hn, fun p S1 w1 _ _ => ?_⟩
  refine ⟨sizeLe (by simp), ?_⟩
  have w2 : Deck (S1 ++ [O.lst [.int 1, .int 2, .int 3, .int 24]]) p := w1.keep (ex := []) Kp.app (by simp)
  have g2 : (S1 ++ [O.lst [.int 1, .int 2, .int 3, .int 24]])[S1.length]? = some (.lst (([1, 2, 3, 24] : List Nat).map fun m : Nat => D.int (m : Int))) := getS_new
  have hp := w1.lt
  show sem_law_3 (Dend Q) [some (.rol (ns.map D.int)), some (.ref p), some (.ref S1.length), none, none] (S1 ++ [O.lst [.int 1, .int 2, .int 3, .int 24]])
  have hpt : p ≠ S1.length := by omega
  revert w2 g2 hpt
  generalize S1 ++ [O.lst [.int 1, .int 2, .int 3, .int 24]] = S2
  generalize S1.length = t
  intro w2 g2 hpt
  refine ⟨⟨by omega, by omega⟩, fun i env S' => Deck S' p ∧ i ≤ 24 ∧ (∃ x y, env = [some (.rol (ns.map D.int)), some (.ref p), some (.ref t), x, y]) ∧ ∃ ms : List Nat, S'[t]? = some (.lst (ms.map fun m : Nat => D.int (m : Int))) ∧ ms.length = 4 + i ∧ ∀ m ∈ ms, 1 ≤ m ∧ m ≤ 24, ⟨w2, by omega, ⟨_, _, rfl⟩, _, g2, rfl, by decide⟩, fun _ _ _ _ _ => trivial, ?_, ?_⟩
  · rintro i d env S' hi ⟨w3, h3, ⟨x, y, rfl⟩, ms, g3, h4, h5⟩
    obtain ⟨hi', rfl⟩ := range_get hi
    refine ⟨⟨_, g3⟩, p, 24, rfl, rfl, by decide, by decide, w3, fun r S4 r0 r1 w4 k4 => ?_⟩
    have g4 := k4.get g3 (by simp; omega)
    refine ⟨_, g4, sizeL (by simp; omega), w4.keep (ex := [t]) (Kp.set (by simp)) (by simpa using hpt), by omega, ⟨_, _, rfl⟩, ms ++ [1 + r.toNat], ?_, by simp; omega, ?_⟩
    · rw [getS_set g4]; simp; omega
    · intro m hm
      rcases List.mem_append.mp hm with h | h
      · exact h5 m h
      · rw [List.mem_singleton.mp h]; omega
  · rintro env S' ⟨w3, _, ⟨x, y, rfl⟩, ms, g3, h4, h5⟩
    refine ⟨_, g3, fun i acc S4 => acc = [] ∧ S4[t]? = some (.lst (ms.map fun m : Nat => D.int (m : Int))), ⟨rfl, g3⟩, fun i acc S4 _ h => h.2, ?_, ?_⟩
    · rintro i d acc S4 hi ⟨rfl, g4⟩
      obtain ⟨m, hm, rfl⟩ := map_get hi
      obtain ⟨b1, b2⟩ := h5 m (List.mem_of_getElem? hm)
      exact ⟨m, rfl, b1, b2, fun S5 k5 => ⟨(fun h => nomatch h), fun _ => ⟨rfl, k5.get g4 (by simp)⟩⟩⟩
    · rintro acc S4 ⟨rfl, g4⟩
      refine ⟨Nat.zero_le _, _, _, getS_app getS_new, getS_new, okL_nil, okL_nil, q _⟩
theorem law_true (ns : List Int) (h : ns.length ≤ 63) : sp_law [.rol (ns.map D.int)] [] (fun v _ => v = .bl true) fun _ _ _ => False := ⟨ns, rfl, h, fun _ => rfl⟩
end K30
namespace K30
open PySem PySem.Spec PyProof.Rows L2 Z 
def topS (i : Nat) : Stmt := PySem.Challenge.pw_joinedever_k30_greatest_layers.main.body.getD i (.Pass ⟨0, 0, 0, 0⟩)
abbrev s_is_name : Stmt := topS 3
theorem sc_is_name : FnScope N_is_name ["thing"] (defScope s_is_name) := ⟨rfl, rfl, rfl, by decide +kernel, rfl, by decide +kernel, by decide +kernel⟩
abbrev s_is_whole : Stmt := topS 8
theorem sc_is_whole : FnScope N_is_whole ["thing", "least", "most"] (defScope s_is_whole) := ⟨rfl, rfl, rfl, by decide +kernel, rfl, by decide +kernel, by decide +kernel⟩
abbrev s_most_layer : Stmt := topS 9
theorem sc_most_layer : FnScope N_most_layer ["many"] (defScope s_most_layer) := ⟨rfl, rfl, rfl, by decide +kernel, rfl, by decide +kernel, by decide +kernel⟩
abbrev s_bare_layers : Stmt := topS 10
theorem sc_bare_layers : FnScope N_bare_layers ["many"] (defScope s_bare_layers) := ⟨rfl, rfl, rfl, by decide +kernel, rfl, by decide +kernel, by decide +kernel⟩
abbrev s_stand_of : Stmt := topS 11
theorem sc_stand_of : FnScope N_stand_of ["layers"] (defScope s_stand_of) := ⟨rfl, rfl, rfl, by decide +kernel, rfl, by decide +kernel, by decide +kernel⟩
abbrev s_is_row : Stmt := topS 12
theorem sc_is_row : FnScope N_is_row ["thing", "many"] (defScope s_is_row) := ⟨rfl, rfl, rfl, by decide +kernel, rfl, by decide +kernel, by decide +kernel⟩
abbrev s_are_rows : Stmt := topS 13
theorem sc_are_rows : FnScope N_are_rows ["thing", "many"] (defScope s_are_rows) := ⟨rfl, rfl, rfl, by decide +kernel, rfl, by decide +kernel, by decide +kernel⟩
abbrev s_tops_by : Stmt := topS 14
theorem sc_tops_by : FnScope N_tops_by ["many", "rows"] (defScope s_tops_by) := ⟨rfl, rfl, rfl, by decide +kernel, rfl, by decide +kernel, by decide +kernel⟩
abbrev s_has_ring : Stmt := topS 15
theorem sc_has_ring : FnScope N_has_ring ["many", "rows"] (defScope s_has_ring) := ⟨rfl, rfl, rfl, by decide +kernel, rfl, by decide +kernel, by decide +kernel⟩
abbrev s_layer_holds : Stmt := topS 16
theorem sc_layer_holds : FnScope N_layer_holds ["many", "rows", "layer"] (defScope s_layer_holds) := ⟨rfl, rfl, rfl, by decide +kernel, rfl, by decide +kernel, by decide +kernel⟩
abbrev s_layers_hold : Stmt := topS 17
theorem sc_layers_hold : FnScope N_layers_hold ["thing"] (defScope s_layers_hold) := ⟨rfl, rfl, rfl, by decide +kernel, rfl, by decide +kernel, by decide +kernel⟩
abbrev s__law_deck : Stmt := topS 19
theorem sc__law_deck : FnScope N__law_deck ["_law_script"] (defScope s__law_deck) := ⟨rfl, rfl, rfl, by decide +kernel, rfl, by decide +kernel, by decide +kernel⟩
abbrev s__law_draw : Stmt := topS 20
theorem sc__law_draw : FnScope N__law_draw ["_law_deck_here", "_law_most"] (defScope s__law_draw) := ⟨rfl, rfl, rfl, by decide +kernel, rfl, by decide +kernel, by decide +kernel⟩
abbrev s__law_halved : Stmt := topS 21
theorem sc__law_halved : FnScope N__law_halved ["_law_many", "_law_layer"] (defScope s__law_halved) := ⟨rfl, rfl, rfl, by decide +kernel, rfl, by decide +kernel, by decide +kernel⟩
abbrev s__law_right : Stmt := topS 22
theorem sc__law_right : FnScope N__law_right ["_law_many"] (defScope s__law_right) := ⟨rfl, rfl, rfl, by decide +kernel, rfl, by decide +kernel, by decide +kernel⟩
abbrev s_law : Stmt := topS 23
theorem sc_law : FnScope N_law ["_law_script"] (defScope s_law) := ⟨rfl, rfl, rfl, by decide +kernel, rfl, by decide +kernel, by decide +kernel⟩
structure Fx (K : PySem.W.Frag) (mg : Str → Option Value) where
  f_is_name : Addr
  fd_is_name : FuncData
  F_is_name : Fun K "is_name" "is_name" s_is_name f_is_name fd_is_name
  b_is_name : Binds K fd_is_name ["thing"] []
  g_is_name : mg "is_name" = some (.ref f_is_name)
  f_is_whole : Addr
  fd_is_whole : FuncData
  F_is_whole : Fun K "is_whole" "is_whole" s_is_whole f_is_whole fd_is_whole
  b_is_whole : Binds K fd_is_whole ["thing", "least", "most"] []
  g_is_whole : mg "is_whole" = some (.ref f_is_whole)
  f_most_layer : Addr
  fd_most_layer : FuncData
  F_most_layer : Fun K "most_layer" "most_layer" s_most_layer f_most_layer fd_most_layer
  b_most_layer : Binds K fd_most_layer ["many"] []
  g_most_layer : mg "most_layer" = some (.ref f_most_layer)
  f_bare_layers : Addr
  fd_bare_layers : FuncData
  F_bare_layers : Fun K "bare_layers" "bare_layers" s_bare_layers f_bare_layers fd_bare_layers
  b_bare_layers : Binds K fd_bare_layers ["many"] []
  g_bare_layers : mg "bare_layers" = some (.ref f_bare_layers)
  f_stand_of : Addr
  fd_stand_of : FuncData
  F_stand_of : Fun K "stand_of" "stand_of" s_stand_of f_stand_of fd_stand_of
  b_stand_of : Binds K fd_stand_of ["layers"] []
  g_stand_of : mg "stand_of" = some (.ref f_stand_of)
  f_is_row : Addr
  fd_is_row : FuncData
  F_is_row : Fun K "is_row" "is_row" s_is_row f_is_row fd_is_row
  b_is_row : Binds K fd_is_row ["thing", "many"] []
  g_is_row : mg "is_row" = some (.ref f_is_row)
  f_are_rows : Addr
  fd_are_rows : FuncData
  F_are_rows : Fun K "are_rows" "are_rows" s_are_rows f_are_rows fd_are_rows
  b_are_rows : Binds K fd_are_rows ["thing", "many"] []
  g_are_rows : mg "are_rows" = some (.ref f_are_rows)
  f_tops_by : Addr
  fd_tops_by : FuncData
  F_tops_by : Fun K "tops_by" "tops_by" s_tops_by f_tops_by fd_tops_by
  b_tops_by : Binds K fd_tops_by ["many", "rows"] []
  g_tops_by : mg "tops_by" = some (.ref f_tops_by)
  f_has_ring : Addr
  fd_has_ring : FuncData
  F_has_ring : Fun K "has_ring" "has_ring" s_has_ring f_has_ring fd_has_ring
  b_has_ring : Binds K fd_has_ring ["many", "rows"] []
  g_has_ring : mg "has_ring" = some (.ref f_has_ring)
  f_layer_holds : Addr
  fd_layer_holds : FuncData
  F_layer_holds : Fun K "layer_holds" "layer_holds" s_layer_holds f_layer_holds fd_layer_holds
  b_layer_holds : Binds K fd_layer_holds ["many", "rows", "layer"] []
  g_layer_holds : mg "layer_holds" = some (.ref f_layer_holds)
  f_layers_hold : Addr
  fd_layers_hold : FuncData
  F_layers_hold : Fun K "layers_hold" "layers_hold" s_layers_hold f_layers_hold fd_layers_hold
  b_layers_hold : Binds K fd_layers_hold ["thing"] []
  g_layers_hold : mg "layers_hold" = some (.ref f_layers_hold)
  f__law_deck : Addr
  fd__law_deck : FuncData
  F__law_deck : Fun K "_law_deck" "_law_deck" s__law_deck f__law_deck fd__law_deck
  b__law_deck : Binds K fd__law_deck ["_law_script"] []
  g__law_deck : mg "_law_deck" = some (.ref f__law_deck)
  f__law_draw : Addr
  fd__law_draw : FuncData
  F__law_draw : Fun K "_law_draw" "_law_draw" s__law_draw f__law_draw fd__law_draw
  b__law_draw : Binds K fd__law_draw ["_law_deck_here", "_law_most"] []
  g__law_draw : mg "_law_draw" = some (.ref f__law_draw)
  f__law_halved : Addr
  fd__law_halved : FuncData
  F__law_halved : Fun K "_law_halved" "_law_halved" s__law_halved f__law_halved fd__law_halved
  b__law_halved : Binds K fd__law_halved ["_law_many", "_law_layer"] []
  g__law_halved : mg "_law_halved" = some (.ref f__law_halved)
  f__law_right : Addr
  fd__law_right : FuncData
  F__law_right : Fun K "_law_right" "_law_right" s__law_right f__law_right fd__law_right
  b__law_right : Binds K fd__law_right ["_law_many"] []
  g__law_right : mg "_law_right" = some (.ref f__law_right)
  f_law : Addr
  fd_law : FuncData
  F_law : Fun K "law" "law" s_law f_law fd_law
  b_law : Binds K fd_law ["_law_script"] []
  g_law : mg "law" = some (.ref f_law)
  m_all : mg "all" = none
  m_bool : mg "bool" = none
  m_enumerate : mg "enumerate" = none
  m_int : mg "int" = none
  m_isinstance : mg "isinstance" = none
  m_len : mg "len" = none
  m_list : mg "list" = none
  m_max : mg "max" = none
  m_min : mg "min" = none
  m_range : mg "range" = none
  m_set : mg "set" = none
  m_str : mg "str" = none
  m_sum : mg "sum" = none
  m_tuple : mg "tuple" = none
  m_zip : mg "zip" = none
  t_GREATEST_WEIGHT : Tok
  c_GREATEST_WEIGHT : mg "GREATEST_WEIGHT" = some (.int 1000000000 t_GREATEST_WEIGHT)
  t_LETTERS : Tok
  c_LETTERS : mg "LETTERS" = some (.str "abcdefghijklmnopqrstuvwxyz" t_LETTERS)
  t_MOST_LETTERS : Tok
  c_MOST_LETTERS : mg "MOST_LETTERS" = some (.int 8 t_MOST_LETTERS)
  t_MOST_PLACES : Tok
  c_MOST_PLACES : mg "MOST_PLACES" = some (.int 24 t_MOST_PLACES)
  t_MOST_ROWS : Tok
  c_MOST_ROWS : mg "MOST_ROWS" = some (.int 60 t_MOST_ROWS)
section
variable {P : Program} {w : World} {K : PySem.W.Frag} {mg : Str → Option Value} {base : Heap}
theorem ok_is_name (T : Fx K mg) : FnOk P w K mg base CX0 1 T.f_is_name T.fd_is_name ["thing"] (liftSp K sp_is_name) := by
  refine fn_ok (k := 0) (wb := sem_is_name) T.F_is_name sc_is_name len_is_name (fun cdv A outer s H E hr => ?_) pf_is_name
  have hu := hr.units
  have hu0 := hr.units0
  have sc := sc_is_name
  exact (fss_cons (fs_if (ft_w (fw_or (ft_not (ft_val (fe_isi (T := .str) (by decide) (by rfl) T.m_isinstance (by rfl) T.m_str (by decide +kernel) (fe_var 0)))) (fw_or1 (ft_not (ft_chain op_le op_le sim_le sim_le fe_int (fe_len (by rfl) T.m_len (fe_var 0)) (fe_gint (by rfl) T.c_MOST_LETTERS) (by with_unfolding_all rfl)))))) (fss_one (fs_ret fe_bl)) fss_nil)
  (fss_one (fs_ret (fe_L (cr_all rfl) sim_all (by rfl) T.m_all (by decide +kernel) (fl_lc (own := [("sign", 1)]) rfl sc.nd (fi_seq (fe_var 0)) (blkOk_by (N := N_is_name) (sc := defScope s_is_name) (own := [("sign", 1)]) (by decide +kernel)) (fun _ _ _ _ _ => (fg_name (i := 1) sc.nd)) (fun _ _ _ _ _ => fts_nil) (fun _ _ _ _ _ => (fe_in (fe_var 1) (fe_gstr (by rfl) T.c_LETTERS))))))))
theorem ok_is_whole (T : Fx K mg) : FnOk P w K mg base CX0 1 T.f_is_whole T.fd_is_whole ["thing", "least", "most"] (liftSp K sp_is_whole) := by
  refine fn_ok (k := 0) (wb := sem_is_whole) T.F_is_whole sc_is_whole len_is_whole (fun cdv A outer s H E hr => ?_) pf_is_whole
  have hu := hr.units
  have hu0 := hr.units0
  have sc := sc_is_whole
  exact (fss_one (fs_ret (fe_and (fe_isi (T := .int) (by decide) (by rfl) T.m_isinstance (by rfl) T.m_int (by decide +kernel) (fe_var 0)) (fe_and (fe_not (fe_isi (T := .bool) (by decide) (by rfl) T.m_isinstance (by rfl) T.m_bool (by decide +kernel) (fe_var 0))) (fe_one (fe_chain op_le op_le sim_le sim_le (fe_var 1) (fe_var 0) (fe_var 2) (by with_unfolding_all rfl)))))))
theorem ok_most_layer (T : Fx K mg) : FnOk P w K mg base CX0 1 T.f_most_layer T.fd_most_layer ["many"] (liftSp K sp_most_layer) := by
  refine fn_ok (k := 0) (wb := sem_most_layer) T.F_most_layer sc_most_layer len_most_layer (fun cdv A outer s H E hr => ?_) pf_most_layer
  have hu := hr.units
  have hu0 := hr.units0
  have sc := sc_most_layer
  exact (fss_cons (fs_set (i := 1) sc.nd fe_int)
  (fss_cons (fs_while PassesOwn.never (ft_cmp op_ge sim_ge (fe_div (fe_var 0) fe_int) fe_int (nomark _)) (fss_cons (fs_set (i := 0) sc.nd (fe_div (fe_var 0) fe_int))
  (fss_one (fs_set (i := 1) sc.nd (fe_add (fe_var 1) fe_int)))))
  (fss_one (fs_ret (fe_var 1)))))
theorem ok_bare_layers (T : Fx K mg) : FnOk P w K mg base CX0 1 T.f_bare_layers T.fd_bare_layers ["many"] (liftSp K sp_bare_layers) := by
  refine fn_ok (k := 0) (wb := sem_bare_layers) T.F_bare_layers sc_bare_layers len_bare_layers (fun cdv A outer s H E hr => ?_) pf_bare_layers
  have hu := hr.units
  have hu0 := hr.units0
  have sc := sc_bare_layers
  exact (fss_one (fs_ret (fe_tup (fa_cons (fe_var 0) (fa_cons (fe_tup fa_nil) fa_nil)))))
theorem ok_stand_of (T : Fx K mg) : FnOk P w K mg base CX0 1 T.f_stand_of T.fd_stand_of ["layers"] (liftSp K sp_stand_of) := by
  refine fn_ok (k := 0) (wb := sem_stand_of) T.F_stand_of sc_stand_of len_stand_of (fun cdv A outer s H E hr => ?_) pf_stand_of
  have hu := hr.units
  have hu0 := hr.units0
  have sc := sc_stand_of
  exact (fss_one (fs_ret (fe_QT call_tuple_of sim_tuple (by rfl) T.m_tuple (by decide +kernel) (fq_new (fl_lc (own := [("row", 1)]) rfl sc.nd (fi_seq (fe_ix (fe_var 0) fe_int)) (blkOk_by (N := N_stand_of) (sc := defScope s_stand_of) (own := [("row", 1)]) (by decide +kernel)) (fun _ _ _ _ _ => (fg_name (i := 1) sc.nd)) (fun _ _ _ _ _ => fts_nil) (fun _ _ _ _ _ => (fe_sl (fe_var 1) fo_none (fo_some fe_int))))))))
theorem ok_is_row (T : Fx K mg) : FnOk P w K mg base CX0 2 T.f_is_row T.fd_is_row ["thing", "many"] (liftSp K sp_is_row) := by
  refine fn_ok (k := 1) (wb := sem_is_row) T.F_is_row sc_is_row len_is_row (fun cdv A outer s H E hr => ?_) pf_is_row
  have hu := hr.units
  have hu0 := hr.units0
  have sc := sc_is_row
  exact (fss_cons (fs_if (ft_w (fw_or (ft_not (ft_val (fe_isi (T := .tuple) (by decide) (by rfl) T.m_isinstance (by rfl) T.m_tuple (by decide +kernel) (fe_var 0)))) (fw_or (ft_cmp (op_neA hu) sim_ne (fe_len (by rfl) T.m_len (fe_var 0)) fe_int (nomark _)) (fw_or1 (ft_not (ft_val (fe_call (ok_is_name T) (hr.mono (by decide)) (by rfl) T.g_is_name T.F_is_name.kp T.b_is_name pass0 (fa_cons (fe_ix (fe_var 0) fe_int) fa_nil)))))))) (fss_one (fs_ret fe_bl)) fss_nil)
  (fss_cons (fs_if (ft_w (fw_or (ft_not (ft_val (fe_call (ok_is_whole T) (hr.mono (by decide)) (by rfl) T.g_is_whole T.F_is_whole.kp T.b_is_whole pass0 (fa_cons (fe_ix (fe_var 0) fe_int) (fa_cons fe_int (fa_cons (fe_sub (fe_var 1) fe_int) fa_nil)))))) (fw_or (ft_not (ft_val (fe_call (ok_is_whole T) (hr.mono (by decide)) (by rfl) T.g_is_whole T.F_is_whole.kp T.b_is_whole pass0 (fa_cons (fe_ix (fe_var 0) fe_int) (fa_cons fe_int (fa_cons (fe_sub (fe_var 1) fe_int) fa_nil)))))) (fw_or1 (ft_cmp (op_eqA hu) sim_eq (fe_ix (fe_var 0) fe_int) (fe_ix (fe_var 0) fe_int) (nomark _)))))) (fss_one (fs_ret fe_bl)) fss_nil)
  (fss_cons (fs_if (ft_w (fw_or (ft_not (ft_val (fe_call (ok_is_whole T) (hr.mono (by decide)) (by rfl) T.g_is_whole T.F_is_whole.kp T.b_is_whole pass0 (fa_cons (fe_ix (fe_var 0) fe_int) (fa_cons fe_int (fa_cons (fe_gint (by rfl) T.c_GREATEST_WEIGHT) fa_nil)))))) (fw_or1 (ft_not (ft_val (fe_call (ok_is_whole T) (hr.mono (by decide)) (by rfl) T.g_is_whole T.F_is_whole.kp T.b_is_whole pass0 (fa_cons (fe_ix (fe_var 0) fe_int) (fa_cons fe_int (fa_cons (fe_call (ok_most_layer T) (hr.mono (by decide)) (by rfl) T.g_most_layer T.F_most_layer.kp T.b_most_layer pass0 (fa_cons (fe_var 1) fa_nil)) fa_nil))))))))) (fss_one (fs_ret fe_bl)) fss_nil)
  (fss_one (fs_ret (fe_isi (T := .bool) (by decide) (by rfl) T.m_isinstance (by rfl) T.m_bool (by decide +kernel) (fe_ix (fe_var 0) fe_int)))))))
theorem ok_are_rows (T : Fx K mg) : FnOk P w K mg base CX0 3 T.f_are_rows T.fd_are_rows ["thing", "many"] (liftSp K sp_are_rows) := by
  refine fn_ok (k := 2) (wb := sem_are_rows) T.F_are_rows sc_are_rows len_are_rows (fun cdv A outer s H E hr => ?_) pf_are_rows
  have hu := hr.units
  have hu0 := hr.units0
  have sc := sc_are_rows
  exact (fss_cons (fs_if (ft_w (fw_or (ft_not (ft_val (fe_isi (T := .tuple) (by decide) (by rfl) T.m_isinstance (by rfl) T.m_tuple (by decide +kernel) (fe_var 0)))) (fw_or1 (ft_cmp op_gt sim_gt (fe_len (by rfl) T.m_len (fe_var 0)) (fe_gint (by rfl) T.c_MOST_ROWS) (nomark _))))) (fss_one (fs_ret fe_bl)) fss_nil)
  (fss_cons (fs_if (ft_not (ft_val (fe_L (cr_all rfl) sim_all (by rfl) T.m_all (by decide +kernel) (fl_lc (own := [("one", 2)]) rfl sc.nd (fi_seq (fe_var 0)) (blkOk_by (N := N_are_rows) (sc := defScope s_are_rows) (own := [("one", 2)]) (by decide +kernel)) (fun _ _ _ _ _ => (fg_name (i := 2) sc.nd)) (fun _ _ _ _ _ => fts_nil) (fun _ _ _ _ _ => (fe_call (ok_is_row T) (hr.mono (by decide)) (by rfl) T.g_is_row T.F_is_row.kp T.b_is_row pass0 (fa_cons (fe_var 2) (fa_cons (fe_var 1) fa_nil)))))))) (fss_one (fs_ret fe_bl)) fss_nil)
  (fss_one (fs_ret (fe_L (cr_all rfl) sim_all (by rfl) T.m_all (by decide +kernel) (fl_lc (own := [("one", 2), ("other", 3)]) rfl sc.nd (fi_zip (by rfl) T.m_zip (fe_var 0) (fe_sl (fe_var 0) (fo_some fe_int) fo_none)) (blkOk_by (N := N_are_rows) (sc := defScope s_are_rows) (own := [("one", 2), ("other", 3)]) (by decide +kernel)) (fun _ _ _ _ _ => (fg_tup rfl (fgs_cons (fg_name (i := 2) sc.nd) (fgs_cons (fg_name (i := 3) sc.nd) fgs_nil)))) (fun _ _ _ _ _ => fts_nil) (fun _ _ _ _ _ => (fe_cmp (op_ltB hu0) sim_ltB (fe_ix (fe_var 2) fe_int) (fe_ix (fe_var 3) fe_int) (nomark _)))))))))
theorem ok_tops_by (T : Fx K mg) : FnOk P w K mg base CX0 1 T.f_tops_by T.fd_tops_by ["many", "rows"] (liftSp K sp_tops_by) := by
  refine fn_ok (k := 0) (wb := sem_tops_by) T.F_tops_by sc_tops_by len_tops_by (fun cdv A outer s H E hr => ?_) pf_tops_by
  have hu := hr.units
  have hu0 := hr.units0
  have sc := sc_tops_by
  exact (fss_cons (fs_set (i := 2) sc.nd (fe_new (fl_range1 rfl (by rfl) T.m_list (by rfl) T.m_range (fe_var 0))))
  (fss_cons (fs_for PassesOwn.never rfl (fi_seq (fe_var 1)) (fg_name (i := 3) sc.nd) (fss_cons (fs_set (i := 4) sc.nd (fe_ix (fe_var 2) (fe_ix (fe_var 3) fe_int)))
  (fss_cons (fs_set (i := 5) sc.nd (fe_ix (fe_var 2) (fe_ix (fe_var 3) fe_int)))
  (fss_one (fs_if (ft_cmp (op_neA hu) sim_ne (fe_var 4) (fe_var 5) (nomark _)) (fss_one (fs_setLc (i := 2) (own := [("top", 6)]) rfl sc.nd (fi_seq (fe_var 2)) (blkOk_by (N := N_tops_by) (sc := defScope s_tops_by) (own := [("top", 6)]) (by decide +kernel)) (fun _ _ _ _ _ => (fg_name (i := 6) sc.nd)) (fun _ _ _ _ _ => fts_nil) (fun _ _ _ _ _ => (fe_ifE (ft_cmp (op_eqA hu) sim_eq (fe_var 6) (fe_var 5) (nomark _)) (fe_var 4) (fe_var 6))))) fss_nil)))))
  (fss_one (fs_ret (fe_var 2)))))
theorem ok_has_ring (T : Fx K mg) : FnOk P w K mg base CX0 2 T.f_has_ring T.fd_has_ring ["many", "rows"] (liftSp K sp_has_ring) := by
  refine fn_ok (k := 1) (wb := sem_has_ring) T.F_has_ring sc_has_ring len_has_ring (fun cdv A outer s H E hr => ?_) pf_has_ring
  have hu := hr.units
  have hu0 := hr.units0
  have sc := sc_has_ring
  exact (fss_cons (fs_set (i := 2) sc.nd (fe_call (ok_tops_by T) (hr.mono (by decide)) (by rfl) T.g_tops_by T.F_tops_by.kp T.b_tops_by pass0 (fa_cons (fe_var 0) (fa_cons (fe_var 1) fa_nil))))
  (fss_one (fs_ret (fe_cmp (op_ltB hu0) sim_ltB (fe_sub (fe_var 0) (fe_lenSet (by rfl) T.m_len (by rfl) T.m_set rfl (fe_var 2))) (fe_len (by rfl) T.m_len (fe_var 1)) (nomark _)))))
theorem ok_layer_holds (T : Fx K mg) : FnOk P w K mg base CX0 2 T.f_layer_holds T.fd_layer_holds ["many", "rows", "layer"] (liftSp K sp_layer_holds) := by
  refine fn_ok (k := 1) (wb := sem_layer_holds) T.F_layer_holds sc_layer_holds len_layer_holds (fun cdv A outer s H E hr => ?_) pf_layer_holds
  have hu := hr.units
  have hu0 := hr.units0
  have sc := sc_layer_holds
  exact (fss_cons (fs_setLc (i := 3) (own := [("row", 4)]) rfl sc.nd (fi_seq (fe_var 1)) (blkOk_by (N := N_layer_holds) (sc := defScope s_layer_holds) (own := [("row", 4)]) (by decide +kernel)) (fun _ _ _ _ _ => (fg_name (i := 4) sc.nd)) (fun _ _ _ _ _ => (fts_one (ft_cmp op_ge sim_ge (fe_ix (fe_var 4) fe_int) (fe_var 2) (nomark _)))) (fun _ _ _ _ _ => (fe_var 4)))
  (fss_cons (fs_set (i := 5) sc.nd (fe_call (ok_tops_by T) (hr.mono (by decide)) (by rfl) T.g_tops_by T.F_tops_by.kp T.b_tops_by pass0 (fa_cons (fe_var 0) (fa_cons (fe_new (fl_lc (own := [("row", 4)]) rfl sc.nd (fi_seq (fe_var 3)) (blkOk_by (N := N_layer_holds) (sc := defScope s_layer_holds) (own := [("row", 4)]) (by decide +kernel)) (fun _ _ _ _ _ => (fg_name (i := 4) sc.nd)) (fun _ _ _ _ _ => (fts_one (ft_val (fe_ix (fe_var 4) fe_int)))) (fun _ _ _ _ _ => (fe_var 4)))) fa_nil))))
  (fss_cons (fs_if (ft_not (ft_val (fe_L (cr_all rfl) sim_all (by rfl) T.m_all (by decide +kernel) (fl_lc (own := [("row", 4)]) rfl sc.nd (fi_seq (fe_var 3)) (blkOk_by (N := N_layer_holds) (sc := defScope s_layer_holds) (own := [("row", 4)]) (by decide +kernel)) (fun _ _ _ _ _ => (fg_name (i := 4) sc.nd)) (fun _ _ _ _ _ => fts_nil) (fun _ _ _ _ _ => (fe_cmp (op_eqA hu) sim_eq (fe_ix (fe_var 5) (fe_ix (fe_var 4) fe_int)) (fe_ix (fe_var 5) (fe_ix (fe_var 4) fe_int)) (nomark _))))))) (fss_one (fs_ret fe_bl)) fss_nil)
  (fss_cons (fs_set (i := 6) sc.nd (fe_var 0))
  (fss_cons (fs_for PassesOwn.never rfl (fi_range1 (by rfl) T.m_range (fa_cons (fe_var 2) fa_nil)) (fg_name (i := 7) sc.nd) (fss_one (fs_set (i := 6) sc.nd (fe_div (fe_var 6) fe_int))))
  (fss_one (fs_ret (fe_cmp op_le sim_le (fe_L (cr_max rfl) sim_max (by rfl) T.m_max (by decide +kernel) (fl_lc (own := [("top", 8)]) rfl sc.nd (fi_seq (fe_var 5)) (blkOk_by (N := N_layer_holds) (sc := defScope s_layer_holds) (own := [("top", 8)]) (by decide +kernel)) (fun _ _ _ _ _ => (fg_name (i := 8) sc.nd)) (fun _ _ _ _ _ => fts_nil) (fun _ _ _ _ _ => (fe_count (fe_var 5) (fa_cons (fe_var 8) fa_nil))))) (fe_max2 rfl (by rfl) T.m_max (fa_cons (fe_var 6) (fa_cons fe_int fa_nil))) (nomark _)))))))))
theorem ok_layers_hold (T : Fx K mg) : FnOk P w K mg base CX0 4 T.f_layers_hold T.fd_layers_hold ["thing"] (liftSp K sp_layers_hold) := by
  refine fn_ok (k := 3) (wb := sem_layers_hold) T.F_layers_hold sc_layers_hold len_layers_hold (fun cdv A outer s H E hr => ?_) pf_layers_hold
  have hu := hr.units
  have hu0 := hr.units0
  have sc := sc_layers_hold
  exact (fss_cons (fs_if (ft_w (fw_or (ft_not (ft_val (fe_isi (T := .tuple) (by decide) (by rfl) T.m_isinstance (by rfl) T.m_tuple (by decide +kernel) (fe_var 0)))) (fw_or (ft_cmp (op_neA hu) sim_ne (fe_len (by rfl) T.m_len (fe_var 0)) fe_int (nomark _)) (fw_or1 (ft_not (ft_val (fe_call (ok_is_whole T) (hr.mono (by decide)) (by rfl) T.g_is_whole T.F_is_whole.kp T.b_is_whole pass0 (fa_cons (fe_ix (fe_var 0) fe_int) (fa_cons fe_int (fa_cons (fe_gint (by rfl) T.c_MOST_PLACES) fa_nil)))))))))) (fss_one (fs_ret fe_bl)) fss_nil)
  (fss_cons (fs_asg (fe_var 0) (fg_tup rfl (fgs_cons (fg_name (i := 1) sc.nd) (fgs_cons (fg_name (i := 2) sc.nd) fgs_nil))))
  (fss_cons (fs_if (ft_w (fw_or (ft_not (ft_val (fe_call (ok_are_rows T) (hr.mono (by decide)) (by rfl) T.g_are_rows T.F_are_rows.kp T.b_are_rows pass0 (fa_cons (fe_var 2) (fa_cons (fe_var 1) fa_nil))))) (fw_or1 (ft_val (fe_call (ok_has_ring T) (hr.mono (by decide)) (by rfl) T.g_has_ring T.F_has_ring.kp T.b_has_ring pass0 (fa_cons (fe_var 1) (fa_cons (fe_new (fl_lc (own := [("row", 3)]) rfl sc.nd (fi_seq (fe_var 2)) (blkOk_by (N := N_layers_hold) (sc := defScope s_layers_hold) (own := [("row", 3)]) (by decide +kernel)) (fun _ _ _ _ _ => (fg_name (i := 3) sc.nd)) (fun _ _ _ _ _ => (fts_one (ft_val (fe_ix (fe_var 3) fe_int)))) (fun _ _ _ _ _ => (fe_var 3)))) fa_nil))))))) (fss_one (fs_ret fe_bl)) fss_nil)
  (fss_one (fs_ret (fe_L (cr_all rfl) sim_all (by rfl) T.m_all (by decide +kernel) (fl_lc (own := [("layer", 4)]) rfl sc.nd (fi_range1 (by rfl) T.m_range (fa_cons (fe_add (fe_call (ok_most_layer T) (hr.mono (by decide)) (by rfl) T.g_most_layer T.F_most_layer.kp T.b_most_layer pass0 (fa_cons (fe_var 1) fa_nil)) fe_int) fa_nil)) (blkOk_by (N := N_layers_hold) (sc := defScope s_layers_hold) (own := [("layer", 4)]) (by decide +kernel)) (fun _ _ _ _ _ => (fg_name (i := 4) sc.nd)) (fun _ _ _ _ _ => fts_nil) (fun _ _ _ _ _ => (fe_call (ok_layer_holds T) (hr.mono (by decide)) (by rfl) T.g_layer_holds T.F_layer_holds.kp T.b_layer_holds pass0 (fa_cons (fe_var 1) (fa_cons (fe_var 2) (fa_cons (fe_var 4) fa_nil))))))))))))
theorem ok__law_deck (T : Fx K mg) : FnOk P w K mg base CX0 1 T.f__law_deck T.fd__law_deck ["_law_script"] (liftSp K sp__law_deck) := by
  refine fn_ok (k := 0) (wb := sem__law_deck) T.F__law_deck sc__law_deck len__law_deck (fun cdv A outer s H E hr => ?_) pf__law_deck
  have hu := hr.units
  have hu0 := hr.units0
  have sc := sc__law_deck
  exact (fss_cons (fs_set (i := 1) sc.nd (fe_new (fl_list (by rfl) T.m_list (fq_new (fl_sl (fe_var 0) fo_none (fo_some fe_int))))))
  (fss_one (fs_ret (fe_new (fl_cat (fl_lst (fa_cons fe_int (fa_cons (fe_add fe_int (fe_mod (fe_L (cr_sum rfl) sim_sum (by rfl) T.m_sum (by decide +kernel) (fl_lc (own := [("_law_k", 2), ("_law_cell", 3)]) rfl sc.nd (fi_enumR (by rfl) T.m_enumerate (fe_var 1)) (blkOk_by (N := N__law_deck) (sc := defScope s__law_deck) (own := [("_law_k", 2), ("_law_cell", 3)]) (by decide +kernel)) (fun _ _ _ _ _ => (fg_tup rfl (fgs_cons (fg_name (i := 2) sc.nd) (fgs_cons (fg_name (i := 3) sc.nd) fgs_nil)))) (fun _ _ _ _ _ => fts_nil) (fun _ _ _ _ _ => (fe_mul (fe_mod (fe_var 3) fe_int) (fe_add (fe_var 2) fe_int))))) fe_int)) fa_nil))) (fl_rev (fe_var 1)))))))
theorem ok__law_draw (T : Fx K mg) : FnOk P w K mg base CX0 1 T.f__law_draw T.fd__law_draw ["_law_deck_here", "_law_most"] (liftSp K sp__law_draw) := by
  refine fn_ok (k := 0) (wb := sem__law_draw) T.F__law_draw sc__law_draw len__law_draw (fun cdv A outer s H E hr => ?_) pf__law_draw
  have hu := hr.units
  have hu0 := hr.units0
  have sc := sc__law_draw
  exact (fss_cons (fs_asg (fe_add (fe_ix (fe_var 0) fe_int) fe_int) (fg_ix (fe_var 0) fe_int))
  (fss_cons (fs_set (i := 2) sc.nd (fe_add (fe_ix (fe_var 0) fe_int) (fe_mul fe_int (fe_ix (fe_var 0) fe_int))))
  (fss_cons (fs_if (ft_cmp op_gt sim_gt (fe_len (by rfl) T.m_len (fe_var 0)) fe_int (nomark _)) (fss_cons (fs_set (i := 2) sc.nd (fe_pop (fe_var 0)))
  (fss_one (fs_if (ft_cmp op_ge sim_ge (fe_var 2) (fe_powc (r := 1000000000000000000) ⟨by decide, by decide, by decide⟩ (by decide +kernel)) (nomark _)) (fss_cons (fs_expr (fe_append (fe_var 0) (fa_cons (fe_div (fe_var 2) (fe_var 1)) fa_nil)))
  (fss_one (fs_ret (fe_mod (fe_var 2) (fe_var 1))))) fss_nil))) fss_nil)
  (fss_cons (fs_set (i := 3) sc.nd (fe_mod (fe_mul (fe_add (fe_mod (fe_var 2) fe_int) (fe_mul fe_int (fe_ix (fe_var 0) fe_int))) fe_int) fe_int))
  (fss_cons (fs_set (i := 3) sc.nd (fe_mod (fe_add (fe_add (fe_mul (fe_var 3) (fe_var 3)) (fe_mul fe_int (fe_var 3))) (fe_ix (fe_var 0) fe_int)) fe_int))
  (fss_one (fs_ret (fe_mod (fe_div (fe_var 3) fe_int) (fe_var 1)))))))))
theorem ok__law_halved (T : Fx K mg) : FnOk P w K mg base CX0 1 T.f__law_halved T.fd__law_halved ["_law_many", "_law_layer"] (liftSp K sp__law_halved) := by
  refine fn_ok (k := 0) (wb := sem__law_halved) T.F__law_halved sc__law_halved len__law_halved (fun cdv A outer s H E hr => ?_) pf__law_halved
  have hu := hr.units
  have hu0 := hr.units0
  have sc := sc__law_halved
  exact (fss_cons (fs_for PassesOwn.never rfl (fi_range1 (by rfl) T.m_range (fa_cons (fe_var 1) fa_nil)) (fg_name (i := 2) sc.nd) (fss_one (fs_set (i := 0) sc.nd (fe_div (fe_var 0) fe_int))))
  (fss_one (fs_ret (fe_var 0))))
theorem ok__law_right (T : Fx K mg) : FnOk P w K mg base CX0 5 T.f__law_right T.fd__law_right ["_law_many"] (liftSp K sp__law_right) := by
  refine fn_ok (k := 4) (wb := sem__law_right) T.F__law_right sc__law_right len__law_right (fun cdv A outer s H E hr => ?_) pf__law_right
  have hu := hr.units
  have hu0 := hr.units0
  have sc := sc__law_right
  exact (fss_cons (fs_set (i := 1) sc.nd (fe_call (ok_most_layer T) (hr.mono (by decide)) (by rfl) T.g_most_layer T.F_most_layer.kp T.b_most_layer pass0 (fa_cons (fe_var 0) fa_nil)))
  (fss_cons (fs_if (ft_w (fw_or (ft_not (ft_val (fe_isi (T := .int) (by decide) (by rfl) T.m_isinstance (by rfl) T.m_int (by decide +kernel) (fe_var 1)))) (fw_or (ft_val (fe_isi (T := .bool) (by decide) (by rfl) T.m_isinstance (by rfl) T.m_bool (by decide +kernel) (fe_var 1))) (fw_or (ft_cmp (op_ltB hu0) sim_ltB (fe_var 1) fe_int (nomark _)) (fw_or1 (ft_cmp op_gt sim_gt (fe_var 1) fe_int (nomark _))))))) (fss_one (fs_ret fe_bl)) fss_nil)
  (fss_cons (fs_if (ft_w (fw_or (ft_w (fw_and (ft_cmp op_gt sim_gt (fe_var 1) fe_int (nomark _)) (fw_and1 (ft_cmp (op_ltB hu0) sim_ltB (fe_call (ok__law_halved T) (hr.mono (by decide)) (by rfl) T.g__law_halved T.F__law_halved.kp T.b__law_halved pass0 (fa_cons (fe_var 0) (fa_cons (fe_var 1) fa_nil))) fe_int (nomark _))))) (fw_or1 (ft_cmp op_gt sim_gt (fe_call (ok__law_halved T) (hr.mono (by decide)) (by rfl) T.g__law_halved T.F__law_halved.kp T.b__law_halved pass0 (fa_cons (fe_var 0) (fa_cons (fe_add (fe_var 1) fe_int) fa_nil))) fe_int (nomark _))))) (fss_one (fs_ret fe_bl)) fss_nil)
  (fss_cons (fs_set (i := 2) sc.nd (fe_call (ok_bare_layers T) (hr.mono (by decide)) (by rfl) T.g_bare_layers T.F_bare_layers.kp T.b_bare_layers pass0 (fa_cons (fe_var 0) fa_nil)))
  (fss_cons (fs_if (ft_w (fw_or (ft_not (ft_val (fe_isi (T := .tuple) (by decide) (by rfl) T.m_isinstance (by rfl) T.m_tuple (by decide +kernel) (fe_var 2)))) (fw_or (ft_cmp (op_neA hu) sim_ne (fe_var 2) (fe_tup (fa_cons (fe_var 0) (fa_cons (fe_tup fa_nil) fa_nil))) (nomark _)) (fw_or (ft_val (fe_isi (T := .bool) (by decide) (by rfl) T.m_isinstance (by rfl) T.m_bool (by decide +kernel) (fe_ix (fe_var 2) fe_int))) (fw_or1 (ft_cmp op_isnotA sim_isnot (fe_call (ok_layers_hold T) (hr.mono (by decide)) (by rfl) T.g_layers_hold T.F_layers_hold.kp T.b_layers_hold pass0 (fa_cons (fe_var 2) fa_nil)) fe_bl (nomark _))))))) (fss_one (fs_ret fe_bl)) fss_nil)
  (fss_one (fs_ret (fe_and (fe_cmp (op_eqA hu) sim_eq (fe_call (ok_stand_of T) (hr.mono (by decide)) (by rfl) T.g_stand_of T.F_stand_of.kp T.b_stand_of pass0 (fa_cons (fe_var 2) fa_nil)) (fe_tup fa_nil) (nomark _)) (fe_and (fe_cmp (op_eqA hu) sim_eq (fe_call (ok_most_layer T) (hr.mono (by decide)) (by rfl) T.g_most_layer T.F_most_layer.kp T.b_most_layer pass0 (fa_cons (fe_var 0) fa_nil)) (fe_var 1) (nomark _)) (fe_one (fe_cmp (op_eqA hu) sim_eq (fe_call (ok_bare_layers T) (hr.mono (by decide)) (by rfl) T.g_bare_layers T.F_bare_layers.kp T.b_bare_layers pass0 (fa_cons (fe_var 0) fa_nil)) (fe_tup (fa_cons (fe_var 0) (fa_cons (fe_tup fa_nil) fa_nil))) (nomark _))))))))))))
theorem ok_law (T : Fx K mg) : FnOk P w K mg base CX0 6 T.f_law T.fd_law ["_law_script"] (liftSp K sp_law) := by
  refine fn_ok (k := 5) (wb := sem_law) T.F_law sc_law len_law (fun cdv A outer s H E hr => ?_) pf_law
  have hu := hr.units
  have hu0 := hr.units0
  have sc := sc_law
  exact (fss_cons (fs_set (i := 1) sc.nd (fe_call (ok__law_deck T) (hr.mono (by decide)) (by rfl) T.g__law_deck T.F__law_deck.kp T.b__law_deck pass0 (fa_cons (fe_var 0) fa_nil)))
  (fss_cons (fs_set (i := 2) sc.nd (fe_new (fl_lst (fa_cons fe_int (fa_cons fe_int (fa_cons fe_int (fa_cons fe_int fa_nil)))))))
  (fss_cons (fs_for PassesOwn.never rfl (fi_range1 (by rfl) T.m_range (fa_cons (fe_max2 rfl (by rfl) T.m_max (fa_cons fe_int (fa_cons (fe_min2 rfl (by rfl) T.m_min (fa_cons (fe_len (by rfl) T.m_len (fe_var 0)) (fa_cons fe_int fa_nil))) fa_nil))) fa_nil)) (fg_name (i := 3) sc.nd) (fss_one (fs_expr (fe_append (fe_var 2) (fa_cons (fe_add fe_int (fe_call (ok__law_draw T) (hr.mono (by decide)) (by rfl) T.g__law_draw T.F__law_draw.kp T.b__law_draw pass0 (fa_cons (fe_var 1) (fa_cons fe_int fa_nil)))) fa_nil)))))
  (fss_one (fs_ret (fe_cmp (op_eqA hu) sim_eq (fe_new (fl_lc (own := [("_law_many", 4)]) rfl sc.nd (fi_seq (fe_var 2)) (blkOk_by (N := N_law) (sc := defScope s_law) (own := [("_law_many", 4)]) (by decide +kernel)) (fun _ _ _ _ _ => (fg_name (i := 4) sc.nd)) (fun _ _ _ _ _ => (fts_one (ft_not (ft_val (fe_call (ok__law_right T) (hr.mono (by decide)) (by rfl) T.g__law_right T.F__law_right.kp T.b__law_right pass0 (fa_cons (fe_var 4) fa_nil)))))) (fun _ _ _ _ _ => (fe_var 4)))) (fe_new (fl_lst fa_nil)) (nomark _)))))))
end
theorem all_mk {l : PySem.W.OpenLaw} {w : World} {K : PySem.W.Frag} {h : Heap} {mg : Str → Option Value} {fa : Addr} (X : K.In h) (G : h.Ns mainGlobals mg) (hfa : mg "law" = some (.ref fa))
    {f0 : Addr} {od0 an0 : Option Addr} {sl0 : Array (Option Value)} {oc0 kV0 dc0 pm0 cd0 ct0 : Value}
    (a0 : PySem.W.nsIn K mainGlobals "is_name" = some (some (.ref f0))) (l0 : K.lookup f0 = some ⟨oc0, od0, .func (PySem.W.fnOf "is_name" "is_name" (defArgs s_is_name) (defBody s_is_name) (defScope s_is_name) .none kV0 dc0 pm0 an0 cd0 ct0), sl0⟩) (c0 : PySem.W.codeIn K cd0 "is_name" = true) (k0 : PySem.W.keepIn K (.ref f0) = true)
    {f1 : Addr} {od1 an1 : Option Addr} {sl1 : Array (Option Value)} {oc1 kV1 dc1 pm1 cd1 ct1 : Value}
    (a1 : PySem.W.nsIn K mainGlobals "is_whole" = some (some (.ref f1))) (l1 : K.lookup f1 = some ⟨oc1, od1, .func (PySem.W.fnOf "is_whole" "is_whole" (defArgs s_is_whole) (defBody s_is_whole) (defScope s_is_whole) .none kV1 dc1 pm1 an1 cd1 ct1), sl1⟩) (c1 : PySem.W.codeIn K cd1 "is_whole" = true) (k1 : PySem.W.keepIn K (.ref f1) = true)
    {f2 : Addr} {od2 an2 : Option Addr} {sl2 : Array (Option Value)} {oc2 kV2 dc2 pm2 cd2 ct2 : Value}
    (a2 : PySem.W.nsIn K mainGlobals "most_layer" = some (some (.ref f2))) (l2 : K.lookup f2 = some ⟨oc2, od2, .func (PySem.W.fnOf "most_layer" "most_layer" (defArgs s_most_layer) (defBody s_most_layer) (defScope s_most_layer) .none kV2 dc2 pm2 an2 cd2 ct2), sl2⟩) (c2 : PySem.W.codeIn K cd2 "most_layer" = true) (k2 : PySem.W.keepIn K (.ref f2) = true)
    {f3 : Addr} {od3 an3 : Option Addr} {sl3 : Array (Option Value)} {oc3 kV3 dc3 pm3 cd3 ct3 : Value}
    (a3 : PySem.W.nsIn K mainGlobals "bare_layers" = some (some (.ref f3))) (l3 : K.lookup f3 = some ⟨oc3, od3, .func (PySem.W.fnOf "bare_layers" "bare_layers" (defArgs s_bare_layers) (defBody s_bare_layers) (defScope s_bare_layers) .none kV3 dc3 pm3 an3 cd3 ct3), sl3⟩) (c3 : PySem.W.codeIn K cd3 "bare_layers" = true) (k3 : PySem.W.keepIn K (.ref f3) = true)
    {f4 : Addr} {od4 an4 : Option Addr} {sl4 : Array (Option Value)} {oc4 kV4 dc4 pm4 cd4 ct4 : Value}
    (a4 : PySem.W.nsIn K mainGlobals "stand_of" = some (some (.ref f4))) (l4 : K.lookup f4 = some ⟨oc4, od4, .func (PySem.W.fnOf "stand_of" "stand_of" (defArgs s_stand_of) (defBody s_stand_of) (defScope s_stand_of) .none kV4 dc4 pm4 an4 cd4 ct4), sl4⟩) (c4 : PySem.W.codeIn K cd4 "stand_of" = true) (k4 : PySem.W.keepIn K (.ref f4) = true)
    {f5 : Addr} {od5 an5 : Option Addr} {sl5 : Array (Option Value)} {oc5 kV5 dc5 pm5 cd5 ct5 : Value}
    (a5 : PySem.W.nsIn K mainGlobals "is_row" = some (some (.ref f5))) (l5 : K.lookup f5 = some ⟨oc5, od5, .func (PySem.W.fnOf "is_row" "is_row" (defArgs s_is_row) (defBody s_is_row) (defScope s_is_row) .none kV5 dc5 pm5 an5 cd5 ct5), sl5⟩) (c5 : PySem.W.codeIn K cd5 "is_row" = true) (k5 : PySem.W.keepIn K (.ref f5) = true)
    {f6 : Addr} {od6 an6 : Option Addr} {sl6 : Array (Option Value)} {oc6 kV6 dc6 pm6 cd6 ct6 : Value}
    (a6 : PySem.W.nsIn K mainGlobals "are_rows" = some (some (.ref f6))) (l6 : K.lookup f6 = some ⟨oc6, od6, .func (PySem.W.fnOf "are_rows" "are_rows" (defArgs s_are_rows) (defBody s_are_rows) (defScope s_are_rows) .none kV6 dc6 pm6 an6 cd6 ct6), sl6⟩) (c6 : PySem.W.codeIn K cd6 "are_rows" = true) (k6 : PySem.W.keepIn K (.ref f6) = true)
    {f7 : Addr} {od7 an7 : Option Addr} {sl7 : Array (Option Value)} {oc7 kV7 dc7 pm7 cd7 ct7 : Value}
    (a7 : PySem.W.nsIn K mainGlobals "tops_by" = some (some (.ref f7))) (l7 : K.lookup f7 = some ⟨oc7, od7, .func (PySem.W.fnOf "tops_by" "tops_by" (defArgs s_tops_by) (defBody s_tops_by) (defScope s_tops_by) .none kV7 dc7 pm7 an7 cd7 ct7), sl7⟩) (c7 : PySem.W.codeIn K cd7 "tops_by" = true) (k7 : PySem.W.keepIn K (.ref f7) = true)
    {f8 : Addr} {od8 an8 : Option Addr} {sl8 : Array (Option Value)} {oc8 kV8 dc8 pm8 cd8 ct8 : Value}
    (a8 : PySem.W.nsIn K mainGlobals "has_ring" = some (some (.ref f8))) (l8 : K.lookup f8 = some ⟨oc8, od8, .func (PySem.W.fnOf "has_ring" "has_ring" (defArgs s_has_ring) (defBody s_has_ring) (defScope s_has_ring) .none kV8 dc8 pm8 an8 cd8 ct8), sl8⟩) (c8 : PySem.W.codeIn K cd8 "has_ring" = true) (k8 : PySem.W.keepIn K (.ref f8) = true)
    {f9 : Addr} {od9 an9 : Option Addr} {sl9 : Array (Option Value)} {oc9 kV9 dc9 pm9 cd9 ct9 : Value}
    (a9 : PySem.W.nsIn K mainGlobals "layer_holds" = some (some (.ref f9))) (l9 : K.lookup f9 = some ⟨oc9, od9, .func (PySem.W.fnOf "layer_holds" "layer_holds" (defArgs s_layer_holds) (defBody s_layer_holds) (defScope s_layer_holds) .none kV9 dc9 pm9 an9 cd9 ct9), sl9⟩) (c9 : PySem.W.codeIn K cd9 "layer_holds" = true) (k9 : PySem.W.keepIn K (.ref f9) = true)
    {f10 : Addr} {od10 an10 : Option Addr} {sl10 : Array (Option Value)} {oc10 kV10 dc10 pm10 cd10 ct10 : Value}
    (a10 : PySem.W.nsIn K mainGlobals "layers_hold" = some (some (.ref f10))) (l10 : K.lookup f10 = some ⟨oc10, od10, .func (PySem.W.fnOf "layers_hold" "layers_hold" (defArgs s_layers_hold) (defBody s_layers_hold) (defScope s_layers_hold) .none kV10 dc10 pm10 an10 cd10 ct10), sl10⟩) (c10 : PySem.W.codeIn K cd10 "layers_hold" = true) (k10 : PySem.W.keepIn K (.ref f10) = true)
    {f11 : Addr} {od11 an11 : Option Addr} {sl11 : Array (Option Value)} {oc11 kV11 dc11 pm11 cd11 ct11 : Value}
    (a11 : PySem.W.nsIn K mainGlobals "_law_deck" = some (some (.ref f11))) (l11 : K.lookup f11 = some ⟨oc11, od11, .func (PySem.W.fnOf "_law_deck" "_law_deck" (defArgs s__law_deck) (defBody s__law_deck) (defScope s__law_deck) .none kV11 dc11 pm11 an11 cd11 ct11), sl11⟩) (c11 : PySem.W.codeIn K cd11 "_law_deck" = true) (k11 : PySem.W.keepIn K (.ref f11) = true)
    {f12 : Addr} {od12 an12 : Option Addr} {sl12 : Array (Option Value)} {oc12 kV12 dc12 pm12 cd12 ct12 : Value}
    (a12 : PySem.W.nsIn K mainGlobals "_law_draw" = some (some (.ref f12))) (l12 : K.lookup f12 = some ⟨oc12, od12, .func (PySem.W.fnOf "_law_draw" "_law_draw" (defArgs s__law_draw) (defBody s__law_draw) (defScope s__law_draw) .none kV12 dc12 pm12 an12 cd12 ct12), sl12⟩) (c12 : PySem.W.codeIn K cd12 "_law_draw" = true) (k12 : PySem.W.keepIn K (.ref f12) = true)
    {f13 : Addr} {od13 an13 : Option Addr} {sl13 : Array (Option Value)} {oc13 kV13 dc13 pm13 cd13 ct13 : Value}
    (a13 : PySem.W.nsIn K mainGlobals "_law_halved" = some (some (.ref f13))) (l13 : K.lookup f13 = some ⟨oc13, od13, .func (PySem.W.fnOf "_law_halved" "_law_halved" (defArgs s__law_halved) (defBody s__law_halved) (defScope s__law_halved) .none kV13 dc13 pm13 an13 cd13 ct13), sl13⟩) (c13 : PySem.W.codeIn K cd13 "_law_halved" = true) (k13 : PySem.W.keepIn K (.ref f13) = true)
    {f14 : Addr} {od14 an14 : Option Addr} {sl14 : Array (Option Value)} {oc14 kV14 dc14 pm14 cd14 ct14 : Value}
    (a14 : PySem.W.nsIn K mainGlobals "_law_right" = some (some (.ref f14))) (l14 : K.lookup f14 = some ⟨oc14, od14, .func (PySem.W.fnOf "_law_right" "_law_right" (defArgs s__law_right) (defBody s__law_right) (defScope s__law_right) .none kV14 dc14 pm14 an14 cd14 ct14), sl14⟩) (c14 : PySem.W.codeIn K cd14 "_law_right" = true) (k14 : PySem.W.keepIn K (.ref f14) = true)
    {f15 : Addr} {od15 an15 : Option Addr} {sl15 : Array (Option Value)} {oc15 kV15 dc15 pm15 cd15 ct15 : Value}
    (a15 : PySem.W.nsIn K mainGlobals "law" = some (some (.ref f15))) (l15 : K.lookup f15 = some ⟨oc15, od15, .func (PySem.W.fnOf "law" "law" (defArgs s_law) (defBody s_law) (defScope s_law) .none kV15 dc15 pm15 an15 cd15 ct15), sl15⟩) (c15 : PySem.W.codeIn K cd15 "law" = true) (k15 : PySem.W.keepIn K (.ref f15) = true)
    (z_all : PySem.W.nsIn K mainGlobals "all" = some none)
    (z_bool : PySem.W.nsIn K mainGlobals "bool" = some none)
    (z_enumerate : PySem.W.nsIn K mainGlobals "enumerate" = some none)
    (z_int : PySem.W.nsIn K mainGlobals "int" = some none)
    (z_isinstance : PySem.W.nsIn K mainGlobals "isinstance" = some none)
    (z_len : PySem.W.nsIn K mainGlobals "len" = some none)
    (z_list : PySem.W.nsIn K mainGlobals "list" = some none)
    (z_max : PySem.W.nsIn K mainGlobals "max" = some none)
    (z_min : PySem.W.nsIn K mainGlobals "min" = some none)
    (z_range : PySem.W.nsIn K mainGlobals "range" = some none)
    (z_set : PySem.W.nsIn K mainGlobals "set" = some none)
    (z_str : PySem.W.nsIn K mainGlobals "str" = some none)
    (z_sum : PySem.W.nsIn K mainGlobals "sum" = some none)
    (z_tuple : PySem.W.nsIn K mainGlobals "tuple" = some none)
    (z_zip : PySem.W.nsIn K mainGlobals "zip" = some none)
    {t_GREATEST_WEIGHT : Tok} (q_GREATEST_WEIGHT : PySem.W.nsIn K mainGlobals "GREATEST_WEIGHT" = some (some (.int 1000000000 t_GREATEST_WEIGHT)))
    {t_LETTERS : Tok} (q_LETTERS : PySem.W.nsIn K mainGlobals "LETTERS" = some (some (.str "abcdefghijklmnopqrstuvwxyz" t_LETTERS)))
    {t_MOST_LETTERS : Tok} (q_MOST_LETTERS : PySem.W.nsIn K mainGlobals "MOST_LETTERS" = some (some (.int 8 t_MOST_LETTERS)))
    {t_MOST_PLACES : Tok} (q_MOST_PLACES : PySem.W.nsIn K mainGlobals "MOST_PLACES" = some (some (.int 24 t_MOST_PLACES)))
    {t_MOST_ROWS : Tok} (q_MOST_ROWS : PySem.W.nsIn K mainGlobals "MOST_ROWS" = some (some (.int 60 t_MOST_ROWS)))
    : ∃ fd : FuncData, (∀ (s : Shared) (v : Value), BindsTo s fd ⟨[v], []⟩ [("_law_script", v)]) ∧ ∀ base : Heap, K.In base → base.Ns mainGlobals mg → FnOk l.prog w K mg base CX0 6 fa fd ["_law_script"] (liftSp K sp_law) := by
  have e := hfa.symm.trans (PySem.W.mg_of X G a15)
  cases e
  have F0 := fun_mk (st := s_is_name) l0 c0 k0
  have F1 := fun_mk (st := s_is_whole) l1 c1 k1
  have F2 := fun_mk (st := s_most_layer) l2 c2 k2
  have F3 := fun_mk (st := s_bare_layers) l3 c3 k3
  have F4 := fun_mk (st := s_stand_of) l4 c4 k4
  have F5 := fun_mk (st := s_is_row) l5 c5 k5
  have F6 := fun_mk (st := s_are_rows) l6 c6 k6
  have F7 := fun_mk (st := s_tops_by) l7 c7 k7
  have F8 := fun_mk (st := s_has_ring) l8 c8 k8
  have F9 := fun_mk (st := s_layer_holds) l9 c9 k9
  have F10 := fun_mk (st := s_layers_hold) l10 c10 k10
  have F11 := fun_mk (st := s__law_deck) l11 c11 k11
  have F12 := fun_mk (st := s__law_draw) l12 c12 k12
  have F13 := fun_mk (st := s__law_halved) l13 c13 k13
  have F14 := fun_mk (st := s__law_right) l14 c14 k14
  have F15 := fun_mk (st := s_law) l15 c15 k15
  exact ⟨PySem.W.fnOf "law" "law" (defArgs s_law) (defBody s_law) (defScope s_law) .none kV15 dc15 pm15 an15 cd15 ct15, fun s v => .of_eq rfl, fun base _ _ => ok_law (P := l.prog) (w := w) (base := base) { f_is_name := _, fd_is_name := _, F_is_name := F0, b_is_name := (F0.binds (ps := ["thing"]) fun _ _ _ _ _ _ us hl => match us, hl with | [_], _ => rfl), g_is_name := PySem.W.mg_of X G a0, f_is_whole := _, fd_is_whole := _, F_is_whole := F1, b_is_whole := (F1.binds (ps := ["thing", "least", "most"]) fun _ _ _ _ _ _ us hl => match us, hl with | [_, _, _], _ => rfl), g_is_whole := PySem.W.mg_of X G a1, f_most_layer := _, fd_most_layer := _, F_most_layer := F2, b_most_layer := (F2.binds (ps := ["many"]) fun _ _ _ _ _ _ us hl => match us, hl with | [_], _ => rfl), g_most_layer := PySem.W.mg_of X G a2, f_bare_layers := _, fd_bare_layers := _, F_bare_layers := F3, b_bare_layers := (F3.binds (ps := ["many"]) fun _ _ _ _ _ _ us hl => match us, hl with | [_], _ => rfl), g_bare_layers := PySem.W.mg_of X G a3, f_stand_of := _, fd_stand_of := _, F_stand_of := F4, b_stand_of := (F4.binds (ps := ["layers"]) fun _ _ _ _ _ _ us hl => match us, hl with | [_], _ => rfl), g_stand_of := PySem.W.mg_of X G a4, f_is_row := _, fd_is_row := _, F_is_row := F5, b_is_row := (F5.binds (ps := ["thing", "many"]) fun _ _ _ _ _ _ us hl => match us, hl with | [_, _], _ => rfl), g_is_row := PySem.W.mg_of X G a5, f_are_rows := _, fd_are_rows := _, F_are_rows := F6, b_are_rows := (F6.binds (ps := ["thing", "many"]) fun _ _ _ _ _ _ us hl => match us, hl with | [_, _], _ => rfl), g_are_rows := PySem.W.mg_of X G a6, f_tops_by := _, fd_tops_by := _, F_tops_by := F7, b_tops_by := (F7.binds (ps := ["many", "rows"]) fun _ _ _ _ _ _ us hl => match us, hl with | [_, _], _ => rfl), g_tops_by := PySem.W.mg_of X G a7, f_has_ring := _, fd_has_ring := _, F_has_ring := F8, b_has_ring := (F8.binds (ps := ["many", "rows"]) fun _ _ _ _ _ _ us hl => match us, hl with | [_, _], _ => rfl), g_has_ring := PySem.W.mg_of X G a8, f_layer_holds := _, fd_layer_holds := _, F_layer_holds := F9, b_layer_holds := (F9.binds (ps := ["many", "rows", "layer"]) fun _ _ _ _ _ _ us hl => match us, hl with | [_, _, _], _ => rfl), g_layer_holds := PySem.W.mg_of X G a9, f_layers_hold := _, fd_layers_hold := _, F_layers_hold := F10, b_layers_hold := (F10.binds (ps := ["thing"]) fun _ _ _ _ _ _ us hl => match us, hl with | [_], _ => rfl), g_layers_hold := PySem.W.mg_of X G a10, f__law_deck := _, fd__law_deck := _, F__law_deck := F11, b__law_deck := (F11.binds (ps := ["_law_script"]) fun _ _ _ _ _ _ us hl => match us, hl with | [_], _ => rfl), g__law_deck := PySem.W.mg_of X G a11, f__law_draw := _, fd__law_draw := _, F__law_draw := F12, b__law_draw := (F12.binds (ps := ["_law_deck_here", "_law_most"]) fun _ _ _ _ _ _ us hl => match us, hl with | [_, _], _ => rfl), g__law_draw := PySem.W.mg_of X G a12, f__law_halved := _, fd__law_halved := _, F__law_halved := F13, b__law_halved := (F13.binds (ps := ["_law_many", "_law_layer"]) fun _ _ _ _ _ _ us hl => match us, hl with | [_, _], _ => rfl), g__law_halved := PySem.W.mg_of X G a13, f__law_right := _, fd__law_right := _, F__law_right := F14, b__law_right := (F14.binds (ps := ["_law_many"]) fun _ _ _ _ _ _ us hl => match us, hl with | [_], _ => rfl), g__law_right := PySem.W.mg_of X G a14, f_law := _, fd_law := _, F_law := F15, b_law := (F15.binds (ps := ["_law_script"]) fun _ _ _ _ _ _ us hl => match us, hl with | [_], _ => rfl), g_law := PySem.W.mg_of X G a15, m_all := PySem.W.mg_none_of X G z_all, m_bool := PySem.W.mg_none_of X G z_bool, m_enumerate := PySem.W.mg_none_of X G z_enumerate, m_int := PySem.W.mg_none_of X G z_int, m_isinstance := PySem.W.mg_none_of X G z_isinstance, m_len := PySem.W.mg_none_of X G z_len, m_list := PySem.W.mg_none_of X G z_list, m_max := PySem.W.mg_none_of X G z_max, m_min := PySem.W.mg_none_of X G z_min, m_range := PySem.W.mg_none_of X G z_range, m_set := PySem.W.mg_none_of X G z_set, m_str := PySem.W.mg_none_of X G z_str, m_sum := PySem.W.mg_none_of X G z_sum, m_tuple := PySem.W.mg_none_of X G z_tuple, m_zip := PySem.W.mg_none_of X G z_zip, t_GREATEST_WEIGHT := t_GREATEST_WEIGHT, c_GREATEST_WEIGHT := PySem.W.mg_of X G q_GREATEST_WEIGHT, t_LETTERS := t_LETTERS, c_LETTERS := PySem.W.mg_of X G q_LETTERS, t_MOST_LETTERS := t_MOST_LETTERS, c_MOST_LETTERS := PySem.W.mg_of X G q_MOST_LETTERS, t_MOST_PLACES := t_MOST_PLACES, c_MOST_PLACES := PySem.W.mg_of X G q_MOST_PLACES, t_MOST_ROWS := t_MOST_ROWS, c_MOST_ROWS := PySem.W.mg_of X G q_MOST_ROWS }⟩
end K30
open PySem PySem.W PyProof.Rows
set_option maxHeartbeats 0 in
theorem PySem.Challenge.cw_joinedever_k30_greatest_layers_holds : PySem.Challenge.rw_joinedever_k30_greatest_layers.Holds := by
  w_on; o_law; k_head; (case hw => w_witness2)
  k_fill
  refine L2.walk_of (l := PySem.Challenge.rw_joinedever_k30_greatest_layers) (n := 63) (k := 6) (x := "_law_script") (CX := fun _ => L2.CX0) (sp := fun w => Z.liftSp _ K30.sp_law) rfl (by decide) rfl ⟨rfl, by decide, by decide⟩ (fun w h Y => PySem.W.kIn_of Y) ?F (fun w H a ns hl hO hS => Z.law_sp hO hS (K30.law_true ns hl)) (fun _ _ _ _ _ h => h)
  case F =>
    intro w mg fa h KX G hmg
    refine' K30.all_mk KX G hmg ?a0 ?l0 ?c0 ?k0 ?a1 ?l1 ?c1 ?k1 ?a2 ?l2 ?c2 ?k2 ?a3 ?l3 ?c3 ?k3 ?a4 ?l4 ?c4 ?k4 ?a5 ?l5 ?c5 ?k5 ?a6 ?l6 ?c6 ?k6 ?a7 ?l7 ?c7 ?k7 ?a8 ?l8 ?c8 ?k8 ?a9 ?l9 ?c9 ?k9 ?a10 ?l10 ?c10 ?k10 ?a11 ?l11 ?c11 ?k11 ?a12 ?l12 ?c12 ?k12 ?a13 ?l13 ?c13 ?k13 ?a14 ?l14 ?c14 ?k14 ?a15 ?l15 ?c15 ?k15 ?z_all ?z_bool ?z_enumerate ?z_int ?z_isinstance ?z_len ?z_list ?z_max ?z_min ?z_range ?z_set ?z_str ?z_sum ?z_tuple ?z_zip ?q_GREATEST_WEIGHT ?q_LETTERS ?q_MOST_LETTERS ?q_MOST_PLACES ?q_MOST_ROWS
    (case a0 => k_is); (case l0 => k_is); (case c0 => k_is); (case k0 => k_is); (case a1 => k_is); (case l1 => k_is); (case c1 => k_is); (case k1 => k_is); (case a2 => k_is); (case l2 => k_is); (case c2 => k_is); (case k2 => k_is); (case a3 => k_is); (case l3 => k_is); (case c3 => k_is); (case k3 => k_is); (case a4 => k_is); (case l4 => k_is); (case c4 => k_is); (case k4 => k_is); (case a5 => k_is); (case l5 => k_is); (case c5 => k_is); (case k5 => k_is); (case a6 => k_is); (case l6 => k_is); (case c6 => k_is); (case k6 => k_is); (case a7 => k_is); (case l7 => k_is); (case c7 => k_is); (case k7 => k_is); (case a8 => k_is); (case l8 => k_is); (case c8 => k_is); (case k8 => k_is); (case a9 => k_is); (case l9 => k_is); (case c9 => k_is); (case k9 => k_is); (case a10 => k_is); (case l10 => k_is); (case c10 => k_is); (case k10 => k_is); (case a11 => k_is); (case l11 => k_is); (case c11 => k_is); (case k11 => k_is); (case a12 => k_is); (case l12 => k_is); (case c12 => k_is); (case k12 => k_is); (case a13 => k_is); (case l13 => k_is); (case c13 => k_is); (case k13 => k_is); (case a14 => k_is); (case l14 => k_is); (case c14 => k_is); (case k14 => k_is); (case a15 => k_is); (case l15 => k_is); (case c15 => k_is); (case k15 => k_is); (case z_all => k_is); (case z_bool => k_is); (case z_enumerate => k_is); (case z_int => k_is); (case z_isinstance => k_is); (case z_len => k_is); (case z_list => k_is); (case z_max => k_is); (case z_min => k_is); (case z_range => k_is); (case z_set => k_is); (case z_str => k_is); (case z_sum => k_is); (case z_tuple => k_is); (case z_zip => k_is); (case q_GREATEST_WEIGHT => k_is); (case q_LETTERS => k_is); (case q_MOST_LETTERS => k_is); (case q_MOST_PLACES => k_is); (case q_MOST_ROWS => k_is)
