import PyProof.Rows.All
import Wide.All
import OpenK.AllK
import Wide.FinOn
import HandS.ForMost
import HandS.Walk
import HandS.IsInst
import HandS.Defaults
import HandS.TupLe
import HandS.TupMul
import HandS.TupAny
import HandS.Wide
import HandS.HeadEnd
import HandS.Flow
import HandS.Codes
import HandS.SortInts
import HandS.More
import HandS.Conv
import HandS.Zip
import HandS.Iter
import KE.GoesMore
import PyProof.EnumMake
import HandS.TryOnly
import HandS.DictComp
import HandS.SetBool
import HandS.Strs
import KE.GoesEnumKw
import PyProof.ListNew
import PyProof.Rows.CallKwBuiltin
import HandS.Style
import HandS.Small
import KE.KMinKey
import PyProof.CollectIter
import PyProof.WalksMore
import HandS.ExcValue
import HandS.ExcOwn
import KE.KDictZip
import KE.GoesEnum
import HandS.RevTup
import KE.KDictSum
import HandS.Head0
import HandS.Head1
import HandS.Head2
import HandS.HeadHook1
import HandS.HeadHook2
import HandS.HeadHook3
import HandS.HeadHook4
import HandS.EndBits
import PySem.Challenge.RW_haulring_k09_steps_done
set_option Elab.async false
set_option linter.all false
set_option maxRecDepth 100000
set_option maxHeartbeats 4000000
/-! By-value Python: values as trees, who owns what, and what it means over the abstract heap of the hand layer. -/
namespace BV
open PySem PySem.Spec PyProof.Rows L2

inductive Val where
  | non | bl (b : Bool) | int (i : Int) | str (s : Str)
  | tup (xs : List Val) | lst (xs : List Val) | dic (kvs : List (Key × Val))

/-- no container that can be changed -/
def Val.flat : Val → Bool
  | .lst _ => false
  | .dic _ => false
  | _ => true

abbrev Frag := PySem.W.Frag
/-- a result: how deep it is its holder's own (0: shared for good), the value -/
abbrev R := Nat × Val
abbrev Slots := List (Option R)

/-- a list that may be read: one of the heap, or the module's own -/
def RdL (K : Frag) (H : Hp) (a : Addr) (ys : List V) : Prop := Rd H a (.lst ys) ∨
  ∃ (its : List Value) (n : Nat), K.lookup a = some { cls := .type "list", data := .seq its.toArray n } ∧ ys.length ≤ sizeLine ∧ Vals ys its
mutual
inductive Rep (K : Frag) (Hf : Hp) : Val → V → Prop
  | non : Rep K Hf .non .non
  | bl (b : Bool) : Rep K Hf (.bl b) (.bl b)
  | int (i : Int) : Rep K Hf (.int i) (.int i)
  | str (s : Str) : Rep K Hf (.str s) (.str s)
  | tup {a : Addr} {xs : List Val} {ys : List V} : SqT K Hf a ys → RepL K Hf xs ys → Rep K Hf (.tup xs) (.ref a)
  | lst {a : Addr} {xs : List Val} {ys : List V} : RdL K Hf a ys → RepL K Hf xs ys → Rep K Hf (.lst xs) (.ref a)
  | dic {a : Addr} {kvs : List (Key × Val)} {ks : List (Key × V)} : Hf a = some (.dK ks) → RepK K Hf kvs ks → Rep K Hf (.dic kvs) (.ref a)
inductive RepL (K : Frag) (Hf : Hp) : List Val → List V → Prop
  | nil : RepL K Hf [] []
  | cons {v : Val} {x : V} {vs : List Val} {xs : List V} : Rep K Hf v x → RepL K Hf vs xs → RepL K Hf (v :: vs) (x :: xs)
inductive RepK (K : Frag) (Hf : Hp) : List (Key × Val) → List (Key × V) → Prop
  | nil : RepK K Hf [] []
  | cons {k : Key} {v : Val} {x : V} {vs : List (Key × Val)} {xs : List (Key × V)} : Rep K Hf v x → RepK K Hf vs xs → RepK K Hf ((k, v) :: vs) ((k, x) :: xs)
end

def HSub (H H' : Hp) : Prop := ∀ a o, H a = some o → H' a = some o
theorem HSub.refl (H : Hp) : HSub H H := fun _ _ e => e
theorem HSub.trans {H H1 H2 : Hp} (a : HSub H H1) (b : HSub H1 H2) : HSub H H2 := fun x o e => b x o (a x o e)
theorem HSub.upd {H : Hp} {p : Addr} {o : HO} (h : H p = none) : HSub H (upd H p o) := fun b u e => by
  rw [upd_ne (ne_of_none e h)]; exact e
theorem rd_mono {H H' : Hp} (s : HSub H H') {a : Addr} {u : HO} (h : Rd H a u) : Rd H' a u := by
  rcases h with h | ⟨o, h⟩
  · exact .inl (s _ _ h)
  · exact .inr ⟨o, s _ _ h⟩
theorem sqT_mono {K : Frag} {H H' : Hp} (s : HSub H H') {a : Addr} {xs : List V} (h : SqT K H a xs) : SqT K H' a xs := by
  rcases h with h | h
  · exact .inl (rd_mono s h)
  · exact .inr h
theorem sqL_mono {K : Frag} {H H' : Hp} (s : HSub H H') {a : Addr} {xs : List V} (h : SqL K H a xs) : SqL K H' a xs := by
  rcases h with h | h
  · exact .inl (rd_mono s h)
  · exact .inr h
theorem rdL_mono {K : Frag} {H H' : Hp} (s : HSub H H') {a : Addr} {xs : List V} (h : RdL K H a xs) : RdL K H' a xs := by
  rcases h with h | h
  · exact .inl (rd_mono s h)
  · exact .inr h
theorem RdL.sq {K : Frag} {H : Hp} {a : Addr} {xs : List V} (h : RdL K H a xs) : SqL K H a xs := by
  rcases h with h | ⟨its, n, h1, h2, h3⟩
  · exact .inl h
  · exact .inr ⟨_, its.toArray, n, h1, rfl, rfl, rfl, by rw [List.size_toArray, ← h3.length]; exact h2, by simpa using h3⟩
theorem RdL.obj {X : Cx} {pins : List (Addr × Obj)} {σ : L2.St} {H : Hp} {s : Shared} {a : Addr} {xs : List V} (I : Inv X pins σ H s) (h : RdL X.K H a xs) :
    xs.length ≤ sizeLine ∧ ∃ (its : List Value) (n : Nat), Vals xs its ∧ s.heap.get? a = some { cls := .type "list", data := .seq its.toArray n } := by
  rcases h with h | ⟨its, n, h1, h2, h3⟩
  · obtain ⟨z, its, n, r, e⟩ := h.ok I.hok
    exact ⟨z, its, n, r, e⟩
  · exact ⟨h2, its, n, h3, I.kIn a _ h1⟩
mutual
theorem Rep.mono {K : Frag} {H H' : Hp} (s : HSub H H') : ∀ {v : Val} {x : V}, Rep K H v x → Rep K H' v x
  | _, _, .non => .non
  | _, _, .bl b => .bl b
  | _, _, .int i => .int i
  | _, _, .str x => .str x
  | _, _, .tup h r => .tup (sqT_mono s h) (RepL.mono s r)
  | _, _, .lst h r => .lst (rdL_mono s h) (RepL.mono s r)
  | _, _, .dic h r => .dic (s _ _ h) (RepK.mono s r)
theorem RepL.mono {K : Frag} {H H' : Hp} (s : HSub H H') : ∀ {v : List Val} {x : List V}, RepL K H v x → RepL K H' v x
  | _, _, .nil => .nil
  | _, _, .cons h r => .cons (Rep.mono s h) (RepL.mono s r)
theorem RepK.mono {K : Frag} {H H' : Hp} (s : HSub H H') : ∀ {v : List (Key × Val)} {x : List (Key × V)}, RepK K H v x → RepK K H' v x
  | _, _, .nil => .nil
  | _, _, .cons h r => .cons (Rep.mono s h) (RepK.mono s r)
end
section
variable {K : Frag} {H : Hp}
theorem RepL.length : ∀ {vs : List Val} {xs : List V}, RepL K H vs xs → xs.length = vs.length
  | _, _, .nil => rfl
  | _, _, .cons _ r => congrArg Nat.succ (RepL.length r)
theorem RepL.append : ∀ {vs ws : List Val} {xs ys : List V}, RepL K H vs xs → RepL K H ws ys → RepL K H (vs ++ ws) (xs ++ ys)
  | _, _, _, _, .nil, s => s
  | _, _, _, _, .cons h r, s => .cons h (RepL.append r s)
theorem RepL.get : ∀ {vs : List Val} {xs : List V} {i : Nat} {v : Val}, RepL K H vs xs → vs[i]? = some v → ∃ x, xs[i]? = some x ∧ Rep K H v x
  | _, _, _, _, .nil, e => by simp at e
  | _, _, 0, _, .cons h _, e => by simp at e; subst e; exact ⟨_, rfl, h⟩
  | _, _, i + 1, v, .cons _ t, e => by
    obtain ⟨u, h1, h2⟩ := RepL.get (i := i) (v := v) t (by simpa using e)
    exact ⟨u, by simpa using h1, h2⟩
theorem RepL.take : ∀ {vs : List Val} {xs : List V} (n : Nat), RepL K H vs xs → RepL K H (vs.take n) (xs.take n)
  | _, _, 0, _ => .nil
  | _, _, _ + 1, .nil => .nil
  | _, _, n + 1, .cons r t => .cons r (RepL.take n t)
theorem RepL.drop : ∀ {vs : List Val} {xs : List V} (n : Nat), RepL K H vs xs → RepL K H (vs.drop n) (xs.drop n)
  | _, _, 0, r => r
  | _, _, _ + 1, .nil => .nil
  | _, _, n + 1, .cons _ t => RepL.drop n t
theorem RepL.set {v : Val} {x : V} (r : Rep K H v x) : ∀ {vs : List Val} {xs : List V} (i : Nat), RepL K H vs xs → RepL K H (vs.set i v) (xs.set i x)
  | _, _, _, .nil => .nil
  | _, _, 0, .cons _ t => .cons r t
  | _, _, i + 1, .cons q t => .cons q (RepL.set r i t)
theorem RepL.rep {v : Val} {x : V} (r : Rep K H v x) : ∀ n, RepL K H (List.replicate n v) (List.replicate n x)
  | 0 => .nil
  | n + 1 => .cons r (RepL.rep r n)
theorem RepL.reverse : ∀ {vs : List Val} {xs : List V}, RepL K H vs xs → RepL K H vs.reverse xs.reverse
  | _, _, .nil => .nil
  | _, _, .cons h r => by
    rw [List.reverse_cons, List.reverse_cons]
    exact (RepL.reverse r).append (.cons h .nil)
end

/-! ### who owns what -/
mutual
inductive Own (K : Frag) (Hf H : Hp) : Nat → Val → V → List Addr → Prop
  | frz {d : Nat} {v : Val} {x : V} : (d = 0 ∨ v.flat = true) → Rep K Hf v x → Own K Hf H d v x []
  | lst {d : Nat} {a : Addr} {xs : List Val} {ys : List V} {F : List Addr} : H a = some (.lst ys) → OwnL K Hf H d xs ys F → Own K Hf H (d + 1) (.lst xs) (.ref a) (a :: F)
  | dic {d : Nat} {a : Addr} {kvs : List (Key × Val)} {ks : List (Key × V)} {F : List Addr} : H a = some (.dK ks) → OwnK K Hf H d kvs ks F → Own K Hf H (d + 1) (.dic kvs) (.ref a) (a :: F)
inductive OwnL (K : Frag) (Hf H : Hp) : Nat → List Val → List V → List Addr → Prop
  | nil {d : Nat} : OwnL K Hf H d [] [] []
  | cons {d : Nat} {v : Val} {x : V} {vs : List Val} {xs : List V} {F G : List Addr} : Own K Hf H d v x F → OwnL K Hf H d vs xs G → OwnL K Hf H d (v :: vs) (x :: xs) (F ++ G)
inductive OwnK (K : Frag) (Hf H : Hp) : Nat → List (Key × Val) → List (Key × V) → List Addr → Prop
  | nil {d : Nat} : OwnK K Hf H d [] [] []
  | cons {d : Nat} {k : Key} {v : Val} {x : V} {vs : List (Key × Val)} {xs : List (Key × V)} {F G : List Addr} : Own K Hf H d v x F → OwnK K Hf H d vs xs G → OwnK K Hf H d ((k, v) :: vs) ((k, x) :: xs) (F ++ G)
end
section
variable {K : Frag} {Hf Hf' H H' : Hp}
mutual
theorem Own.mono (s : HSub Hf Hf') : ∀ {d : Nat} {v : Val} {x : V} {F : List Addr}, Own K Hf H d v x F → (∀ a ∈ F, ∀ o, H a = some o → H' a = some o) → Own K Hf' H' d v x F
  | _, _, _, _, .frz h r, _ => .frz h (r.mono s)
  | _, _, _, _, .lst h r, k => .lst (k _ (List.mem_cons_self ..) _ h) (OwnL.mono s r fun a ha => k a (List.mem_cons_of_mem _ ha))
  | _, _, _, _, .dic h r, k => .dic (k _ (List.mem_cons_self ..) _ h) (OwnK.mono s r fun a ha => k a (List.mem_cons_of_mem _ ha))
theorem OwnL.mono (s : HSub Hf Hf') : ∀ {d : Nat} {v : List Val} {x : List V} {F : List Addr}, OwnL K Hf H d v x F → (∀ a ∈ F, ∀ o, H a = some o → H' a = some o) → OwnL K Hf' H' d v x F
  | _, _, _, _, .nil, _ => .nil
  | _, _, _, _, .cons h r, k => .cons (Own.mono s h fun a ha => k a (List.mem_append_left _ ha)) (OwnL.mono s r fun a ha => k a (List.mem_append_right _ ha))
theorem OwnK.mono (s : HSub Hf Hf') : ∀ {d : Nat} {v : List (Key × Val)} {x : List (Key × V)} {F : List Addr}, OwnK K Hf H d v x F → (∀ a ∈ F, ∀ o, H a = some o → H' a = some o) → OwnK K Hf' H' d v x F
  | _, _, _, _, .nil, _ => .nil
  | _, _, _, _, .cons h r, k => .cons (Own.mono s h fun a ha => k a (List.mem_append_left _ ha)) (OwnK.mono s r fun a ha => k a (List.mem_append_right _ ha))
end
mutual
/-- what is owned stands in the heap -/
theorem Own.dom : ∀ {d : Nat} {v : Val} {x : V} {F : List Addr}, Own K Hf H d v x F → ∀ a ∈ F, ∃ o, H a = some o
  | _, _, _, _, .frz _ _, a, h => by cases h
  | _, _, _, _, .lst e r, a, h => (List.mem_cons.mp h).elim (fun z => by rw [z]; exact ⟨_, e⟩) fun z => OwnL.dom r a z
  | _, _, _, _, .dic e r, a, h => (List.mem_cons.mp h).elim (fun z => by rw [z]; exact ⟨_, e⟩) fun z => OwnK.dom r a z
theorem OwnL.dom : ∀ {d : Nat} {v : List Val} {x : List V} {F : List Addr}, OwnL K Hf H d v x F → ∀ a ∈ F, ∃ o, H a = some o
  | _, _, _, _, .nil, a, h => by cases h
  | _, _, _, _, .cons e r, a, h => (List.mem_append.mp h).elim (fun z => Own.dom e a z) fun z => OwnL.dom r a z
theorem OwnK.dom : ∀ {d : Nat} {v : List (Key × Val)} {x : List (Key × V)} {F : List Addr}, OwnK K Hf H d v x F → ∀ a ∈ F, ∃ o, H a = some o
  | _, _, _, _, .nil, a, h => by cases h
  | _, _, _, _, .cons e r, a, h => (List.mem_append.mp h).elim (fun z => Own.dom e a z) fun z => OwnK.dom r a z
end
mutual
/-- readable in any heap that has the shared part and what is owned -/
theorem Own.rep (s : HSub Hf H') : ∀ {d : Nat} {v : Val} {x : V} {F : List Addr}, Own K Hf H d v x F → (∀ a ∈ F, ∀ o, H a = some o → H' a = some o) → Rep K H' v x
  | _, _, _, _, .frz _ r, _ => r.mono s
  | _, _, _, _, .lst h r, k => .lst (.inl (.inl (k _ (List.mem_cons_self ..) _ h))) (OwnL.rep s r fun a ha => k a (List.mem_cons_of_mem _ ha))
  | _, _, _, _, .dic h r, k => .dic (k _ (List.mem_cons_self ..) _ h) (OwnK.rep s r fun a ha => k a (List.mem_cons_of_mem _ ha))
theorem OwnL.rep (s : HSub Hf H') : ∀ {d : Nat} {v : List Val} {x : List V} {F : List Addr}, OwnL K Hf H d v x F → (∀ a ∈ F, ∀ o, H a = some o → H' a = some o) → RepL K H' v x
  | _, _, _, _, .nil, _ => .nil
  | _, _, _, _, .cons h r, k => .cons (Own.rep s h fun a ha => k a (List.mem_append_left _ ha)) (OwnL.rep s r fun a ha => k a (List.mem_append_right _ ha))
theorem OwnK.rep (s : HSub Hf H') : ∀ {d : Nat} {v : List (Key × Val)} {x : List (Key × V)} {F : List Addr}, OwnK K Hf H d v x F → (∀ a ∈ F, ∀ o, H a = some o → H' a = some o) → RepK K H' v x
  | _, _, _, _, .nil, _ => .nil
  | _, _, _, _, .cons h r, k => .cons (Own.rep s h fun a ha => k a (List.mem_append_left _ ha)) (OwnK.rep s r fun a ha => k a (List.mem_append_right _ ha))
end
end

/-- a slot -/
inductive Plc (K : Frag) (Hf H : Hp) : Option R → Option V → List Addr → Prop
  | no {y : Option V} : Plc K Hf H none y []
  | is {d : Nat} {v : Val} {x : V} {F : List Addr} : Own K Hf H d v x F → Plc K Hf H (some (d, v)) (some x) F
inductive Plcs (K : Frag) (Hf H : Hp) : Slots → L2.St → List Addr → Prop
  | nil : Plcs K Hf H [] [] []
  | cons {p : Option R} {y : Option V} {P : Slots} {ys : L2.St} {F G : List Addr} : Plc K Hf H p y F → Plcs K Hf H P ys G → Plcs K Hf H (p :: P) (y :: ys) (F ++ G)
section
variable {K : Frag} {Hf Hf' H H' : Hp}
theorem Plc.mono (s : HSub Hf Hf') {p : Option R} {y : Option V} {F : List Addr} (h : Plc K Hf H p y F) (k : ∀ a ∈ F, ∀ o, H a = some o → H' a = some o) : Plc K Hf' H' p y F := by
  cases h with
  | no => exact .no
  | is h => exact .is (h.mono s k)
theorem Plc.dom {p : Option R} {y : Option V} {F : List Addr} (h : Plc K Hf H p y F) : ∀ a ∈ F, ∃ o, H a = some o := by
  cases h with
  | no => intro a h; cases h
  | is h => exact h.dom
theorem Plcs.mono (s : HSub Hf Hf') : ∀ {P : Slots} {ys : L2.St} {F : List Addr}, Plcs K Hf H P ys F → (∀ a ∈ F, ∀ o, H a = some o → H' a = some o) → Plcs K Hf' H' P ys F
  | _, _, _, .nil, _ => .nil
  | _, _, _, .cons h r, k => .cons (h.mono s fun a ha => k a (List.mem_append_left _ ha)) (Plcs.mono s r fun a ha => k a (List.mem_append_right _ ha))
theorem Plcs.dom : ∀ {P : Slots} {ys : L2.St} {F : List Addr}, Plcs K Hf H P ys F → ∀ a ∈ F, ∃ o, H a = some o
  | _, _, _, .nil, a, h => by cases h
  | _, _, _, .cons e r, a, h => (List.mem_append.mp h).elim (fun z => e.dom a z) fun z => Plcs.dom r a z
theorem Plcs.length : ∀ {P : Slots} {ys : L2.St} {F : List Addr}, Plcs K Hf H P ys F → ys.length = P.length
  | _, _, _, .nil => rfl
  | _, _, _, .cons _ r => congrArg Nat.succ (Plcs.length r)
/-- slot i apart from the others -/
theorem Plcs.split : ∀ {P : Slots} {ys : L2.St} {F : List Addr} {i : Nat} {p : Option R}, Plcs K Hf H P ys F → P[i]? = some p →
    ∃ y F1 F2 F3, ys[i]? = some y ∧ F = F1 ++ F2 ++ F3 ∧ Plc K Hf H p y F2 ∧
      ∀ {Hf' H' : Hp} {q : Option R} {z : Option V} {G : List Addr}, HSub Hf Hf' → (∀ a, (a ∈ F1 ∨ a ∈ F3) → ∀ o, H a = some o → H' a = some o) → Plc K Hf' H' q z G → Plcs K Hf' H' (P.set i q) (ys.set i z) (F1 ++ G ++ F3)
  | _, _, _, _, _, .nil, e => by simp at e
  | _, _, _, 0, p, .cons (y := y) (F := F) (G := G) h r, e => by
    simp at e; subst e
    refine ⟨y, [], F, G, rfl, rfl, h, fun s k q => ?_⟩
    exact .cons q (r.mono s fun a ha => k a (.inr ha))
  | _, _, _, i + 1, p, .cons (y := y) (F := F) (G := G) h r, e => by
    obtain ⟨z, F1, F2, F3, e1, e2, e3, e4⟩ := Plcs.split (i := i) (p := p) r (by simpa using e)
    refine ⟨z, F ++ F1, F2, F3, by simpa using e1, by rw [e2]; simp, e3, fun s k q => ?_⟩
    have := Plcs.cons (h.mono s fun a ha => k a (.inl (List.mem_append_left _ ha))) (e4 s (fun a ha => k a (ha.elim (fun z => .inl (List.mem_append_right _ z)) .inr)) q)
    simpa using this
theorem Plcs.append : ∀ {P Q : Slots} {ys zs : L2.St} {F G : List Addr}, Plcs K Hf H P ys F → Plcs K Hf H Q zs G → Plcs K Hf H (P ++ Q) (ys ++ zs) (F ++ G)
  | _, _, _, _, _, _, .nil, q => q
  | _, _, _, _, _, _, .cons h r, q => by simpa using Plcs.cons h (Plcs.append r q)
end

/-- slots, heap, the shared part Hf, what is owned F -/
structure Rel (K : Frag) (Hf : Hp) (F : List Addr) (P : Slots) (ys : L2.St) (H : Hp) : Prop where
  sub : HSub Hf H
  nd : F.Nodup
  off : ∀ a ∈ F, Hf a = none
  plc : Plcs K Hf H P ys F
/-- from one moment to a later one -/
structure Step (Hf : Hp) (F : List Addr) (H Hf' : Hp) (F' : List Addr) (H' : Hp) : Prop where
  hf : HSub Hf Hf'
  fr : ∀ a o, H a = some o → a ∉ F → H' a = some o
  new : ∀ a o, H a = some o → a ∉ F → Hf' a = Hf a
  own : ∀ a ∈ F', a ∈ F ∨ H a = none
theorem Step.refl (Hf : Hp) (F : List Addr) (H : Hp) : Step Hf F H Hf F H := ⟨fun _ _ e => e, fun _ _ e _ => e, fun _ _ _ _ => rfl, fun _ h => .inl h⟩
theorem Step.trans {Hf Hf1 Hf2 : Hp} {F F1 F2 : List Addr} {H H1 H2 : Hp} (a : Step Hf F H Hf1 F1 H1) (b : Step Hf1 F1 H1 Hf2 F2 H2) : Step Hf F H Hf2 F2 H2 := by
  have nin : ∀ x o, H x = some o → x ∉ F → x ∉ F1 := fun x o e n h => by
    rcases a.own x h with z | z
    · exact n z
    · rw [z] at e; cases e
  refine ⟨a.hf.trans b.hf, fun x o e n => b.fr x o (a.fr x o e n) (nin x o e n), fun x o e n => ?_, fun x h => ?_⟩
  · rw [b.new x o (a.fr x o e n) (nin x o e n), a.new x o e n]
  · rcases b.own x h with z | z
    · exact a.own x z
    · by_cases hx : x ∈ F
      · exact .inl hx
      · cases q : H x with
        | none => exact .inr rfl
        | some o => rw [a.fr x o q hx] at z; cases z
section
variable {K : Frag} {Hf Hf' H H' : Hp} {F F' : List Addr} {P : Slots} {ys : L2.St}
/-- an own thing that is held beside -/
theorem Own.held {d : Nat} {v : Val} {x : V} {G : List Addr} (h : Own K Hf H d v x G) (s : Step Hf F H Hf' F' H') (n : ∀ a ∈ G, a ∉ F) (off : ∀ a ∈ G, Hf a = none) :
    Own K Hf' H' d v x G ∧ (∀ a ∈ G, a ∉ F') ∧ ∀ a ∈ G, Hf' a = none := by
  refine ⟨h.mono s.hf fun a ha o e => s.fr a o e (n a ha), fun a ha h' => ?_, fun a ha => ?_⟩
  · rcases s.own a h' with z | z
    · exact n a ha z
    · obtain ⟨o, e⟩ := h.dom a ha
      rw [e] at z; cases z
  · obtain ⟨o, e⟩ := h.dom a ha
    rw [s.new a o e (n a ha)]
    exact off a ha
/-- the shared part takes G in -/
def frzH (Hf H : Hp) (G : List Addr) : Hp := fun a => if a ∈ G then H a else Hf a
theorem frzH_sub {G : List Addr} (off : ∀ a ∈ G, Hf a = none) : HSub Hf (frzH Hf H G) := fun a o e => by
  unfold frzH
  split
  · rename_i h; rw [off a h] at e; cases e
  · exact e
theorem frzH_le {G : List Addr} (s : HSub Hf H) : HSub (frzH Hf H G) H := fun a o e => by
  unfold frzH at e
  split at e
  · exact e
  · exact s a o e
theorem frzH_in {G : List Addr} {a : Addr} (h : a ∈ G) : frzH Hf H G a = H a := by unfold frzH; rw [if_pos h]
theorem frzH_out {G : List Addr} {a : Addr} (h : a ∉ G) : frzH Hf H G a = Hf a := by unfold frzH; rw [if_neg h]
theorem Own.freeze {d : Nat} {v : Val} {x : V} {G : List Addr} (h : Own K Hf H d v x G) (off : ∀ a ∈ G, Hf a = none) : Rep K (frzH Hf H G) v x :=
  h.rep (frzH_sub off) fun a ha o e => by rw [frzH_in ha]; exact e
end
end BV
/-! The annotated syntax and its plain meaning. -/
namespace BV
open PySem PySem.Spec PyProof.Rows L2

inductive BF where
  | len | repr | all | any | tuple | list | sum | min2 | max2 | sorted | str | int | abs
def BF.name : BF → Str
  | .len => "len" | .repr => "repr" | .all => "all" | .any => "any" | .tuple => "tuple" | .list => "list" | .sum => "sum"
  | .min2 => "min" | .max2 => "max" | .sorted => "sorted" | .str => "str" | .int => "int" | .abs => "abs"
/-- the built-in types that are asked for -/
inductive TN where
  | int | bool | str | tuple | list | dict
def TN.name : TN → String
  | .int => "int" | .bool => "bool" | .str => "str" | .tuple => "tuple" | .list => "list" | .dict => "dict"
/-- where a parameter's value comes from: a written value, a keyword's, a default -/
inductive Src where
  | pos (i : Nat) | kw (i : Nat) | dfl (i : Nat)
mutual
inductive CT where
  | name (i : Nat) (x : Str) (p : Pos)
  | tup (ts : CTs) (k : Nat) (p : Pos)
inductive CTs where
  | nil | cons (t : CT) (ts : CTs)
end
mutual
inductive CE where
  | cst (c : Const) (k : Nat) (p : Pos)
  | var (i : Nat) (x : Str) (p : Pos)
  | brw (i : Nat) (x : Str) (p : Pos)
  | mov (i : Nat) (x : Str) (p : Pos)
  | ref (i : Nat) (x : Str) (p : Pos)
  | pth (i : Nat) (x : Str) (px : Pos) (k : CE) (p : Pos)
  | glb (x : Str) (p : Pos)
  | tup (es : CEs) (k : Nat) (p : Pos)
  | lst (es : CEs) (p : Pos)
  | dic0 (p : Pos)
  | bin (op : Operator) (a b : CE) (p : Pos)
  | neg (a : CE) (p : Pos)
  | nt (a : CE) (p : Pos)
  | bop (o : BoolOp) (es : CEs) (p : Pos)
  | cmp (op : CmpOp) (a b : CE) (p : Pos)
  | chn (op op' : CmpOp) (a b c : CE) (p : Pos)
  | ifx (c a b : CE) (p : Pos)
  | isi (a : CE) (T : TN) (np tp p : Pos)
  | blt (f : BF) (np : Pos) (es : CEs) (p : Pos)
  | call (c : Nat) (x : Str) (np : Pos) (es : CEs) (ks : CKs) (p : Pos)
  | idx (a i : CE) (p : Pos)
  | slc (a : CE) (lo hi : CO) (sp p : Pos)
  | lc (elt : CE) (t : CT) (it : CI) (ifs : CEs) (sc : Scope) (own : List (Str × Nat)) (p : Pos)
  | lc2 (elt : CE) (t : CT) (it : CI) (ifs : CEs) (t1 : CT) (it1 : CI) (ifs1 : CEs) (sc : Scope) (own : List (Str × Nat)) (vs1 : List Nat) (p : Pos)
  | popAt (i : Nat) (x : Str) (px : Pos) (k : CE) (pk : Pos) (j : CE) (pa p : Pos)
  | dcm (kx vx : CE) (t : CT) (it : CI) (ifs : CEs) (sc : Scope) (own : List (Str × Nat)) (p : Pos)
  | lrng (lp rp : Pos) (a b : CE) (pr p : Pos)
  | lzip (b : Bool) (lp zp : Pos) (x y : CE) (kp cp : Pos) (kk : Nat) (pz p : Pos)
  | dcp (dp xp : Pos) (x : Str) (p : Pos)
  | rev (a : CE) (k : Nat) (p1 p2 p3 p : Pos)
  | ssc (np : Pos) (elt : CE) (t : CT) (it : CI) (ifs : CEs) (t1 : CT) (it1 : CI) (ifs1 : CEs) (sc : Scope) (own : List (Str × Nat)) (vs1 : List Nat) (p q : Pos)
  | dsp (ds : CDs) (p : Pos)
  | plc (P : CP)
  | mxd (np : Pos) (a d : CE) (kp p : Pos)
  | den (dp ep : Pos) (a : CE) (pe p : Pos)
  | tvl (tp : Pos) (P : CP) (pa pc p : Pos)
  | sme (np : Pos) (e : CE) (p : Pos)
inductive CEs where
  | nil | cons (e : CE) (es : CEs)
inductive CDs where
  | nil | cons (k : Str) (kk : Nat) (kp : Pos) (e : CE) (ds : CDs)
inductive CP where
  | rt (i : Nat) (x : Str) (p : Pos)
  | sub (P : CP) (k : CE) (p : Pos)
inductive CKs where
  | nil | cons (x : Str) (e : CE) (p : Pos) (ks : CKs)
inductive CO where
  | no | is (e : CE)
inductive CI where
  | seq (e : CE)
  | rng1 (np : Pos) (a : CE) (p : Pos)
  | rng2 (np : Pos) (a b : CE) (p : Pos)
  | enum (np : Pos) (a : CE) (p : Pos)
  | zip (np : Pos) (a b : CE) (p : Pos)
end
mutual
inductive CS where
  | asg (t : CT) (e : CE) (p : Pos)
  | par (i j : Nat) (x y : Str) (px py : Pos) (kt : Nat) (pt : Pos) (a b : CE) (k2 : Nat) (p2 p : Pos)
  | setI (i : Nat) (x : Str) (px : Pos) (k e : CE) (tp p : Pos)
  | expr (e : CE) (p : Pos)
  | app (i : Nat) (x : Str) (px pa : Pos) (e : CE) (pc p : Pos)
  | aug (i : Nat) (x : Str) (px : Pos) (op : Operator) (e : CE) (p : Pos)
  | ife (c : CE) (a b : CSs) (p : Pos)
  | forr (t : CT) (it : CI) (body : CSs) (p : Pos)
  | ret (e : CE) (p : Pos)
  | retN (p : Pos)
  | pass (p : Pos)
  | brk (p : Pos)
  | cnt (p : Pos)
  | nvr (st : Stmt)
  | papp (P : CP) (pa : Pos) (e : CE) (pc p : Pos)
  | pext (P : CP) (pa : Pos) (e : CE) (pc p : Pos)
  | pset (P : CP) (k e : CE) (tp p : Pos)
  | whl (c : CE) (body : CSs) (p : Pos)
  | asgs (pre : CTs) (i : Nat) (x : Str) (px ps : Pos) (post : CTs) (k : Nat) (pt : Pos) (e : CE) (p : Pos)
inductive CSs where
  | nil | cons (s : CS) (ss : CSs)
end

/-! ### the syntax that it stands for -/
/-- the keywords of a zip -/
def zipK (b : Bool) (kp cp : Pos) (kk : Nat) : List Keyword := if b then [⟨some "strict", .Constant (.bool true) kk cp, kp⟩] else []
mutual
def CT.py : CT → Expr
  | .name _ x p => .Name x p
  | .tup ts k p => .Tuple ts.py k p
def CTs.py : CTs → List Expr
  | .nil => []
  | .cons t ts => t.py :: ts.py
end
mutual
def CE.py : CE → Expr
  | .cst c k p => .Constant c k p
  | .var _ x p => .Name x p
  | .brw _ x p => .Name x p
  | .mov _ x p => .Name x p
  | .ref _ x p => .Name x p
  | .pth _ x px k p => .Subscript (.Name x px) k.py p
  | .glb x p => .Name x p
  | .tup es k p => .Tuple es.py k p
  | .lst es p => .List es.py p
  | .dic0 p => .Dict [] [] p
  | .bin op a b p => .BinOp a.py op b.py p
  | .neg a p => .UnaryOp .USub a.py p
  | .nt a p => .UnaryOp .Not a.py p
  | .bop o es p => .BoolOp o es.py p
  | .cmp op a b p => .Compare a.py [op] [b.py] p
  | .chn op op' a b c p => .Compare a.py [op, op'] [b.py, c.py] p
  | .ifx c a b p => .IfExp c.py a.py b.py p
  | .isi a T np tp p => .Call (.Name "isinstance" np) [a.py, .Name (Str.ofString T.name) tp] [] p
  | .blt f np es p => .Call (.Name f.name np) es.py [] p
  | .call _ x np es ks p => .Call (.Name x np) es.py ks.py p
  | .idx a i p => .Subscript a.py i.py p
  | .slc a lo hi sp p => .Subscript a.py (.Slice lo.py hi.py none sp) p
  | .lc elt t it ifs sc _ p => .ListComp elt.py [⟨t.py, it.py, ifs.py, 0⟩] sc p
  | .lc2 elt t it ifs t1 it1 ifs1 sc _ _ p => .ListComp elt.py [⟨t.py, it.py, ifs.py, 0⟩, ⟨t1.py, it1.py, ifs1.py, 0⟩] sc p
  | .popAt _ x px k pk j pa p => .Call (.Attribute (.Subscript (.Name x px) k.py pk) "pop" pa) [j.py] [] p
  | .dcm kx vx t it ifs sc _ p => .DictComp kx.py vx.py [⟨t.py, it.py, ifs.py, 0⟩] sc p
  | .ssc np elt t it ifs t1 it1 ifs1 sc _ _ p q => .Call (.Name "sorted" np) [.SetComp elt.py [⟨t.py, it.py, ifs.py, 0⟩, ⟨t1.py, it1.py, ifs1.py, 0⟩] sc p] [] q
  | .lzip b lp zp x y kp cp kk pz p => .Call (.Name "list" lp) [.Call (.Name "zip" zp) [x.py, y.py] (zipK b kp cp kk) pz] [] p
  | .dcp dp xp x p => .Call (.Name "dict" dp) [.Name x xp] [] p
  | .rev a k p1 p2 p3 p => .Subscript a.py (.Slice none none (some (.UnaryOp .USub (.Constant (.int 1) k p1) p2)) p3) p
  | .lrng lp rp a b pr p => .Call (.Name "list" lp) [.Call (.Name "range" rp) [a.py, b.py] [] pr] [] p
  | .dsp ds p => .Dict ds.pyk ds.pyv p
  | .plc P => P.py
  | .mxd np a d kp p => .Call (.Name "max" np) [a.py] [⟨some "default", d.py, kp⟩] p
  | .den dp ep a pe p => .Call (.Name "dict" dp) [.Call (.Name "enumerate" ep) [a.py] [] pe] [] p
  | .tvl tp P pa pc p => .Call (.Name "tuple" tp) [.Call (.Attribute P.py "values" pa) [] [] pc] [] p
  | .sme np e p => .Call (.Name "sum" np) [e.py] [] p
def CDs.pyk : CDs → List (Option Expr)
  | .nil => []
  | .cons k kk kp _ ds => some (.Constant (.str k) kk kp) :: ds.pyk
def CDs.pyv : CDs → List Expr
  | .nil => []
  | .cons _ _ _ e ds => e.py :: ds.pyv
def CP.py : CP → Expr
  | .rt _ x p => .Name x p
  | .sub P k p => .Subscript P.py k.py p
def CEs.py : CEs → List Expr
  | .nil => []
  | .cons e es => e.py :: es.py
def CKs.py : CKs → List Keyword
  | .nil => []
  | .cons x e p ks => ⟨some x, e.py, p⟩ :: ks.py
def CO.py : CO → Option Expr
  | .no => none
  | .is e => some e.py
def CI.py : CI → Expr
  | .seq e => e.py
  | .rng1 np a p => .Call (.Name "range" np) [a.py] [] p
  | .rng2 np a b p => .Call (.Name "range" np) [a.py, b.py] [] p
  | .enum np a p => .Call (.Name "enumerate" np) [a.py] [] p
  | .zip np a b p => .Call (.Name "zip" np) [a.py, b.py] [] p
end
mutual
def CS.py : CS → Stmt
  | .asg t e p => .Assign [t.py] e.py p
  | .par _ _ x y px py kt pt a b k2 p2 p => .Assign [.Tuple [.Name x px, .Name y py] kt pt] (.Tuple [a.py, b.py] k2 p2) p
  | .setI _ x px k e tp p => .Assign [.Subscript (.Name x px) k.py tp] e.py p
  | .expr e p => .Expr e.py p
  | .app _ x px pa e pc p => .Expr (.Call (.Attribute (.Name x px) "append" pa) [e.py] [] pc) p
  | .aug _ x px op e p => .AugAssign (.Name x px) op e.py p
  | .ife c a b p => .If c.py a.py b.py p
  | .forr t it body p => .For t.py it.py body.py [] p
  | .ret e p => .Return (some e.py) p
  | .retN p => .Return none p
  | .pass p => .Pass p
  | .brk p => .Break p
  | .cnt p => .Continue p
  | .nvr st => st
  | .papp P pa e pc p => .Expr (.Call (.Attribute P.py "append" pa) [e.py] [] pc) p
  | .pext P pa e pc p => .Expr (.Call (.Attribute P.py "extend" pa) [e.py] [] pc) p
  | .pset P k e tp p => .Assign [.Subscript P.py k.py tp] e.py p
  | .whl c body p => .While c.py body.py [] p
  | .asgs pre _ x px ps post k pt e p => .Assign [.Tuple (pre.py ++ .Starred (.Name x px) ps :: post.py) k pt] e.py p
def CSs.py : CSs → List Stmt
  | .nil => []
  | .cons s ss => s.py :: ss.py
end

/-! ### what changes nothing that is owned -/
mutual
def CE.pure : CE → Bool
  | .cst .. => true | .var .. => true | .brw .. => true | .mov .. => true | .ref .. => false | .glb .. => true | .dic0 .. => true
  | .pth _ _ _ k _ => k.pure
  | .tup es _ _ => es.pure | .lst es _ => es.pure
  | .bin _ a b _ => a.pure && b.pure
  | .neg a _ => a.pure | .nt a _ => a.pure
  | .bop _ es _ => es.pure
  | .cmp _ a b _ => a.pure && b.pure
  | .chn _ _ a b c _ => a.pure && b.pure && c.pure
  | .ifx c a b _ => c.pure && a.pure && b.pure
  | .isi a _ _ _ _ => a.pure
  | .blt _ _ es _ => es.pure
  | .call _ _ _ es ks _ => es.pure && ks.pure
  | .idx a i _ => a.pure && i.pure
  | .slc a lo hi _ _ => a.pure && lo.pure && hi.pure
  | .lc elt _ it ifs _ _ _ => elt.pure && it.pure && ifs.pure
  | .lc2 elt _ it ifs _ it1 ifs1 _ _ _ _ => elt.pure && it.pure && ifs.pure && it1.pure && ifs1.pure
  | .popAt .. => false
  | .dcm kx vx _ it ifs _ _ _ => kx.pure && vx.pure && it.pure && ifs.pure
  | .lrng _ _ a b _ _ => a.pure && b.pure
  | .lzip _ _ _ x y _ _ _ _ _ => x.pure && y.pure
  | .dcp .. => true
  | .rev a _ _ _ _ _ => a.pure
  | .ssc _ elt _ it ifs _ it1 ifs1 _ _ _ _ _ => elt.pure && it.pure && ifs.pure && it1.pure && ifs1.pure
  | .dsp ds _ => ds.pure
  | .plc P => P.pure
  | .mxd _ a d _ _ => a.pure && d.pure
  | .den _ _ a _ _ => a.pure
  | .tvl _ P _ _ _ => P.pure
  | .sme _ e _ => e.pure
def CDs.pure : CDs → Bool
  | .nil => true | .cons _ _ _ e ds => e.pure && ds.pure
def CP.pure : CP → Bool
  | .rt _ _ _ => true | .sub P k _ => P.pure && k.pure
def CEs.pure : CEs → Bool
  | .nil => true | .cons e es => e.pure && es.pure
def CKs.pure : CKs → Bool
  | .nil => true | .cons _ e _ ks => e.pure && ks.pure
def CO.pure : CO → Bool
  | .no => true | .is e => e.pure
def CI.pure : CI → Bool
  | .seq e => e.pure | .rng1 _ a _ => a.pure | .rng2 _ a b _ => a.pure && b.pure | .enum _ a _ => a.pure | .zip _ a b _ => a.pure && b.pure
end

/-- what leaves all as it is, where it gives no container -/
def CE.still : CE → Bool
  | .cst .. => true
  | .brw .. => true
  | .bin _ a b _ => a.still && b.still
  | .neg a _ => a.still
  | _ => false
/-! ### values -/
mutual
def Val.toD : Val → PyData
  | .non => .none
  | .bl b => .bool b
  | .int i => .int i
  | .str s => .str s
  | .tup xs => .tuple (toDs xs)
  | .lst xs => .list (toDs xs)
  | .dic kvs => .dict (toDk kvs)
def toDs : List Val → List PyData
  | [] => []
  | x :: xs => x.toD :: toDs xs
def toDk : List (Key × Val) → List (PyData × PyData)
  | [] => []
  | (k, v) :: r => ((match k with | .inl i => .int i | .inr s => .str s), v.toD) :: toDk r
end
/-- all things within are no containers -/
def Val.inner : Val → Bool
  | .lst xs => xs.all Val.flat
  | .dic kvs => kvs.all fun q => q.2.flat
  | _ => true
inductive Mode where
  | own (d : Nat) | bor
def Mode.lets (m : Mode) (b : Bool) : Bool := match m with
  | .own _ => true
  | .bor => b
abbrev Res := Mode × Val
def cstV : Const → Option Val
  | .none => some .non
  | .bool b => some (.bl b)
  | .int i => some (.int i)
  | .str s => some (.str s)
  | _ => none
def gd (b : Bool) (o : Option α) : Option α := bif b then o else none
def fitsLine (n : Nat) : Bool := decide (n ≤ sizeLine)
def flatRep (k : Int) (xs : List Val) : List Val := (List.replicate k.toNat xs).flatten
def binV : Operator → Val → Val → Option R
  | .Add, .int i, .int j => some (0, .int (i + j))
  | .Add, .str a, .str b => gd (fitsLine (a.length + b.length)) (some (0, .str (a ++ b)))
  | .Add, .lst xs, .lst ys => gd (fitsLine (xs.length + ys.length)) (some (1, .lst (xs ++ ys)))
  | .Add, .tup xs, .tup ys => gd (fitsLine (xs.length + ys.length)) (some (0, .tup (xs ++ ys)))
  | .Sub, .int i, .int j => some (0, .int (i - j))
  | .Mult, .int i, .int j => gd (decide ((-(2 ^ 64) < i ∧ i < 2 ^ 64) ∨ (-(2 ^ 64) < j ∧ j < 2 ^ 64))) (some (0, .int (i * j)))
  | .Mult, .lst xs, .int k => gd (decide (-(2 ^ 63) ≤ k ∧ k < 2 ^ 63 ∧ xs.length * k.toNat ≤ sizeLine)) (some (1, .lst (flatRep k xs)))
  | .Mult, .tup xs, .int k => gd (decide (k ≤ 100000 ∧ -100000 ≤ k ∧ xs.length ≤ 100)) (some (0, .tup (flatRep k xs)))
  | .Mod, .int i, .int j => gd (decide (0 < j)) (some (0, .int (i % j)))
  | .FloorDiv, .int i, .int j => gd (decide (0 < j ∧ j < 1073741824)) (some (0, .int (i / j)))
  | .Pow, .int i, .int j => gd (decide (0 ≤ j ∧ j ≤ 1000000 ∧ i.natAbs < 2 ^ 64)) (some (0, .int (i ^ j.toNat)))
  | _, _, _ => none
def eqV (a b : Val) : Option Bool := gd (SeqAt.shaped a.toD && SeqAt.shaped b.toD) (some (PyData.eqv a.toD b.toD))
def scalar : Val → Val → Option Bool
  | .int i, .int j => some (decide (i = j))
  | .str i, .str j => some (decide (i = j))
  | .bl i, .bl j => some (decide (i = j))
  | .lst xs, .lst ys => bif xs.length != ys.length then some false else none
  | _, _ => none
def eqS (a b : Val) : Option Bool := (scalar a b).orElse fun _ => eqV a b
/-- a thing that is no sequence, as a value -/
def flatS : Val → Option V
  | .non => some .non
  | .bl b => some (.bl b)
  | .int i => some (.int i)
  | .str s => some (.str s)
  | _ => none
def flatSs : List Val → Option (List V)
  | [] => some []
  | x :: xs => (flatS x).bind fun u => (flatSs xs).map (u :: ·)
def keyOf : Val → Option Key
  | .int i => some (.inl i)
  | .str s => some (.inr s)
  | _ => none
def inS (x : Val) : Val → Option Bool
  | .lst xs => (flatS x).bind fun u => (flatSs xs).map fun us => inV u us
  | .tup xs => (flatS x).bind fun u => (flatSs xs).map fun us => inV u us
  | .dic kvs => (keyOf x).map fun k => kvs.any fun q => decide (q.1 = k)
  | .str j => (match x with
    | .str i => some (!(Builtin.Str.occurrences j i 0 j.length 1).isEmpty)
    | _ => none)
  | _ => none
def cmpV : CmpOp → Val → Val → Option Bool
  | .In, a, b => inS a b
  | .NotIn, a, b => (inS a b).map (!·)
  | .Eq, a, b => eqS a b
  | .NotEq, a, b => (eqS a b).map (!·)
  | .Lt, .int i, .int j => some (decide (i < j))
  | .LtE, .int i, .int j => some (decide (i ≤ j))
  | .Gt, .int i, .int j => some (decide (j < i))
  | .GtE, .int i, .int j => some (decide (j ≤ i))
  | .Is, .non, .non => some true
  | .Is, .bl a, .bl b => some (decide (a = b))
  | .IsNot, .non, .non => some false
  | .IsNot, .bl a, .bl b => some (!decide (a = b))
  | _, _, _ => none
def truV : Val → Option Bool
  | .non => some false
  | .bl b => some b
  | .int i => some (i != 0)
  | .str s => gd (fitsLine s.length) (some ((s.length : Int) != 0))
  | .lst xs => some (!xs.isEmpty)
  | .tup xs => some (!xs.isEmpty)
  | .dic kvs => some (!kvs.isEmpty)
def tyV : Val → String
  | .non => "NoneType" | .bl _ => "bool" | .int _ => "int" | .str _ => "str" | .tup _ => "tuple" | .lst _ => "list" | .dic _ => "dict"
def isiV : Val → TN → Bool
  | .int _, .int => true
  | .bl _, .int => true
  | .bl _, .bool => true
  | .str _, .str => true
  | .tup _, .tuple => true
  | .lst _, .list => true
  | .dic _, .dict => true
  | _, _ => false
def boolsOf : List Val → Option (List Bool)
  | [] => some []
  | .bl b :: r => (boolsOf r).map (b :: ·)
  | _ :: _ => none
/-- a rising list of the same ints -/
def insI (x : Int) : List Int → List Int
  | [] => [x]
  | y :: r => if x ≤ y then x :: y :: r else y :: insI x r
def sortI (l : List Int) : List Int := l.foldr insI []
def intsOf : List Val → Option (List Int)
  | [] => some []
  | .int b :: r => (intsOf r).map (b :: ·)
  | _ :: _ => none
mutual
/-- no list in it, no dict but empty ones -/
def Val.plainD : Val → Bool
  | .tup xs => plainDs xs
  | .lst _ => false
  | .dic kvs => kvs.isEmpty
  | _ => true
def plainDs : List Val → Bool
  | [] => true
  | x :: xs => x.plainD && plainDs xs
end
def reprV (v : Val) : Option Str := gd (PyData.showable v.toD && fitsLine (PyData.shown v.toD).length && decide (v.toD.depth ≤ 64) && (!v.toD.hasDict || v.plainD)) (some (PyData.shown v.toD))
def bltV : BF → List Val → Option R
  | .len, [.lst xs] => some (0, .int xs.length)
  | .len, [.tup xs] => some (0, .int xs.length)
  | .len, [.str s] => gd (fitsLine s.length) (some (0, .int s.length))
  | .repr, [v] => (reprV v).map fun s => (0, .str s)
  | .all, [.lst xs] => (boolsOf xs).map fun bs => (0, .bl (bs.all id))
  | .any, [.lst xs] => (boolsOf xs).map fun bs => (0, .bl (bs.any id))
  | .sum, [.lst xs] => (intsOf xs).map fun bs => (0, .int bs.sum)
  | .tuple, [.lst xs] => some (0, .tup xs)
  | .tuple, [.tup xs] => some (0, .tup xs)
  | .list, [.lst xs] => some (1, .lst xs)
  | .list, [.tup xs] => some (1, .lst xs)
  | .min2, [.int i, .int j] => some (0, .int (if j < i then j else i))
  | .max2, [.int i, .int j] => some (0, .int (if j > i then j else i))
  | .int, [.int i] => some (0, .int i)
  | .int, [.bl b] => some (0, .int (if b then 1 else 0))
  | .abs, [.int i] => some (0, .int (if i < 0 then -i else i))
  | .sorted, [.lst xs] => (intsOf xs).map fun l => (1, .lst ((sortI l).map .int))
  | _, _ => none
def getV : Val → Val → Option Val
  | .lst xs, .int i => atI' xs i
  | .tup xs, .int i => atI' xs i
  | .dic kvs, k => (keyOf k).bind fun q => (kvs.find? fun z => decide (z.1 = q)).map (·.2)
  | _, _ => none
where atI' (xs : List Val) (i : Int) : Option Val := (ixN xs.length i).bind fun j => xs[j]?
/-- of a list, a tuple alone -/
def getS : Val → Val → Option Val
  | .lst xs, .int i => getV.atI' xs i
  | .tup xs, .int i => getV.atI' xs i
  | _, _ => none
def cutL (xs : List Val) (lo hi : Option Int) : List Val := (xs.drop (HT.sIx xs.length 0 lo)).take (HT.sIx xs.length xs.length hi - HT.sIx xs.length 0 lo)
def slcV : Val → Option Int → Option Int → Option R
  | .lst xs, lo, hi => some (1, .lst (cutL xs lo hi))
  | .tup xs, lo, hi => some (0, .tup (cutL xs lo hi))
  | _, _, _ => none
/-- what a for walks -/
def signs (s : Str) : List Val := s.cps.toList.map fun c => .str ⟨#[c]⟩
def itemsV : Val → Option (List Val)
  | .lst xs => some xs
  | .tup xs => some xs
  | .str s => some (signs s)
  | _ => none
def pairUp : List Val → List Val → List Val
  | x :: xs, y :: ys => .tup [x, y] :: pairUp xs ys
  | _, _ => []
def intsFrom (lo : Int) : Nat → List Val
  | 0 => []
  | n + 1 => .int lo :: intsFrom (lo + 1) n
def numbered (i : Nat) : List Val → List Val
  | [] => []
  | x :: xs => .tup [.int i, x] :: numbered (i + 1) xs
def inRange (i : Int) : Bool := decide (-(2 ^ 62) ≤ i ∧ i < 2 ^ 62)
def rngOk (i j : Int) : Bool := inRange i && inRange j && decide ((j - i).toNat ≤ 2 ^ 24)

def putD (kvs : List (Key × Val)) (k : Key) (v : Val) : List (Key × Val) := bif kvs.any fun q => decide (q.1 = k) then kvs.map (fun q => bif decide (q.1 = k) then (q.1, v) else q) else kvs ++ [(k, v)]
def pairOf : Val → Option (Key × Val)
  | .tup [k, v] => (keyOf k).map fun q => (q, v)
  | _ => none
/-- an int into a rising list -/
def insU (x : Int) : List Int → List Int
  | [] => [x]
  | y :: r => if x < y then x :: y :: r else if x = y then y :: r else y :: insU x r
def sortU (l : List Int) : List Int := l.foldr insU []
/-- pairs, put one after another -/
def putAll : List (Key × Val) → List Val → Option (List (Key × Val))
  | acc, [] => some acc
  | acc, w :: r => (pairOf w).bind fun q => putAll (putD acc q.1 q.2) r
/-- of a list, a dict alone -/
def getC : Val → Val → Option Val
  | .lst xs, .int i => getV.atI' xs i
  | .dic kvs, k => (keyOf k).bind fun q => (kvs.find? fun z => decide (z.1 = q)).map (·.2)
  | _, _ => none
/-- along a path -/
def getP : Val → List Val → Option Val
  | v, [] => some v
  | v, k :: r => (getC v k).bind fun u => getP u r
/-- the first with a key -/
def putF : List (Key × Val) → Key → Val → List (Key × Val)
  | [], _, _ => []
  | z :: r, k, v => bif decide (z.1 = k) then (z.1, v) :: r else z :: putF r k v
def setC (v k u : Val) : Val := match v with
  | .lst xs => (match k with
    | .int m => (match ixN xs.length m with
      | some n => .lst (xs.set n u)
      | none => v)
    | _ => v)
  | .dic kvs => (match keyOf k with
    | some q => .dic (putF kvs q u)
    | none => v)
  | _ => v
/-- the thing at a path is another one -/
def setP : Val → List Val → Val → Val
  | _, [], w => w
  | v, k :: r, w => match getC v k with
    | some u => setC v k (setP u r w)
    | none => v
/-- the greatest, or what is given for none -/
def maxD (d : Int) : List Int → Int
  | [] => d
  | x :: xs => xs.foldl max x
def enumD (i : Nat) : List Val → List (Key × Val)
  | [] => []
  | x :: xs => (.inl (i : Int), x) :: enumD (i + 1) xs
/-- a container takes one more thing in: own within to depth d -/
def storeV (d : Nat) (c k : Val) (r : R) : Option Val := match c with
  | .lst xs => (match k with
    | .int m => gd (r.2.flat || d == 0 || r.1 == d) ((ixN xs.length m).map fun n => .lst (xs.set n r.2))
    | _ => none)
  | .dic kvs => gd (r.2.flat && decide (kvs.length < sizeLine)) ((keyOf k).map fun q => .dic (putD kvs q r.2))
  | _ => none
def appV (d : Nat) (c : Val) (r : R) : Option Val := match c with
  | .lst xs => gd ((r.2.flat || d == 0 || r.1 == d) && decide (xs.length < sizeLine)) (some (.lst (xs ++ [r.2])))
  | _ => none
def extV (c : Val) (w : Val) : Option Val := match c, w with
  | .lst xs, .lst ys => gd (ys.all Val.flat && decide (xs.length + ys.length ≤ sizeLine)) (some (.lst (xs ++ ys)))
  | _, _ => none
/-! ### meaning -/
/-- a def's call: which def, its name, how many values, which keywords, how they come to the parameters, the defaults -/
structure CallSh where
  f : Nat
  x : Str
  n : Nat
  ks : List Str
  ar : List Src
  dv : List Val
structure Den where
  const : Str → Option Val
  calls : List CallSh
  fn : Nat → List R → Option (R × Slots)
  tab : Str → Option (List (Str × Val)) := fun _ => none
  fuel : Nat := 0
inductive Out where
  | nx (S : Slots) | rt (r : R) (S : Slots) | bk (S : Slots) | ct (S : Slots)
inductive Arg where
  | byRef (i : Nat) | val (v : Val)
/-- the depth of a new list whose things are rs: 1, or one more than the depth of all containers in it -/
def dispD (rs : List R) : Nat := match rs.find? (fun r => !r.2.flat) with
  | none => 1
  | some r => bif rs.all (fun q => q.2.flat || q.1 == r.1) then r.1 + 1 else 1
def wipeS (S : Slots) : List Nat → Slots
  | [] => S
  | v :: vs => (wipeS S vs).set v none
def argR (S : Slots) : Arg → Option R
  | .byRef i => match S[i]? with
    | some (some r) => some r
    | _ => none
  | .val v => some (0, v)
def arrange (as bs ds : List α) : List Src → Option (List α)
  | [] => some []
  | .pos i :: r => as[i]?.bind fun a => (arrange as bs ds r).map (a :: ·)
  | .kw i :: r => bs[i]?.bind fun a => (arrange as bs ds r).map (a :: ·)
  | .dfl i :: r => ds[i]?.bind fun a => (arrange as bs ds r).map (a :: ·)
def argRs (S : Slots) : List Arg → Option (List R)
  | [] => some []
  | a :: r => (argR S a).bind fun x => (argRs S r).map (x :: ·)
/-- what the by-ref parameters became -/
def backS (S : Slots) : List Arg → Slots → Option Slots
  | [], _ => some S
  | .val _ :: r, fin => backS S r (fin.drop 1)
  | .byRef i :: r, fin => match fin[0]? with
    | some (some x) => backS (S.set i (some x)) r (fin.drop 1)
    | _ => none
def refsOf : List Arg → List Nat
  | [] => []
  | .byRef i :: r => i :: refsOf r
  | .val _ :: r => refsOf r
def compL (f : Val → Slots → Option (List Val × Slots)) : List Val → Slots → Option (List Val × Slots)
  | [], S => some ([], S)
  | v :: vs, S => (f v S).bind fun q => (compL f vs q.2).map fun t => (q.1 ++ t.1, t.2)
def forL (f : Val → Slots → Option Out) : List Val → Slots → Option Out
  | [], S => some (.nx S)
  | v :: vs, S => match f v S with
    | some (.nx S1) => forL f vs S1
    | some (.ct S1) => forL f vs S1
    | some (.bk S1) => some (.nx S1)
    | some (.rt r S1) => some (.rt r S1)
    | none => none
def whlL (c : Slots → Option (Bool × Slots)) (b : Slots → Option Out) : Nat → Slots → Option Out
  | 0, _ => none
  | n + 1, S => (c S).bind fun q => bif q.1 then (match b q.2 with
    | some (.nx S1) => whlL c b n S1
    | some (.ct S1) => whlL c b n S1
    | some (.bk S1) => some (.nx S1)
    | some (.rt r S1) => some (.rt r S1)
    | none => none) else some (.nx q.2)
def CTs.len : CTs → Nat
  | .nil => 0
  | .cons _ ts => ts.len + 1
def CTs.app : CTs → CTs → CTs
  | .nil, us => us
  | .cons t ts, us => .cons t (ts.app us)
mutual
def CT.set : CT → Val → Slots → Option Slots
  | .name i _ _, v, S => some (S.set i (some (0, v)))
  | .tup ts _ _, v, S => match v with
    | .tup xs => ts.set xs S
    | .lst xs => ts.set xs S
    | _ => none
def CTs.set : CTs → List Val → Slots → Option Slots
  | .nil, [], S => some S
  | .cons t ts, x :: xs, S => (t.set x S).bind fun S1 => ts.set xs S1
  | _, _, _ => none
end
/-- a test -/
def tst (o : Option (Res × Slots)) : Option (Bool × Slots) := o.bind fun q => (truV q.1.2).map fun b => (b, q.2)
/-- a thing goes into a list that is own to depth d within -/
def fitsIn (d : Nat) (r : R) : Bool := r.2.flat || d == 0 || r.1 == d
/-- a list of one's own stands at a place -/
def okL (S : Slots) (w : Nat × List Val) : Bool := match S[w.1]? with
  | some (some (d, v)) => (match getP v w.2 with
    | some (.lst _) => decide (w.2.length < d)
    | _ => false)
  | _ => false
mutual
def ev (D : Den) : CE → Slots → Option (Res × Slots)
  | .cst c _ _, S => (cstV c).map fun v => ((.own 0, v), S)
  | .var i _ _, S => match S[i]? with
    | some (some (_, v)) => some ((.own 0, v), S.set i (some (0, v)))
    | _ => none
  | .brw i _ _, S => match S[i]? with
    | some (some (d, v)) => some (bif v.flat then ((.own 0, v), S) else bif decide (d ≤ 1) || v.inner then ((.bor, v), S) else ((.own 0, v), S.set i (some (0, v))))
    | _ => none
  | .mov i _ _, S => match S[i]? with
    | some (some (d, v)) => some ((.own d, v), S.set i none)
    | _ => none
  | .ref _ _ _, _ => none
  | .pth i _ _ k _, S => match S[i]? with
    | some (some _) => (ev D k S).bind fun q => match q.2[i]? with
      | some (some (_, v)) => (getS v q.1.2).bind fun u => bif u.flat then some ((.own 0, u), q.2) else gd u.inner (some ((.bor, u), q.2))
      | _ => none
    | _ => none
  | .glb x _, S => (D.const x).map fun v => ((.own 0, v), S)
  | .tup es _ _, S => (evs D es S).bind fun q => gd (fitsLine q.1.length) (some ((.own 0, .tup (q.1.map (·.2))), q.2))
  | .lst es _, S => (evs D es S).bind fun q => gd (fitsLine q.1.length) (some ((.own (dispD q.1), .lst (q.1.map (·.2))), q.2))
  | .dic0 _, S => some ((.own 1, .dic []), S)
  | .bin op a b _, S => (ev D a S).bind fun q => gd (q.1.1.lets b.pure) ((ev D b q.2).bind fun t => (binV op q.1.2 t.1.2).map fun r => ((.own r.1, r.2), t.2))
  | .neg a _, S => (ev D a S).bind fun q => match q.1.2 with
    | .int i => some ((.own 0, .int (-i)), q.2)
    | _ => none
  | .nt a _, S => (tst (ev D a S)).map fun q => ((.own 0, .bl (!q.1)), q.2)
  | .bop o es _, S => evb D o es S
  | .cmp op a b _, S => (ev D a S).bind fun q => gd (q.1.1.lets b.pure) ((ev D b q.2).bind fun t => (cmpV op q.1.2 t.1.2).map fun r => ((.own 0, .bl r), t.2))
  | .chn op op' a b c _, S => (ev D a S).bind fun q => gd (q.1.1.lets b.pure) ((ev D b q.2).bind fun t => (cmpV op q.1.2 t.1.2).bind fun r =>
      bif r then gd (t.1.1.lets c.pure) ((ev D c t.2).bind fun u => (cmpV op' t.1.2 u.1.2).map fun r' => ((.own 0, .bl r'), u.2)) else some ((.own 0, .bl false), t.2))
  | .ifx c a b _, S => (tst (ev D c S)).bind fun q => bif q.1 then ev D a q.2 else ev D b q.2
  | .isi a T _ _ _, S => (ev D a S).map fun q => ((.own 0, .bl (isiV q.1.2 T)), q.2)
  | .blt f _ es _, S => (evo D es S).bind fun q => (bltV f q.1).map fun r => ((.own r.1, r.2), q.2)
  | .call c _ _ es ks _, S => D.calls[c]?.bind fun sh => (eva D es S).bind fun q => (evk D ks q.2).bind fun t => (arrange q.1 t.1 (sh.dv.map .val) sh.ar).bind fun as => (argRs t.2 as).bind fun rs => gd (decide (refsOf as).Nodup) ((D.fn sh.f rs).bind fun w => (backS (wipeS t.2 (refsOf as)) as w.2).map fun S' => ((.own w.1.1, w.1.2), S'))
  | .idx a i _, S => (ev D a S).bind fun q => gd (q.1.1.lets i.pure) ((ev D i q.2).bind fun t => (getV q.1.2 t.1.2).map fun u => ((.own 0, u), t.2))
  | .slc a lo hi _ _, S => (ev D a S).bind fun q => gd (q.1.1.lets (lo.pure && hi.pure)) ((evi D lo q.2).bind fun t => (evi D hi t.2).bind fun u => (slcV q.1.2 t.1 u.1).map fun r => ((.own r.1, r.2), u.2))
  | .lc elt t it ifs _ own _, S => (evI D it S).bind fun q => (compL (fun v S1 => (t.set v S1).bind fun S2 => (evts D ifs S2).bind fun b => bif b.1 then (ev D elt b.2).bind fun r => match r.1.1 with
      | .own _ => some ([r.1.2], wipeS r.2 (own.map (·.2)))
      | .bor => none else some ([], wipeS b.2 (own.map (·.2)))) q.1 (wipeS q.2 (own.map (·.2)))).bind fun u => gd (fitsLine u.1.length) (some ((.own 1, .lst u.1), u.2))
  | .lc2 elt t it ifs t1 it1 ifs1 _ own vs1 _, S => (evI D it S).bind fun q => (compL (fun v S1 => (t.set v S1).bind fun S2 => (evts D ifs S2).bind fun b => bif b.1 then (evI D it1 b.2).bind fun q1 =>
      (compL (fun v1 S3 => (t1.set v1 S3).bind fun S4 => (evts D ifs1 S4).bind fun b1 => bif b1.1 then (ev D elt b1.2).bind fun r => match r.1.1 with
        | .own _ => some ([r.1.2], wipeS r.2 vs1)
        | .bor => none else some ([], wipeS b1.2 vs1)) q1.1 (wipeS q1.2 vs1)).map fun z => (z.1, wipeS z.2 (own.map (·.2))) else some ([], wipeS b.2 (own.map (·.2)))) q.1 (wipeS q.2 (own.map (·.2)))).bind fun u => gd (fitsLine u.1.length) (some ((.own 1, .lst u.1), u.2))
  | .popAt i _ _ k _ j _ _, S => match S[i]?, k, j with
    | some (some (d + 2, .lst xs)), .cst (.int m) _ _, .cst (.int 0) _ _ => (ixN xs.length m).bind fun n => match xs[n]? with
      | some (.lst (w :: ws)) => gd w.flat (some ((.own 0, w), S.set i (some (d + 2, .lst (xs.set n (.lst ws))))))
      | _ => none
    | _, _, _ => none
  | .dcm kx vx t it ifs _ own _, S => (evI D it S).bind fun q => (compL (fun v S1 => (t.set v S1).bind fun S2 => (evts D ifs S2).bind fun b => bif b.1 then (ev D kx b.2).bind fun r => (ev D vx r.2).bind fun u => match r.1.1, u.1.1 with
      | .own _, .own _ => some ([.tup [r.1.2, u.1.2]], wipeS u.2 (own.map (·.2)))
      | _, _ => none else some ([], wipeS b.2 (own.map (·.2)))) q.1 (wipeS q.2 (own.map (·.2)))).bind fun u => gd (fitsLine u.1.length) ((putAll [] u.1).map fun kvs => ((.own 1, .dic kvs), u.2))
  | .ssc _ elt t it ifs t1 it1 ifs1 _ own vs1 _ _, S => (evI D it S).bind fun q => (compL (fun v S1 => (t.set v S1).bind fun S2 => (evts D ifs S2).bind fun b => bif b.1 then (evI D it1 b.2).bind fun q1 =>
      (compL (fun v1 S3 => (t1.set v1 S3).bind fun S4 => (evts D ifs1 S4).bind fun b1 => bif b1.1 then (ev D elt b1.2).bind fun r => match r.1.1 with
        | .own _ => some ([r.1.2], wipeS r.2 vs1)
        | .bor => none else some ([], wipeS b1.2 vs1)) q1.1 (wipeS q1.2 vs1)).map fun z => (z.1, wipeS z.2 (own.map (·.2))) else some ([], wipeS b.2 (own.map (·.2)))) q.1 (wipeS q.2 (own.map (·.2)))).bind fun u => (intsOf u.1).bind fun ks => gd (decide (ks.length ≤ 4000)) (some ((.own 1, .lst ((sortU ks).map .int)), u.2))
  | .lzip _ _ _ x y _ _ _ _ _, S => (ev D x S).bind fun q => (ev D y q.2).bind fun t => match q.1, t.1 with
    | (.own _, .lst xs), (.own _, .lst ys) => gd (xs.length == ys.length) (some ((.own 1, .lst (pairUp xs ys)), t.2))
    | (.own _, .tup xs), (.own _, .tup ys) => gd (xs.length == ys.length) (some ((.own 1, .lst (pairUp xs ys)), t.2))
    | _, _ => none
  | .dcp _ _ x _, S => (D.tab x).map fun kvs => ((.own 1, .dic (kvs.map fun q => (.inr q.1, q.2))), S)
  | .rev a _ _ _ _ _, S => (ev D a S).bind fun q => match q.1 with
    | (.own _, .lst xs) => some ((.own 1, .lst xs.reverse), q.2)
    | (.own _, .tup xs) => some ((.own 0, .tup xs.reverse), q.2)
    | _ => none
  | .lrng _ _ a b _ _, S => (ev D a S).bind fun q => (ev D b q.2).bind fun t => match q.1.2, t.1.2 with
    | .int i, .int j => gd (rngOk i j) (some ((.own 1, .lst (intsFrom i (j - i).toNat)), t.2))
    | _, _ => none
  | .dsp ds _, S => (evd D ds S).bind fun q => gd (decide (q.1.length ≤ 15) && decide (q.1.map (·.1)).Nodup) (some ((.own (dispD (q.1.map (·.2))), .dic (q.1.map fun z => (.inr z.1, z.2.2))), q.2))
  | .plc P, S => (evP D P S).bind fun q => match S[q.1]? with
    | some (some (d, v)) => (getP v q.2).bind fun u => gd (decide (q.2.length ≤ d)) (bif u.flat || d == q.2.length then some ((.own 0, u), S) else gd u.inner (some ((.bor, u), S)))
    | _ => none
  | .mxd _ a d _ _, S => (ev D a S).bind fun q => gd (q.1.1.lets d.pure) ((ev D d q.2).bind fun t => match q.1.2, t.1.2 with
    | .lst xs, .int i => (intsOf xs).map fun l => ((.own 0, .int (maxD i l)), t.2)
    | _, _ => none)
  | .den _ _ a _ _, S => (ev D a S).bind fun q => match q.1 with
    | (.own _, .tup xs) => gd (decide (xs.length ≤ 2000)) (some ((.own 1, .dic (enumD 0 xs)), q.2))
    | _ => none
  | .tvl _ P _ _ _, S => (evP D P S).bind fun q => match S[q.1]? with
    | some (some (d, v)) => (getP v q.2).bind fun u => gd (decide (q.2.length < d)) (match u with
      | .dic kvs => gd (kvs.all fun z => z.2.flat) (some ((.own 0, .tup (kvs.map (·.2))), S))
      | _ => none)
    | _ => none
  | .sme _ e _, S => (ev D e S).bind fun q => gd e.pure (match q.1.2 with
    | .lst xs => (intsOf xs).map fun l => ((.own 0, .int l.sum), S)
    | _ => none)
/-- a display's pairs -/
def evd (D : Den) : CDs → Slots → Option (List (Str × R) × Slots)
  | .nil, S => some ([], S)
  | .cons k _ _ e ds, S => (ev D e S).bind fun q => match q.1.1 with
    | .own d => (evd D ds q.2).map fun t => ((k, (d, q.1.2)) :: t.1, t.2)
    | .bor => none
/-- a place: its slot, its path -/
def evP (D : Den) : CP → Slots → Option (Nat × List Val)
  | .rt i _ _, _ => some (i, [])
  | .sub P k _, S => (evP D P S).bind fun q => gd k.still ((ev D k S).bind fun t => gd t.1.2.flat (some (q.1, q.2 ++ [t.1.2])))
/-- things of a display -/
def evs (D : Den) : CEs → Slots → Option (List R × Slots)
  | .nil, S => some ([], S)
  | .cons e es, S => (ev D e S).bind fun q => match q.1.1 with
    | .own d => (evs D es q.2).map fun t => ((d, q.1.2) :: t.1, t.2)
    | .bor => none
/-- operands -/
def evo (D : Den) : CEs → Slots → Option (List Val × Slots)
  | .nil, S => some ([], S)
  | .cons e es, S => (ev D e S).bind fun q => gd (q.1.1.lets es.pure) ((evo D es q.2).map fun t => (q.1.2 :: t.1, t.2))
/-- arguments of a def -/
def eva (D : Den) : CEs → Slots → Option (List Arg × Slots)
  | .nil, S => some ([], S)
  | .cons (.ref i _ _) es, S => match S[i]? with
    | some (some _) => (eva D es S).map fun t => (.byRef i :: t.1, t.2)
    | _ => none
  | .cons e es, S => (ev D e S).bind fun q => match q.1.1 with
    | .own _ => (eva D es q.2).map fun t => (.val q.1.2 :: t.1, t.2)
    | .bor => none
def evk (D : Den) : CKs → Slots → Option (List Arg × Slots)
  | .nil, S => some ([], S)
  | .cons _ e _ es, S => (ev D e S).bind fun q => match q.1.1 with
    | .own _ => (evk D es q.2).map fun t => (.val q.1.2 :: t.1, t.2)
    | .bor => none
def evi (D : Den) : CO → Slots → Option (Option Int × Slots)
  | .no, S => some (none, S)
  | .is e, S => (ev D e S).bind fun q => match q.1.2 with
    | .int i => some (some i, q.2)
    | _ => none
/-- and, or -/
def evb (D : Den) (o : BoolOp) : CEs → Slots → Option (Res × Slots)
  | .nil, _ => none
  | .cons e .nil, S => ev D e S
  | .cons e es, S => (ev D e S).bind fun q => (truV q.1.2).bind fun b => match o with
    | .And => bif b then evb D o es q.2 else some q
    | .Or => bif b then some q else evb D o es q.2
/-- the tests of a comprehension: none or one -/
def evts (D : Den) : CEs → Slots → Option (Bool × Slots)
  | .nil, S => some (true, S)
  | .cons e .nil, S => tst (ev D e S)
  | _, _ => none
def evI (D : Den) : CI → Slots → Option (List Val × Slots)
  | .seq e, S => (ev D e S).bind fun q => match q.1.1 with
    | .own _ => (itemsV q.1.2).map fun xs => (xs, q.2)
    | .bor => none
  | .rng1 _ a _, S => (ev D a S).bind fun q => match q.1.2 with
    | .int i => gd (inRange i) (some (intsFrom 0 i.toNat, q.2))
    | _ => none
  | .rng2 _ a b _, S => (ev D a S).bind fun q => (ev D b q.2).bind fun t => match q.1.2, t.1.2 with
    | .int i, .int j => gd (inRange i && inRange j) (some (intsFrom i (j - i).toNat, t.2))
    | _, _ => none
  | .enum _ a _, S => (ev D a S).bind fun q => match q.1.1, q.1.2 with
    | .own _, v => (itemsV v).map fun xs => (numbered 0 xs, q.2)
    | _, _ => none
  | .zip _ a b _, S => (ev D a S).bind fun q => (ev D b q.2).bind fun t => match q.1, t.1 with
    | (.own _, .lst xs), (.own _, .lst ys) => some (pairUp xs ys, t.2)
    | (.own _, .tup xs), (.own _, .tup ys) => some (pairUp xs ys, t.2)
    | _, _ => none
end
mutual
def ex (D : Den) : CS → Slots → Option Out
  | .asg t e _, S => (ev D e S).bind fun q => match t, q.1.1 with
    | .name i _ _, .own d => some (.nx (q.2.set i (some (d, q.1.2))))
    | t, .own _ => (t.set q.1.2 q.2).map .nx
    | _, .bor => none
  | .par i j _ _ _ _ _ _ a b _ _ _, S => (evs D (.cons a (.cons b .nil)) S).bind fun q => match q.1 with
    | [r, r'] => some (.nx ((q.2.set i (some r)).set j (some r')))
    | _ => none
  | .setI i _ _ k e _ _, S => (ev D e S).bind fun q => match q.2[i]? with
    | some (some _) => (ev D k q.2).bind fun t => match t.2[i]?, t.1.2, q.1.1 with
      | some (some (d + 1, .lst xs)), .int m, .own d' => gd (fitsIn d (d', q.1.2)) ((ixN xs.length m).map fun n => .nx (t.2.set i (some (d + 1, .lst (xs.set n q.1.2)))))
      | _, _, _ => none
    | _ => none
  | .expr e _, S => (ev D e S).map fun q => .nx q.2
  | .app i _ _ _ e _ _, S => match S[i]? with
    | some (some (_, .lst _)) => (ev D e S).bind fun q => match q.2[i]?, q.1.1 with
      | some (some (d + 1, .lst xs)), .own d' => gd (fitsIn d (d', q.1.2) && decide (xs.length < sizeLine)) (some (.nx (q.2.set i (some (d + 1, .lst (xs ++ [q.1.2]))))))
      | _, _ => none
    | _ => none
  | .aug i _ _ op e _, S => match S[i]? with
    | some (some (_, .int k)) => (ev D e S).bind fun q => match op, q.1.2 with
      | .Add, .int m => some (.nx (q.2.set i (some (0, .int (k + m)))))
      | .Sub, .int m => some (.nx (q.2.set i (some (0, .int (k - m)))))
      | _, _ => none
    | _ => none
  | .ife c a b _, S => (tst (ev D c S)).bind fun q => bif q.1 then exs D a q.2 else exs D b q.2
  | .forr t it body _, S => (evI D it S).bind fun q => forL (fun v S1 => (t.set v S1).bind fun S2 => exs D body S2) q.1 q.2
  | .ret e _, S => (ev D e S).bind fun q => match q.1.1 with
    | .own d => some (.rt (d, q.1.2) q.2)
    | .bor => none
  | .retN _, S => some (.rt (0, .non) S)
  | .pass _, S => some (.nx S)
  | .brk _, S => some (.bk S)
  | .cnt _, S => some (.ct S)
  | .nvr _, _ => none
  | .papp P _ e _ _, S => (evP D P S).bind fun w => gd (okL S w && e.pure) ((ev D e S).bind fun q => match q.2[w.1]?, q.1.1 with
    | some (some (d, v)), .own d' => (getP v w.2).bind fun c => gd (decide (w.2.length < d)) ((appV (d - w.2.length - 1) c (d', q.1.2)).bind fun c' => some (.nx (q.2.set w.1 (some (d, setP v w.2 c')))))
    | _, _ => none)
  | .pext P _ e _ _, S => (evP D P S).bind fun w => gd (okL S w && e.pure) ((ev D e S).bind fun q => match q.2[w.1]?, q.1.1 with
    | some (some (d, v)), .own (_ + 1) => (getP v w.2).bind fun c => gd (decide (w.2.length < d)) ((extV c q.1.2).bind fun c' => some (.nx (q.2.set w.1 (some (d, setP v w.2 c')))))
    | _, _ => none)
  | .pset P k e _ _, S => (ev D e S).bind fun q => (evP D P q.2).bind fun w => gd k.still ((ev D k q.2).bind fun t => gd t.1.2.flat (match q.2[w.1]?, q.1.1 with
    | some (some (d, v)), .own d' => (getP v w.2).bind fun c => gd (decide (w.2.length < d)) ((storeV (d - w.2.length - 1) c t.1.2 (d', q.1.2)).bind fun c' => some (.nx (q.2.set w.1 (some (d, setP v w.2 c')))))
    | _, _ => none))
  | .whl c body _, S => whlL (fun S1 => tst (ev D c S1)) (fun S1 => exs D body S1) D.fuel S
  | .asgs pre i x px _ post _ _ e _, S => (ev D e S).bind fun q => match q.1 with
    | (.own _, .tup xs) => gd (decide (pre.len + post.len ≤ xs.length) && decide (xs.length ≤ 1000)) (((pre.app (.cons (.name i x px) post)).set (xs.take pre.len ++ .lst ((xs.drop pre.len).take (xs.length - pre.len - post.len)) :: xs.drop (xs.length - post.len)) q.2).map .nx)
    | _ => none
def exs (D : Den) : CSs → Slots → Option Out
  | .nil, S => some (.nx S)
  | .cons s ss, S => match ex D s S with
    | some (.nx S1) => exs D ss S1
    | o => o
end
end BV
/-! What a by-value step gives over the heap: the kit. -/
namespace BV
open PySem PySem.Spec PyProof.Rows L2
section
variable {K : Frag} {Hf Hf' H H' H1 : Hp} {F F' : List Addr} {S S' : Slots} {σ : L2.St}
theorem Rel.dom (r : Rel K Hf F S σ H) : ∀ a ∈ F, ∃ o, H a = some o := r.plc.dom
theorem Rel.upd (r : Rel K Hf F S σ H) {p : Addr} {o : HO} (hp : H p = none) : Rel K Hf F S σ (upd H p o) :=
  ⟨r.sub.trans (HSub.upd hp), r.nd, r.off, r.plc.mono (HSub.refl _) fun a _ u e => HSub.upd hp a u e⟩
theorem Rel.grow (r : Rel K Hf F S σ H) (s : HSub Hf Hf') (s' : HSub Hf' H) (off : ∀ a ∈ F, Hf' a = none) : Rel K Hf' F S σ H :=
  ⟨s', r.nd, off, r.plc.mono s fun _ _ _ e => e⟩
theorem Step.upd (st : Step Hf F H Hf' F' H1) {p : Addr} {o : HO} (hp : H1 p = none) : Step Hf F H Hf' F' (upd H1 p o) :=
  ⟨st.hf, fun a u e n => HSub.upd hp a u (st.fr a u e n), st.new, st.own⟩
/-- what is new was not there, or owned -/
theorem Step.fresh (st : Step Hf F H Hf' F' H1) {p : Addr} (hp : H1 p = none) : p ∈ F ∨ H p = none := by
  by_cases h : p ∈ F
  · exact .inl h
  · cases q : H p with
    | none => exact .inr rfl
    | some o => rw [st.fr p o q h] at hp; cases hp

theorem RepL.ownL {Hf H : Hp} : ∀ {vs : List Val} {ys : List V}, RepL K Hf vs ys → OwnL K Hf H 0 vs ys []
  | _, _, .nil => .nil
  | _, _, .cons h r => OwnL.cons (F := []) (G := []) (.frz (.inl rfl) h) (RepL.ownL r)
theorem RepK.ownK {Hf H : Hp} : ∀ {vs : List (Key × Val)} {ys : List (Key × V)}, RepK K Hf vs ys → OwnK K Hf H 0 vs ys []
  | _, _, .nil => .nil
  | _, _, .cons h r => OwnK.cons (F := []) (G := []) (.frz (.inl rfl) h) (RepK.ownK r)
inductive RepE (K : Frag) (Hf H : Hp) : Val → V → Prop
  | flat {v : Val} {x : V} : v.flat = true → Rep K Hf v x → RepE K Hf H v x
  | lst {a : Addr} {xs : List Val} {ys : List V} : RdL K H a ys → RepL K Hf xs ys → RepE K Hf H (.lst xs) (.ref a)
  | dic {a : Addr} {kvs : List (Key × Val)} {ks : List (Key × V)} : H a = some (.dK ks) → RepK K Hf kvs ks → RepE K Hf H (.dic kvs) (.ref a)
theorem RepE.of {v : Val} {x : V} (h : Rep K Hf v x) (s : HSub Hf H) : RepE K Hf H v x := by
  cases h with
  | lst h r => exact .lst (rdL_mono s h) r
  | dic h r => exact .dic (s _ _ h) r
  | non => exact .flat rfl .non
  | bl b => exact .flat rfl (.bl b)
  | int b => exact .flat rfl (.int b)
  | str b => exact .flat rfl (.str b)
  | tup h r => exact .flat rfl (.tup h r)
theorem RepE.rep {v : Val} {x : V} (s : HSub Hf H) (h : RepE K Hf H v x) : Rep K H v x := by
  cases h with
  | flat _ h => exact h.mono s
  | lst h r => exact .lst h (r.mono s)
  | dic h r => exact .dic h (r.mono s)
theorem RepE.mono {v : Val} {x : V} (s : HSub Hf Hf') (k : HSub H H') (h : RepE K Hf H v x) : RepE K Hf' H' v x := by
  cases h with
  | flat e h => exact .flat e (h.mono s)
  | lst h r => exact .lst (rdL_mono k h) (r.mono s)
  | dic h r => exact .dic (k _ _ h) (r.mono s)

/-- the result of an expression -/
def ResOk (K : Frag) (F : List Addr) (H Hf' : Hp) (F' : List Addr) (H' : Hp) (r : Res) (x : V) : Prop := match r.1 with
  | .own d => ∃ G, Own K Hf' H' d r.2 x G ∧ (F' ++ G).Nodup ∧ (∀ a ∈ G, Hf' a = none) ∧ ∀ a ∈ G, a ∈ F ∨ H a = none
  | .bor => RepE K Hf' H' r.2 x
structure Gives (K : Frag) (Hf : Hp) (F : List Addr) (H : Hp) (S' : Slots) (σ : L2.St) (r : Res) (x : V) (Hf' : Hp) (F' : List Addr) (H' : Hp) : Prop where
  rel : Rel K Hf' F' S' σ H'
  st : Step Hf F H Hf' F' H'
  res : ResOk K F H Hf' F' H' r x
/-- as an operand -/
theorem Gives.opd {r : Res} {x : V} (g : Gives K Hf F H S' σ r x Hf' F' H') :
    ∃ Hf'', HSub Hf' Hf'' ∧ Rel K Hf'' F' S' σ H' ∧ Step Hf F H Hf'' F' H' ∧ RepE K Hf'' H' r.2 x ∧ ∀ d, r.1 = .own d → Rep K Hf'' r.2 x := by
  obtain ⟨rel, st, res⟩ := g
  obtain ⟨m, v⟩ := r
  cases m with
  | bor => exact ⟨Hf', HSub.refl _, rel, st, res, fun d e => by cases e⟩
  | own d =>
    obtain ⟨G, ow, nd, off, fr⟩ := res
    have s1 := frzH_sub (H := H') off
    have s2 := frzH_le (G := G) rel.sub
    have dis : ∀ a ∈ F', a ∉ G := fun a ha hg => by
      have := (List.nodup_append.mp nd).2.2 a ha a hg
      exact this rfl
    have rep : Rep K (frzH Hf' H' G) v x := ow.freeze off
    refine ⟨frzH Hf' H' G, s1, rel.grow s1 s2 fun a ha => ?_, ⟨st.hf.trans s1, st.fr, fun a o e n => ?_, st.own⟩, .of rep s2, fun _ _ => rep⟩
    · rw [frzH_out (dis a ha)]; exact rel.off a ha
    · have hg : a ∉ G := fun hg => by
        rcases fr a hg with z | z
        · exact n z
        · rw [z] at e; cases e
      rw [frzH_out hg]; exact st.new a o e n
theorem Gives.frz {v : Val} {x : V} {d : Nat} (rel : Rel K Hf' F' S' σ H') (st : Step Hf F H Hf' F' H') (r : Rep K Hf' v x) (hd : d = 0 ∨ v.flat = true) : Gives K Hf F H S' σ (.own d, v) x Hf' F' H' :=
  ⟨rel, st, [], .frz hd r, by simpa using rel.nd, fun a h => (by cases h), fun a h => (by cases h)⟩
theorem Gives.newL {vs : List Val} {ys : List V} {p : Addr} (rel : Rel K Hf' F' S' σ H1) (st : Step Hf F H Hf' F' H1) (hp : H1 p = none) (r : RepL K Hf' vs ys) :
    Gives K Hf F H S' σ (.own 1, .lst vs) (.ref p) Hf' F' (L2.upd H1 p (.lst ys)) := by
  have hpF : p ∉ F' := fun h => by obtain ⟨o, e⟩ := rel.dom p h; rw [e] at hp; cases hp
  have hf : Hf' p = none := by
    cases q : Hf' p with
    | none => rfl
    | some o => rw [rel.sub p o q] at hp; cases hp
  refine ⟨rel.upd hp, st.upd hp, [p], ?_, ?_, ?_, ?_⟩
  · exact .lst upd_same r.ownL
  · rw [List.nodup_append]
    refine ⟨rel.nd, by simp, fun a ha b hb e => ?_⟩
    have : b = p := by simpa using hb
    subst this; subst e; exact hpF ha
  · intro a ha
    have : a = p := by simpa using ha
    subst this; exact hf
  · intro a ha
    have : a = p := by simpa using ha
    subst this; exact st.fresh hp

theorem Gives.newT {vs : List Val} {ys : List V} {p : Addr} (rel : Rel K Hf' F' S' σ H1) (st : Step Hf F H Hf' F' H1) (hp : H1 p = none) (r : RepL K Hf' vs ys) :
    Gives K Hf F H S' σ (.own 0, .tup vs) (.ref p) (L2.upd Hf' p (.tup ys)) F' (L2.upd H1 p (.tup ys)) := by
  have hf : Hf' p = none := by
    cases q : Hf' p with
    | none => rfl
    | some o => rw [rel.sub p o q] at hp; cases hp
  have s1 : HSub Hf' (L2.upd Hf' p (.tup ys)) := HSub.upd hf
  have s2 : HSub (L2.upd Hf' p (.tup ys)) (L2.upd H1 p (.tup ys)) := fun a o e => by
    by_cases h : a = p
    · subst h; rw [upd_same] at e ⊢; exact e
    · rw [upd_ne h] at e ⊢; exact rel.sub a o e
  refine .frz ((rel.upd hp).grow s1 s2 fun a ha => ?_) ⟨st.hf.trans s1, (st.upd hp).fr, fun a o e n => ?_, st.own⟩ (.tup (.inl (.inl upd_same)) (r.mono s1)) (.inl rfl)
  · have : a ≠ p := fun e => by obtain ⟨o, q⟩ := rel.dom a ha; rw [e] at q; rw [q] at hp; cases hp
    rw [upd_ne this]; exact rel.off a ha
  · have : a ≠ p := fun z => by have q := st.fr a o e n; rw [z] at q; rw [q] at hp; cases hp
    rw [upd_ne this]; exact st.new a o e n

/-- a slot's thing is taken out -/
theorem Rel.take {i : Nat} {d : Nat} {v : Val} (r : Rel K Hf F S σ H) (h : S[i]? = some (some (d, v))) :
    ∃ x G F0, σ[i]? = some (some x) ∧ Own K Hf H d v x G ∧ Rel K Hf F0 (S.set i none) σ H ∧ (F0 ++ G).Nodup ∧ (∀ a, a ∈ F ↔ a ∈ F0 ∨ a ∈ G) ∧ ∀ a ∈ G, Hf a = none := by
  obtain ⟨y, F1, F2, F3, e1, e2, e3, e4⟩ := r.plc.split h
  cases e3 with
  | is ow =>
    rename_i x
    have nd := r.nd
    rw [e2] at nd
    have hset : σ.set i (some x) = σ := by
      apply List.ext_getElem?
      intro j
      rw [List.getElem?_set]
      split
      · rename_i hj; subst hj
        split
        · exact e1.symm
        · rename_i hl; rw [List.getElem?_eq_none (by omega)]
      · rfl
    refine ⟨x, F2, F1 ++ F3, e1, ow, ⟨r.sub, ?_, fun a ha => r.off a ?_, ?_⟩, ?_, fun a => ?_, fun a ha => r.off a ?_⟩
    · simp only [List.nodup_append, List.mem_append] at nd ⊢; grind
    · rw [e2]; simp only [List.mem_append] at ha ⊢; grind
    · have := e4 (Hf' := Hf) (H' := H) (HSub.refl _) (fun a _ o e => e) (.no (y := some x))
      rw [hset] at this
      simpa using this
    · simp only [List.nodup_append, List.mem_append] at nd ⊢; grind
    · rw [e2]; simp only [List.mem_append]; grind
    · rw [e2]; simp only [List.mem_append]; grind
/-- a thing is put into a slot -/
theorem Rel.put {i : Nat} {d : Nat} {v : Val} {x : V} {G : List Addr} (r : Rel K Hf F S σ H) (hi : i < S.length) (ow : Own K Hf H d v x G) (nd : (F ++ G).Nodup) (off : ∀ a ∈ G, Hf a = none) :
    ∃ F', Rel K Hf F' (S.set i (some (d, v))) (σ.set i (some x)) H ∧ ∀ a ∈ F', a ∈ F ∨ a ∈ G := by
  obtain ⟨y, F1, F2, F3, e1, e2, e3, e4⟩ := r.plc.split (i := i) (List.getElem?_eq_getElem hi)
  rw [e2] at nd
  refine ⟨F1 ++ G ++ F3, ⟨r.sub, ?_, fun a ha => ?_, e4 (HSub.refl _) (fun a _ o e => e) (.is ow)⟩, fun a ha => ?_⟩
  · simp only [List.nodup_append, List.mem_append] at nd ⊢; grind
  · have : a ∈ G ∨ a ∈ F := by rw [e2]; simp only [List.mem_append] at ha ⊢; grind
    rcases this with z | z
    · exact off a z
    · exact r.off a z
  · rw [e2]; simp only [List.mem_append] at ha ⊢; grind
theorem Rel.none {i : Nat} (r : Rel K Hf F S σ H) : ∃ F', Rel K Hf F' (S.set i Option.none) σ H ∧ ∀ a ∈ F', a ∈ F := by
  by_cases hi : i < S.length
  · obtain ⟨y, F1, F2, F3, e1, e2, e3, e4⟩ := r.plc.split (i := i) (List.getElem?_eq_getElem hi)
    have nd := r.nd
    rw [e2] at nd
    have hset : σ.set i y = σ := by
      apply List.ext_getElem?
      intro j
      rw [List.getElem?_set]
      split
      · rename_i hj; subst hj
        split
        · exact e1.symm
        · rename_i hl; rw [List.getElem?_eq_none (by omega)]
      · rfl
    have := e4 (Hf' := Hf) (H' := H) (HSub.refl _) (fun a _ o e => e) (.no (y := y))
    rw [hset] at this
    refine ⟨F1 ++ [] ++ F3, ⟨r.sub, ?_, fun a ha => r.off a ?_, this⟩, fun a ha => ?_⟩
    · simp only [List.nodup_append, List.mem_append] at nd ⊢; grind
    · rw [e2]; simp only [List.mem_append] at ha ⊢; grind
    · rw [e2]; simp only [List.mem_append] at ha ⊢; grind
  · rw [List.set_eq_of_length_le (by omega)]
    exact ⟨F, r, fun _ h => h⟩
theorem Rel.get {i : Nat} {d : Nat} {v : Val} (r : Rel K Hf F S σ H) (h : S[i]? = some (some (d, v))) : ∃ x G, σ[i]? = some (some x) ∧ Own K Hf H d v x G ∧ (∀ a ∈ G, a ∈ F) := by
  obtain ⟨x, G, F0, e1, e2, e3, e4, e5, e6⟩ := r.take h
  exact ⟨x, G, e1, e2, fun a ha => (e5 a).mpr (.inr ha)⟩
theorem Rel.len (r : Rel K Hf F S σ H) : σ.length = S.length := r.plc.length

/-- several own things, each with its depth -/
inductive OwnRs (K : Frag) (Hf H : Hp) : List R → List V → List Addr → Prop
  | nil : OwnRs K Hf H [] [] []
  | cons {d : Nat} {v : Val} {x : V} {rs : List R} {xs : List V} {F G : List Addr} : Own K Hf H d v x F → OwnRs K Hf H rs xs G → OwnRs K Hf H ((d, v) :: rs) (x :: xs) (F ++ G)
theorem OwnRs.rep (s : HSub Hf H') : ∀ {rs : List R} {xs : List V} {G : List Addr}, OwnRs K Hf H rs xs G → (∀ a ∈ G, ∀ o, H a = some o → H' a = some o) → RepL K H' (rs.map (·.2)) xs
  | _, _, _, .nil, _ => .nil
  | _, _, _, .cons h r, k => .cons (h.rep s fun a ha => k a (List.mem_append_left _ ha)) (OwnRs.rep s r fun a ha => k a (List.mem_append_right _ ha))
theorem OwnRs.mono (s : HSub Hf Hf') : ∀ {rs : List R} {xs : List V} {G : List Addr}, OwnRs K Hf H rs xs G → (∀ a ∈ G, ∀ o, H a = some o → H' a = some o) → OwnRs K Hf' H' rs xs G
  | _, _, _, .nil, _ => .nil
  | _, _, _, .cons h r, k => .cons (h.mono s fun a ha => k a (List.mem_append_left _ ha)) (OwnRs.mono s r fun a ha => k a (List.mem_append_right _ ha))
theorem OwnRs.length : ∀ {rs : List R} {xs : List V} {G : List Addr}, OwnRs K Hf H rs xs G → xs.length = rs.length
  | _, _, _, .nil => rfl
  | _, _, _, .cons _ r => congrArg Nat.succ (OwnRs.length r)
/-- a thing that is no container is everyone's, at whatever depth -/
theorem Own.flat {d d' : Nat} {v : Val} {x : V} {G : List Addr} (h : Own K Hf H d v x G) (f : v.flat = true) : G = [] ∧ Own K Hf H d' v x [] := by
  cases h with
  | frz _ r => exact ⟨rfl, .frz (.inr f) r⟩
  | lst _ _ => cases f
  | dic _ _ => cases f
theorem OwnRs.same {m : Nat} : ∀ {rs : List R} {xs : List V} {G : List Addr}, OwnRs K Hf H rs xs G → (rs.all fun q => q.2.flat || q.1 == m) = true → OwnL K Hf H m (rs.map (·.2)) xs G
  | _, _, _, .nil, _ => .nil
  | _, _, _, .cons (d := d) (v := v) h r, e => by
    simp only [List.all_cons, Bool.and_eq_true, Bool.or_eq_true] at e
    refine .cons ?_ (OwnRs.same r e.2)
    rcases e.1 with z | z
    · obtain ⟨rfl, q⟩ := h.flat (d' := m) z
      exact q
    · have : d = m := by simpa using z
      subst this; exact h
structure GivesL (K : Frag) (Hf : Hp) (F : List Addr) (H : Hp) (S' : Slots) (σ : L2.St) (rs : List R) (xs : List V) (Hf' : Hp) (F' : List Addr) (H' : Hp) : Prop where
  rel : Rel K Hf' F' S' σ H'
  st : Step Hf F H Hf' F' H'
  res : ∃ G, OwnRs K Hf' H' rs xs G ∧ (F' ++ G).Nodup ∧ (∀ a ∈ G, Hf' a = none) ∧ ∀ a ∈ G, a ∈ F ∨ H a = none
/-- all of them shared -/
theorem GivesL.frz {rs : List R} {xs : List V} (g : GivesL K Hf F H S' σ rs xs Hf' F' H') :
    ∃ Hf'', HSub Hf' Hf'' ∧ Rel K Hf'' F' S' σ H' ∧ Step Hf F H Hf'' F' H' ∧ RepL K Hf'' (rs.map (·.2)) xs := by
  obtain ⟨rel, st, G, ow, nd, off, fr⟩ := g
  have s1 := frzH_sub (H := H') off
  have s2 := frzH_le (G := G) rel.sub
  have dis : ∀ a ∈ F', a ∉ G := fun a ha hg => (List.nodup_append.mp nd).2.2 a ha a hg rfl
  refine ⟨frzH Hf' H' G, s1, rel.grow s1 s2 fun a ha => ?_, ⟨st.hf.trans s1, st.fr, fun a o e n => ?_, st.own⟩, ow.rep s1 fun a ha o e => ?_⟩
  · rw [frzH_out (dis a ha)]; exact rel.off a ha
  · have hg : a ∉ G := fun hg => by
      rcases fr a hg with z | z
      · exact n z
      · rw [z] at e; cases e
    rw [frzH_out hg]; exact st.new a o e n
  · rw [frzH_in ha]; exact e
/-- a list of them -/
theorem GivesL.newL {rs : List R} {xs : List V} {p : Addr} (g : GivesL K Hf F H S' σ rs xs Hf' F' H1) (hp : H1 p = none) :
    ∃ Hf'', Gives K Hf F H S' σ (.own (dispD rs), .lst (rs.map (·.2))) (.ref p) Hf'' F' (L2.upd H1 p (.lst xs)) := by
  have plain : ∃ Hf'', Gives K Hf F H S' σ (.own 1, .lst (rs.map (·.2))) (.ref p) Hf'' F' (L2.upd H1 p (.lst xs)) := by
    obtain ⟨Hf'', s, rel, st, r⟩ := g.frz
    exact ⟨Hf'', .newL rel st hp r⟩
  unfold dispD
  split
  · exact plain
  · rename_i r0 _
    cases e : rs.all (fun q => q.2.flat || q.1 == r0.1) with
    | false => exact plain
    | true =>
      obtain ⟨rel, st, G, ow, nd, off, fr⟩ := g
      have hpF : p ∉ F' := fun h => by obtain ⟨o, e⟩ := rel.dom p h; rw [e] at hp; cases hp
      have domG : ∀ {rs : List R} {xs : List V} {G : List Addr}, OwnRs K Hf' H1 rs xs G → ∀ a ∈ G, ∃ o, H1 a = some o := by
        intro rs xs G h
        induction h with
        | nil => intro a h; cases h
        | cons h _ ih => exact fun a ha => (List.mem_append.mp ha).elim (h.dom a) (ih a)
      have hpG : p ∉ G := fun h => by obtain ⟨o, e⟩ := domG ow p h; rw [e] at hp; cases hp
      have hf : Hf' p = none := by
        cases q : Hf' p with
        | none => rfl
        | some o => rw [rel.sub p o q] at hp; cases hp
      refine ⟨Hf', rel.upd hp, st.upd hp, p :: G, .lst upd_same ((ow.same e).mono (HSub.refl _) fun a ha o q => HSub.upd hp a o q), ?_, ?_, ?_⟩
      · simp only [List.nodup_append, List.nodup_cons, List.mem_cons] at nd ⊢; grind
      · intro a ha
        rcases List.mem_cons.mp ha with z | z
        · rw [z]; exact hf
        · exact off a z
      · intro a ha
        rcases List.mem_cons.mp ha with z | z
        · rw [z]; exact st.fresh hp
        · exact fr a z
end
end BV
/-! Defs that are called where no repr runs (guards told), and the operations on values. -/
namespace BV
open PySem PySem.Spec PyProof.Rows L2

/-- a def keeps a promise, called where no repr is under way -/
structure FnG (P : Program) (w : World) (K : Frag) (mg : Str → Option Value) (base : Heap)
    (k : Nat) (f : Addr) (fd : FuncData) (ps : List Str) (sp : Sp) : Prop where
  len : ∀ vs H Q E, sp vs H Q E → vs.length = ps.length
  go : ∀ (A : Around), A.guards = some [] → Room k A →
    ∀ (outer : List Env) (s : Shared) (H : Hp) (args : Args) (us : List Value) (vs : List V) (Q : VK) (E : XK),
      Env0 P w K mg base A outer s H → BindsTo s fd args (ps.zip us) → Vals vs us → sp vs H Q E →
      codeAny (model P w) A (.call (.ref f) args) (CR CX0 outer P w H s Q E) s
theorem FnG.mono {P : Program} {w : World} {K : Frag} {mg : Str → Option Value} {base : Heap} {j k : Nat}
    {f : Addr} {fd : FuncData} {ps : List Str} {sp : Sp} (F : FnG P w K mg base j f fd ps sp) (h : j ≤ k) :
    FnG P w K mg base k f fd ps sp := ⟨F.len, fun A g r => F.go A g (r.mono h)⟩
/-- nothing promised, nothing to keep -/
theorem FnG.idle {P : Program} {w : World} {K : Frag} {mg : Str → Option Value} {base : Heap} {k : Nat}
    {f : Addr} {fd : FuncData} {ps : List Str} {sp : Sp} (h : ∀ vs H Q E, ¬ sp vs H Q E) : FnG P w K mg base k f fd ps sp :=
  ⟨fun vs H Q E q => (h vs H Q E q).elim, fun _ _ _ _ _ H _ _ vs Q E _ _ _ q => (h vs H Q E q).elim⟩
/-- THE RULE of a def, by its body -/
theorem FnG.of {P : Program} {w : World} {K : Frag} {mg : Str → Option Value} {base : Heap} {k : Nat} {x qual : Str}
    {params : Arguments} {body : List Stmt} {scope : Scope} {dvs : List V} {kws : List (Str × V)} {f : Addr} {fd : FuncData}
    {N ps : List Str} {sp : Sp} (F : FunD K x qual params body scope dvs kws f fd) (S : FnScope N ps scope)
    (len : ∀ vs H Q E, sp vs H Q E → vs.length = ps.length)
    (walk : ∀ (X : Cx), X.prog = P → X.w = w → X.K = K → X.mg = mg → X.base = base → X.N = N → X.env.scope = scope → X.calm = true →
      X.xe = (fun _ _ => False) → X.A.guards = some [] → Room k X.A → X.fn = (fun _ => true) →
      ∀ (H : Hp) (vs : List V) (Q : VK) (E : XK), sp vs H Q E → ∃ t, PSs X body t ∧ t { nx := fun _ H' => Q .non H', rt := Q } (L2.start N vs) H) :
    FnG P w K mg base (k + 1) f fd ps sp := by
  obtain ⟨oc, od, dV, kV, doc, pm, an, cdv, ct, osl, rfl, lk, hcd, _, _⟩ := F.ex
  refine ⟨len, fun A hG hr outer s H args us vs Q E e0 hb r hsp => ?_⟩
  have hl := len vs H Q E hsp
  have keep : ∀ b o, base.get? b = some o → s.heap.get? b = some o := fun b o e => (e0.bs b o e).1
  have KX : K.In s.heap := e0.mod.kin.keeps keep
  have hkind : ∀ y ∈ ps.zip us, scope.names.lookup y.1 = some .local ∨
      (scope.names.lookup y.1 = some .cell ∧ ((cellsFrom (s.heap.objs.size + 1) scope.names []).lookup y.1).isSome = true) := by
    rintro ⟨n, v⟩ hy
    rcases S.par n (List.of_mem_zip hy).1 with z | z
    · exact Or.inl z
    · exact Or.inr ⟨z, PySem.W.cellsFrom_some _ _ _ (Or.inl z)⟩
  refine codeAny_call_function hr.depth (KX _ _ lk) rfl S.co S.gen rfl
    (PySem.W.codeRec_of KX hcd) (hb _ _ _ _ (wpAny_newFunctionEnv_cells S.kind hkind ?_))
  intro env he s1 x
  subst he
  refine ⟨(e0.mod.nolimit.keeps keep).keeps x.toInCall.keep, codeAny_func ?_⟩
  have I := inv_start (CX := CX0) (E := E) S hr.hd e0 hl r x
  obtain ⟨t, ht, hq⟩ := walk (cxOf CX0 P w K mg base N qual scope f cdv A outer s H E).nox rfl rfl rfl rfl rfl rfl rfl rfl rfl hG (hr.deeper _) rfl H vs Q E hsp
  refine wpAny_mono ((PSs.nox ht).run [] s1 (L2.start N vs) H _ I hq) ?_ (fun _ _ z => z)
  intro fl s' hs
  cases fl with
  | ret u => obtain ⟨v, σ', H', J, rv, z⟩ := hs; exact ⟨v, H', J.os, J.bare, J.base, J.hok, rv, z⟩
  | next => obtain ⟨σ', H', J, z⟩ := hs; exact ⟨.non, H', J.os, J.bare, J.base, J.hok, rfl, z⟩
  | brk => exact hs.elim fun _ z => z.elim fun _ z => z.2.elim
  | cont => exact hs.elim fun _ z => z.elim fun _ z => z.2.elim
/-- a def is called from a body -/
theorem FnG.call {X : Cx} {k : Nat} {f : Addr} {fd : FuncData} {ps : List Str} {sp : Sp} {pins : List (Addr × Obj)} {σ : L2.St} {H : Hp} {s : Shared}
    {args : Args} {us : List Value} {vs : List V} {Q : VK} {E : XK} (F : FnG X.prog X.w X.K X.mg X.base k f fd ps sp) (hG : X.A.guards = some []) (hr : Room k X.A)
    (I : Inv X pins σ H s) (hb : BindsTo s fd args (ps.zip us)) (r : Vals vs us) (h : sp vs H Q E) :
    wpAny (model X.prog X.w) X.A (call (.ref f) args.pos args.kw) (EP X pins σ Q) X.xe s := by
  refine wpAny_call (codeAny_mono (F.go X.A hG hr X.stack s H args us vs Q E I.env0 hb r h) ?_)
  intro r s' hq
  cases r with
  | error e => exact hq.elim
  | ok fl =>
    cases fl with
    | ret u => exact I.after hq
    | next => exact hq.elim
    | brk => exact hq.elim
    | cont => exact hq.elim
/-- the law's own call, at the heap behind the top -/
theorem law_callG {P : Program} {w : World} {K : Frag} {mg mb : Str → Option Value} {k : Nat} {fa a : Addr} {fd : FuncData} {x : Str} {sp : Sp}
    {s1 : Shared} {vs : List Value} {ns : List Int} (KX : K.In s1.heap) (hns : s1.heap.Ns mainGlobals mg) (hb : s1.heap.Ns builtinsNs mb)
    (hbb : ∀ x : Str, x ≠ "__name__" → mb x = bootBuiltins x) (hlim : s1.heap.NoLimit) (hg : s1.gens = #[])
    (ha : s1.heap.get? a = some { cls := .type "list", data := .seq vs.toArray }) (hi : IntsAre vs ns) (hl : ns.length ≤ sizeLine)
    (hr : Room k callerA) (F : ∀ base : Heap, K.In base → base.Ns mainGlobals mg → FnG P w K mg base k fa fd [x] sp)
    (hbind : ∀ (s : Shared) (u : Value), BindsTo s fd ⟨[u], []⟩ [(x, u)])
    (hsp : ∀ H : Hp, RdL K H a (ns.map V.int) → sp [.ref a] H (fun v _ => v = .bl true) fun _ _ _ => False) :
    codeAny (model P w) callerA (.call (.ref fa) ⟨[.ref a], []⟩)
      (fun r s' => r = .ok (.ret (.bool true)) ∧ OldK s1.heap s'.heap ∧ s'.os = s1.os ∧ AllBare s'.gens) s1 := by
  have rv := vals_ints hi
  let ob : Obj := { cls := .type "list", data := .seq vs.toArray }
  have core : ∀ H : Hp, (∀ b, H b = none ∨ (b = a ∧ H b = some (.frz ob (.lst (ns.map V.int))))) → (H a ≠ none → K.lookup a = none) → RdL K H a (ns.map V.int) →
      codeAny (model P w) callerA (.call (.ref fa) ⟨[.ref a], []⟩) (fun r s' => r = .ok (.ret (.bool true)) ∧ OldK s1.heap s'.heap ∧ s'.os = s1.os ∧ AllBare s'.gens) s1 := by
    intro H only hK hS
    have hok : HOk P w H s1.heap := by
      intro b u z
      rcases only b with e | ⟨rfl, e⟩
      · rw [e] at z; cases z
      · rw [e] at z; cases z
        exact ⟨ha, by rw [List.length_map]; exact hl, vs, _, rv, ha⟩
    have up : ∀ {b : Addr} {o : Obj}, s1.heap.get? b = some o → H b = none → (hidT s1.heap H).get? b = some o := fun e n => hidT_get e n
    have nsUp : ∀ {b : Addr} {m : Str → Option Value}, s1.heap.Ns b m → (hidT s1.heap H).Ns b m := by
      rintro b m ⟨o, es, ep, e, d, r⟩
      refine ⟨o, es, ep, up e ?_, d, r⟩
      rcases only b with z | ⟨rfl, z⟩
      · exact z
      · rw [ha] at e; cases e
        have d' : Data.seq vs.toArray _ = Data.dict es ep := d
        cases d'
    have Kup : K.In (hidT s1.heap H) := fun b o e => up (KX b o e) (by
      rcases only b with z | ⟨rfl, z⟩
      · exact z
      · rw [hK (by rw [z]; simp)] at e; cases e)
    have hM : Mod K mg (hidT s1.heap H) := by
      obtain ⟨mc, h1, h2⟩ := hlim
      exact ⟨Kup, nsUp hns, ⟨mb, nsUp hb, hbb⟩, ⟨mc, nsUp h1, h2⟩⟩
    have e0 : Env0 P w K mg (hidT s1.heap H) callerA [] s1 H := by
      refine ⟨rfl, hM, fun b o e => of_hidT e, Nat.le_of_eq (hidT_size _ _), trivial, fun b hb => ?_, hok, .of_eq hg⟩
      cases (show b ∈ ([] : List Addr) from hb)
    have go := (F _ Kup (nsUp hns)).go callerA rfl hr [] s1 H ⟨[.ref a], []⟩ [.ref a] [.ref a] _ _ e0 (hbind s1 (.ref a)) (.cons rfl .nil) (hsp H hS)
    refine codeAny_mono go ?_
    intro r s' h
    cases r with
    | error e => exact h.elim
    | ok fl =>
      cases fl with
      | next => exact h.elim
      | brk => exact h.elim
      | cont => exact h.elim
      | ret u =>
        obtain ⟨v, H', os, bare, un, hok', r', q⟩ := h
        obtain rfl : v = .bl true := q
        obtain rfl : u = Value.bool true := r'
        refine ⟨rfl, OldK.of_keep fun b o e => ?_, os, bare⟩
        rcases only b with z | ⟨rfl, z⟩
        · exact un.keep b o e z (by intro z; cases (show b ∈ ([] : List Addr) from z)) (by simp)
        · rw [ha] at e; cases e
          exact (hok' b _ (un.frzs b _ _ z)).1
  cases hk : K.lookup a with
  | some o =>
    have e := KX a o hk
    rw [ha] at e
    cases e
    exact core (fun _ => none) (fun _ => Or.inl rfl) (fun z => absurd rfl z) (.inr ⟨vs, _, hk, by rw [List.length_map]; exact hl, rv⟩)
  | none =>
    refine core (fun b => if b = a then some (.frz ob (.lst (ns.map V.int))) else none) (fun b => ?_) (fun _ => hk) (.inl (.inr ⟨ob, if_pos rfl⟩))
    by_cases h : b = a
    · exact .inr ⟨h, if_pos h⟩
    · exact .inl (if_neg h)
end BV
/-! Operations on values. -/
namespace BV
open PySem PySem.Spec PyProof.Rows L2
/-- what an operation hands back: a shared thing, a new list, a new tuple -/
inductive New (K : Frag) (Hf H : Hp) : R → V → Hp → Prop
  | frz {v : Val} {z : V} : Rep K Hf v z → New K Hf H (0, v) z H
  | lst {vs : List Val} {ys : List V} {p : Addr} : H p = none → RepL K Hf vs ys → New K Hf H (1, .lst vs) (.ref p) (upd H p (.lst ys))
  | tup {vs : List Val} {ys : List V} {p : Addr} : H p = none → RepL K Hf vs ys → New K Hf H (0, .tup vs) (.ref p) (upd H p (.tup ys))
section
variable {K : Frag} {Hf Hf0 H H0 H' : Hp} {F F0 : List Addr} {S : Slots} {σ : L2.St}
theorem New.sub {r : R} {z : V} (n : New K Hf H r z H') : HSub H H' := by
  cases n with
  | frz _ => exact HSub.refl _
  | lst h _ => exact HSub.upd h
  | tup h _ => exact HSub.upd h
theorem New.gives {r : R} {z : V} (n : New K Hf H r z H') (rel : Rel K Hf F S σ H) (st : Step Hf0 F0 H0 Hf F H) : ∃ Hf', Gives K Hf0 F0 H0 S σ (.own r.1, r.2) z Hf' F H' := by
  cases n with
  | frz h => exact ⟨Hf, .frz rel st h (.inl rfl)⟩
  | lst h r => exact ⟨Hf, .newL rel st h r⟩
  | tup h r => exact ⟨_, .newT rel st h r⟩
end
def rOp2 (K : Frag) (f : Val → Val → Option R) : R2 := fun x y H Q => ∃ va vb Hf r, HSub Hf H ∧ RepE K Hf H va x ∧ RepE K Hf H vb y ∧ f va vb = some r ∧ ∀ z H', New K Hf H r z H' → Q z H'
theorem gd_some {α : Type} {b : Bool} {o : Option α} {x : α} : gd b o = some x ↔ b = true ∧ o = some x := by
  cases b <;> simp [gd]
section
variable {K : Frag} {Hf H : Hp}
theorem RepE.int_ {i : Int} {x : V} (h : RepE K Hf H (.int i) x) : x = .int i := by
  cases h with | flat _ h => cases h; rfl
theorem RepE.str_ {i : Str} {x : V} (h : RepE K Hf H (.str i) x) : x = .str i := by
  cases h with | flat _ h => cases h; rfl
theorem RepE.bl_ {i : Bool} {x : V} (h : RepE K Hf H (.bl i) x) : x = .bl i := by
  cases h with | flat _ h => cases h; rfl
theorem RepE.non_ {x : V} (h : RepE K Hf H .non x) : x = .non := by
  cases h with | flat _ h => cases h; rfl
theorem RepE.lst_ {xs : List Val} {x : V} (h : RepE K Hf H (.lst xs) x) : ∃ a ys, x = .ref a ∧ RdL K H a ys ∧ RepL K Hf xs ys := by
  cases h with
  | flat e _ => cases e
  | lst h r => exact ⟨_, _, rfl, h, r⟩
theorem RepE.tup_ {xs : List Val} {x : V} (h : RepE K Hf H (.tup xs) x) : ∃ a ys, x = .ref a ∧ SqT K Hf a ys ∧ RepL K Hf xs ys ∧ Rep K Hf (.tup xs) x := by
  cases h with
  | flat _ h =>
    cases h with
    | tup h r => exact ⟨_, _, rfl, h, r, .tup h r⟩
theorem RepE.dic_ {xs : List (Key × Val)} {x : V} (h : RepE K Hf H (.dic xs) x) : ∃ a ys, x = .ref a ∧ H a = some (.dK ys) ∧ RepK K Hf xs ys := by
  cases h with
  | flat e _ => cases e
  | dic h r => exact ⟨_, _, rfl, h, r⟩
theorem RepL.flatRep {vs : List Val} {xs : List V} (h : RepL K H vs xs) : ∀ n : Nat, RepL K H (List.replicate n vs).flatten (List.replicate n xs).flatten
  | 0 => .nil
  | n + 1 => by
    rw [List.replicate_succ, List.replicate_succ, List.flatten_cons, List.flatten_cons]
    exact h.append (RepL.flatRep h n)
end
section
variable {X : Cx}
/-- list + list -/
theorem op_catR {pins : List (Addr × Obj)} {s : Shared} {σ : L2.St} {H : Hp} {a b : Addr} {xs ys : List V} {Q : VK} (I : Inv X pins σ H s) (h1 : RdL X.K H a xs) (h2 : RdL X.K H b ys)
    (hz : xs.length + ys.length ≤ sizeLine) (q : ∀ p, H p = none → Q (.ref p) (upd H p (.lst (xs ++ ys)))) :
    wpAny (model X.prog X.w) X.A (binaryOp .Add (.ref a) (.ref b)) (EP X pins σ Q) X.xe s := by
  obtain ⟨_, its, n, r, e⟩ := h1.obj I
  obtain ⟨_, its2, n2, r2, e2⟩ := h2.obj I
  have l1 := r.length
  have l2 := r2.length
  refine PySem.P.add_list e e2 ?_ (by rw [List.size_toArray, List.size_toArray]; omega)
  rw [show its.toArray ++ its2.toArray = (its ++ its2).toArray by simp]
  exact ⟨.ref _, _, I.lnew (t' := s.toks) (r.append r2) (by rw [List.length_append]; omega), rfl, q _ I.fresh⟩
/-- tuple * int -/
theorem tup_mul0 (l : Addr) (items : Array Value) (n : Nat) (dd : Option Addr) (sl : Array (Option Value)) (x : Int) (u : Tok)
    (c0 : (decide (x < -(2 ^ 63)) || decide (x ≥ 2 ^ 63)) = false) (c1 : (items.isEmpty || x == 1) = true) :
    Meets (Builtin.«tuple.__mul__» ⟨[.ref l, .int x u], []⟩) (fun _ R s => s.heap.get? l = some { cls := .type "tuple", dict := dd, data := .seq items n, slots := sl } ∧ R (.ok (.ret (Value.ref l))) s) :=
  .of_wp fun prog w A R s h => by
    obtain ⟨hp, g, d, tk, os⟩ := s
    obtain ⟨hl, h⟩ := h
    have f1 := AutoSeq1.idx_int
    wp_walk using wpAny_loadPart' hl
    repeat (first
      | (refine wpAny_ite_false (decide_eq_false (by rw [c0]; exact Bool.false_ne_true)) ?_; wp_walk using wpAny_loadPart' hl)
      | (refine wpAny_ite_true (decide_eq_true c1) ?_; wp_walk using wpAny_loadPart' hl))
    exact ⟨_, rfl, h⟩

theorem tup_mulN (l : Addr) (items : Array Value) (n : Nat) (dd : Option Addr) (sl : Array (Option Value)) (x : Int) (u : Tok)
    (c0 : (decide (x < -(2 ^ 63)) || decide (x ≥ 2 ^ 63)) = false) (c1 : (items.isEmpty || x == 1) = false) (c2 : (decide (x ≤ 0) || items.isEmpty) = true) :
    Meets (Builtin.«tuple.__mul__» ⟨[.ref l, .int x u], []⟩) (fun _ R s => s.heap.get? l = some { cls := .type "tuple", dict := dd, data := .seq items n, slots := sl } ∧
      R (.ok (.ret (Value.ref s.heap.objs.size))) { s with heap := s.heap.push { cls := Value.type "tuple", data := Data.seq #[] }, toks := s.toks }) :=
  .of_wp fun prog w A R s h => by
    obtain ⟨hp, g, d, tk, os⟩ := s
    obtain ⟨hl, h⟩ := h
    have f1 := AutoSeq1.idx_int
    wp_walk using wpAny_loadPart' hl
    repeat (first
      | (refine wpAny_ite_false (decide_eq_false (by rw [c0]; exact Bool.false_ne_true)) ?_; wp_walk using wpAny_loadPart' hl)
      | (refine wpAny_ite_false (decide_eq_false (by rw [c1]; exact Bool.false_ne_true)) ?_; wp_walk using wpAny_loadPart' hl)
      | (refine wpAny_ite_true (decide_eq_true c2) ?_; wp_walk using wpAny_loadPart' hl))
    exact ⟨_, rfl, h⟩
theorem op_repTR {pins : List (Addr × Obj)} {s : Shared} {σ : L2.St} {H : Hp} {l : Addr} {k : Int} {t : Tok} {xs : List V} {Q : VK} (I : Inv X pins σ H s) (hT : SqT X.K H l xs)
    (h1 : k ≤ 100000) (h2 : -100000 ≤ k) (hz : xs.length ≤ 100) (q0 : (List.replicate k.toNat xs).flatten = xs → Q (.ref l) H) (q : ∀ p, H p = none → Q (.ref p) (upd H p (.tup (List.replicate k.toNat xs).flatten))) :
    wpAny (model X.prog X.w) X.A (binaryOp .Mult (.ref l) (.int k t)) (EP X pins σ Q) X.xe s := by
  obtain ⟨its, r, ⟨⟨cls, dd, data, sl⟩, ho, hc, n, hd⟩, hs⟩ := I.tuple hT
  simp only at hc hd
  subst hc hd
  have hle : its.length = xs.length := r.length.symm
  have c0 : (decide (k < -(2 ^ 63)) || decide (k ≥ 2 ^ 63)) = false := by
    rw [decide_eq_false (by omega), decide_eq_false (by omega)] <;> rfl
  have road : wpAny (model X.prog X.w) X.A (call (.builtin "tuple.__mul__") [.ref l, .int k t]) (EP X pins σ Q) X.xe s → wpAny (model X.prog X.w) X.A (binaryOp .Mult (.ref l) (.int k t)) (EP X pins σ Q) X.xe s := by
    intro g
    have no := call_meets (prog := X.prog) (w := X.w) (A := X.A) (E := X.xe) (s := s) PySem.F.slot_int_rmul (typeIs_int s k t) PySem.F.entry_int_rmul (PySem.F.args_int_rmul_2 _ _) (int_rmul_tuple k t l its.toArray n dd sl)
      (Q := fun v s' => v = .notImplemented ∧ s'.TypeIs (.ref l) "tuple" ∧ wpAny (model X.prog X.w) X.A (call (.builtin "tuple.__mul__") [.ref l, .int k t]) (EP X pins σ Q) X.xe s') ⟨ho, rfl, ⟨_, ho, rfl⟩, g⟩
    exact wpAny_binaryOp_repeat_ref (T := "tuple") (U := "int") (by decide) ⟨_, ho, rfl⟩ (fun s' => typeIs_int s' k t) noFill_tuple_mul PySem.F.fills_int_mul PySem.F.slot_int_rmul repeat_tuple PySem.F.slot_int_index.lookup no
  have fl : (List.replicate k.toNat its).flatten.length ≤ 100000 * 100 := by
    rw [PyProof.Rows.lm_len_rep_flat, hle]
    exact Nat.mul_le_mul (by omega) hz
  by_cases e1 : (its.toArray.isEmpty || k == 1) = true
  · refine road (call_meets PySem.F.slot_tuple_mul ⟨_, ho, rfl⟩ PySem.F.entry_tuple_mul (PySem.F.args_tuple_mul_2 _ _) (tup_mul0 l its.toArray n dd sl k t c0 e1) ⟨ho, ?_⟩)
    refine ⟨.ref l, H, I, rfl, q0 ?_⟩
    rcases Bool.or_eq_true_iff.mp e1 with z | z
    · have : its = [] := by simpa using z
      rw [this] at hle
      have : xs = [] := List.eq_nil_of_length_eq_zero hle.symm
      rw [this]; simp
    · have : k = 1 := by simpa using z
      rw [this]; simp
  · have e1' : (its.toArray.isEmpty || k == 1) = false := by simpa using e1
    by_cases e2 : (decide (k ≤ 0) || its.toArray.isEmpty) = true
    · refine road (call_meets PySem.F.slot_tuple_mul ⟨_, ho, rfl⟩ PySem.F.entry_tuple_mul (PySem.F.args_tuple_mul_2 _ _) (tup_mulN l its.toArray n dd sl k t c0 e1' e2) ⟨ho, ?_⟩)
      have em : its.toArray.isEmpty = false := by
        cases q : its.toArray.isEmpty with
        | false => rfl
        | true => rw [q] at e1'; cases e1'
      have k0 : k.toNat = 0 := by
        rw [em, Bool.or_false] at e2
        have := of_decide_eq_true e2
        omega
      rw [k0] at q
      refine ⟨.ref s.heap.objs.size, _, I.laid (t' := s.toks) (o := .tup []) (fun b ob q => Heap.get?_push_of_some _ q) (Nat.le_refl _) ?_, rfl, q _ (I.hok.fresh (Nat.le_refl _))⟩
      exact ⟨Nat.zero_le _, [], .nil, IsTup.new _ _⟩
    · have e2' : (decide (k ≤ 0) || its.toArray.isEmpty) = false := by simpa using e2
      have hm : ((its.toArray.size : Nat) : Int) * k ≤ 10000000 := by
        have kp : 0 ≤ k := by
          rcases Bool.or_eq_false_iff.mp e2' with ⟨z, _⟩
          have := of_decide_eq_false z
          omega
        have a1 : ((its.toArray.size : Nat) : Int) * k ≤ 100 * k := Int.mul_le_mul_of_nonneg_right (by rw [List.size_toArray, hle]; omega) kp
        omega
      have c4 : Builtin.Tuple.tupleTooMany (((its.toArray.size : Nat) : Int) * k) = false := by
        unfold Builtin.Tuple.tupleTooMany
        rw [sizeLine_eq]
        exact decide_eq_false (by omega)
      refine road (call_meets PySem.F.slot_tuple_mul ⟨_, ho, rfl⟩ PySem.F.entry_tuple_mul (PySem.F.args_tuple_mul_2 _ _)
        (tuple_mulW l its.toArray n dd sl k t c0 e1' e2' (by omega) c4 (by rw [size_rep, List.size_toArray, sizeLine_eq]; omega)) ⟨ho, ?_⟩)
      rw [size_rep]
      refine ⟨.ref s.heap.objs.size, _, I.laid (t' := s.toks) (o := .tup (List.replicate k.toNat xs).flatten) (fun b ob q => Heap.get?_push_of_some _ q) (Nat.le_refl _) ?_, rfl, q _ (I.hok.fresh (Nat.le_refl _))⟩
      refine ⟨?_, _, r.rep k.toNat, IsTup.new _ _⟩
      rw [PyProof.Rows.lm_len_rep_flat, sizeLine_eq]
      rw [PyProof.Rows.lm_len_rep_flat, hle] at fl
      omega
/-- list * int -/
theorem op_repLR {pins : List (Addr × Obj)} {s : Shared} {σ : L2.St} {H : Hp} {l : Addr} {k : Int} {t : Tok} {xs : List V} {Q : VK} (I : Inv X pins σ H s) (hL : RdL X.K H l xs)
    (h1 : -(2 ^ 63) ≤ k) (h2 : k < 2 ^ 63) (hz : xs.length * k.toNat ≤ sizeLine) (q : ∀ p, H p = none → Q (.ref p) (upd H p (.lst (List.replicate k.toNat xs).flatten))) :
    wpAny (model X.prog X.w) X.A (binaryOp .Mult (.ref l) (.int k t)) (EP X pins σ Q) X.xe s := by
  obtain ⟨_, its, n, r, e⟩ := hL.obj I
  have sz : its.toArray.size * k.toNat ≤ sizeLine := by rw [List.size_toArray, ← r.length]; exact hz
  have a1 : ¬ its.toArray.size * k.toNat > (2 ^ 63 - 1) / 8 := by
    rw [sizeLine_eq] at sz
    omega
  have a2 : ¬ (!Builtin.List.listFitsIndex k) = true := by simp [fitsIndex_both h1 h2]
  have a3 : ¬ Builtin.List.listTooLong (its.toArray.size * k.toNat) = true := by rw [notLongL sz]; exact Bool.false_ne_true
  have a4 : List.foldl (fun x1 x2 => x1 ++ x2) #[] (List.replicate (if its.toArray.isEmpty = true then 0 else k.toNat) its.toArray) = (List.replicate k.toNat its).flatten.toArray := by
    rw [size_rep]
    cases its with
    | nil => simp
    | cons a b => simp
  have g := call_meets (prog := X.prog) (w := X.w) (A := X.A) (E := X.xe) (s := s) PySem.F.slot_list_mul (show s.TypeIs (.ref l) "list" from ⟨_, e, rfl⟩) PySem.F.entry_list_mul (PySem.F.args_list_mul_2 _ _) (AutoListH.list___mul___list_int_3 l its.toArray n k t a2 a1 a3)
    (Q := EP X pins σ Q) ⟨e, by rw [a4]; exact ⟨.ref _, _, I.lnew (t' := s.toks) (r.rep k.toNat) (by rw [PyProof.Rows.lm_len_rep_flat, Nat.mul_comm]; exact hz), rfl, q _ I.fresh⟩⟩
  have no := call_meets (prog := X.prog) (w := X.w) (A := X.A) (E := X.xe) (s := s) PySem.F.slot_int_rmul (typeIs_int s k t) PySem.F.entry_int_rmul (PySem.F.args_int_rmul_2 _ _) (int___rmul___int_list k t l its.toArray n)
      (Q := fun v s' => v = .notImplemented ∧ s'.TypeIs (.ref l) "list" ∧ wpAny (model X.prog X.w) X.A (call (.builtin "list.__mul__") [.ref l, .int k t]) (EP X pins σ Q) X.xe s') ⟨e, rfl, ⟨_, e, rfl⟩, g⟩
  exact wpAny_binaryOp_repeat_ref (T := "list") (U := "int") (by decide) ⟨_, e, rfl⟩ (fun s' => typeIs_int s' k t) noFill_list_mul PySem.F.fills_int_mul PySem.F.slot_int_rmul repeat_list PySem.F.slot_int_index.lookup no
theorem op_bin (op : Operator) : OpR X (binaryOp op) (rOp2 X.K (binV op)) := by
  intro pins s σ H x y v u Q I rx ry h
  obtain ⟨va, vb, Hf, r, hs, ha, hb, e, q⟩ := h
  unfold binV at e
  split at e <;> try (rw [gd_some] at e; obtain ⟨c, e⟩ := e)
  all_goals try (simp only [Option.some.injEq, reduceCtorEq] at e)
  all_goals subst e
  · obtain rfl := ha.int_; obtain rfl := hb.int_
    exact op_add pins s σ H _ _ v u Q I rx ry ⟨_, _, rfl, rfl, q _ _ (.frz (.int _))⟩
  · obtain rfl := ha.str_; obtain rfl := hb.str_
    exact op_add_str pins s σ H _ _ v u Q I rx ry ⟨_, _, rfl, rfl, of_decide_eq_true c, q _ _ (.frz (.str _))⟩
  · obtain ⟨a, ys, rfl, h1, r1⟩ := ha.lst_
    obtain ⟨b, zs, rfl, h2, r2⟩ := hb.lst_
    cases rx; cases ry
    refine op_catR I h1 h2 ?_ fun p hp => q _ _ (.lst hp (r1.append r2))
    rw [r1.length, r2.length]; exact of_decide_eq_true c
  · obtain ⟨a, ys, rfl, h1, r1, t1⟩ := ha.tup_
    obtain ⟨b, zs, rfl, h2, r2, t2⟩ := hb.tup_
    refine op_catA pins s σ H _ _ v u Q I rx ry ⟨a, b, ys, zs, rfl, rfl, sqT_mono hs h1, sqT_mono hs h2, ?_, fun z => ?_, fun _ z => ?_, fun _ _ p hp => q _ _ (.tup hp (r1.append r2))⟩
    · rw [r1.length, r2.length]; exact of_decide_eq_true c
    · subst z
      cases r1
      exact q _ _ (.frz t2)
    · subst z
      cases r2
      rw [List.append_nil] at q
      exact q _ _ (.frz t1)
  · obtain rfl := ha.int_; obtain rfl := hb.int_
    exact op_sub pins s σ H _ _ v u Q I rx ry ⟨_, _, rfl, rfl, q _ _ (.frz (.int _))⟩
  · obtain rfl := ha.int_; obtain rfl := hb.int_
    have c' := of_decide_eq_true c
    exact op_mul pins s σ H _ _ v u Q I rx ry ⟨_, _, rfl, rfl, c', q _ _ (.frz (.int _))⟩
  · obtain ⟨a, ys, rfl, h1, r1⟩ := ha.lst_
    obtain rfl := hb.int_
    cases rx
    obtain ⟨t, rfl⟩ := ry
    obtain ⟨c1, c2, c3⟩ := of_decide_eq_true c
    exact op_repLR I h1 c1 c2 (by rw [r1.length]; exact c3) fun p hp => q _ _ (.lst hp (r1.flatRep _))
  · obtain ⟨a, ys, rfl, h1, r1, t1⟩ := ha.tup_
    obtain rfl := hb.int_
    cases rx
    obtain ⟨t, rfl⟩ := ry
    obtain ⟨c1, c2, c3⟩ := of_decide_eq_true c
    refine op_repTR I (sqT_mono hs h1) c1 c2 (by rw [r1.length]; exact c3) (fun z => ?_) fun p hp => q _ _ (.tup hp (r1.flatRep _))
    refine q _ _ (.frz (.tup h1 ?_))
    have g : ∀ m : Nat, (List.replicate m ys).flatten = ys → RepL X.K Hf (List.replicate m _).flatten ys := fun m z => by
      have := r1.flatRep m
      rw [z] at this
      exact this
    exact g _ z
  · obtain rfl := ha.int_; obtain rfl := hb.int_
    exact op_mod pins s σ H _ _ v u Q I rx ry ⟨_, _, rfl, rfl, of_decide_eq_true c, q _ _ (.frz (.int _))⟩
  · obtain rfl := ha.int_; obtain rfl := hb.int_
    have c' := of_decide_eq_true c
    exact op_fdiv pins s σ H _ _ v u Q I rx ry ⟨_, _, rfl, rfl, c', q _ _ (.frz (.int _))⟩
  · obtain rfl := ha.int_; obtain rfl := hb.int_
    have c' := of_decide_eq_true c
    exact op_pow pins s σ H _ _ v u Q I rx ry ⟨_, _, rfl, rfl, c', q _ _ (.frz (.int _))⟩
/-! ### comparisons -/
mutual
theorem Rep.dp {K : Frag} {H : Hp} : ∀ {v : Val} {x : V}, Rep K H v x → PyData.canLay0 v.toD = true → Dp K H x v.toD
  | _, _, .non, _ => by unfold Val.toD; exact .non
  | _, _, .bl b, _ => by unfold Val.toD; exact .bl b
  | _, _, .int b, _ => by unfold Val.toD; exact .int b
  | _, _, .str b, _ => by unfold Val.toD; exact .str b
  | _, _, .tup h r, e => by
    unfold Val.toD at e ⊢
    unfold PyData.canLay0 at e
    exact .tup h (RepL.dp r e)
  | _, _, .lst h r, e => by
    unfold Val.toD at e ⊢
    unfold PyData.canLay0 at e
    exact .lst h.sq (RepL.dp r e)
  | _, _, .dic h r, e => by
    unfold Val.toD PyData.canLay0 at e
    cases e
theorem RepL.dp {K : Frag} {H : Hp} : ∀ {v : List Val} {x : List V}, RepL K H v x → PyData.canLayAll0 (toDs v) = true → DpAll K H x (toDs v)
  | _, _, .nil, _ => by unfold toDs; exact .nil
  | _, _, .cons h r, e => by
    unfold toDs at e ⊢
    unfold PyData.canLayAll0 at e
    rw [Bool.and_eq_true] at e
    exact .cons (Rep.dp h e.1) (RepL.dp r e.2)
end
def rCmp (K : Frag) (f : Val → Val → Option Bool) : R2 := fun x y H Q => ∃ va vb Hf r, HSub Hf H ∧ RepE K Hf H va x ∧ RepE K Hf H vb y ∧ f va vb = some r ∧ Q (.bl r) H
theorem eqS_cases {a b : Val} {r : Bool} (h : eqS a b = some r) : scalar a b = some r ∨ eqV a b = some r := by
  unfold eqS at h
  cases e : scalar a b with
  | none => rw [e] at h; exact .inr h
  | some c => rw [e] at h; exact .inl h
theorem eq_core {pins : List (Addr × Obj)} {s : Shared} {σ : L2.St} {H Hf : Hp} {x y : V} {v u : Value} {Q : VK} {va vb : Val} {r : Bool} (neg : Bool) (hu : X.A.units + 64 < cLine) (I : Inv X pins σ H s) (rx : RelV x v) (ry : RelV y u)
    (hs : HSub Hf H) (ha : RepE X.K Hf H va x) (hb : RepE X.K Hf H vb y) (e : eqS va vb = some r) (q : Q (.bl (bif neg then !r else r)) H) :
    wpAny (model X.prog X.w) X.A (compareOp (bif neg then .NotEq else .Eq) v u) (EP X pins σ Q) X.xe s := by
  rcases eqS_cases e with e | e
  · have fin : ∀ (sc : scal x y = true), decide (x = y) = r → wpAny (model X.prog X.w) X.A (compareOp (bif neg then .NotEq else .Eq) v u) (EP X pins σ Q) X.xe s := by
      intro sc hd
      cases neg with
      | false => exact op_eq pins s σ H _ _ v u Q I rx ry ⟨sc, by rw [hd]; exact q⟩
      | true => exact op_ne pins s σ H _ _ v u Q I rx ry ⟨sc, by rw [hd]; exact q⟩
    unfold scalar at e
    split at e
    · obtain rfl := ha.int_; obtain rfl := hb.int_
      exact fin rfl (by simpa using e)
    · obtain rfl := ha.str_; obtain rfl := hb.str_
      exact fin rfl (by simpa using e)
    · obtain rfl := ha.bl_; obtain rfl := hb.bl_
      exact fin rfl (by simpa using e)
    · rename_i xs ys _
      cases hne : (xs.length != ys.length) with
      | false => rw [hne] at e; cases e
      | true =>
        rw [hne] at e
        obtain rfl : false = r := Option.some.inj e
        cases ha with
        | flat z _ => cases z
        | lst h1 l1 =>
          cases hb with
          | flat z _ => cases z
          | lst h2 l2 =>
            obtain rfl : v = Value.ref _ := rx
            obtain rfl : u = Value.ref _ := ry
            obtain ⟨i1, r1, ⟨o1, n1, g1, c1, _, d1⟩, _⟩ := I.list h1.sq
            obtain ⟨i2, r2, ⟨o2, n2, g2, c2, _, d2⟩, _⟩ := I.list h2.sq
            have hz : (i1.toArray.size != i2.toArray.size) = true := by
              rw [List.size_toArray, List.size_toArray, ← r1.length, ← r2.length, l1.length, l2.length]
              exact hne
            cases neg with
            | false => exact SeqAt.RcAt.lists_lengths ⟨o1, g1, c1, n1, d1⟩ ⟨o2, g2, c2, n2, d2⟩ hz (by omega) _ _ _ _ ⟨.bl false, H, I, rfl, q⟩
            | true => exact SeqAt.RcNeAt.lists_lengths ⟨o1, g1, c1, n1, d1⟩ ⟨o2, g2, c2, n2, d2⟩ hz (by omega) _ _ _ _ ⟨.bl true, H, I, rfl, q⟩
    · cases e
  · unfold eqV at e
    rw [gd_some, Bool.and_eq_true] at e
    obtain ⟨⟨c1, c2⟩, e⟩ := e
    have d1 := (ha.rep hs).dp (SeqAt.canLay_of_shaped c1)
    have d2 := (hb.rep hs).dp (SeqAt.canLay_of_shaped c2)
    have e' : PyData.eqv va.toD vb.toD = r := by simpa using e
    cases neg with
    | false => exact op_eqD hu pins s σ H _ _ v u Q I rx ry ⟨_, _, d1, d2, c1, c2, by rw [e']; exact q⟩
    | true => exact op_neD hu pins s σ H _ _ v u Q I rx ry ⟨_, _, d1, d2, c1, c2, by rw [e']; exact q⟩
theorem flatS_ok {K : Frag} {Hf H : Hp} {v : Val} {x u : V} (h : Rep K Hf v x) (e : flatS v = some u) : x = u ∧ flatV u = true := by
  cases h with
  | non => cases e; exact ⟨rfl, rfl⟩
  | bl b => cases e; exact ⟨rfl, rfl⟩
  | int b => cases e; exact ⟨rfl, rfl⟩
  | str b => cases e; exact ⟨rfl, rfl⟩
  | tup _ _ => cases e
  | lst _ _ => cases e
  | dic _ _ => cases e
theorem flatSs_ok {K : Frag} {Hf H : Hp} : ∀ {vs : List Val} {xs us : List V}, RepL K Hf vs xs → flatSs vs = some us → xs = us ∧ us.all flatV = true
  | _, _, _, .nil, e => by cases e; exact ⟨rfl, rfl⟩
  | _, _, us, .cons h r, e => by
    unfold flatSs at e
    rw [Option.bind_eq_some_iff] at e
    obtain ⟨u, e1, e⟩ := e
    rw [Option.map_eq_some_iff] at e
    obtain ⟨us', e2, rfl⟩ := e
    obtain ⟨rfl, f1⟩ := flatS_ok (H := H) h e1
    obtain ⟨rfl, f2⟩ := flatSs_ok (H := H) r e2
    exact ⟨rfl, by rw [List.all_cons, f1, f2]; rfl⟩
theorem valV_any {K : Frag} {Hf : Hp} {k : Key} : ∀ {kvs : List (Key × Val)} {ks : List (Key × V)}, RepK K Hf kvs ks → (valV ks k).isSome = kvs.any fun q => decide (q.1 = k)
  | _, _, .nil => rfl
  | _, _, .cons (k := k') (v := v) (x := x) (vs := vs) (xs := xs) h r => by
    have ih := valV_any (k := k) r
    unfold valV at ih ⊢
    rw [List.find?_cons, List.any_cons]
    by_cases e : k' = k
    · simp [e]
    · simp only [e, decide_false, Bool.false_or]
      exact ih
theorem keyOf_ok {K : Frag} {Hf : Hp} {v : Val} {x : V} {k : Key} (h : Rep K Hf v x) (e : keyOf v = some k) : x = kV k := by
  cases h with
  | int b => cases e; rfl
  | str b => cases e; rfl
  | _ => cases e
theorem in_core {pins : List (Addr × Obj)} {s : Shared} {σ : L2.St} {H Hf : Hp} {x y : V} {v u : Value} {Q : VK} {va vb : Val} {r : Bool} (neg : Bool) (hu : X.A.units + 64 < cLine) (I : Inv X pins σ H s) (rx : RelV x v) (ry : RelV y u)
    (hs : HSub Hf H) (ha : RepE X.K Hf H va x) (hb : RepE X.K Hf H vb y) (e : inS va vb = some r) (q : Q (.bl (bif neg then !r else r)) H) :
    wpAny (model X.prog X.w) X.A (compareOp (bif neg then .NotIn else .In) v u) (EP X pins σ Q) X.xe s := by
  have ra := ha.rep hs
  have seq : ∀ {xs : List Val} {ys : List V} {a : Addr}, (SqL X.K H a ys ∨ SqT X.K H a ys) → RepL X.K H xs ys → y = .ref a → ((flatS va).bind fun u => (flatSs xs).map fun us => inV u us) = some r →
      wpAny (model X.prog X.w) X.A (compareOp (bif neg then .NotIn else .In) v u) (EP X pins σ Q) X.xe s := by
    intro xs ys a h l ey e
    rw [Option.bind_eq_some_iff] at e
    obtain ⟨w, e1, e⟩ := e
    rw [Option.map_eq_some_iff] at e
    obtain ⟨ws, e2, rfl⟩ := e
    obtain ⟨rfl, f1⟩ := flatS_ok (H := H) ra e1
    obtain ⟨rfl, f2⟩ := flatSs_ok (H := H) l e2
    cases neg with
    | false => exact op_in_seq pins s σ H _ _ v u Q I rx ry ⟨a, ys, ey, h, f1, f2, q⟩
    | true => exact op_notIn_seq pins s σ H _ _ v u Q I rx ry ⟨a, ys, ey, h, f1, f2, q⟩
  unfold inS at e
  split at e
  · cases hb with
    | flat z _ => cases z
    | lst h l => exact seq (.inl h.sq) (l.mono hs) rfl e
  · cases hb with
    | flat _ h => cases h with | tup h l => exact seq (.inr (sqT_mono hs h)) (l.mono hs) rfl e
  · cases hb with
    | flat z _ => cases z
    | dic h l =>
      rw [Option.map_eq_some_iff] at e
      obtain ⟨k, e1, rfl⟩ := e
      obtain rfl := keyOf_ok ra e1
      obtain rfl : u = Value.ref _ := ry
      have hv := valV_any (k := k) l
      cases neg with
      | false => exact d_in (by omega) I (DGet.k h) rx fun s' I' => ⟨.bl _, H, I', rfl, by rw [hv]; exact q⟩
      | true => exact d_notIn (by omega) I (DGet.k h) rx fun s' I' => ⟨.bl _, H, I', rfl, by rw [hv]; exact q⟩
  · split at e
    · have er := Option.some.inj e
      subst er
      cases hb.rep hs
      cases ra
      cases neg with
      | false => exact op_in_str pins s σ H _ _ v u Q I rx ry ⟨_, _, rfl, rfl, q⟩
      | true => exact op_notin_str pins s σ H _ _ v u Q I rx ry ⟨_, _, rfl, rfl, q⟩
    · cases e
  · cases e
theorem op_cmp (op : CmpOp) (hu : X.A.units + 64 < cLine) : OpR X (compareOp op) (rCmp X.K (cmpV op)) := by
  intro pins s σ H x y v u Q I rx ry h
  obtain ⟨va, vb, Hf, r, hs, ha, hb, e, q⟩ := h
  unfold cmpV at e
  split at e
  · exact in_core false hu I rx ry hs ha hb e q
  · cases e' : inS va vb with
    | none => rw [e'] at e; cases e
    | some c =>
      rw [e'] at e
      obtain rfl : (!c) = r := by simpa using e
      exact in_core true hu I rx ry hs ha hb e' q
  · exact eq_core false hu I rx ry hs ha hb e q
  · cases e' : eqS va vb with
    | none => rw [e'] at e; cases e
    | some c =>
      rw [e'] at e
      obtain rfl : (!c) = r := by simpa using e
      exact eq_core true hu I rx ry hs ha hb e' q
  · obtain rfl := ha.int_; obtain rfl := hb.int_
    obtain rfl : _ = r := by simpa using e
    exact op_lt pins s σ H _ _ v u Q I rx ry ⟨_, _, rfl, rfl, q⟩
  · obtain rfl := ha.int_; obtain rfl := hb.int_
    obtain rfl : _ = r := by simpa using e
    exact op_le pins s σ H _ _ v u Q I rx ry ⟨_, _, rfl, rfl, q⟩
  · obtain rfl := ha.int_; obtain rfl := hb.int_
    obtain rfl : _ = r := by simpa using e
    exact op_gt pins s σ H _ _ v u Q I rx ry ⟨_, _, rfl, rfl, q⟩
  · obtain rfl := ha.int_; obtain rfl := hb.int_
    obtain rfl : _ = r := by simpa using e
    exact op_ge pins s σ H _ _ v u Q I rx ry ⟨_, _, rfl, rfl, q⟩
  · obtain rfl := ha.non_; obtain rfl := hb.non_
    cases e
    exact op_isN pins s σ H _ _ v u Q I rx ry ⟨rfl, q⟩
  · obtain rfl := ha.bl_; obtain rfl := hb.bl_
    cases e
    exact op_is_bl pins s σ H _ _ v u Q I rx ry ⟨_, _, rfl, rfl, q⟩
  · obtain rfl := ha.non_; obtain rfl := hb.non_
    cases e
    exact op_notN pins s σ H _ _ v u Q I rx ry ⟨rfl, q⟩
  · obtain rfl := ha.bl_; obtain rfl := hb.bl_
    cases e
    exact op_isnot_bl pins s σ H _ _ v u Q I rx ry ⟨_, _, rfl, rfl, q⟩
  · cases e
end
end BV
/-! Built-ins, subscripts, truth. -/
namespace BV
open PySem PySem.Spec PyProof.Rows L2
inductive RepEs (K : Frag) (Hf H : Hp) : List Val → List V → Prop
  | nil : RepEs K Hf H [] []
  | cons {v : Val} {x : V} {vs : List Val} {xs : List V} : RepE K Hf H v x → RepEs K Hf H vs xs → RepEs K Hf H (v :: vs) (x :: xs)
def BF.val : BF → Value
  | .len => .builtin "len" | .repr => .builtin "repr" | .all => .builtin "all" | .any => .builtin "any" | .tuple => .type "tuple" | .list => .type "list" | .sum => .builtin "sum"
  | .min2 => .builtin "min" | .max2 => .builtin "max" | .sorted => .builtin "sorted" | .str => .type "str" | .int => .type "int" | .abs => .builtin "abs"
def rB (K : Frag) (f : List Val → Option R) : List V → Hp → VK → Prop := fun xs H Q => ∃ vs Hf r, HSub Hf H ∧ RepEs K Hf H vs xs ∧ f vs = some r ∧ ∀ z H', New K Hf H r z H' → Q z H'
section
variable {X : Cx}
mutual
theorem Rep.dpn {K : Frag} {H : Hp} : ∀ {v : Val} {x : V}, Rep K H v x → PyData.hasDict v.toD = false → Dp K H x v.toD
  | _, _, .non, _ => by unfold Val.toD; exact .non
  | _, _, .bl b, _ => by unfold Val.toD; exact .bl b
  | _, _, .int b, _ => by unfold Val.toD; exact .int b
  | _, _, .str b, _ => by unfold Val.toD; exact .str b
  | _, _, .tup h r, e => by
    unfold Val.toD at e ⊢
    unfold PyData.hasDict at e
    exact .tup h (RepL.dpn r e)
  | _, _, .lst h r, e => by
    unfold Val.toD at e ⊢
    unfold PyData.hasDict at e
    exact .lst h.sq (RepL.dpn r e)
  | _, _, .dic h r, e => by
    unfold Val.toD PyData.hasDict at e
    cases e
theorem RepL.dpn {K : Frag} {H : Hp} : ∀ {v : List Val} {x : List V}, RepL K H v x → PyData.hasDictAll (toDs v) = false → DpAll K H x (toDs v)
  | _, _, .nil, _ => by unfold toDs; exact .nil
  | _, _, .cons h r, e => by
    unfold toDs at e ⊢
    unfold PyData.hasDictAll at e
    rw [Bool.or_eq_false_iff] at e
    exact .cons (Rep.dpn h e.1) (RepL.dpn r e.2)
end
mutual
theorem Rep.readsP {pins : List (Addr × Obj)} {s : Shared} {σ : L2.St} {H : Hp} (I : Inv X pins σ H s) : ∀ {v : Val} {x : V} {u : Value}, Rep X.K H v x → RelV x u → v.plainD = true → ∃ as, Reads s.heap u v.toD as ∧ sysModules ∉ as
  | _, _, _, .non, r, _ => by unfold Val.toD; cases r; exact ⟨[], .none, by simp⟩
  | _, _, _, .bl b, r, _ => by unfold Val.toD; cases r; exact ⟨[], .bool b, by simp⟩
  | _, _, _, .int b, r, _ => by unfold Val.toD; obtain ⟨t, rfl⟩ := r; exact ⟨[], .int b t, by simp⟩
  | _, _, _, .str b, r, _ => by unfold Val.toD; obtain ⟨t, rfl⟩ := r; exact ⟨[], .str b t, by simp⟩
  | _, _, _, .tup h rl, r, e => by
    unfold Val.toD
    unfold Val.plainD at e
    cases r
    obtain ⟨its, rv, ⟨o, ho, hc, n, hd⟩, _⟩ := I.tuple h
    obtain ⟨as, h1, h2⟩ := RepL.readsP I rl rv e
    exact ⟨as, .tuple ho hc hd (by simpa using h1), h2⟩
  | _, _, _, .lst h rl, r, e => by unfold Val.plainD at e; cases e
  | _, _, _, .dic h rl, r, e => by
    unfold Val.plainD at e
    cases rl with
    | cons _ _ => cases e
    | nil =>
      unfold Val.toD
      cases r
      obtain ⟨_, ns, vs, kv, o, es, ep, ho, hx, hd, _, hp, _⟩ := I.hok _ _ h
      cases kv
      refine ⟨[_], .dict (as := []) (bs := []) ho ?_ hd ?_ ?_, ?_⟩
      · exact hx.1
      · have : es.toList = [] := by
          cases q : es.toList with
          | nil => rfl
          | cons a b => rw [q] at hp; cases hp
        rw [this]; unfold toDk; exact .nil
      · have : es.toList = [] := by
          cases q : es.toList with
          | nil => rfl
          | cons a b => rw [q] at hp; cases hp
        rw [this]; unfold toDk; exact .nil
      · intro z
        have z' := List.mem_singleton.mp z
        rw [← z'] at ns
        simp at ns
theorem RepL.readsP {pins : List (Addr × Obj)} {s : Shared} {σ : L2.St} {H : Hp} (I : Inv X pins σ H s) : ∀ {v : List Val} {x : List V} {u : List Value}, RepL X.K H v x → Vals x u → plainDs v = true → ∃ as, ReadsAll s.heap u (toDs v) as ∧ sysModules ∉ as
  | _, _, _, .nil, .nil, _ => by unfold toDs; exact ⟨[], .nil, by simp⟩
  | _, _, _, .cons h rl, .cons r rr, e => by
    unfold toDs
    unfold plainDs at e
    rw [Bool.and_eq_true] at e
    obtain ⟨as, h1, h2⟩ := Rep.readsP I h r e.1
    obtain ⟨bs, h3, h4⟩ := RepL.readsP I rl rr e.2
    exact ⟨as ++ bs, .cons h1 h3, by simp [h2, h4]⟩
end
theorem call_repr {pins : List (Addr × Obj)} {s : Shared} {σ : L2.St} {H : Hp} {v : Val} {x : V} {u : Value} {Q : VK} {z : Str} (hg : X.A.guards = some []) (hu : X.A.units + 80 < cLine) (I : Inv X pins σ H s) (h : Rep X.K H v x) (rx : RelV x u)
    (e : reprV v = some z) (q : Q (.str z) H) : wpAny (model X.prog X.w) X.A (call (.builtin "repr") [u]) (EP X pins σ Q) X.xe s := by
  unfold reprV at e
  rw [gd_some] at e
  simp only [Bool.and_eq_true, Bool.or_eq_true, Option.some.injEq] at e
  obtain ⟨⟨⟨⟨c1, c2⟩, c3⟩, c4⟩, rfl⟩ := e
  have c2 := of_decide_eq_true c2
  have c3 := of_decide_eq_true c3
  have fin : ∀ {a : Addr}, u = .ref a → wpAny (model X.prog X.w) X.A (call (.builtin "repr") [u]) (EP X pins σ Q) X.xe s := by
    rintro a rfl
    have rd : ∃ as, Reads s.heap (.ref a) v.toD as ∧ (v.toD.hasDict = true → sysModules ∉ as) := by
      rcases c4 with c4 | c4
      · have nd : v.toD.hasDict = false := by simpa using c4
        obtain ⟨as, r⟩ := Dp.reads I _ _ _ (h.dpn nd) rx
        exact ⟨as, r, fun z => by rw [nd] at z; cases z⟩
      · obtain ⟨as, r, n⟩ := Rep.readsP I h rx c4
        exact ⟨as, r, fun _ => n⟩
    obtain ⟨as, r, n⟩ := rd
    refine repr_of_reads' r c1 n hg (by omega) (fun _ _ e => e) (fun h' t tk k => ?_) c2
    exact ⟨.str _, H, I.kept k, ⟨_, rfl⟩, q⟩
  cases h with
  | non => cases rx; exact PySem.P.repr_of_none ⟨.str _, H, I.tok _, ⟨_, rfl⟩, q⟩
  | bl b => cases rx; exact PySem.P.repr_of_bool ⟨.str _, H, I.tok _, ⟨_, rfl⟩, q⟩
  | int i =>
    obtain ⟨t, rfl⟩ := rx
    refine PySem.P.repr_of_int ?_ ⟨.str _, H, I.tok _, ⟨_, rfl⟩, q⟩
    unfold Val.toD PyData.showable at c1
    exact of_decide_eq_true c1
  | str i =>
    obtain ⟨t, rfl⟩ := rx
    exact PySem.P.repr_of_str ⟨.str _, H, I.tok _, ⟨_, rfl⟩, q⟩ c2
  | tup _ _ => exact fin rx
  | lst _ _ => exact fin rx
  | dic _ _ => exact fin rx
theorem boolsOf_ok {K : Frag} {H : Hp} : ∀ {xs : List Val} {ys : List V} {bs : List Bool}, RepL K H xs ys → boolsOf xs = some bs → ys = bs.map V.bl
  | _, _, _, .nil, e => by cases e; rfl
  | _, _, bs, .cons h r, e => by
    cases h with
    | bl b =>
      unfold boolsOf at e
      rw [Option.map_eq_some_iff] at e
      obtain ⟨cs, e1, rfl⟩ := e
      rw [boolsOf_ok r e1]; rfl
    | _ => cases e
theorem intsOf_ok {K : Frag} {H : Hp} : ∀ {xs : List Val} {ys : List V} {bs : List Int}, RepL K H xs ys → intsOf xs = some bs → ys = bs.map V.int
  | _, _, _, .nil, e => by cases e; rfl
  | _, _, bs, .cons h r, e => by
    cases h with
    | int b =>
      unfold intsOf at e
      rw [Option.map_eq_some_iff] at e
      obtain ⟨cs, e1, rfl⟩ := e
      rw [intsOf_ok r e1]; rfl
    | _ => cases e
theorem insI_perm (x : Int) : ∀ l : List Int, (insI x l).Perm (x :: l)
  | [] => List.Perm.refl _
  | y :: r => by
    unfold insI
    split
    · exact List.Perm.refl _
    · exact ((insI_perm x r).cons y).trans (List.Perm.swap x y r)
theorem sortI_perm : ∀ l : List Int, (sortI l).Perm l
  | [] => List.Perm.refl _
  | x :: l => (insI_perm x (sortI l)).trans ((sortI_perm l).cons x)
theorem insI_up (x : Int) : ∀ l : List Int, l.Pairwise (· ≤ ·) → (insI x l).Pairwise (· ≤ ·)
  | [], _ => by simp [insI]
  | y :: r, h => by
    have h' := List.pairwise_cons.mp h
    unfold insI
    split
    · rename_i c
      refine List.pairwise_cons.mpr ⟨fun z hz => ?_, h⟩
      rcases List.mem_cons.mp hz with rfl | hz
      · exact c
      · exact Int.le_trans c (h'.1 z hz)
    · refine List.pairwise_cons.mpr ⟨fun z hz => ?_, insI_up x r h'.2⟩
      rcases List.mem_cons.mp ((insI_perm x r).mem_iff.mp hz) with rfl | hz
      · omega
      · exact h'.1 z hz
theorem sortI_up : ∀ l : List Int, (sortI l).Pairwise (· ≤ ·)
  | [] => by simp [sortI]
  | x :: l => insI_up x (sortI l) (sortI_up l)
theorem up_uniq : ∀ {l m : List Int}, l.Perm m → l.Pairwise (· ≤ ·) → m.Pairwise (· ≤ ·) → l = m
  | [], m, p, _, _ => by rw [List.nil_perm.mp p]
  | x :: l, m, p, hl, hm => by
    cases m with
    | nil => exact absurd p.length_eq (by simp)
    | cons y m =>
      have hl' := List.pairwise_cons.mp hl
      have hm' := List.pairwise_cons.mp hm
      have e : x = y := by
        rcases List.mem_cons.mp (p.mem_iff.mp (List.mem_cons_self ..)) with e | e
        · exact e
        · rcases List.mem_cons.mp (p.mem_iff.mpr (List.mem_cons_self ..)) with f | f
          · exact f.symm
          · exact Int.le_antisymm (hl'.1 y f) (hm'.1 x e)
      subst e
      rw [up_uniq (List.Perm.cons_inv p) hl'.2 hm'.2]
theorem sortI_uniq {l m : List Int} (p : m.Perm l) (h : m.Pairwise (· ≤ ·)) : m = sortI l := up_uniq (p.trans (sortI_perm l).symm) h (sortI_up l)
theorem repL_ints {K : Frag} {H : Hp} : ∀ (ns : List Int), RepL K H (ns.map Val.int) (ns.map V.int)
  | [] => .nil
  | i :: r => .cons (.int i) (repL_ints r)
theorem call_blt (f : BF) (hc : X.calm = true) (hg : X.A.guards = some []) (hu : X.A.units + 80 < cLine) : CallR X f.val (rB X.K (bltV f)) := by
  intro pins s σ H xs us Q I r h
  obtain ⟨vs, Hf, o, hs, rs, e, q⟩ := h
  unfold bltV at e
  split at e
  · cases rs with | cons h1 t => cases t; obtain ⟨a, ys, rfl, d, l⟩ := h1.lst_; cases e; exact call_len_seq pins s σ H _ us Q I r ⟨a, ys, rfl, .inl d.sq, by rw [l.length]; exact q _ _ (.frz (.int _))⟩
  · cases rs with | cons h1 t => cases t; obtain ⟨a, ys, rfl, d, l, _⟩ := h1.tup_; cases e; exact call_len_seq pins s σ H _ us Q I r ⟨a, ys, rfl, .inr (sqT_mono hs d), by rw [l.length]; exact q _ _ (.frz (.int _))⟩
  · rw [gd_some] at e; obtain ⟨c, e⟩ := e
    cases rs with | cons h1 t => cases t; obtain rfl := h1.str_; cases e; exact call_len_str pins s σ H _ us Q I r ⟨_, rfl, of_decide_eq_true c, q _ _ (.frz (.int _))⟩
  · rw [Option.map_eq_some_iff] at e
    obtain ⟨z, e, rfl⟩ := e
    cases rs with
    | cons h1 t =>
      cases t
      obtain ⟨u, rfl, ru⟩ := vals1 r
      exact call_repr hg hu I (h1.rep hs) ru e (q _ _ (.frz (.str _)))
  · rw [Option.map_eq_some_iff] at e
    obtain ⟨z, e, rfl⟩ := e
    cases rs with | cons h1 t => cases t; obtain ⟨a, ys, rfl, d, l⟩ := h1.lst_; obtain rfl := boolsOf_ok l e; exact cr_all hc pins s σ H _ us Q I r ⟨a, z, rfl, d.sq, q _ _ (.frz (.bl _))⟩
  · rw [Option.map_eq_some_iff] at e
    obtain ⟨z, e, rfl⟩ := e
    cases rs with | cons h1 t => cases t; obtain ⟨a, ys, rfl, d, l⟩ := h1.lst_; obtain rfl := boolsOf_ok l e; exact cr_any hc pins s σ H _ us Q I r ⟨a, z, rfl, d.sq, q _ _ (.frz (.bl _))⟩
  · rw [Option.map_eq_some_iff] at e
    obtain ⟨z, e, rfl⟩ := e
    cases rs with | cons h1 t => cases t; obtain ⟨a, ys, rfl, d, l⟩ := h1.lst_; obtain rfl := intsOf_ok l e; exact cr_sum hc pins s σ H _ us Q I r ⟨a, z, rfl, d.sq, q _ _ (.frz (.int _))⟩
  · cases rs with | cons h1 t => cases t; obtain ⟨a, ys, rfl, d, l⟩ := h1.lst_; cases e; exact call_tuple_of pins s σ H _ us Q I r ⟨a, ys, rfl, .inl ⟨d.sq, fun p hp => q _ _ (.tup hp l)⟩⟩
  · cases rs with | cons h1 t => cases t; obtain ⟨a, ys, rfl, d, l, t1⟩ := h1.tup_; cases e; exact call_tuple_of pins s σ H _ us Q I r ⟨a, ys, rfl, .inr ⟨sqT_mono hs d, q _ _ (.frz t1)⟩⟩
  · cases rs with | cons h1 t => cases t; obtain ⟨a, ys, rfl, d, l⟩ := h1.lst_; cases e; exact call_list_of pins s σ H _ us Q I r ⟨a, ys, rfl, .inl d.sq, fun p hp => q _ _ (.lst hp l)⟩
  · cases rs with | cons h1 t => cases t; obtain ⟨a, ys, rfl, d, l, _⟩ := h1.tup_; cases e; exact call_list_of pins s σ H _ us Q I r ⟨a, ys, rfl, .inr (sqT_mono hs d), fun p hp => q _ _ (.lst hp l)⟩
  · cases rs with
    | cons h1 t =>
      cases t with
      | cons h2 t => cases t; obtain rfl := h1.int_; obtain rfl := h2.int_; cases e; exact call_min2 hc pins s σ H _ us Q I r ⟨_, _, rfl, q _ _ (.frz (.int _))⟩
  · cases rs with
    | cons h1 t =>
      cases t with
      | cons h2 t => cases t; obtain rfl := h1.int_; obtain rfl := h2.int_; cases e; exact call_max2 hc pins s σ H _ us Q I r ⟨_, _, rfl, q _ _ (.frz (.int _))⟩
  · cases rs with | cons h1 t => cases t; obtain rfl := h1.int_; cases e; exact call_int1 pins s σ H _ us Q I r (.inl ⟨_, rfl, q _ _ (.frz (.int _))⟩)
  · cases rs with | cons h1 t => cases t; obtain rfl := h1.bl_; cases e; exact call_int1 pins s σ H _ us Q I r (.inr ⟨_, rfl, q _ _ (.frz (.int _))⟩)
  · cases rs with | cons h1 t => cases t; obtain rfl := h1.int_; cases e; exact call_abs pins s σ H _ us Q I r ⟨_, rfl, q _ _ (.frz (.int _))⟩
  · rw [Option.map_eq_some_iff] at e
    obtain ⟨z, e, rfl⟩ := e
    cases rs with | cons h1 t => cases t; obtain ⟨a, ys, rfl, d, l⟩ := h1.lst_; obtain rfl := intsOf_ok l e; exact cr_sortedI pins s σ H _ us Q I r ⟨a, z, rfl, d.sq, fun ns' p pm pw hp => q _ _ (.lst hp (by rw [sortI_uniq pm pw]; exact repL_ints _))⟩
  · cases e
/-! ### isinstance -/
theorem kit_isi (v : Val) (T : TN) : kitB (tyV v) T.name = some (isiV v T) := by
  cases v <;> cases T <;> (simp only [tyV, TN.name, isiV]; decide +kernel)
theorem RepE.ty {K : Frag} {Hf H : Hp} {v : Val} {x : V} (hs : HSub Hf H) (h : RepE K Hf H v x) : TyX K H x (.type (tyV v)) := by
  cases h with
  | flat f h =>
    cases h with
    | non => exact .base .non
    | bl b => exact .base (.bl b)
    | int b => exact .base (.int b)
    | str b => exact .base (.str b)
    | tup h r =>
      rcases h with h | ⟨o, its, n, hk, hc, _⟩
      · rcases h with h | ⟨o, h⟩
        · exact .base (.tup (hs _ _ h))
        · exact .fTuple (hs _ _ h)
      · exact .kTuple hk hc
    | lst _ _ => cases f
    | dic _ _ => cases f
  | lst h r =>
    rcases h with h | ⟨its, n, hk, _⟩
    · rcases h with h | ⟨o, h⟩
      · exact .base (.lst h)
      · exact .base (.frz h)
    · exact .kList hk rfl
  | dic h r => exact .base (.dK h)
/-! ### truth -/
theorem truV_ok {K : Frag} {Hf H : Hp} {v : Val} {x : V} {b : Bool} (hs : HSub Hf H) (h : RepE K Hf H v x) (e : truV v = some b) : TruV K x H b := by
  cases v with
  | non => obtain rfl := h.non_; cases e; rfl
  | bl c => obtain rfl := h.bl_; cases e; rfl
  | int c => obtain rfl := h.int_; cases e; rfl
  | str c =>
    obtain rfl := h.str_
    unfold truV at e
    rw [gd_some] at e
    obtain ⟨c, e⟩ := e
    cases e
    exact ⟨of_decide_eq_true c, rfl⟩
  | tup c => obtain ⟨a, ys, rfl, d, l, _⟩ := h.tup_; cases e; exact .inr (.inl ⟨ys, sqT_mono hs d, by cases l <;> rfl⟩)
  | lst c => obtain ⟨a, ys, rfl, d, l⟩ := h.lst_; cases e; exact .inl ⟨ys, d.sq, by cases l <;> rfl⟩
  | dic c => obtain ⟨a, ys, rfl, d, l⟩ := h.dic_; cases e; exact .inr (.inr ⟨ys, d, by cases l <;> rfl⟩)
/-! ### subscripts, slices -/
theorem RepL.at {K : Frag} {H : Hp} {xs : List Val} {ys : List V} {i : Int} {v : Val} (h : RepL K H xs ys) (e : getV.atI' xs i = some v) : ∃ y, atI ys i = some y ∧ Rep K H v y := by
  unfold getV.atI' at e
  unfold atI
  rw [h.length]
  cases q : ixN xs.length i with
  | none => rw [q] at e; cases e
  | some j =>
    rw [q] at e
    exact h.get e
def rIx (K : Frag) : R2 := fun x y H Q => ∃ va vb Hf u, HSub Hf H ∧ RepE K Hf H va x ∧ RepE K Hf H vb y ∧ getV va vb = some u ∧ ∀ z, Rep K Hf u z → Q z H
theorem keyE {K : Frag} {Hf H : Hp} {v : Val} {x : V} {k : Key} (h : RepE K Hf H v x) (e : BV.keyOf v = some k) : x = kV k := by
  cases v with
  | int i => obtain rfl := h.int_; cases e; rfl
  | str i =>
    cases h with
    | flat _ h => cases h; cases e; rfl
  | _ => cases e
theorem RepK.find {K : Frag} {H : Hp} {k : Key} {kv : Key × Val} : ∀ {kvs : List (Key × Val)} {ys : List (Key × V)}, RepK K H kvs ys → (kvs.find? fun z => decide (z.1 = k)) = some kv → ∃ z, valV ys k = some z ∧ Rep K H kv.2 z
  | _, _, .nil, e => by cases e
  | _, _, .cons (k := k') (v := v) (x := x) (vs := vs) (xs := xs) h r, e => by
    rw [List.find?_cons] at e
    by_cases c : k' = k
    · simp only [c, decide_true] at e
      cases e
      refine ⟨x, ?_, h⟩
      unfold valV
      rw [List.find?_cons]
      simp [c]
    · simp only [c, decide_false] at e
      obtain ⟨z, e1, e2⟩ := RepK.find r e
      refine ⟨z, ?_, e2⟩
      unfold valV at e1 ⊢
      rw [List.find?_cons]
      simp only [c, decide_false]
      exact e1
theorem ix_val (hu : X.A.units + 1 < cLine) : IxR X (rIx X.K) := by
  intro value slice pins s σ H x y v u Q I rx ry h hs
  obtain ⟨va, vb, Hf, w, hf, ha, hb, e, q⟩ := h
  unfold getV at e
  split at e
  · obtain ⟨a, ys, rfl, d, l⟩ := ha.lst_; obtain rfl := hb.int_
    obtain ⟨z, e1, e2⟩ := l.at e
    exact ix_list value slice pins s σ H _ _ v u Q I rx ry ⟨a, ys, _, z, rfl, rfl, d.sq, e1, q z e2⟩ hs
  · obtain ⟨a, ys, rfl, d, l, _⟩ := ha.tup_; obtain rfl := hb.int_
    obtain ⟨z, e1, e2⟩ := l.at e
    exact ix_tup value slice pins s σ H _ _ v u Q I rx ry ⟨a, ys, _, z, rfl, rfl, sqT_mono hf d, e1, q z e2⟩ hs
  · obtain ⟨a, ys, rfl, d, l⟩ := ha.dic_
    rw [Option.bind_eq_some_iff] at e
    obtain ⟨k, e1, e2⟩ := e
    rw [Option.map_eq_some_iff] at e2
    obtain ⟨kv, e2, rfl⟩ := e2
    have ky : y = kV k := keyE hb e1
    obtain ⟨z, e3, e4⟩ := l.find e2
    have g : DGet H a y (some z) := .inl ⟨ys, k, .inl d, ky, e3.symm⟩
    cases rx
    exact tail_any (dict_typeIs I g) PySem.F.slot_dict_getitem.lookup (d_getItem hu I g ry fun w' s' I' r' => ⟨z, H, I', r', q z e4⟩) hs
  · cases e
theorem RepL.cut {K : Frag} {H : Hp} {xs : List Val} {ys : List V} (h : RepL K H xs ys) (lo hi : Option Int) : RepL K H (cutL xs lo hi) (cutV ys lo hi) := by
  unfold cutL cutV
  rw [h.length]
  exact (h.drop _).take _
def rSl (K : Frag) : V → Option Int → Option Int → Hp → VK → Prop := fun x lo hi H Q => ∃ va Hf r, HSub Hf H ∧ RepE K Hf H va x ∧ slcV va lo hi = some r ∧ ∀ z H', New K Hf H r z H' → Q z H'
theorem sl_val : SlR X (rSl X.K) := by
  intro pins s σ H x v vl vu lo hi sl Q I rx hs pl pu h
  obtain ⟨va, Hf, r, hf, ha, e, q⟩ := h
  unfold slcV at e
  split at e
  · obtain ⟨a, ys, rfl, d, l⟩ := ha.lst_; cases e
    exact sl_list pins s σ H _ v vl vu lo hi sl Q I rx hs pl pu ⟨a, ys, rfl, d.sq, fun p hp => q _ _ (.lst hp (l.cut lo hi))⟩
  · obtain ⟨a, ys, rfl, d, l, t⟩ := ha.tup_; cases e
    refine sl_tupA pins s σ H _ v vl vu lo hi sl Q I rx hs pl pu ⟨a, ys, rfl, sqT_mono hf d, fun z => ?_, fun _ p hp => q _ _ (.tup hp (l.cut lo hi))⟩
    have : cutV ys lo hi = ys := by
      unfold cutV
      rw [z.1, z.2]
      simp
    refine q _ _ (.frz (.tup d ?_))
    have := l.cut lo hi
    rw [‹cutV ys lo hi = ys›] at this
    exact this
  · cases e
end
end BV
/-! Expressions: the parts. -/
namespace BV
open PySem PySem.Spec PyProof.Rows L2
def spOf (K : Frag) (fn : List R → Option (R × Slots)) : Sp := fun xs H Q _ => ∃ Hf F rs r fin, Rel K Hf F (rs.map some) (xs.map some) H ∧ fn rs = some (r, fin) ∧
  ∀ x H' Hf' F', Gives K Hf F H fin (xs.map some) (.own r.1, r.2) x Hf' F' H' → Q x H'
structure CallFact (D : Den) (n : Nat) (X : Cx) (sh : CallSh) : Prop where
  ex : ∃ (fa : Addr) (fd : FuncData) (ps : List Str) (ds : List Value) (dvs : List V), X.mg sh.x = some (.ref fa) ∧ PySem.W.keepIn X.K (.ref fa) = true ∧
    FnG X.prog X.w X.K X.mg X.base n fa fd ps (spOf X.K (D.fn sh.f)) ∧ Vals dvs ds ∧ RepL X.K (fun _ => none) sh.dv dvs ∧
    ∀ (s : Shared) (us ws : List Value), X.K.In s.heap → us.length = sh.n → ws.length = sh.ks.length → ∃ zs, arrange us ws ds sh.ar = some zs ∧ BindsTo s fd ⟨us, sh.ks.zip ws⟩ (ps.zip zs)
/-- the entries of a table of the module -/
inductive TabL (K : Frag) : List (Str × Val) → List DictEntry → Prop
  | nil : TabL K [] []
  | cons {k : Str} {t : Tok} {v : Val} {y : V} {e : DictEntry} {r : List (Str × Val)} {es : List DictEntry} : e.key = .str k t → RelV y e.val → Rep K (fun _ => none) v y → TabL K r es → TabL K ((k, v) :: r) (e :: es)
def TabAt (K : Frag) (w : World) (mg : Str → Option Value) (x : Str) (kvs : List (Str × Val)) : Prop := ∃ (d : Addr) (es : Array DictEntry) (n : Nat), mg x = some (.ref d) ∧ KDict K w d es n ∧ TabL K kvs es.toList ∧ (kvs.map (·.1)).Nodup ∧ kvs.length ≤ 1000
/-- what is known where a def's body, or a comprehension's block, runs -/
structure Ctx (free : List Str) (D : Den) (n : Nat) (N : List Str) (sc : Scope) (X : Cx) : Prop where
  hN : X.N = N
  nd : N.Nodup
  sc : X.env.scope = sc
  calm : X.calm = true
  xe : X.xe = fun _ _ => False
  gu : X.A.guards = some []
  room : Room n X.A
  con : ∀ x v, D.const x = some v → ∃ u y, X.mg x = some u ∧ RelV y u ∧ Rep X.K (fun _ => none) v y
  fre : ∀ x ∈ free, X.mg x = none
  cal : ∀ (c : Nat) (sh : CallSh), D.calls[c]? = some sh → CallFact D n X sh
  tab : ∀ x kvs, D.tab x = some kvs → TabAt X.K X.w X.mg x kvs
def visB (sc : Scope) (x : Str) : Bool := match sc.names.lookup x with
  | some .local => true | some .cell => true | some .free => true | _ => false
theorem visB_ok {sc : Scope} {x : Str} (h : visB sc x = true) : Vis sc x := by
  unfold visB at h
  split at h
  · exact .inl (by assumption)
  · exact .inr (.inl (by assumption))
  · exact .inr (.inr (by assumption))
  · cases h
def locB (sc : Scope) (x : Str) : Bool := match sc.names.lookup x with
  | some .local => true | some .cell => true | _ => false
theorem locB_ok {sc : Scope} {x : Str} (h : locB sc x = true) : Loc sc x := by
  unfold locB at h
  split at h
  · exact .inl (by assumption)
  · exact .inr (by assumption)
  · cases h
def glB (sc : Scope) (x : Str) : Bool := match sc.names.lookup x with
  | some .globalImplicit => true | _ => false
theorem glB_ok {sc : Scope} {x : Str} (h : glB sc x = true) : sc.names.lookup x = some .globalImplicit := by
  unfold glB at h
  split at h
  · assumption
  · cases h
/-- no name that Python treats apart -/
def okName (x : Str) : Bool := !(x == ("__debug__" : Str)) && !(x == ("__classdict__" : Str)) && !(x == ("__name__" : Str))
theorem okName_ok {x : Str} (h : okName x = true) : (x == ("__debug__" : Str)) = false ∧ (x == ("__classdict__" : Str)) = false ∧ x ≠ "__name__" := by
  unfold okName at h
  simp only [Bool.and_eq_true, Bool.not_eq_true'] at h
  exact ⟨h.1.1, h.1.2, fun e => by rw [e] at h; simp at h⟩

theorem peBy {X : Cx} {e : Expr} {t t' : TE} (h : PE X e t) (w : ∀ σ H Q, t' σ H Q → t σ H Q) : PE X e t' := ⟨fun pins s σ H Q I q => h.run pins s σ H Q I (w σ H Q q)⟩
theorem paBy {X : Cx} {e : List Expr} {t t' : TA} (h : PA X e t) (w : ∀ σ H Q, t' σ H Q → t σ H Q) : PA X e t' := ⟨fun pos pins s σ H Q I q => h.run pos pins s σ H Q I (w σ H Q q)⟩
theorem pkBy {X : Cx} {e : List Keyword} {t t' : TA} (h : PK X e t) (w : ∀ σ H Q, t' σ H Q → t σ H Q) : PK X e t' := ⟨fun pos pins s σ H Q I q => h.run pos pins s σ H Q I (w σ H Q q)⟩

def tEv (K : Frag) (D : Den) (e : CE) : TE := fun σ H Q => ∃ S Hf F r S', Rel K Hf F S σ H ∧ ev D e S = some (r, S') ∧ ∀ x H' Hf' F', Gives K Hf F H S' σ r x Hf' F' H' → (e.pure = true → HSub H H') → Q x H'
def tEvs (K : Frag) (D : Den) (es : CEs) : TA := fun σ H Q => ∃ S Hf F rs S', Rel K Hf F S σ H ∧ evs D es S = some (rs, S') ∧ ∀ xs H' Hf' F', GivesL K Hf F H S' σ rs xs Hf' F' H' → (es.pure = true → HSub H H') → Q xs H'
structure GivesO (K : Frag) (Hf : Hp) (F : List Addr) (H : Hp) (S' : Slots) (σ : L2.St) (vs : List Val) (xs : List V) (Hf' : Hp) (F' : List Addr) (H' : Hp) : Prop where
  rel : Rel K Hf' F' S' σ H'
  st : Step Hf F H Hf' F' H'
  res : RepEs K Hf' H' vs xs
def tEvo (K : Frag) (D : Den) (es : CEs) : TA := fun σ H Q => ∃ S Hf F vs S', Rel K Hf F S σ H ∧ evo D es S = some (vs, S') ∧ ∀ xs H' Hf' F', GivesO K Hf F H S' σ vs xs Hf' F' H' → (es.pure = true → HSub H H') → Q xs H'
/-- arguments: shared values, or slots -/
inductive ArgsOk (K : Frag) (Hf : Hp) (σ : L2.St) : List Arg → List V → Prop
  | nil : ArgsOk K Hf σ [] []
  | val {v : Val} {x : V} {as : List Arg} {xs : List V} : Rep K Hf v x → ArgsOk K Hf σ as xs → ArgsOk K Hf σ (.val v :: as) (x :: xs)
  | byRef {i : Nat} {x : V} {as : List Arg} {xs : List V} : σ[i]? = some (some x) → ArgsOk K Hf σ as xs → ArgsOk K Hf σ (.byRef i :: as) (x :: xs)
structure GivesA (K : Frag) (Hf : Hp) (F : List Addr) (H : Hp) (S' : Slots) (σ : L2.St) (as : List Arg) (xs : List V) (Hf' : Hp) (F' : List Addr) (H' : Hp) : Prop where
  rel : Rel K Hf' F' S' σ H'
  st : Step Hf F H Hf' F' H'
  res : ArgsOk K Hf' σ as xs
def tEva (K : Frag) (D : Den) (es : CEs) : TA := fun σ H Q => ∃ S Hf F as S', Rel K Hf F S σ H ∧ eva D es S = some (as, S') ∧ ∀ xs H' Hf' F', GivesA K Hf F H S' σ as xs Hf' F' H' → (es.pure = true → HSub H H') → Q xs H'
def tEvk (K : Frag) (D : Den) (es : CKs) : TA := fun σ H Q => ∃ S Hf F as S', Rel K Hf F S σ H ∧ evk D es S = some (as, S') ∧ ∀ xs H' Hf' F', GivesA K Hf F H S' σ as xs Hf' F' H' → (es.pure = true → HSub H H') → Q xs H'
section
variable {K : Frag} {Hf Hf1 Hf2 H H1 H2 : Hp} {F : List Addr} {S : Slots} {σ : L2.St}
theorem carry {m : Mode} {v : Val} {x : V} {b : Bool} (h : RepE K Hf1 H1 v x) (hf : ∀ d, m = .own d → Rep K Hf1 v x) (l : m.lets b = true) (p : b = true → HSub H1 H2) (s : HSub Hf1 Hf2) (s2 : HSub Hf2 H2) : RepE K Hf2 H2 v x := by
  cases m with
  | own d => exact .of ((hf d rfl).mono s) s2
  | bor => exact h.mono s (p l)
theorem set_same {i : Nat} {x : Option V} (h : σ[i]? = some x) : σ.set i x = σ := by
  apply List.ext_getElem?
  intro j
  rw [List.getElem?_set]
  split
  · rename_i e; subst e
    split
    · exact h.symm
    · rename_i hl; rw [List.getElem?_eq_none (by omega)]
  · rfl
theorem lt_of_get {α : Type} {l : List α} {i : Nat} {x : α} (h : l[i]? = some x) : i < l.length := (List.getElem?_eq_some_iff.mp h).1
/-- a slot's thing becomes everyone's -/
theorem Rel.share {i d : Nat} {v : Val} (r : Rel K Hf F S σ H) (h : S[i]? = some (some (d, v))) :
    ∃ x Hf' F', σ[i]? = some (some x) ∧ Rel K Hf' F' (S.set i (some (0, v))) σ H ∧ Step Hf F H Hf' F' H ∧ Rep K Hf' v x := by
  obtain ⟨x, G, F0, e1, ow, rel, nd, iff, off⟩ := r.take h
  have s1 := frzH_sub (H := H) off
  have s2 := frzH_le (G := G) rel.sub
  have dis : ∀ a ∈ F0, a ∉ G := fun a ha hg => (List.nodup_append.mp nd).2.2 a ha a hg rfl
  have rep := ow.freeze off
  have rel' : Rel K (frzH Hf H G) F0 (S.set i Option.none) σ H := rel.grow s1 s2 fun a ha => by rw [frzH_out (dis a ha)]; exact rel.off a ha
  obtain ⟨F', rel2, sub⟩ := rel'.put (i := i) (d := 0) (v := v) (x := x) (G := []) (by rw [List.length_set]; exact lt_of_get h) (.frz (.inl rfl) rep) (by simpa using rel'.nd) (fun a ha => by cases ha)
  rw [List.set_set, set_same e1] at rel2
  refine ⟨x, frzH Hf H G, F', e1, rel2, ⟨s1, fun a o e _ => e, fun a o e n => ?_, fun a ha => ?_⟩, rep⟩
  · rw [frzH_out fun hg => n ((iff a).mpr (.inr hg))]
  · rcases sub a ha with z | z
    · exact .inl ((iff a).mpr (.inl z))
    · cases z
theorem OwnL.inner {d : Nat} : ∀ {xs : List Val} {ys : List V} {G : List Addr}, OwnL K Hf H d xs ys G → (d = 0 ∨ xs.all Val.flat = true) → RepL K Hf xs ys
  | _, _, _, .nil, _ => .nil
  | _, _, _, .cons h r, e => by
    have e1 : d = 0 ∨ _ := e
    have hd : ∀ {v : Val} {x : V} {G : List Addr}, Own K Hf H d v x G → (d = 0 ∨ v.flat = true) → Rep K Hf v x := by
      intro v x G h e
      cases h with
      | frz _ r => exact r
      | lst _ _ => rcases e with e | e <;> cases e
      | dic _ _ => rcases e with e | e <;> cases e
    rw [List.all_cons, Bool.and_eq_true] at e
    exact .cons (hd h (e.imp id And.left)) (OwnL.inner r (e.imp id And.right))
theorem OwnK.inner {d : Nat} : ∀ {xs : List (Key × Val)} {ys : List (Key × V)} {G : List Addr}, OwnK K Hf H d xs ys G → (d = 0 ∨ (xs.all fun q => q.2.flat) = true) → RepK K Hf xs ys
  | _, _, _, .nil, _ => .nil
  | _, _, _, .cons h r, e => by
    have hd : ∀ {v : Val} {x : V} {G : List Addr}, Own K Hf H d v x G → (d = 0 ∨ v.flat = true) → Rep K Hf v x := by
      intro v x G h e
      cases h with
      | frz _ r => exact r
      | lst _ _ => rcases e with e | e <;> cases e
      | dic _ _ => rcases e with e | e <;> cases e
    rw [List.all_cons, Bool.and_eq_true] at e
    exact .cons (hd h (e.imp id And.left)) (OwnK.inner r (e.imp id And.right))
theorem Own.repE {d : Nat} {v : Val} {x : V} {G : List Addr} (h : Own K Hf H d v x G) (hs : HSub Hf H) (e : (decide (d ≤ 1) || v.inner) = true) : RepE K Hf H v x := by
  cases h with
  | frz _ r => exact .of r hs
  | lst h r =>
    rw [Bool.or_eq_true] at e
    exact .lst (.inl (.inl h)) (r.inner (e.imp (fun z => by have := of_decide_eq_true z; omega) id))
  | dic h r =>
    rw [Bool.or_eq_true] at e
    exact .dic h (r.inner (e.imp (fun z => by have := of_decide_eq_true z; omega) id))
theorem OwnL.get {d : Nat} : ∀ {xs : List Val} {ys : List V} {G : List Addr} {i : Nat} {v : Val}, OwnL K Hf H d xs ys G → xs[i]? = some v → ∃ y G', ys[i]? = some y ∧ Own K Hf H d v y G' ∧ ∀ a ∈ G', a ∈ G
  | _, _, _, _, _, .nil, e => by simp at e
  | _, _, _, 0, _, .cons h _, e => by simp at e; subst e; exact ⟨_, _, rfl, h, fun a ha => List.mem_append_left _ ha⟩
  | _, _, _, i + 1, v, .cons _ t, e => by
    obtain ⟨u, G', h1, h2, h3⟩ := OwnL.get (i := i) (v := v) t (by simpa using e)
    exact ⟨u, G', by simpa using h1, h2, fun a ha => List.mem_append_right _ (h3 a ha)⟩
theorem OwnL.length {d : Nat} : ∀ {xs : List Val} {ys : List V} {G : List Addr}, OwnL K Hf H d xs ys G → ys.length = xs.length
  | _, _, _, .nil => rfl
  | _, _, _, .cons _ r => congrArg Nat.succ (OwnL.length r)
end
section
variable {free : List Str} {D : Den} {n : Nat} {N : List Str} {sc : Scope} {X : Cx}
theorem Ctx.units (c : Ctx free D n N sc X) : X.A.units + 80 < cLine := by have := c.room.un; omega
theorem s_cst {c : Const} {k : Nat} {p : Pos} : PE X (CE.cst c k p).py (tEv X.K D (.cst c k p)) := by
  have go : ∀ {v : Val} {x : V}, (∀ Hf, Rep X.K Hf v x) → cstV c = some v → PE X (.Constant c k p) (tC x) → PE X (CE.cst c k p).py (tEv X.K D (.cst c k p)) := by
    intro v x hr e h
    refine peBy h fun σ H Q ⟨S, Hf, F, r, S', rel, he, q⟩ => ?_
    unfold ev at he
    rw [e] at he
    obtain ⟨rfl, rfl⟩ := Prod.mk.inj (Option.some.inj he)
    exact q x H Hf F (.frz rel (Step.refl _ _ _) (hr Hf) (.inl rfl)) fun _ => HSub.refl _
  cases c with
  | none => exact go (fun _ => .non) rfl pe_non
  | bool b => exact go (fun _ => .bl b) rfl pe_bl
  | int b => exact go (fun _ => .int b) rfl pe_int
  | str b => exact go (fun _ => .str b) rfl pe_str
  | _ =>
    refine ⟨fun pins s σ H Q I h => ?_⟩
    obtain ⟨S, Hf, F, r, S', rel, he, q⟩ := h
    cases he
theorem s_var (c : Ctx free D n N sc X) {i : Nat} {x : Str} {p : Pos} (hi : N[i]? = some x) (hv : visB sc x = true) (ok : okName x = true) : PE X (CE.var i x p).py (tEv X.K D (.var i x p)) := by
  refine peBy (pe_var (i := i) (by rw [c.hN]; exact hi) (by rw [c.sc]; exact visB_ok hv) (okName_ok ok).1 (okName_ok ok).2.1) fun σ H Q ⟨S, Hf, F, r, S', rel, he, q⟩ => ?_
  unfold ev at he
  split at he
  · rename_i d v e
    obtain ⟨rfl, rfl⟩ := Prod.mk.inj (Option.some.inj he)
    obtain ⟨y, Hf', F', e1, rel', st, rep⟩ := rel.share e
    exact ⟨y, e1, q y H Hf' F' (.frz rel' st rep (.inl rfl)) fun _ => HSub.refl _⟩
  · cases he
theorem s_brw (c : Ctx free D n N sc X) {i : Nat} {x : Str} {p : Pos} (hi : N[i]? = some x) (hv : visB sc x = true) (ok : okName x = true) : PE X (CE.brw i x p).py (tEv X.K D (.brw i x p)) := by
  refine peBy (pe_var (i := i) (by rw [c.hN]; exact hi) (by rw [c.sc]; exact visB_ok hv) (okName_ok ok).1 (okName_ok ok).2.1) fun σ H Q ⟨S, Hf, F, r, S', rel, he, q⟩ => ?_
  unfold ev at he
  split at he
  · rename_i d v e
    cases fl : v.flat with
    | true =>
      rw [fl] at he
      obtain ⟨rfl, rfl⟩ := Prod.mk.inj (Option.some.inj he)
      obtain ⟨y, G, e1, ow, sub⟩ := rel.get e
      obtain ⟨rfl, ow0⟩ := ow.flat (d' := 0) fl
      have rep : Rep X.K Hf v y := by cases ow0 with | frz _ r => exact r
      exact ⟨y, e1, q y H Hf F (.frz rel (Step.refl _ _ _) rep (.inl rfl)) fun _ => HSub.refl _⟩
    | false =>
      rw [fl] at he
      cases g : (decide (d ≤ 1) || v.inner) with
      | true =>
        rw [g] at he
        obtain ⟨rfl, rfl⟩ := Prod.mk.inj (Option.some.inj he)
        obtain ⟨y, G, e1, ow, sub⟩ := rel.get e
        exact ⟨y, e1, q y H Hf F ⟨rel, Step.refl _ _ _, ow.repE rel.sub g⟩ fun _ => HSub.refl _⟩
      | false =>
        rw [g] at he
        obtain ⟨rfl, rfl⟩ := Prod.mk.inj (Option.some.inj he)
        obtain ⟨y, Hf', F', e1, rel', st, rep⟩ := rel.share e
        exact ⟨y, e1, q y H Hf' F' (.frz rel' st rep (.inl rfl)) fun _ => HSub.refl _⟩
  · cases he
theorem s_mov (c : Ctx free D n N sc X) {i : Nat} {x : Str} {p : Pos} (hi : N[i]? = some x) (hv : visB sc x = true) (ok : okName x = true) : PE X (CE.mov i x p).py (tEv X.K D (.mov i x p)) := by
  refine peBy (pe_var (i := i) (by rw [c.hN]; exact hi) (by rw [c.sc]; exact visB_ok hv) (okName_ok ok).1 (okName_ok ok).2.1) fun σ H Q ⟨S, Hf, F, r, S', rel, he, q⟩ => ?_
  unfold ev at he
  split at he
  · rename_i d v e
    obtain ⟨rfl, rfl⟩ := Prod.mk.inj (Option.some.inj he)
    obtain ⟨y, G, F0, e1, ow, rel', nd, iff, off⟩ := rel.take e
    refine ⟨y, e1, q y H Hf F0 ⟨rel', ⟨HSub.refl _, fun _ _ e _ => e, fun _ _ _ _ => rfl, fun a ha => .inl ((iff a).mpr (.inl ha))⟩, G, ow, nd, off, fun a ha => .inl ((iff a).mpr (.inr ha))⟩ fun _ => HSub.refl _⟩
  · cases he
theorem s_glb (c : Ctx free D n N sc X) {x : Str} {p : Pos} (hg : glB sc x = true) (ok : okName x = true) : PE X (CE.glb x p).py (tEv X.K D (.glb x p)) := by
  refine ⟨fun pins s σ H Q I h => ?_⟩
  obtain ⟨S, Hf, F, r, S', rel, he, q⟩ := h
  unfold ev at he
  rw [Option.map_eq_some_iff] at he
  obtain ⟨v, e, he⟩ := he
  obtain ⟨rfl, rfl⟩ := Prod.mk.inj he
  obtain ⟨u, y, hm, ry, rep⟩ := c.con x v e
  refine (pe_glob (v := y) (show X.env.scope.names.lookup x = _ by rw [c.sc]; exact glB_ok hg) hm ry (okName_ok ok).1).run pins s σ H Q I ?_
  exact q y H Hf F (.frz rel (Step.refl _ _ _) (rep.mono fun a o e => by cases e) (.inl rfl)) fun _ => HSub.refl _
/-! ### lists of expressions -/
theorem pa_nilT : PA X [] (tEvs X.K D .nil) := by
  refine paBy pa_nil fun σ H Q ⟨S, Hf, F, rs, S', rel, he, q⟩ => ?_
  unfold evs at he
  obtain ⟨rfl, rfl⟩ := Prod.mk.inj (Option.some.inj he)
  exact q [] H Hf F ⟨rel, Step.refl _ _ _, [], .nil, by simpa using rel.nd, fun a h => (by cases h), fun a h => (by cases h)⟩ fun _ => HSub.refl _
theorem GivesL.cons {K : Frag} {Hf Hf1 Hf2 H H1 H2 : Hp} {F F1 F2 : List Addr} {S1 S2 : Slots} {σ : L2.St} {d : Nat} {v : Val} {x : V} {rs : List R} {xs : List V}
    (a : Gives K Hf F H S1 σ (.own d, v) x Hf1 F1 H1) (b : GivesL K Hf1 F1 H1 S2 σ rs xs Hf2 F2 H2) : GivesL K Hf F H S2 σ ((d, v) :: rs) (x :: xs) Hf2 F2 H2 := by
  obtain ⟨rel1, st1, G, ow, nd, off, fr⟩ := a
  obtain ⟨rel2, st2, G2, ow2, nd2, off2, fr2⟩ := b
  have dis : ∀ a ∈ G, a ∉ F1 := fun a ha hf => (List.nodup_append.mp nd).2.2 a hf a ha rfl
  obtain ⟨ow', dis', off'⟩ := ow.held st2 dis off
  refine ⟨rel2, st1.trans st2, G ++ G2, .cons ow' ow2, ?_, fun a ha => ?_, fun a ha => ?_⟩
  · have g2 : ∀ a ∈ G, a ∉ G2 := fun a ha h2 => by
      rcases fr2 a h2 with z | z
      · exact dis a ha z
      · obtain ⟨o, e⟩ := ow.dom a ha
        rw [e] at z; cases z
    simp only [List.nodup_append, List.mem_append] at nd nd2 ⊢
    grind
  · rcases List.mem_append.mp ha with z | z
    · exact off' a z
    · exact off2 a z
  · rcases List.mem_append.mp ha with z | z
    · exact fr a z
    · rcases fr2 a z with y | y
      · exact st1.own a y
      · exact st1.fresh y
theorem star_cons (e : CE) (es : List Expr) (env : Env) : starEach (e.py :: es) env = (false, eval e.py env) :: starEach es env := by cases e <;> first | rfl | (rename_i P; cases P <;> rfl)
theorem pa_consT {e : CE} {es : CEs} (h1 : PE X e.py (tEv X.K D e)) (h2 : PA X es.py (tEvs X.K D es)) : PA X (CEs.cons e es).py (tEvs X.K D (.cons e es)) := by
  refine paBy (pa_cons h1 h2 (star_cons e _ _)) fun σ H Q ⟨S, Hf, F, rs, S', rel, he, q⟩ => ?_
  unfold evs at he
  rw [Option.bind_eq_some_iff] at he
  obtain ⟨⟨⟨m, v⟩, S1⟩, e1, he⟩ := he
  cases m with
  | bor => cases he
  | own d =>
    simp only [Option.map_eq_some_iff] at he
    obtain ⟨⟨rs', S2⟩, e2, he⟩ := he
    obtain ⟨rfl, rfl⟩ := Prod.mk.inj he
    refine ⟨S, Hf, F, _, S1, rel, e1, fun x H1 Hf1 F1 g1 p1 => ?_⟩
    refine ⟨S1, Hf1, F1, rs', S2, g1.rel, e2, fun xs H2 Hf2 F2 g2 p2 => q _ _ _ _ (GivesL.cons g1 g2) fun hp => ?_⟩
    unfold CEs.pure at hp
    rw [Bool.and_eq_true] at hp
    exact (p1 hp.1).trans (p2 hp.2)
theorem pa_nilO : PA X [] (tEvo X.K D .nil) := by
  refine paBy pa_nil fun σ H Q ⟨S, Hf, F, rs, S', rel, he, q⟩ => ?_
  unfold evo at he
  obtain ⟨rfl, rfl⟩ := Prod.mk.inj (Option.some.inj he)
  exact q [] H Hf F ⟨rel, Step.refl _ _ _, .nil⟩ fun _ => HSub.refl _
theorem pa_consO {e : CE} {es : CEs} (h1 : PE X e.py (tEv X.K D e)) (h2 : PA X es.py (tEvo X.K D es)) : PA X (CEs.cons e es).py (tEvo X.K D (.cons e es)) := by
  refine paBy (pa_cons h1 h2 (star_cons e _ _)) fun σ H Q ⟨S, Hf, F, rs, S', rel, he, q⟩ => ?_
  unfold evo at he
  rw [Option.bind_eq_some_iff] at he
  obtain ⟨⟨⟨m, v⟩, S1⟩, e1, he⟩ := he
  rw [gd_some] at he
  obtain ⟨l, he⟩ := he
  rw [Option.map_eq_some_iff] at he
  obtain ⟨⟨vs', S2⟩, e2, he⟩ := he
  obtain ⟨rfl, rfl⟩ := Prod.mk.inj he
  refine ⟨S, Hf, F, _, S1, rel, e1, fun x H1 Hf1 F1 g1 p1 => ?_⟩
  obtain ⟨Hf1', s1, rel1, st1, re1, rf1⟩ := g1.opd
  refine ⟨S1, Hf1', F1, vs', S2, rel1, e2, fun xs H2 Hf2 F2 g2 p2 => q _ _ Hf2 F2 ⟨g2.rel, st1.trans g2.st, .cons (carry re1 rf1 l p2 g2.st.hf g2.rel.sub) g2.res⟩ fun hp => ?_⟩
  unfold CEs.pure at hp
  rw [Bool.and_eq_true] at hp
  exact (p1 hp.1).trans (p2 hp.2)

theorem ArgsOk.mono {K : Frag} {Hf Hf' : Hp} {σ : L2.St} (s : HSub Hf Hf') : ∀ {as : List Arg} {xs : List V}, ArgsOk K Hf σ as xs → ArgsOk K Hf' σ as xs
  | _, _, .nil => .nil
  | _, _, .val h r => .val (h.mono s) (ArgsOk.mono s r)
  | _, _, .byRef h r => .byRef h (ArgsOk.mono s r)
theorem pa_nilA : PA X [] (tEva X.K D .nil) := by
  refine paBy pa_nil fun σ H Q ⟨S, Hf, F, rs, S', rel, he, q⟩ => ?_
  unfold eva at he
  obtain ⟨rfl, rfl⟩ := Prod.mk.inj (Option.some.inj he)
  exact q [] H Hf F ⟨rel, Step.refl _ _ _, .nil⟩ fun _ => HSub.refl _
theorem pa_consA {e : CE} {es : CEs} (hne : ∀ i x p, e ≠ .ref i x p) (h1 : PE X e.py (tEv X.K D e)) (h2 : PA X es.py (tEva X.K D es)) : PA X (CEs.cons e es).py (tEva X.K D (.cons e es)) := by
  refine paBy (pa_cons h1 h2 (star_cons e _ _)) fun σ H Q ⟨S, Hf, F, rs, S', rel, he, q⟩ => ?_
  have he' : ((ev D e S).bind fun q => match q.1.1 with
    | .own _ => (eva D es q.2).map fun t => (Arg.val q.1.2 :: t.1, t.2)
    | .bor => none) = some (rs, S') := by
    cases e <;> first | exact he | exact absurd rfl (hne _ _ _)
  rw [Option.bind_eq_some_iff] at he'
  obtain ⟨⟨⟨m, v⟩, S1⟩, e1, he'⟩ := he'
  cases m with
  | bor => cases he'
  | own d =>
    simp only [Option.map_eq_some_iff] at he'
    obtain ⟨⟨vs', S2⟩, e2, he'⟩ := he'
    obtain ⟨rfl, rfl⟩ := Prod.mk.inj he'
    refine ⟨S, Hf, F, _, S1, rel, e1, fun x H1 Hf1 F1 g1 p1 => ?_⟩
    obtain ⟨Hf1', s1, rel1, st1, re1, rf1⟩ := g1.opd
    refine ⟨S1, Hf1', F1, vs', S2, rel1, e2, fun xs H2 Hf2 F2 g2 p2 => q _ _ Hf2 F2 ⟨g2.rel, st1.trans g2.st, .val ((rf1 d rfl).mono g2.st.hf) g2.res⟩ fun hp => ?_⟩
    unfold CEs.pure at hp
    rw [Bool.and_eq_true] at hp
    exact (p1 hp.1).trans (p2 hp.2)
theorem pa_refA (c : Ctx free D n N sc X) {i : Nat} {x : Str} {p : Pos} {es : CEs} (hi : N[i]? = some x) (hv : visB sc x = true) (ok : okName x = true) (h2 : PA X es.py (tEva X.K D es)) : PA X (CEs.cons (.ref i x p) es).py (tEva X.K D (.cons (.ref i x p) es)) := by
  have h1 : PE X (CE.ref i x p).py (tVar i) := pe_var (i := i) (by rw [c.hN]; exact hi) (by rw [c.sc]; exact visB_ok hv) (okName_ok ok).1 (okName_ok ok).2.1
  refine paBy (pa_cons h1 h2 (star_cons (.ref i x p) _ _)) fun σ H Q ⟨S, Hf, F, rs, S', rel, he, q⟩ => ?_
  unfold eva at he
  split at he
  · rename_i r e
    rw [Option.map_eq_some_iff] at he
    obtain ⟨⟨vs', S2⟩, e2, he⟩ := he
    obtain ⟨rfl, rfl⟩ := Prod.mk.inj he
    obtain ⟨y, G, hy, _⟩ := rel.get (d := r.1) (v := r.2) e
    refine ⟨y, hy, S, Hf, F, vs', S2, rel, e2, fun xs H2 Hf2 F2 g2 p2 => q _ _ Hf2 F2 ⟨g2.rel, g2.st, .byRef hy g2.res⟩ fun hp => ?_⟩
    unfold CEs.pure CE.pure at hp
    cases hp
  · cases he
theorem pk_nilA : PK X [] (tEvk X.K D .nil) := by
  refine pkBy pk_nil fun σ H Q ⟨S, Hf, F, rs, S', rel, he, q⟩ => ?_
  unfold evk at he
  obtain ⟨rfl, rfl⟩ := Prod.mk.inj (Option.some.inj he)
  exact q [] H Hf F ⟨rel, Step.refl _ _ _, .nil⟩ fun _ => HSub.refl _
theorem pk_consA {x : Str} {p : Pos} {e : CE} {es : CKs} (h1 : PE X e.py (tEv X.K D e)) (h2 : PK X es.py (tEvk X.K D es)) : PK X (CKs.cons x e p es).py (tEvk X.K D (.cons x e p es)) := by
  refine pkBy (pk_cons (nm := some x) (kpos := p) h1 h2) fun σ H Q ⟨S, Hf, F, rs, S', rel, he, q⟩ => ?_
  unfold evk at he
  rw [Option.bind_eq_some_iff] at he
  obtain ⟨⟨⟨m, v⟩, S1⟩, e1, he⟩ := he
  cases m with
  | bor => cases he
  | own d =>
    simp only [Option.map_eq_some_iff] at he
    obtain ⟨⟨vs', S2⟩, e2, he⟩ := he
    obtain ⟨rfl, rfl⟩ := Prod.mk.inj he
    refine ⟨S, Hf, F, _, S1, rel, e1, fun x H1 Hf1 F1 g1 p1 => ?_⟩
    obtain ⟨Hf1', s1, rel1, st1, re1, rf1⟩ := g1.opd
    refine ⟨S1, Hf1', F1, vs', S2, rel1, e2, fun xs H2 Hf2 F2 g2 p2 => q _ _ Hf2 F2 ⟨g2.rel, st1.trans g2.st, .val ((rf1 d rfl).mono g2.st.hf) g2.res⟩ fun hp => ?_⟩
    unfold CKs.pure at hp
    rw [Bool.and_eq_true] at hp
    exact (p1 hp.1).trans (p2 hp.2)
/-! ### displays, operators -/
theorem s_tup {es : CEs} {k : Nat} {p : Pos} (h : PA X es.py (tEvs X.K D es)) : PE X (CE.tup es k p).py (tEv X.K D (.tup es k p)) := by
  refine peBy (pe_tup h) fun σ H Q ⟨S, Hf, F, r, S', rel, he, q⟩ => ?_
  unfold ev at he
  rw [Option.bind_eq_some_iff] at he
  obtain ⟨⟨rs, S1⟩, e1, he⟩ := he
  rw [gd_some] at he
  obtain ⟨l, he⟩ := he
  obtain ⟨rfl, rfl⟩ := Prod.mk.inj (Option.some.inj he)
  refine ⟨S, Hf, F, rs, S1, rel, e1, fun xs H1 Hf1 F1 g p1 => ?_⟩
  obtain ⟨Hf1', s1, rel1, st1, rl⟩ := g.frz
  refine ⟨by rw [rl.length, List.length_map]; exact of_decide_eq_true l, fun a ha => q _ _ _ _ (.newT rel1 st1 ha rl) fun hp => ?_⟩
  unfold CE.pure at hp
  exact (p1 hp).trans (HSub.upd ha)
theorem s_lst {es : CEs} {p : Pos} (h : PA X es.py (tEvs X.K D es)) : PE X (CE.lst es p).py (tEv X.K D (.lst es p)) := by
  refine peBy (pe_lst h) fun σ H Q ⟨S, Hf, F, r, S', rel, he, q⟩ => ?_
  unfold ev at he
  rw [Option.bind_eq_some_iff] at he
  obtain ⟨⟨rs, S1⟩, e1, he⟩ := he
  rw [gd_some] at he
  obtain ⟨l, he⟩ := he
  obtain ⟨rfl, rfl⟩ := Prod.mk.inj (Option.some.inj he)
  refine ⟨S, Hf, F, rs, S1, rel, e1, fun xs H1 Hf1 F1 g p1 => ?_⟩
  have hl : xs.length = rs.length := by obtain ⟨_, _, G, ow, _⟩ := g; exact ow.length
  refine ⟨by rw [hl]; exact of_decide_eq_true l, fun a ha => ?_⟩
  obtain ⟨Hf2, g2⟩ := g.newL ha
  refine q _ _ _ _ g2 fun hp => ?_
  unfold CE.pure at hp
  exact (p1 hp).trans (HSub.upd ha)
/-- two operands, then what is done with them -/
theorem two {a b : CE} {K : Frag} {σ : L2.St} {H : Hp} {S S1 S2 : Slots} {Hf : Hp} {F : List Addr} {q : Res} {t : Res} (rel : Rel K Hf F S σ H) (e1 : ev D a S = some (q, S1)) (l : q.1.lets b.pure = true) (e2 : ev D b S1 = some (t, S2))
    {Rr : V → V → Hp → Prop} (h : ∀ x y H2 Hf2 F2, Rel K Hf2 F2 S2 σ H2 → Step Hf F H Hf2 F2 H2 → RepE K Hf2 H2 q.2 x → RepE K Hf2 H2 t.2 y → (∀ d, t.1 = .own d → Rep K Hf2 t.2 y) → ((a.pure && b.pure) = true → HSub H H2) → Rr x y H2) :
    tEv K D a σ H fun x H1 => tEv K D b σ H1 fun y H2 => Rr x y H2 := by
  refine ⟨S, Hf, F, q, S1, rel, e1, fun x H1 Hf1 F1 g1 p1 => ?_⟩
  obtain ⟨Hf1', s1, rel1, st1, re1, rf1⟩ := g1.opd
  refine ⟨S1, Hf1', F1, t, S2, rel1, e2, fun y H2 Hf2 F2 g2 p2 => ?_⟩
  obtain ⟨Hf2', s2, rel2, st2, re2, rf2⟩ := g2.opd
  refine h x y H2 Hf2' F2 rel2 (st1.trans st2) (carry re1 rf1 l p2 st2.hf rel2.sub) re2 rf2 fun hp => ?_
  rw [Bool.and_eq_true] at hp
  exact (p1 hp.1).trans (p2 hp.2)
theorem s_bin {op : Operator} {a b : CE} {p : Pos} (ha : PE X a.py (tEv X.K D a)) (hb : PE X b.py (tEv X.K D b)) : PE X (CE.bin op a b p).py (tEv X.K D (.bin op a b p)) := by
  refine peBy (pe_op (op_bin op) ha hb) fun σ H Q ⟨S, Hf, F, r, S', rel, he, q⟩ => ?_
  unfold ev at he
  rw [Option.bind_eq_some_iff] at he
  obtain ⟨⟨w, S1⟩, e1, he⟩ := he
  rw [gd_some] at he
  obtain ⟨l, he⟩ := he
  rw [Option.bind_eq_some_iff] at he
  obtain ⟨⟨t, S2⟩, e2, he⟩ := he
  rw [Option.map_eq_some_iff] at he
  obtain ⟨z, e3, he⟩ := he
  obtain ⟨rfl, rfl⟩ := Prod.mk.inj he
  refine two rel e1 l e2 fun x y H2 Hf2 F2 rel2 st2 rx ry _ p2 => ?_
  refine ⟨_, _, Hf2, z, rel2.sub, rx, ry, e3, fun v H3 nw => ?_⟩
  obtain ⟨Hf3, g⟩ := nw.gives rel2 st2
  exact q v H3 Hf3 F2 g fun hp => (p2 (by unfold CE.pure at hp; exact hp)).trans nw.sub
theorem s_cmp (c : Ctx free D n N sc X) {op : CmpOp} {a b : CE} {p : Pos} (hm : behindInMarks op b.py = false) (ha : PE X a.py (tEv X.K D a)) (hb : PE X b.py (tEv X.K D b)) : PE X (CE.cmp op a b p).py (tEv X.K D (.cmp op a b p)) := by
  refine peBy (pe_cmpR (op_cmp op (by have := c.units; omega)) ha hb hm) fun σ H Q ⟨S, Hf, F, r, S', rel, he, q⟩ => ?_
  unfold ev at he
  rw [Option.bind_eq_some_iff] at he
  obtain ⟨⟨w, S1⟩, e1, he⟩ := he
  rw [gd_some] at he
  obtain ⟨l, he⟩ := he
  rw [Option.bind_eq_some_iff] at he
  obtain ⟨⟨t, S2⟩, e2, he⟩ := he
  rw [Option.map_eq_some_iff] at he
  obtain ⟨z, e3, he⟩ := he
  obtain ⟨rfl, rfl⟩ := Prod.mk.inj he
  refine two rel e1 l e2 fun x y H2 Hf2 F2 rel2 st2 rx ry _ p2 => ?_
  exact ⟨_, _, Hf2, z, rel2.sub, rx, ry, e3, q _ H2 Hf2 F2 (.frz rel2 st2 (.bl z) (.inl rfl)) fun hp => p2 (by unfold CE.pure at hp; exact hp)⟩
theorem s_chn (c : Ctx free D n N sc X) {op op' : CmpOp} {a b c' : CE} {p : Pos} (hm : lastMarks [op, op'] [b.py, c'.py] = false) (ha : PE X a.py (tEv X.K D a)) (hb : PE X b.py (tEv X.K D b)) (hc : PE X c'.py (tEv X.K D c')) :
    PE X (CE.chn op op' a b c' p).py (tEv X.K D (.chn op op' a b c' p)) := by
  have hu : X.A.units + 64 < cLine := by have := c.units; omega
  refine peBy (pe_chain (op_cmp op hu) (op_cmp op' hu) ha hb hc hm) fun σ H Q ⟨S, Hf, F, r, S', rel, he, q⟩ => ?_
  unfold ev at he
  rw [Option.bind_eq_some_iff] at he
  obtain ⟨⟨w, S1⟩, e1, he⟩ := he
  rw [gd_some] at he
  obtain ⟨l, he⟩ := he
  rw [Option.bind_eq_some_iff] at he
  obtain ⟨⟨t, S2⟩, e2, he⟩ := he
  rw [Option.bind_eq_some_iff] at he
  obtain ⟨z, e3, he⟩ := he
  refine two rel e1 l e2 fun x y H2 Hf2 F2 rel2 st2 rx ry rf p2 => ?_
  refine ⟨_, _, Hf2, z, rel2.sub, rx, ry, e3, z, rfl, ?_⟩
  cases z with
  | false =>
    rw [if_neg (by decide)]
    obtain ⟨rfl, rfl⟩ := Prod.mk.inj (Option.some.inj he)
    refine q _ H2 Hf2 F2 (.frz rel2 st2 (.bl false) (.inl rfl)) fun hp => p2 ?_
    unfold CE.pure at hp
    rw [Bool.and_eq_true] at hp
    exact hp.1
  | true =>
    rw [if_pos rfl]
    have he : gd (t.1.lets c'.pure) ((ev D c' S2).bind fun u => (cmpV op' t.2 u.1.2).map fun r' => (((.own 0, .bl r') : Res), u.2)) = some (r, S') := he
    rw [gd_some] at he
    obtain ⟨l2, he⟩ := he
    rw [Option.bind_eq_some_iff] at he
    obtain ⟨⟨u, S3⟩, e4, he⟩ := he
    rw [Option.map_eq_some_iff] at he
    obtain ⟨z', e5, he⟩ := he
    obtain ⟨rfl, rfl⟩ := Prod.mk.inj he
    refine ⟨S2, Hf2, F2, u, S3, rel2, e4, fun y3 H3 Hf3 F3 g3 p3 => ?_⟩
    obtain ⟨Hf3', s3, rel3, st3, re3, rf3⟩ := g3.opd
    refine ⟨_, _, Hf3', z', rel3.sub, carry ry rf l2 p3 st3.hf rel3.sub, re3, e5, q _ H3 Hf3' F3 (.frz rel3 (st2.trans st3) (.bl z') (.inl rfl)) fun hp => ?_⟩
    unfold CE.pure at hp
    rw [Bool.and_eq_true] at hp
    exact (p2 hp.1).trans (p3 hp.2)
theorem s_neg {a : CE} {p : Pos} (ha : PE X a.py (tEv X.K D a)) : PE X (CE.neg a p).py (tEv X.K D (.neg a p)) := by
  refine peBy (pe_un un_neg ha) fun σ H Q ⟨S, Hf, F, r, S', rel, he, q⟩ => ?_
  unfold ev at he
  rw [Option.bind_eq_some_iff] at he
  obtain ⟨⟨⟨m, v⟩, S1⟩, e1, he⟩ := he
  refine ⟨S, Hf, F, _, S1, rel, e1, fun x H1 Hf1 F1 g1 p1 => ?_⟩
  obtain ⟨Hf1', s1, rel1, st1, re1, rf1⟩ := g1.opd
  cases v with
  | int i =>
    obtain ⟨rfl, rfl⟩ := Prod.mk.inj (Option.some.inj he)
    obtain rfl := re1.int_
    exact ⟨i, rfl, q _ H1 Hf1' F1 (.frz rel1 st1 (.int _) (.inl rfl)) fun hp => p1 (by unfold CE.pure at hp; exact hp)⟩
  | _ => cases he
theorem s_nt {a : CE} {p : Pos} (ha : PE X a.py (tEv X.K D a)) : PE X (CE.nt a p).py (tEv X.K D (.nt a p)) := by
  refine peBy (pe_notT ha) fun σ H Q ⟨S, Hf, F, r, S', rel, he, q⟩ => ?_
  unfold ev tst at he
  rw [Option.map_eq_some_iff] at he
  obtain ⟨⟨b, S1⟩, e1, he⟩ := he
  rw [Option.bind_eq_some_iff] at e1
  obtain ⟨⟨w, S2⟩, e1, e2⟩ := e1
  rw [Option.map_eq_some_iff] at e2
  obtain ⟨b', e2, e3⟩ := e2
  obtain ⟨rfl, rfl⟩ := Prod.mk.inj e3
  obtain ⟨rfl, rfl⟩ := Prod.mk.inj he
  refine ⟨S, Hf, F, _, S2, rel, e1, fun x H1 Hf1 F1 g1 p1 => ?_⟩
  obtain ⟨Hf1', s1, rel1, st1, re1, rf1⟩ := g1.opd
  exact ⟨b', truV_ok rel1.sub re1 e2, q _ H1 Hf1' F1 (.frz rel1 st1 (.bl _) (.inl rfl)) fun hp => p1 (by unfold CE.pure at hp; exact hp)⟩
end
end BV
/-! Expressions: tests, calls, subscripts. -/
namespace BV
open PySem PySem.Spec PyProof.Rows L2
section
variable {free : List Str} {D : Den} {n : Nat} {N : List Str} {sc : Scope} {X : Cx}
/-! ### tests -/
def tEt (K : Frag) (D : Den) (o : Slots → Option (Bool × Slots)) (pu : Bool) : TT := fun σ H Q => ∃ S Hf F b S', Rel K Hf F S σ H ∧ o S = some (b, S') ∧ ∀ H' Hf' F', Rel K Hf' F' S' σ H' → Step Hf F H Hf' F' H' → (pu = true → HSub H H') → Q b H'
abbrev tTs (K : Frag) (D : Den) (e : CE) : TT := tEt K D (fun S => tst (ev D e S)) e.pure
theorem ptBy {X : Cx} {e : Expr} {t t' : TT} (h : PT X e t) (w : ∀ σ H Q, t' σ H Q → t σ H Q) : PT X e t' := ⟨fun pins s σ H Q I q => h.run pins s σ H Q I (w σ H Q q)⟩
theorem pwBy {X : Cx} {e : Expr} {t t' : TT} (h : PW X e t) (w : ∀ σ H Q, t' σ H Q → t σ H Q) : PW X e t' := ⟨fun wh pins s σ H Q I q => h.run wh pins s σ H Q I (w σ H Q q)⟩
theorem tst_some {o : Option (Res × Slots)} {b : Bool} {S : Slots} (h : tst o = some (b, S)) : ∃ r, o = some (r, S) ∧ truV r.2 = some b := by
  unfold tst at h
  rw [Option.bind_eq_some_iff] at h
  obtain ⟨⟨r, S1⟩, e1, h⟩ := h
  rw [Option.map_eq_some_iff] at h
  obtain ⟨b', e2, h⟩ := h
  obtain ⟨rfl, rfl⟩ := Prod.mk.inj h
  exact ⟨r, e1, e2⟩
/-- a test by its value's truth -/
theorem t_val {e : CE} (h : PE X e.py (tEv X.K D e)) (he : ∀ whole, isTrue e.py X.env whole = (do let v ← whole; standAt e.py.pos; holding [v] (truthy v))) : PT X e.py (tTs X.K D e) := by
  refine ptBy (pt_truth h he) fun σ H Q ⟨S, Hf, F, b, S', rel, ht, q⟩ => ?_
  obtain ⟨r, e1, e2⟩ := tst_some ht
  refine ⟨S, Hf, F, r, S', rel, e1, fun x H1 Hf1 F1 g1 p1 => ?_⟩
  obtain ⟨Hf1', s1, rel1, st1, re1, rf1⟩ := g1.opd
  exact ⟨b, truV_ok rel1.sub re1 e2, q H1 Hf1' F1 rel1 st1 p1⟩
theorem t_nt {a : CE} {p : Pos} (h : PT X a.py (tTs X.K D a)) : PT X (CE.nt a p).py (tTs X.K D (.nt a p)) := by
  refine ptBy (pt_not h) fun σ H Q ⟨S, Hf, F, b, S', rel, ht, q⟩ => ?_
  obtain ⟨r, e1, e2⟩ := tst_some ht
  unfold ev at e1
  rw [Option.map_eq_some_iff] at e1
  obtain ⟨⟨b', S1⟩, e1, e3⟩ := e1
  obtain ⟨rfl, rfl⟩ := Prod.mk.inj e3
  obtain rfl : (!b') = b := by simpa [truV] using e2
  exact ⟨S, Hf, F, b', S1, rel, e1, fun H1 Hf1 F1 rel1 st1 p1 => q H1 Hf1 F1 rel1 st1 fun hp => p1 (by unfold CE.pure at hp; exact hp)⟩
theorem t_cmp (c : Ctx free D n N sc X) {op : CmpOp} {a b : CE} {p : Pos} (hm : behindInMarks op b.py = false) (ha : PE X a.py (tEv X.K D a)) (hb : PE X b.py (tEv X.K D b)) : PT X (CE.cmp op a b p).py (tTs X.K D (.cmp op a b p)) := by
  refine ptBy (pt_cmpR (op_cmp op (by have := c.units; omega)) ha hb hm) fun σ H Q ⟨S, Hf, F, bb, S', rel, ht, q⟩ => ?_
  obtain ⟨r, he, et⟩ := tst_some ht
  unfold ev at he
  rw [Option.bind_eq_some_iff] at he
  obtain ⟨⟨w, S1⟩, e1, he⟩ := he
  rw [gd_some] at he
  obtain ⟨l, he⟩ := he
  rw [Option.bind_eq_some_iff] at he
  obtain ⟨⟨t, S2⟩, e2, he⟩ := he
  rw [Option.map_eq_some_iff] at he
  obtain ⟨z, e3, he⟩ := he
  obtain ⟨rfl, rfl⟩ := Prod.mk.inj he
  obtain rfl : z = bb := by simpa [truV] using et
  refine two rel e1 l e2 fun x y H2 Hf2 F2 rel2 st2 rx ry _ p2 => ?_
  exact ⟨_, _, Hf2, z, rel2.sub, rx, ry, e3, z, rfl, q H2 Hf2 F2 rel2 st2 fun hp => p2 (by unfold CE.pure at hp; exact hp)⟩
theorem t_chn (c : Ctx free D n N sc X) {op op' : CmpOp} {a b c' : CE} {p : Pos} (hm : lastMarks [op, op'] [b.py, c'.py] = false) (ha : PE X a.py (tEv X.K D a)) (hb : PE X b.py (tEv X.K D b)) (hc : PE X c'.py (tEv X.K D c')) :
    PT X (CE.chn op op' a b c' p).py (tTs X.K D (.chn op op' a b c' p)) := by
  have hu : X.A.units + 64 < cLine := by have := c.units; omega
  refine ptBy (pt_chain (op_cmp op hu) (op_cmp op' hu) ha hb hc hm) fun σ H Q ⟨S, Hf, F, bb, S', rel, ht, q⟩ => ?_
  obtain ⟨r, he, et⟩ := tst_some ht
  unfold ev at he
  rw [Option.bind_eq_some_iff] at he
  obtain ⟨⟨w, S1⟩, e1, he⟩ := he
  rw [gd_some] at he
  obtain ⟨l, he⟩ := he
  rw [Option.bind_eq_some_iff] at he
  obtain ⟨⟨t, S2⟩, e2, he⟩ := he
  rw [Option.bind_eq_some_iff] at he
  obtain ⟨z, e3, he⟩ := he
  refine two rel e1 l e2 fun x y H2 Hf2 F2 rel2 st2 rx ry rf p2 => ?_
  refine ⟨_, _, Hf2, z, rel2.sub, rx, ry, e3, z, rfl, ?_⟩
  cases z with
  | false =>
    rw [if_neg (by decide)]
    obtain ⟨rfl, rfl⟩ := Prod.mk.inj (Option.some.inj he)
    obtain rfl : false = bb := by simpa [truV] using et
    refine ⟨false, rfl, q H2 Hf2 F2 rel2 st2 fun hp => p2 ?_⟩
    unfold CE.pure at hp
    rw [Bool.and_eq_true] at hp
    exact hp.1
  | true =>
    rw [if_pos rfl]
    have he : gd (t.1.lets c'.pure) ((ev D c' S2).bind fun u => (cmpV op' t.2 u.1.2).map fun r' => (((.own 0, .bl r') : Res), u.2)) = some (r, S') := he
    rw [gd_some] at he
    obtain ⟨l2, he⟩ := he
    rw [Option.bind_eq_some_iff] at he
    obtain ⟨⟨u, S3⟩, e4, he⟩ := he
    rw [Option.map_eq_some_iff] at he
    obtain ⟨z', e5, he⟩ := he
    obtain ⟨rfl, rfl⟩ := Prod.mk.inj he
    obtain rfl : z' = bb := by simpa [truV] using et
    refine ⟨S2, Hf2, F2, u, S3, rel2, e4, fun y3 H3 Hf3 F3 g3 p3 => ?_⟩
    obtain ⟨Hf3', s3, rel3, st3, re3, rf3⟩ := g3.opd
    refine ⟨_, _, Hf3', z', rel3.sub, carry ry rf l2 p3 st3.hf rel3.sub, re3, e5, z', rfl, q H3 Hf3' F3 rel3 (st2.trans st3) fun hp => ?_⟩
    unfold CE.pure at hp
    rw [Bool.and_eq_true] at hp
    exact (p2 hp.1).trans (p3 hp.2)
/-- and, or as tests -/
theorem t_bop1 {o : BoolOp} {e : CE} {p : Pos} (h : PT X e.py (tTs X.K D e)) : PW X (.BoolOp o [e.py] p) (tEt X.K D (fun S => tst (evb D o (.cons e .nil) S)) (CEs.cons e .nil).pure) := by
  have w : ∀ σ H Q, tEt X.K D (fun S => tst (evb D o (.cons e .nil) S)) (CEs.cons e .nil).pure σ H Q → tTs X.K D e σ H Q := by
    rintro σ H Q ⟨S, Hf, F, b, S', rel, ht, q⟩
    refine ⟨S, Hf, F, b, S', rel, by unfold evb at ht; exact ht, fun H1 Hf1 F1 rel1 st1 p1 => q H1 Hf1 F1 rel1 st1 fun hp => p1 ?_⟩
    simpa [CEs.pure] using hp
  cases o with
  | And => exact pwBy (pw_and1 h) w
  | Or => exact pwBy (pw_or1 h) w
theorem t_bop2 {o : BoolOp} {e e2 : CE} {es : CEs} {p : Pos} (h : PT X e.py (tTs X.K D e)) (h2 : PW X (.BoolOp o (CEs.cons e2 es).py p) (tEt X.K D (fun S => tst (evb D o (.cons e2 es) S)) (CEs.cons e2 es).pure)) :
    PW X (.BoolOp o (CEs.cons e (.cons e2 es)).py p) (tEt X.K D (fun S => tst (evb D o (.cons e (.cons e2 es)) S)) (CEs.cons e (.cons e2 es)).pure) := by
  have st : ∀ S b S', tst (evb D o (.cons e (.cons e2 es)) S) = some (b, S') → ∃ b1 S1, tst (ev D e S) = some (b1, S1) ∧ ((match o with | .And => b1 | .Or => !b1) = true → tst (evb D o (.cons e2 es) S1) = some (b, S')) ∧ ((match o with | .And => b1 | .Or => !b1) = false → b = b1 ∧ S' = S1) := by
    intro S b S' ht
    obtain ⟨r, he, et⟩ := tst_some ht
    unfold evb at he
    rw [Option.bind_eq_some_iff] at he
    obtain ⟨⟨w, S1⟩, e1, he⟩ := he
    rw [Option.bind_eq_some_iff] at he
    obtain ⟨b1, e2', he⟩ := he
    refine ⟨b1, S1, by unfold tst; rw [e1]; simp [e2'], ?_, ?_⟩
    · intro hb
      cases o with
      | And =>
        have hb : b1 = true := hb
        subst hb
        have he : evb D .And (.cons e2 es) S1 = some (r, S') := he
        unfold tst; rw [he]; simp [et]
      | Or =>
        have hb : b1 = false := by simpa using hb
        subst hb
        have he : evb D .Or (.cons e2 es) S1 = some (r, S') := he
        unfold tst; rw [he]; simp [et]
    · intro hb
      cases o with
      | And =>
        have hb : b1 = false := hb
        subst hb
        have he : some (w, S1) = some (r, S') := he
        obtain ⟨rfl, rfl⟩ := Prod.mk.inj (Option.some.inj he)
        rw [e2'] at et
        exact ⟨(Option.some.inj et).symm, rfl⟩
      | Or =>
        have hb : b1 = true := by simpa using hb
        subst hb
        have he : some (w, S1) = some (r, S') := he
        obtain ⟨rfl, rfl⟩ := Prod.mk.inj (Option.some.inj he)
        rw [e2'] at et
        exact ⟨(Option.some.inj et).symm, rfl⟩
  cases o with
  | And =>
    refine pwBy (pw_and h h2) fun σ H Q ⟨S, Hf, F, b, S', rel, ht, q⟩ => ?_
    obtain ⟨b1, S1, e1, g1, g2⟩ := st S b S' ht
    refine ⟨S, Hf, F, b1, S1, rel, e1, fun H1 Hf1 F1 rel1 st1 p1 => ?_⟩
    cases b1 with
    | true =>
      rw [if_pos rfl]
      refine ⟨S1, Hf1, F1, b, S', rel1, g1 rfl, fun H2 Hf2 F2 rel2 st2 p2 => q H2 Hf2 F2 rel2 (st1.trans st2) fun hp => ?_⟩
      have hp : (e.pure && (CEs.cons e2 es).pure) = true := hp
      rw [Bool.and_eq_true] at hp
      exact (p1 hp.1).trans (p2 hp.2)
    | false =>
      rw [if_neg (by decide)]
      obtain ⟨rfl, rfl⟩ := g2 rfl
      refine q H1 Hf1 F1 rel1 st1 fun hp => ?_
      have hp : (e.pure && (CEs.cons e2 es).pure) = true := hp
      rw [Bool.and_eq_true] at hp
      exact p1 hp.1
  | Or =>
    refine pwBy (pw_or h h2) fun σ H Q ⟨S, Hf, F, b, S', rel, ht, q⟩ => ?_
    obtain ⟨b1, S1, e1, g1, g2⟩ := st S b S' ht
    refine ⟨S, Hf, F, b1, S1, rel, e1, fun H1 Hf1 F1 rel1 st1 p1 => ?_⟩
    cases b1 with
    | false =>
      rw [if_neg (by decide)]
      refine ⟨S1, Hf1, F1, b, S', rel1, g1 rfl, fun H2 Hf2 F2 rel2 st2 p2 => q H2 Hf2 F2 rel2 (st1.trans st2) fun hp => ?_⟩
      have hp : (e.pure && (CEs.cons e2 es).pure) = true := hp
      rw [Bool.and_eq_true] at hp
      exact (p1 hp.1).trans (p2 hp.2)
    | true =>
      rw [if_pos rfl]
      obtain ⟨rfl, rfl⟩ := g2 rfl
      refine q H1 Hf1 F1 rel1 st1 fun hp => ?_
      have hp : (e.pure && (CEs.cons e2 es).pure) = true := hp
      rw [Bool.and_eq_true] at hp
      exact p1 hp.1
/-! ### and, or as values -/
def tEb (K : Frag) (D : Den) (o : BoolOp) (es : CEs) : TE := fun σ H Q => ∃ S Hf F r S', Rel K Hf F S σ H ∧ evb D o es S = some (r, S') ∧ ∀ x H' Hf' F', Gives K Hf F H S' σ r x Hf' F' H' → (es.pure = true → HSub H H') → Q x H'
theorem b_one {o : BoolOp} {e : CE} {p : Pos} (h : PE X e.py (tEv X.K D e)) : PE X (.BoolOp o [e.py] p) (tEb X.K D o (.cons e .nil)) := by
  refine peBy (pe_one h) fun σ H Q ⟨S, Hf, F, r, S', rel, he, q⟩ => ?_
  refine ⟨S, Hf, F, r, S', rel, by unfold evb at he; exact he, fun x H1 Hf1 F1 g p1 => q x H1 Hf1 F1 g fun hp => p1 ?_⟩
  simpa [CEs.pure] using hp
theorem b_more {o : BoolOp} {e e2 : CE} {es : CEs} {p : Pos} (h : PE X e.py (tEv X.K D e)) (h2 : PE X (.BoolOp o (CEs.cons e2 es).py p) (tEb X.K D o (.cons e2 es))) : PE X (.BoolOp o (CEs.cons e (.cons e2 es)).py p) (tEb X.K D o (.cons e (.cons e2 es))) := by
  have go : ∀ {t : TE}, PE X (.BoolOp o (CEs.cons e (.cons e2 es)).py p) t → (∀ σ H Q, (∃ S Hf F w S1 b1, Rel X.K Hf F S σ H ∧ ev D e S = some (w, S1) ∧ truV w.2 = some b1 ∧
      ∀ x H1 Hf1 F1, Gives X.K Hf F H S1 σ w x Hf1 F1 H1 → (e.pure = true → HSub H H1) → TruV X.K x H1 b1 ∧ if (match o with | .And => b1 | .Or => !b1) = true then tEb X.K D o (.cons e2 es) σ H1 Q else Q x H1) → t σ H Q) →
      PE X (.BoolOp o (CEs.cons e (.cons e2 es)).py p) (tEb X.K D o (.cons e (.cons e2 es))) := by
    intro t hp ht
    refine peBy hp fun σ H Q ⟨S, Hf, F, r, S', rel, he, q⟩ => ht σ H Q ?_
    unfold evb at he
    rw [Option.bind_eq_some_iff] at he
    obtain ⟨⟨w, S1⟩, e1, he⟩ := he
    rw [Option.bind_eq_some_iff] at he
    obtain ⟨b1, e2', he⟩ := he
    refine ⟨S, Hf, F, w, S1, b1, rel, e1, e2', fun x H1 Hf1 F1 g1 p1 => ?_⟩
    obtain ⟨Hf1', s1, rel1, st1, re1, rf1⟩ := g1.opd
    refine ⟨truV_ok rel1.sub re1 e2', ?_⟩
    have cont : evb D o (.cons e2 es) S1 = some (r, S') → tEb X.K D o (.cons e2 es) σ H1 Q := fun he => by
      refine ⟨S1, Hf1, F1, r, S', g1.rel, he, fun y H2 Hf2 F2 g2 p2 => q y H2 Hf2 F2 ⟨g2.rel, g1.st.trans g2.st, ?_⟩ fun hp => ?_⟩
      · have res := g2.res
        unfold ResOk at res ⊢
        cases q1 : r.1 with
        | bor => rw [q1] at res; exact res
        | own d =>
          rw [q1] at res
          obtain ⟨G, a1, a2, a3, a4⟩ := res
          exact ⟨G, a1, a2, a3, fun a ha => (a4 a ha).elim (g1.st.own a) g1.st.fresh⟩
      · have hp : (e.pure && (CEs.cons e2 es).pure) = true := hp
        rw [Bool.and_eq_true] at hp
        exact (p1 hp.1).trans (p2 hp.2)
    have stop : some (w, S1) = some (r, S') → Q x H1 := fun he => by
      obtain ⟨rfl, rfl⟩ := Prod.mk.inj (Option.some.inj he)
      refine q x H1 Hf1 F1 g1 fun hp => ?_
      have hp : (e.pure && (CEs.cons e2 es).pure) = true := hp
      rw [Bool.and_eq_true] at hp
      exact p1 hp.1
    cases o with
    | And =>
      cases b1 with
      | true => exact cont he
      | false => exact stop he
    | Or =>
      cases b1 with
      | false => exact cont he
      | true => exact stop he
  cases o with
  | And =>
    refine go (pe_andT h h2) fun σ H Q ⟨S, Hf, F, w, S1, b1, rel, e1, _, k⟩ => ?_
    refine ⟨S, Hf, F, w, S1, rel, e1, fun x H1 Hf1 F1 g1 p1 => ?_⟩
    obtain ⟨tr, r⟩ := k x H1 Hf1 F1 g1 p1
    exact ⟨b1, tr, r⟩
  | Or =>
    refine go (pe_orT h h2) fun σ H Q ⟨S, Hf, F, w, S1, b1, rel, e1, _, k⟩ => ?_
    refine ⟨S, Hf, F, w, S1, rel, e1, fun x H1 Hf1 F1 g1 p1 => ?_⟩
    obtain ⟨tr, r⟩ := k x H1 Hf1 F1 g1 p1
    refine ⟨b1, tr, ?_⟩
    cases b1 with
    | true => exact r
    | false => exact r
theorem s_bop {o : BoolOp} {es : CEs} {p : Pos} (h : PE X (.BoolOp o es.py p) (tEb X.K D o es)) : PE X (CE.bop o es p).py (tEv X.K D (.bop o es p)) := by
  refine peBy h fun σ H Q ⟨S, Hf, F, r, S', rel, he, q⟩ => ⟨S, Hf, F, r, S', rel, by unfold ev at he; exact he, fun x H1 Hf1 F1 g p1 => q x H1 Hf1 F1 g fun hp => p1 (by unfold CE.pure at hp; exact hp)⟩
theorem t_bop {o : BoolOp} {es : CEs} {p : Pos} (h : PW X (.BoolOp o es.py p) (tEt X.K D (fun S => tst (evb D o es S)) es.pure)) : PT X (CE.bop o es p).py (tTs X.K D (.bop o es p)) := by
  refine ptBy h.pt fun σ H Q ⟨S, Hf, F, b, S', rel, ht, q⟩ => ⟨S, Hf, F, b, S', rel, ?_, fun H1 Hf1 F1 rel1 st1 p1 => q H1 Hf1 F1 rel1 st1 fun hp => p1 (by unfold CE.pure at hp; exact hp)⟩
  have ht : tst (ev D (.bop o es p) S) = some (b, S') := ht
  unfold ev at ht
  exact ht
theorem resTrans {K : Frag} {Hf Hf1 Hf2 H H1 H2 : Hp} {F F1 F2 : List Addr} {S2 : Slots} {σ : L2.St} {r : Res} {x : V} (st : Step Hf F H Hf1 F1 H1) (g : Gives K Hf1 F1 H1 S2 σ r x Hf2 F2 H2) : Gives K Hf F H S2 σ r x Hf2 F2 H2 := by
  refine ⟨g.rel, st.trans g.st, ?_⟩
  have res := g.res
  unfold ResOk at res ⊢
  cases q1 : r.1 with
  | bor => rw [q1] at res; exact res
  | own d =>
    rw [q1] at res
    obtain ⟨G, a1, a2, a3, a4⟩ := res
    exact ⟨G, a1, a2, a3, fun a ha => (a4 a ha).elim (st.own a) st.fresh⟩
theorem s_ifx {c a b : CE} {p : Pos} (hc : PT X c.py (tTs X.K D c)) (ha : PE X a.py (tEv X.K D a)) (hb : PE X b.py (tEv X.K D b)) : PE X (CE.ifx c a b p).py (tEv X.K D (.ifx c a b p)) := by
  refine peBy (pe_ifExp hc ha hb) fun σ H Q ⟨S, Hf, F, r, S', rel, he, q⟩ => ?_
  unfold ev at he
  rw [Option.bind_eq_some_iff] at he
  obtain ⟨⟨t, S1⟩, e1, he⟩ := he
  refine ⟨S, Hf, F, t, S1, rel, e1, fun H1 Hf1 F1 rel1 st1 p1 => ?_⟩
  cases t with
  | true =>
    rw [if_pos rfl]
    refine ⟨S1, Hf1, F1, r, S', rel1, he, fun x H2 Hf2 F2 g p2 => q x H2 Hf2 F2 (resTrans st1 g) fun hp => ?_⟩
    unfold CE.pure at hp
    simp only [Bool.and_eq_true] at hp
    exact (p1 hp.1.1).trans (p2 hp.1.2)
  | false =>
    rw [if_neg (by decide)]
    refine ⟨S1, Hf1, F1, r, S', rel1, he, fun x H2 Hf2 F2 g p2 => q x H2 Hf2 F2 (resTrans st1 g) fun hp => ?_⟩
    unfold CE.pure at hp
    simp only [Bool.and_eq_true] at hp
    exact (p1 hp.1.1).trans (p2 hp.2)
end
end BV
/-! Expressions: calls, subscripts. -/
namespace BV
open PySem PySem.Spec PyProof.Rows L2
section
variable {free : List Str} {D : Den} {n : Nat} {N : List Str} {sc : Scope} {X : Cx}
theorem OwnL.split {K : Frag} {Hf H : Hp} {d : Nat} : ∀ {xs : List Val} {ys : List V} {G : List Addr} {j : Nat} {v : Val}, OwnL K Hf H d xs ys G → xs[j]? = some v →
    ∃ y G1 G2 G3, ys[j]? = some y ∧ G = G1 ++ G2 ++ G3 ∧ Own K Hf H d v y G2 ∧
      ∀ {H' : Hp} {u : Val} {z : V} {G' : List Addr}, (∀ a, (a ∈ G1 ∨ a ∈ G3) → ∀ o, H a = some o → H' a = some o) → Own K Hf H' d u z G' → OwnL K Hf H' d (xs.set j u) (ys.set j z) (G1 ++ G' ++ G3)
  | _, _, _, _, _, .nil, e => by simp at e
  | _, _, _, 0, _, .cons (x := x) (F := F) (G := G) h r, e => by
    simp at e; subst e
    refine ⟨x, [], F, G, rfl, rfl, h, fun k q => ?_⟩
    exact .cons q (r.mono (HSub.refl _) fun a ha => k a (.inr ha))
  | _, _, _, j + 1, v, .cons (x := x) (F := F) (G := G) h r, e => by
    obtain ⟨z, F1, F2, F3, e1, e2, e3, e4⟩ := OwnL.split (j := j) (v := v) r (by simpa using e)
    refine ⟨z, F ++ F1, F2, F3, by simpa using e1, by rw [e2]; simp, e3, fun k q => ?_⟩
    have := OwnL.cons (h.mono (HSub.refl _) fun a ha => k a (.inl (List.mem_append_left _ ha))) (e4 (fun a ha => k a (ha.elim (fun z => .inl (List.mem_append_right _ z)) .inr)) q)
    simpa using this
/-- something owned by nobody here is changed -/
theorem Rel.mut {K : Frag} {Hf H : Hp} {F : List Addr} {S : Slots} {σ : L2.St} (r : Rel K Hf F S σ H) {p : Addr} {o : HO} (hp : p ∉ F) (hf : Hf p = Option.none) : Rel K Hf F S σ (L2.upd H p o) := by
  refine ⟨fun a u e => ?_, r.nd, r.off, r.plc.mono (HSub.refl _) fun a ha u e => ?_⟩
  · rw [upd_ne (fun z => by rw [z, hf] at e; cases e)]; exact r.sub a u e
  · rw [upd_ne (fun z => hp (by rw [← z]; exact ha))]; exact e
theorem no_marks (op : CmpOp) (b : CE) : behindInMarks op b.py = false := by cases b <;> first | rfl | (rename_i P; cases P <;> rfl)
theorem no_star : ∀ (es : CEs) (p : Pos) (env : Env), (backTo p (starEach es.py env)).any (·.1) = false
  | .nil, _, _ => rfl
  | .cons e es, p, env => by
    show (backTo p (starEach (e.py :: es.py) env)).any (·.1) = false
    rw [star_cons]
    exact no_star es p env
def CKs.names : CKs → List Str
  | .nil => []
  | .cons x _ _ ks => x :: ks.names
theorem kw_all : ∀ (ks : CKs) (p : Pos) (env : Env), (backToKw p (keywordEach ks.py env)).all (·.1.isSome) = true ∧ (backToKw p (keywordEach ks.py env)).any (·.1.isNone) = false ∧ (backToKw p (keywordEach ks.py env)).filterMap (·.1) = ks.names
  | .nil, _, _ => ⟨rfl, rfl, rfl⟩
  | .cons x e q ks, p, env => ⟨(kw_all ks p env).1, (kw_all ks p env).2.1, congrArg (x :: ·) (kw_all ks p env).2.2⟩
theorem boot_bf (f : BF) : bootBuiltins f.name = some f.val := by cases f <;> decide +kernel
theorem bf_ok (f : BF) : okName f.name = true := by cases f <;> decide +kernel
theorem boot_tn (T : TN) : bootBuiltins (Str.ofString T.name) = some (.type T.name) := by cases T <;> decide +kernel
theorem tn_ok (T : TN) : okName (Str.ofString T.name) = true := by cases T <;> decide +kernel
theorem Ctx.gl (c : Ctx free D n N sc X) {x : Str} (h : glB sc x = true) : Gl X x := by
  show X.env.scope.names.lookup x = _
  rw [c.sc]; exact glB_ok h
theorem s_isi (c : Ctx free D n N sc X) {a : CE} {T : TN} {np tp p : Pos} (g1 : glB sc "isinstance" = true) (g2 : glB sc (Str.ofString T.name) = true) (m1 : ("isinstance" : Str) ∈ free) (m2 : Str.ofString T.name ∈ free)
    (ha : PE X a.py (tEv X.K D a)) : PE X (CE.isi a T np tp p).py (tEv X.K D (.isi a T np tp p)) := by
  have ht : PE X (.Name (Str.ofString T.name) tp) (tC (.ty T.name)) := pe_bltn (c.gl g2) (c.fre _ m2) (boot_tn T) rfl (okName_ok (tn_ok T)).2.2 (okName_ok (tn_ok T)).1
  refine peBy (pe_callB call_isi (c.gl g1) (c.fre _ m1) PyProof.Rows.boot_isinstance (pa_cons ha (pa_cons ht pa_nil rfl) (star_cons a _ _)) (by decide) (by decide) (star_cons a _ _) rfl) fun σ H Q ⟨S, Hf, F, r, S', rel, he, q⟩ => ?_
  unfold ev at he
  rw [Option.map_eq_some_iff] at he
  obtain ⟨⟨w, S1⟩, e1, he⟩ := he
  obtain ⟨rfl, rfl⟩ := Prod.mk.inj he
  refine ⟨S, Hf, F, w, S1, rel, e1, fun x H1 Hf1 F1 g1 p1 => ?_⟩
  obtain ⟨Hf1', s1, rel1, st1, re1, rf1⟩ := g1.opd
  exact ⟨x, .ty T.name, .type (tyV w.2), .type T.name, isiV w.2 T, rfl, .ty _, re1.ty rel1.sub, kit_ty (kit_isi w.2 T), q _ H1 Hf1' F1 (.frz rel1 st1 (.bl _) (.inl rfl)) fun hp => p1 (by unfold CE.pure at hp; exact hp)⟩
theorem s_blt (c : Ctx free D n N sc X) {f : BF} {np p : Pos} {e : CE} {es : CEs} (g : glB sc f.name = true) (m : f.name ∈ free) (ha : PA X (CEs.cons e es).py (tEvo X.K D (.cons e es))) : PE X (CE.blt f np (.cons e es) p).py (tEv X.K D (.blt f np (.cons e es) p)) := by
  have rule := call_blt (X := X) f c.calm c.gu c.units
  have ok := okName_ok (bf_ok f)
  have pe : PE X (CE.blt f np (.cons e es) p).py (tCB (rB X.K (bltV f)) (tEvo X.K D (.cons e es))) := by
    have hb := boot_bf f
    have viaB : ∀ {id : String}, f.val = .builtin id → PE X (CE.blt f np (.cons e es) p).py (tCB (rB X.K (bltV f)) (tEvo X.K D (.cons e es))) := by
      intro id hv
      rw [hv] at hb rule
      exact pe_callB rule (c.gl g) (c.fre _ m) hb ha ok.2.2 ok.1 (star_cons e _ _) (no_star es p _)
    have viaT : ∀ {id : String}, f.val = .type id → PE X (CE.blt f np (.cons e es) p).py (tCB (rB X.K (bltV f)) (tEvo X.K D (.cons e es))) := by
      intro id hv
      rw [hv] at hb rule
      exact pe_callTy rule (c.gl g) (c.fre _ m) hb ha ok.2.2 ok.1 (star_cons e _ _) (no_star es p _)
    cases f <;> first | exact viaB rfl | exact viaT rfl
  refine peBy pe fun σ H Q ⟨S, Hf, F, r, S', rel, he, q⟩ => ?_
  unfold ev at he
  rw [Option.bind_eq_some_iff] at he
  obtain ⟨⟨vs, S1⟩, e1, he⟩ := he
  rw [Option.map_eq_some_iff] at he
  obtain ⟨z, e2, he⟩ := he
  obtain ⟨rfl, rfl⟩ := Prod.mk.inj he
  refine ⟨S, Hf, F, vs, S1, rel, e1, fun xs H1 Hf1 F1 g1 p1 => ?_⟩
  refine ⟨vs, Hf1, z, g1.rel.sub, g1.res, e2, fun v H2 nw => ?_⟩
  obtain ⟨Hf2, g2⟩ := nw.gives g1.rel g1.st
  exact q v H2 Hf2 F1 g2 fun hp => (p1 (by unfold CE.pure at hp; exact hp)).trans nw.sub
theorem plain_ix (i : CE) : PlainIx i.py := by intro o k; cases i <;> first | rfl | (rename_i P; cases P <;> rfl)
theorem s_idx (c : Ctx free D n N sc X) {a i : CE} {p : Pos} (ha : PE X a.py (tEv X.K D a)) (hi : PE X i.py (tEv X.K D i)) : PE X (CE.idx a i p).py (tEv X.K D (.idx a i p)) := by
  refine peBy (pe_ix (ix_val (by have := c.units; omega)) ha hi (plain_ix i)) fun σ H Q ⟨S, Hf, F, r, S', rel, he, q⟩ => ?_
  unfold ev at he
  rw [Option.bind_eq_some_iff] at he
  obtain ⟨⟨w, S1⟩, e1, he⟩ := he
  rw [gd_some] at he
  obtain ⟨l, he⟩ := he
  rw [Option.bind_eq_some_iff] at he
  obtain ⟨⟨t, S2⟩, e2, he⟩ := he
  rw [Option.map_eq_some_iff] at he
  obtain ⟨z, e3, he⟩ := he
  obtain ⟨rfl, rfl⟩ := Prod.mk.inj he
  refine two rel e1 l e2 fun x y H2 Hf2 F2 rel2 st2 rx ry _ p2 => ?_
  exact ⟨_, _, Hf2, z, rel2.sub, rx, ry, e3, fun v rv => q v H2 Hf2 F2 (.frz rel2 st2 rv (.inl rfl)) fun hp => p2 (by unfold CE.pure at hp; exact hp)⟩
theorem s_pth (c : Ctx free D n N sc X) {i : Nat} {x : Str} {px p : Pos} {k : CE} (hi : N[i]? = some x) (hv : visB sc x = true) (ok : okName x = true) (hk : PE X k.py (tEv X.K D k)) : PE X (CE.pth i x px k p).py (tEv X.K D (.pth i x px k p)) := by
  have h1 : PE X (.Name x px) (tVar i) := pe_var (i := i) (by rw [c.hN]; exact hi) (by rw [c.sc]; exact visB_ok hv) (okName_ok ok).1 (okName_ok ok).2.1
  refine peBy (pe_ix (IxR.or ix_list ix_tup) h1 hk (plain_ix k)) fun σ H Q ⟨S, Hf, F, r, S', rel, he, q⟩ => ?_
  unfold ev at he
  split at he
  · rename_i r0 e0
    obtain ⟨y, _, hy, _⟩ := rel.get (d := r0.1) (v := r0.2) e0
    rw [Option.bind_eq_some_iff] at he
    obtain ⟨⟨w, S1⟩, e1, he⟩ := he
    dsimp only at he
    split at he
    · rename_i d v e2
      rw [Option.bind_eq_some_iff] at he
      obtain ⟨u, e3, he⟩ := he
      refine ⟨y, hy, S, Hf, F, w, S1, rel, e1, fun z H1 Hf1 F1 g1 p1 => ?_⟩
      obtain ⟨Hf1', s1, rel1, st1, re1, rf1⟩ := g1.opd
      obtain ⟨y', G, hy', ow, sub⟩ := rel1.get e2
      rw [hy] at hy'
      cases hy'
      have fin : ∀ {b : V} {G' : List Addr} {d' : Nat}, Own X.K Hf1' H1 d' u b G' → Q b H1 := by
        intro b G' d' ow
        cases fl : u.flat with
        | true =>
          rw [fl] at he
          obtain ⟨rfl, rfl⟩ := Prod.mk.inj (Option.some.inj he)
          obtain ⟨rfl, ow0⟩ := ow.flat (d' := 0) fl
          have rep : Rep X.K Hf1' u b := by cases ow0 with | frz _ r => exact r
          exact q b H1 Hf1' F1 (.frz rel1 st1 rep (.inl rfl)) fun hp => p1 (by unfold CE.pure at hp; exact hp)
        | false =>
          rw [fl] at he
          have he : gd u.inner (some (((.bor, u) : Res), S1)) = some (r, S') := he
          rw [gd_some] at he
          obtain ⟨inn, he⟩ := he
          obtain ⟨rfl, rfl⟩ := Prod.mk.inj (Option.some.inj he)
          exact q b H1 Hf1' F1 ⟨rel1, st1, ow.repE rel1.sub (by rw [inn, Bool.or_true])⟩ fun hp => p1 (by unfold CE.pure at hp; exact hp)
      have frz : ∀ {b : V}, Rep X.K Hf1' u b → Q b H1 := fun rb => fin (.frz (d := 0) (.inl rfl) rb)
      obtain ⟨wm, wv⟩ := w
      dsimp only at re1
      cases v with
      | lst xs =>
        cases wv with
        | int m =>
          obtain rfl := re1.int_
          have e3 : getV.atI' xs m = some u := e3
          cases ow with
          | frz _ rp =>
            cases rp with
            | lst dd l =>
              obtain ⟨b, e5, e6⟩ := l.at e3
              exact .inl ⟨_, _, m, b, rfl, rfl, (rdL_mono rel1.sub dd).sq, e5, frz e6⟩
          | lst dd l =>
            unfold getV.atI' at e3
            cases hx : ixN xs.length m with
            | none => rw [hx] at e3; cases e3
            | some j =>
              rw [hx] at e3
              obtain ⟨b, G', e5, e6, _⟩ := l.get e3
              exact .inl ⟨_, _, m, b, rfl, rfl, .inl (.inl dd), by unfold atI; rw [l.length, hx]; exact e5, fin e6⟩
        | _ => cases e3
      | tup xs =>
        cases wv with
        | int m =>
          obtain rfl := re1.int_
          have e3 : getV.atI' xs m = some u := e3
          cases ow with
          | frz _ rp =>
            cases rp with
            | tup dd l =>
              obtain ⟨b, e5, e6⟩ := l.at e3
              exact .inr ⟨_, _, m, b, rfl, rfl, sqT_mono rel1.sub dd, e5, frz e6⟩
        | _ => cases e3
      | _ => cases e3
    · cases he
  · cases he
theorem s_slc {a : CE} {lo hi : CO} {sp p : Pos} (ha : PE X a.py (tEv X.K D a)) (hl : ∀ e, lo = .is e → PE X e.py (tEv X.K D e)) (hh : ∀ e, hi = .is e → PE X e.py (tEv X.K D e)) : PE X (CE.slc a lo hi sp p).py (tEv X.K D (.slc a lo hi sp p)) := by
  have part : ∀ (o : CO), (∀ e, o = .is e → PE X e.py (tEv X.K D e)) → PO X o.py (fun σ H Q => ∃ S Hf F i S', Rel X.K Hf F S σ H ∧ evi D o S = some (i, S') ∧ ∀ H' Hf' F', Rel X.K Hf' F' S' σ H' → Step Hf F H Hf' F' H' → (o.pure = true → HSub H H') → Q i H') := by
    intro o ho
    cases o with
    | no =>
      refine ⟨fun pins s σ H Q I h => po_none.run pins s σ H Q I ?_⟩
      obtain ⟨S, Hf, F, i, S', rel, he, q⟩ := h
      obtain ⟨rfl, rfl⟩ := Prod.mk.inj (Option.some.inj (show some (none, S) = some (i, S') from he))
      exact q H Hf F rel (Step.refl _ _ _) fun _ => HSub.refl _
    | is e =>
      refine ⟨fun pins s σ H Q I h => (po_some (ho e rfl)).run pins s σ H Q I ?_⟩
      obtain ⟨S, Hf, F, i, S', rel, he, q⟩ := h
      unfold evi at he
      rw [Option.bind_eq_some_iff] at he
      obtain ⟨⟨⟨m, v⟩, S1⟩, e1, he⟩ := he
      refine ⟨S, Hf, F, _, S1, rel, e1, fun x H1 Hf1 F1 g1 p1 => ?_⟩
      obtain ⟨Hf1', s1, rel1, st1, re1, rf1⟩ := g1.opd
      cases v with
      | int k =>
        obtain ⟨rfl, rfl⟩ := Prod.mk.inj (Option.some.inj he)
        obtain rfl := re1.int_
        exact ⟨k, rfl, q H1 Hf1' F1 rel1 st1 fun hp => p1 (by unfold CO.pure at hp; exact hp)⟩
      | _ => cases he
  refine peBy (pe_slice (p2 := sp) sl_val ha (part lo hl) (part hi hh)) fun σ H Q ⟨S, Hf, F, r, S', rel, he, q⟩ => ?_
  unfold ev at he
  rw [Option.bind_eq_some_iff] at he
  obtain ⟨⟨w, S1⟩, e1, he⟩ := he
  rw [gd_some] at he
  obtain ⟨l, he⟩ := he
  rw [Option.bind_eq_some_iff] at he
  obtain ⟨⟨t, S2⟩, e2, he⟩ := he
  rw [Option.bind_eq_some_iff] at he
  obtain ⟨⟨u, S3⟩, e3, he⟩ := he
  rw [Option.map_eq_some_iff] at he
  obtain ⟨z, e4, he⟩ := he
  obtain ⟨rfl, rfl⟩ := Prod.mk.inj he
  refine ⟨S, Hf, F, w, S1, rel, e1, fun x H1 Hf1 F1 g1 p1 => ?_⟩
  obtain ⟨Hf1', s1, rel1, st1, re1, rf1⟩ := g1.opd
  refine ⟨S1, Hf1', F1, t, S2, rel1, e2, fun H2 Hf2 F2 rel2 st2 p2 => ?_⟩
  refine ⟨S2, Hf2, F2, u, S3, rel2, e3, fun H3 Hf3 F3 rel3 st3 p3 => ?_⟩
  refine ⟨_, Hf3, z, rel3.sub, carry re1 rf1 l (fun hp => ?_) (st2.hf.trans st3.hf) rel3.sub, e4, fun v H4 nw => ?_⟩
  · rw [Bool.and_eq_true] at hp
    exact (p2 hp.1).trans (p3 hp.2)
  · obtain ⟨Hf4, g⟩ := nw.gives rel3 (st1.trans (st2.trans st3))
    refine q v H4 Hf4 F3 g fun hp => ?_
    unfold CE.pure at hp
    simp only [Bool.and_eq_true] at hp
    exact (p1 hp.1.1).trans ((p2 hp.1.2).trans ((p3 hp.2).trans nw.sub))
/-- x[m].pop(0) -/
theorem s_popAt (c : Ctx free D n N sc X) {i : Nat} {x : Str} {px pk pa p : Pos} {k j : CE} (hi : N[i]? = some x) (hv : visB sc x = true) (ok : okName x = true) (hl : (pa.endLine == p.line) = true) :
    PE X (CE.popAt i x px k pk j pa p).py (tEv X.K D (.popAt i x px k pk j pa p)) := by
  refine ⟨fun pins s σ H Q I h => ?_⟩
  obtain ⟨S, Hf, F, r, S', rel, he, q⟩ := h
  unfold ev at he
  split at he
  · rename_i d xs m k1 k2 k3 k4 hS
    rw [Option.bind_eq_some_iff] at he
    obtain ⟨jj, e1, he⟩ := he
    split at he
    · rename_i w ws e2
      rw [gd_some] at he
      obtain ⟨fl, he⟩ := he
      obtain ⟨rfl, rfl⟩ := Prod.mk.inj (Option.some.inj he)
      have h1 : PE X (.Name x px) (tVar i) := pe_var (i := i) (by rw [c.hN]; exact hi) (by rw [c.sc]; exact visB_ok hv) (okName_ok ok).1 (okName_ok ok).2.1
      have pe := pe_bm (cpos := p) (apos := pa) PySem.F.plainAttrs_list PySem.F.slot_list_pop PySem.F.type_list_pop (mt_popAt (X := X)) (pe_ix (pos := pk) ix_list h1 (pe_int (i := m) (j := k1) (pos := k2)) (fun _ _ => rfl)) (pa_cons (pe_int (i := 0) (j := k3) (pos := k4)) pa_nil rfl) rfl rfl hl rfl rfl
      refine pe.run pins s σ H Q I ?_
      obtain ⟨y, G, F0, hy, ow, rel0, nd, iff, off⟩ := rel.take hS
      cases ow with
      | frz hd _ => rcases hd with z | z <;> cases z
      | lst ha l =>
        rename_i a ys G0
        obtain ⟨b, G1, G2, G3, eb, eG, owb, put⟩ := l.split e2
        cases owb with
        | frz hd _ => rcases hd with z | z <;> cases z
        | lst hb lb =>
          rename_i ab zs Gc
          cases lb with
          | cons ow1 lt =>
            rename_i z1 zt Ga Gt
            obtain ⟨rfl, ow1'⟩ := ow1.flat (d' := 0) fl
            have rep : Rep X.K Hf w z1 := by cases ow1' with | frz _ r => exact r
            rw [List.nil_append] at eG
            subst eG
            have inG : ab ∈ a :: (G1 ++ ab :: Gt ++ G3) := by simp
            have offb : Hf ab = none := off ab inG
            have nd2 := nd
            simp only [List.nodup_append, List.nodup_cons, List.mem_append, List.mem_cons] at nd2
            have ab0 : ab ∉ F0 := fun z => by have := nd2.2.2 ab z ab (by simp); exact this rfl
            have aab : a ≠ ab := fun z => by
              have := nd2.2.1.1
              rw [z] at this
              exact this (by simp)
            have s1 : ab ∉ G1 := by grind
            have s3 : ab ∉ G3 := by grind
            have st : ab ∉ Gt := by grind
            let H' := upd H ab (.lst zt)
            have keep : ∀ c, c ≠ ab → ∀ o, H c = some o → H' c = some o := fun c n o e => by
              show upd H ab (.lst zt) c = some o
              rw [upd_ne n]; exact e
            have own' : Own X.K Hf H' (d + 2) (.lst (xs.set jj (.lst ws))) (.ref a) (a :: (G1 ++ ab :: Gt ++ G3)) := by
              have inner : Own X.K Hf H' (d + 1) (.lst ws) (.ref ab) (ab :: Gt) := .lst upd_same (lt.mono (HSub.refl _) fun c hc o e => keep c (fun z => st (z ▸ hc)) o e)
              have outer := put (H' := H') (fun c hc o e => keep c (fun z => by subst z; exact hc.elim s1 s3) o e) inner
              rw [show ys.set jj (.ref ab) = ys by
                apply List.ext_getElem?
                intro t
                rw [List.getElem?_set]
                split
                · rename_i e; subst e
                  split
                  · exact eb.symm
                  · rename_i hl; rw [List.getElem?_eq_none (by omega)]
                · rfl] at outer
              exact .lst (keep a aab _ ha) outer
            obtain ⟨F', relN, subN⟩ := (rel0.mut (p := ab) (o := .lst zt) ab0 offb).put (i := i) (by rw [List.length_set]; exact lt_of_get hS) own' nd off
            rw [List.set_set, set_same hy] at relN
            refine ⟨_, hy, a, ys, m, .ref ab, rfl, rfl, .inl (.inl ha), by unfold atI; rw [l.length, e1]; exact eb, .inl ⟨rfl, _, .inl (.inl hb)⟩, ab, _, 0, 0, z1, rfl, rfl, hb, by decide, by decide, by simp [seqIndex?], rfl, ?_⟩
            refine q z1 H' Hf F' (.frz relN ⟨HSub.refl _, fun c o e nF => keep c (fun z => nF ((iff c).mpr (.inr (z ▸ inG)))) o e, fun _ _ _ _ => rfl, fun c hc => .inl ((iff c).mpr (subN c hc))⟩ rep (.inl rfl)) fun hp => ?_
            unfold CE.pure at hp
            cases hp
    · cases he
  · cases he
end
end BV
/-! A def's call. -/
namespace BV
open PySem PySem.Spec PyProof.Rows L2
def CEs.len : CEs → Nat
  | .nil => 0
  | .cons _ es => es.len + 1
theorem CEs.py_len : ∀ es : CEs, es.py.length = es.len
  | .nil => rfl
  | .cons _ es => congrArg Nat.succ (CEs.py_len es)
theorem CKs.names_len : ∀ ks : CKs, ks.py.length = ks.names.length
  | .nil => rfl
  | .cons _ _ _ ks => congrArg Nat.succ (CKs.names_len ks)
section
variable {K : Frag} {Hf Hf' H H' : Hp} {F F' : List Addr} {S : Slots} {σ : L2.St}
theorem arrange_vals {xs zs dvs : List V} {us ws ds : List Value} (h1 : Vals xs us) (h2 : Vals zs ws) (h3 : Vals dvs ds) : ∀ {ar : List Src} {vs : List Value}, arrange us ws ds ar = some vs → ∃ ys, arrange xs zs dvs ar = some ys ∧ Vals ys vs
  | [], vs, e => by cases e; exact ⟨[], rfl, .nil⟩
  | s :: r, vs, e => by
    have pick : ∀ {l : List V} {m : List Value} {i : Nat}, Vals l m → (m[i]?.bind fun a => (arrange us ws ds r).map (a :: ·)) = some vs → ∃ ys, (l[i]?.bind fun a => (arrange xs zs dvs r).map (a :: ·)) = some ys ∧ Vals ys vs := by
      intro l m i hv e
      rw [Option.bind_eq_some_iff] at e
      obtain ⟨a, e1, e⟩ := e
      rw [Option.map_eq_some_iff] at e
      obtain ⟨vs', e2, rfl⟩ := e
      obtain ⟨ys', e3, r'⟩ := arrange_vals h1 h2 h3 e2
      cases q : l[i]? with
      | none => rw [Vals.none_of hv q] at e1; cases e1
      | some y =>
        obtain ⟨u, e4, ru⟩ := hv.get q
        rw [e4] at e1; cases e1
        exact ⟨y :: ys', by simp [e3], .cons ru r'⟩
    cases s with
    | pos i => exact pick h1 e
    | kw i => exact pick h2 e
    | dfl i => exact pick h3 e
theorem ArgsOk.get : ∀ {as : List Arg} {xs : List V} {i : Nat} {a : Arg} {x : V}, ArgsOk K Hf σ as xs → as[i]? = some a → xs[i]? = some x → ArgsOk K Hf σ [a] [x]
  | _, _, _, _, _, .nil, e, _ => by simp at e
  | _, _, 0, _, _, .val h _, e, e2 => by simp at e e2; subst e; subst e2; exact .val h .nil
  | _, _, 0, _, _, .byRef h _, e, e2 => by simp at e e2; subst e; subst e2; exact .byRef h .nil
  | _, _, i + 1, _, _, .val _ r, e, e2 => ArgsOk.get (i := i) r (by simpa using e) (by simpa using e2)
  | _, _, i + 1, _, _, .byRef _ r, e, e2 => ArgsOk.get (i := i) r (by simpa using e) (by simpa using e2)
theorem ArgsOk.put {a : Arg} {x : V} {as : List Arg} {xs : List V} (h : ArgsOk K Hf σ [a] [x]) (r : ArgsOk K Hf σ as xs) : ArgsOk K Hf σ (a :: as) (x :: xs) := by
  cases h with
  | val h _ => exact .val h r
  | byRef h _ => exact .byRef h r
theorem arrange_args {as bs ds : List Arg} {xs zs dvs : List V} (h1 : ArgsOk K Hf σ as xs) (h2 : ArgsOk K Hf σ bs zs) (h3 : ArgsOk K Hf σ ds dvs) : ∀ {ar : List Src} {as' : List Arg} {ys : List V}, arrange as bs ds ar = some as' → arrange xs zs dvs ar = some ys → ArgsOk K Hf σ as' ys
  | [], _, _, e, e2 => by cases e; cases e2; exact .nil
  | s :: r, as', ys, e, e2 => by
    have pick : ∀ {l : List Arg} {m : List V} {i : Nat}, ArgsOk K Hf σ l m → (l[i]?.bind fun a => (arrange as bs ds r).map (a :: ·)) = some as' → (m[i]?.bind fun a => (arrange xs zs dvs r).map (a :: ·)) = some ys → ArgsOk K Hf σ as' ys := by
      intro l m i hv e e2
      rw [Option.bind_eq_some_iff] at e e2
      obtain ⟨a, e1, e⟩ := e
      obtain ⟨y, e4, e2⟩ := e2
      rw [Option.map_eq_some_iff] at e e2
      obtain ⟨vs', e5, rfl⟩ := e
      obtain ⟨ys', e6, rfl⟩ := e2
      exact (hv.get e1 e4).put (arrange_args h1 h2 h3 e5 e6)
    cases s with
    | pos i => exact pick h1 e e2
    | kw i => exact pick h2 e e2
    | dfl i => exact pick h3 e e2
theorem arrange_vals_only {as bs ds : List Arg} (h1 : refsOf as = []) (h2 : refsOf bs = []) (h3 : refsOf ds = []) : ∀ {ar : List Src} {as' : List Arg}, arrange as bs ds ar = some as' → refsOf as' = []
  | [], _, e => by cases e; rfl
  | s :: r, as', e => by
    have mem : ∀ {l : List Arg} {i : Nat} {a : Arg}, refsOf l = [] → l[i]? = some a → ∃ v, a = .val v := by
      intro l
      induction l with
      | nil => intro i a _ e; simp at e
      | cons b l ih =>
        intro i a h e
        cases b with
        | byRef j => cases h
        | val v =>
          cases i with
          | zero => simp at e; exact ⟨v, e.symm⟩
          | succ i => exact ih (i := i) h (by simpa using e)
    have pick : ∀ {l : List Arg} {i : Nat}, refsOf l = [] → (l[i]?.bind fun a => (arrange as bs ds r).map (a :: ·)) = some as' → refsOf as' = [] := by
      intro l i hl e
      rw [Option.bind_eq_some_iff] at e
      obtain ⟨a, e1, e⟩ := e
      rw [Option.map_eq_some_iff] at e
      obtain ⟨vs', e5, rfl⟩ := e
      obtain ⟨v, rfl⟩ := mem hl e1
      show refsOf vs' = []
      exact arrange_vals_only h1 h2 h3 e5
    cases s with
    | pos i => exact pick h1 e
    | kw i => exact pick h2 e
    | dfl i => exact pick h3 e
theorem ArgsOk.ofRepL : ∀ {vs : List Val} {xs : List V}, RepL K Hf vs xs → ArgsOk K Hf σ (vs.map .val) xs
  | _, _, .nil => .nil
  | _, _, .cons h r => .val h (ArgsOk.ofRepL r)
theorem argRs_set {i : Nat} : ∀ {as : List Arg}, i ∉ refsOf as → argRs (S.set i none) as = argRs S as
  | [], _ => rfl
  | .val v :: r, h => by
    unfold argRs
    rw [argRs_set (as := r) h]
    rfl
  | .byRef j :: r, h => by
    have h' : i ≠ j ∧ i ∉ refsOf r := by simpa [refsOf] using h
    unfold argRs
    rw [argRs_set (as := r) h'.2]
    have : argR (S.set i none) (.byRef j) = argR S (.byRef j) := by
      show (match (S.set i none)[j]? with
        | some (some r) => some r
        | _ => none) = match S[j]? with
        | some (some r) => some r
        | _ => none
      rw [List.getElem?_set_ne h'.1]
    rw [this]
theorem argR_ref {i : Nat} {x : R} (h : argR S (.byRef i) = some x) : S[i]? = some (some x) := by
  have h : (match S[i]? with
    | some (some r) => some r
    | _ => none) = some x := h
  split at h
  · rename_i e; cases h; exact e
  · cases h
theorem wipeS_set {i : Nat} : ∀ {l : List Nat}, (wipeS S l).set i none = wipeS (S.set i none) l
  | [] => rfl
  | j :: l => by
    unfold wipeS
    rw [← wipeS_set (i := i) (l := l)]
    by_cases h : j = i
    · subst h; rfl
    · rw [List.set_comm _ _ h]
/-- the slots that are handed on are taken out -/
theorem callRel : ∀ {as : List Arg} {ys : List V} {rs : List R} {S : Slots} {F : List Addr}, Rel K Hf F S σ H → ArgsOk K Hf σ as ys → argRs S as = some rs → (refsOf as).Nodup →
    ∃ Fc Fr, Rel K Hf Fc (rs.map some) (ys.map some) H ∧ Rel K Hf Fr (wipeS S (refsOf as)) σ H ∧ (Fr ++ Fc).Nodup ∧ (∀ a, a ∈ F ↔ a ∈ Fr ∨ a ∈ Fc) ∧ (refsOf as = [] → Fc = [])
  | [], _, _, S, F, rel, .nil, e, _ => by
    cases e
    exact ⟨[], F, ⟨rel.sub, List.nodup_nil, fun a h => (by cases h), .nil⟩, rel, by simpa using rel.nd, fun a => by simp, fun _ => rfl⟩
  | .val v :: as, _, rs, S, F, rel, .val h r, e, nd => by
    unfold argRs at e
    rw [Option.bind_eq_some_iff] at e
    obtain ⟨x, e1, e⟩ := e
    cases e1
    rw [Option.map_eq_some_iff] at e
    obtain ⟨rs', e2, rfl⟩ := e
    obtain ⟨Fc, Fr, a1, a2, a3, a4, a5⟩ := callRel rel r e2 nd
    refine ⟨Fc, Fr, ⟨a1.sub, a1.nd, a1.off, ?_⟩, a2, a3, a4, a5⟩
    have := Plcs.cons (.is (.frz (H := H) (d := 0) (.inl rfl) h)) a1.plc
    simpa using this
  | .byRef i :: as, _, rs, S, F, rel, .byRef h r, e, nd => by
    unfold argRs at e
    rw [Option.bind_eq_some_iff] at e
    obtain ⟨x, e1, e⟩ := e
    rw [Option.map_eq_some_iff] at e
    obtain ⟨rs', e2, rfl⟩ := e
    have hS := argR_ref e1
    · have nd' : i ∉ refsOf as ∧ (refsOf as).Nodup := by simpa [refsOf] using nd
      obtain ⟨y, G, F0, hy, ow, rel0, nd0, iff, off⟩ := rel.take (d := x.1) (v := x.2) hS
      rw [h] at hy
      cases hy
      obtain ⟨Fc, Fr, a1, a2, a3, a4, a5⟩ := callRel rel0 r (by rw [argRs_set nd'.1]; exact e2) nd'.2
      have g0 : ∀ a ∈ G, a ∉ F0 := fun a ha hf => (List.nodup_append.mp nd0).2.2 a hf a ha rfl
      refine ⟨G ++ Fc, Fr, ⟨a1.sub, ?_, fun a ha => ?_, ?_⟩, ?_, ?_, fun a => ?_, fun z => by cases z⟩
      · have := a1.nd
        rw [List.nodup_append] at nd0 ⊢
        refine ⟨nd0.2.1, this, fun a ha b hb e => ?_⟩
        subst e
        exact g0 a ha ((a4 a).mpr (.inr hb))
      · rcases List.mem_append.mp ha with z | z
        · exact off a z
        · exact a1.off a z
      · have := Plcs.cons (.is ow) a1.plc
        simpa using this
      · show Rel K Hf Fr ((wipeS S (refsOf as)).set i none) σ H
        rw [wipeS_set]; exact a2
      · rw [List.nodup_append] at nd0 a3 ⊢
        refine ⟨a3.1, ?_, fun a ha b hb e => ?_⟩
        · rw [List.nodup_append]
          refine ⟨nd0.2.1, a3.2.1, fun a ha b hb e => ?_⟩
          subst e
          exact g0 a ha ((a4 a).mpr (.inr hb))
        · subst e
          rcases List.mem_append.mp hb with z | z
          · exact g0 a z ((a4 a).mpr (.inl ha))
          · exact a3.2.2 a ha a z rfl
      · rw [iff a, a4 a, List.mem_append]
        grind
/-- the others stand as they stood -/
theorem Rel.frame {Fr Fc F2 : List Addr} (r : Rel K Hf Fr S σ H) (st : Step Hf Fc H Hf' F2 H') (dis : ∀ a ∈ Fr, a ∉ Fc) (s : HSub Hf' H') : Rel K Hf' Fr S σ H' ∧ ∀ a ∈ Fr, a ∉ F2 := by
  refine ⟨⟨s, r.nd, fun a ha => ?_, r.plc.mono st.hf fun a ha o e => st.fr a o e (dis a ha)⟩, fun a ha h => ?_⟩
  · obtain ⟨o, e⟩ := r.dom a ha
    rw [st.new a o e (dis a ha)]; exact r.off a ha
  · rcases st.own a h with z | z
    · exact dis a ha z
    · obtain ⟨o, e⟩ := r.dom a ha
      rw [e] at z; cases z
theorem Rel.uncons {p : Option R} {y : Option V} {P : Slots} {ys : L2.St} (r : Rel K Hf F (p :: P) (y :: ys) H) : ∃ F1 F2, F = F1 ++ F2 ∧ Plc K Hf H p y F1 ∧ Rel K Hf F2 P ys H := by
  obtain ⟨a, b, c, d⟩ := r
  cases d with
  | cons h t =>
    rename_i F1 F2
    exact ⟨F1, F2, rfl, h, a, (List.nodup_append.mp b).2.1, fun x hx => c x (List.mem_append_right _ hx), t⟩
/-- what was handed on comes back -/
theorem backRel : ∀ {as : List Arg} {ys : List V} {fin S S' : Slots} {Fr F2 : List Addr}, Rel K Hf Fr S σ H → Rel K Hf F2 fin (ys.map some) H → (Fr ++ F2).Nodup → ArgsOk K Hf' σ as ys → (∀ i ∈ refsOf as, i < S.length) → backS S as fin = some S' →
    ∃ F3, Rel K Hf F3 S' σ H ∧ ∀ a ∈ F3, a ∈ Fr ∨ a ∈ F2
  | [], _, _, S, S', Fr, F2, rel, _, _, _, _, e => by
    cases e
    exact ⟨Fr, rel, fun a h => .inl h⟩
  | .val v :: as, _, fin, S, S', Fr, F2, rel, rf, nd, .val _ r, hl, e => by
    unfold backS at e
    cases fin with
    | nil => have := rf.len; simp at this
    | cons p fin =>
      obtain ⟨G1, G2, rfl, _, rf'⟩ := Rel.uncons (by simpa using rf)
      obtain ⟨F3, a1, a2⟩ := backRel rel rf' (by simp only [List.nodup_append, List.mem_append] at nd ⊢; grind) r hl (by simpa using e)
      exact ⟨F3, a1, fun a h => (a2 a h).imp id fun z => List.mem_append_right _ z⟩
  | .byRef i :: as, _, fin, S, S', Fr, F2, rel, rf, nd, .byRef hy r, hl, e => by
    unfold backS at e
    cases fin with
    | nil => have := rf.len; simp at this
    | cons p fin =>
      obtain ⟨G1, G2, rfl, hp, rf'⟩ := Rel.uncons (by simpa using rf)
      split at e
      · rename_i x0 ex
        have : p = some x0 := by simpa using ex
        subst this
        cases hp with
        | is ow =>
          have n1 : (Fr ++ G1).Nodup := by simp only [List.nodup_append, List.mem_append] at nd ⊢; grind
          obtain ⟨F3, b1, b2⟩ := rel.put (i := i) (hl i (by simp [refsOf])) ow n1 (fun a ha => rf.off a (List.mem_append_left _ ha))
          rw [set_same hy] at b1
          have n2 : (F3 ++ G2).Nodup := by
            have k1 := b1.nd
            rw [List.nodup_append]
            refine ⟨k1, rf'.nd, fun a ha b hb e => ?_⟩
            subst e
            simp only [List.nodup_append, List.mem_append] at nd
            rcases b2 a ha with z | z <;> grind
          obtain ⟨F4, c1, c2⟩ := backRel b1 rf' n2 r (fun j hj => by rw [List.length_set]; exact hl j (by simp [refsOf, hj])) (by simpa using e)
          refine ⟨F4, c1, fun a h => ?_⟩
          rcases c2 a h with z | z
          · exact (b2 a z).imp id fun z => List.mem_append_left _ z
          · exact .inr (List.mem_append_right _ z)
      · cases e
end
section
variable {free : List Str} {D : Den} {n : Nat} {N : List Str} {sc : Scope} {X : Cx}
theorem eva_pure : ∀ {es : CEs} {S S' : Slots} {as : List Arg}, es.pure = true → eva D es S = some (as, S') → refsOf as = []
  | .nil, _, _, _, _, e => by unfold eva at e; cases e; rfl
  | .cons e es, S, S', as, hp, h => by
    have hp : (e.pure && es.pure) = true := hp
    rw [Bool.and_eq_true] at hp
    have h' : ((ev D e S).bind fun q => match q.1.1 with
      | .own _ => (eva D es q.2).map fun t => (Arg.val q.1.2 :: t.1, t.2)
      | .bor => none) = some (as, S') := by
      cases e <;> first | exact h | cases hp.1
    rw [Option.bind_eq_some_iff] at h'
    obtain ⟨⟨⟨m, v⟩, S1⟩, e1, h'⟩ := h'
    cases m with
    | bor => cases h'
    | own d =>
      simp only [Option.map_eq_some_iff] at h'
      obtain ⟨⟨vs', S2⟩, e2, h'⟩ := h'
      obtain ⟨rfl, rfl⟩ := Prod.mk.inj h'
      exact (eva_pure hp.2 e2 : refsOf vs' = [])
theorem evk_refs : ∀ {es : CKs} {S S' : Slots} {as : List Arg}, evk D es S = some (as, S') → refsOf as = []
  | .nil, _, _, _, e => by unfold evk at e; cases e; rfl
  | .cons x e p es, S, S', as, h => by
    unfold evk at h
    rw [Option.bind_eq_some_iff] at h
    obtain ⟨⟨⟨m, v⟩, S1⟩, e1, h⟩ := h
    cases m with
    | bor => cases h
    | own d =>
      simp only [Option.map_eq_some_iff] at h
      obtain ⟨⟨vs', S2⟩, e2, h⟩ := h
      obtain ⟨rfl, rfl⟩ := Prod.mk.inj h
      exact (evk_refs e2 : refsOf vs' = [])
theorem evk_len : ∀ {ks : CKs} {S S' : Slots} {bs : List Arg}, evk D ks S = some (bs, S') → bs.length = ks.names.length
  | .nil, _, _, _, e => by unfold evk at e; cases e; rfl
  | .cons x e p es, S, S', as, h => by
    unfold evk at h
    rw [Option.bind_eq_some_iff] at h
    obtain ⟨⟨⟨m, v⟩, S1⟩, e1, h⟩ := h
    cases m with
    | bor => cases h
    | own d =>
      simp only [Option.map_eq_some_iff] at h
      obtain ⟨⟨vs', S2⟩, e2, h⟩ := h
      obtain ⟨rfl, rfl⟩ := Prod.mk.inj h
      exact congrArg Nat.succ (evk_len e2)
theorem eva_len : ∀ {es : CEs} {S S' : Slots} {as : List Arg}, eva D es S = some (as, S') → as.length = es.len
  | .nil, _, _, _, e => by unfold eva at e; cases e; rfl
  | .cons e es, S, S', as, h => by
    by_cases hr : ∃ i x p, e = .ref i x p
    · obtain ⟨i, x, p, rfl⟩ := hr
      unfold eva at h
      split at h
      · rw [Option.map_eq_some_iff] at h
        obtain ⟨⟨vs', S2⟩, e2, h⟩ := h
        obtain ⟨rfl, rfl⟩ := Prod.mk.inj h
        exact congrArg Nat.succ (eva_len e2)
      · cases h
    · have h' : ((ev D e S).bind fun q => match q.1.1 with
        | .own _ => (eva D es q.2).map fun t => (Arg.val q.1.2 :: t.1, t.2)
        | .bor => none) = some (as, S') := by
        cases e <;> first | exact h | exact absurd ⟨_, _, _, rfl⟩ hr
      rw [Option.bind_eq_some_iff] at h'
      obtain ⟨⟨⟨m, v⟩, S1⟩, e1, h'⟩ := h'
      cases m with
      | bor => cases h'
      | own d =>
        simp only [Option.map_eq_some_iff] at h'
        obtain ⟨⟨vs', S2⟩, e2, h'⟩ := h'
        obtain ⟨rfl, rfl⟩ := Prod.mk.inj h'
        exact congrArg Nat.succ (eva_len e2)
theorem ArgsOk.length {K : Frag} {Hf : Hp} {σ : L2.St} : ∀ {as : List Arg} {xs : List V}, ArgsOk K Hf σ as xs → xs.length = as.length
  | _, _, .nil => rfl
  | _, _, .val _ r => congrArg Nat.succ (ArgsOk.length r)
  | _, _, .byRef _ r => congrArg Nat.succ (ArgsOk.length r)
theorem refs_vals : ∀ (vs : List Val), refsOf (vs.map Arg.val) = []
  | [] => rfl
  | _ :: vs => refs_vals vs
theorem s_call (c : Ctx free D n N sc X) {ci : Nat} {x : Str} {np p : Pos} {es : CEs} {ks : CKs} {sh : CallSh} (hsh : D.calls[ci]? = some sh) (hx : sh.x = x) (hn : es.len = sh.n) (hk : ks.names = sh.ks) (g : glB sc x = true) (ok : okName x = true)
    (ha : PA X es.py (tEva X.K D es)) (hkw : PK X ks.py (tEvk X.K D ks)) : PE X (CE.call ci x np es ks p).py (tEv X.K D (.call ci x np es ks p)) := by
  refine ⟨fun pins s σ H Q I h => ?_⟩
  obtain ⟨S, Hf, F, r, S', rel, he, q⟩ := h
  unfold ev at he
  rw [hsh] at he
  simp only [Option.bind_some] at he
  rw [Option.bind_eq_some_iff] at he
  obtain ⟨⟨as, S1⟩, e1, he⟩ := he
  rw [Option.bind_eq_some_iff] at he
  obtain ⟨⟨bs, S2⟩, e2, he⟩ := he
  rw [Option.bind_eq_some_iff] at he
  obtain ⟨as', e3, he⟩ := he
  rw [Option.bind_eq_some_iff] at he
  obtain ⟨rs, e4, he⟩ := he
  rw [gd_some] at he
  obtain ⟨nd, he⟩ := he
  have nd := of_decide_eq_true nd
  rw [Option.bind_eq_some_iff] at he
  obtain ⟨⟨w, fin⟩, e5, he⟩ := he
  rw [Option.map_eq_some_iff] at he
  obtain ⟨S3, e6, he⟩ := he
  obtain ⟨rfl, rfl⟩ := Prod.mk.inj he
  obtain ⟨fa, fd, ps, ds, dvs, hm, hkp, G, rd, rdv, hb⟩ := (c.cal ci sh hsh).ex
  rw [hx] at hm
  -- behind the arguments
  have core : ∀ (s2 : Shared) (us ws : List Value) (xs zs : List V) (H2 Hf2 : Hp) (F2 : List Addr), Inv X pins σ H2 s2 → Vals xs us → Vals zs ws → us.length = sh.n → ws.length = sh.ks.length → Rel X.K Hf2 F2 S2 σ H2 → Step Hf F H Hf2 F2 H2 →
      ArgsOk X.K Hf2 σ as xs → ArgsOk X.K Hf2 σ bs zs → ((es.pure && ks.pure) = true → HSub H H2) → wpAny (model X.prog X.w) X.A (call (.ref fa) us (sh.ks.zip ws)) (EP X pins σ Q) X.xe s2 := by
    intro s2 us ws xs zs H2 Hf2 F2 I2 r1 r2 l1 l2 rel2 st2 o1 o2 p2
    obtain ⟨vs, ev', bt⟩ := hb s2 us ws I2.kIn l1 l2
    obtain ⟨ys, ey, ry⟩ := arrange_vals r1 r2 rd ev'
    have o3 : ArgsOk X.K Hf2 σ (sh.dv.map .val) dvs := .ofRepL (rdv.mono fun a o e => by cases e)
    have oy := arrange_args o1 o2 o3 e3 ey
    obtain ⟨Fc, Fr, a1, a2, a3, a4, a5⟩ := callRel rel2 oy e4 nd
    refine G.call (E := fun _ _ _ => False) (args := ⟨us, sh.ks.zip ws⟩) c.gu c.room I2 bt ry ⟨Hf2, Fc, rs, w, fin, a1, e5, fun y H3 Hf3 F3 gv => ?_⟩
    obtain ⟨rel3, st3, Gr, ow, nd3, off3, fr3⟩ := gv
    have dis : ∀ a ∈ Fr, a ∉ Fc := fun a ha hf => (List.nodup_append.mp a3).2.2 a ha a hf rfl
    obtain ⟨relR, disR⟩ := a2.frame st3 dis rel3.sub
    have n4 : (Fr ++ F3).Nodup := by
      rw [List.nodup_append]
      exact ⟨relR.nd, rel3.nd, fun a ha b hb e => disR a ha (e ▸ hb)⟩
    have lens : ∀ i ∈ refsOf as', i < (wipeS S2 (refsOf as')).length := by
      intro i hi
      have lw : ∀ l : List Nat, (wipeS S2 l).length = S2.length := by
        intro l
        induction l with
        | nil => rfl
        | cons a b ih => unfold wipeS; rw [List.length_set, ih]
      rw [lw]
      have mem : ∀ {l : List Arg} {rs : List R}, argRs S2 l = some rs → i ∈ refsOf l → i < S2.length := by
        intro l
        induction l with
        | nil => intro rs _ h; cases h
        | cons a l ih =>
          intro rs e h
          unfold argRs at e
          rw [Option.bind_eq_some_iff] at e
          obtain ⟨x, e7, e⟩ := e
          rw [Option.map_eq_some_iff] at e
          obtain ⟨rs', e8, _⟩ := e
          cases a with
          | val v => exact ih e8 h
          | byRef j =>
            rcases List.mem_cons.mp h with z | z
            · subst z
              exact lt_of_get (argR_ref e7)
            · exact ih e8 z
      exact mem e4 hi
    obtain ⟨F4, b1, b2⟩ := backRel relR rel3 n4 oy lens e6
    have grF : ∀ a ∈ Gr, a ∉ Fr := fun a ha hf => by
      rcases fr3 a ha with z | z
      · exact dis a hf z
      · obtain ⟨o, e⟩ := a2.dom a hf
        rw [e] at z; cases z
    refine q y H3 Hf3 F4 ⟨b1, st2.trans ⟨st3.hf, fun a o e nF => st3.fr a o e fun z => nF ((a4 a).mpr (.inr z)), fun a o e nF => st3.new a o e fun z => nF ((a4 a).mpr (.inr z)), fun a ha => ?_⟩, Gr, ow, ?_, off3, fun a ha => ?_⟩ fun hp => ?_
    · rcases b2 a ha with z | z
      · exact .inl ((a4 a).mpr (.inl z))
      · exact (st3.own a z).imp (fun z => (a4 a).mpr (.inr z)) id
    · rw [List.nodup_append] at nd3 ⊢
      refine ⟨b1.nd, nd3.2.1, fun a ha b hb e => ?_⟩
      subst e
      rcases b2 a ha with z | z
      · exact grF a hb z
      · exact nd3.2.2 a z a hb rfl
    · rcases fr3 a ha with z | z
      · exact st2.own a ((a4 a).mpr (.inr z))
      · exact st2.fresh z
    · unfold CE.pure at hp
      have hp' := hp
      rw [Bool.and_eq_true] at hp'
      have : Fc = [] := a5 (arrange_vals_only (eva_pure hp'.1 e1) (evk_refs e2) (refs_vals _) e3)
      subst this
      exact (p2 hp).trans fun a o e => st3.fr a o e (by simp)
  obtain ⟨ka1, ka2, ka3⟩ := kw_all ks p X.env
  rw [hk] at ka3
  show wpAny (model X.prog X.w) X.A (eval (.Call (.Name x np) es.py ks.py p) X.env) (EP X pins σ Q) X.xe s
  refine wpAny_Call_Name_kw (ld_glob I (c.gl g) hm ?_ (okName_ok ok).1)
  -- lengths of what comes
  have kwRun : ∀ (s1 : Shared) (H1 Hf1 : Hp) (F1 : List Addr) (us : List Value) (xs : List V), Inv X pins σ H1 s1 → Vals xs us → us.length = sh.n → Rel X.K Hf1 F1 S1 σ H1 → Step Hf F H Hf1 F1 H1 → ArgsOk X.K Hf1 σ as xs → (es.pure = true → HSub H H1) →
      wpAny (model X.prog X.w) X.A (evalAll ((backToKw p (keywordEach ks.py X.env)).map (·.2))) (fun ws s2 => X.K.In s2.heap ∧ wpAny (model X.prog X.w) X.A (call (.ref fa) us (((backToKw p (keywordEach ks.py X.env)).filterMap (·.1)).zip ws)) (EP X pins σ Q) X.xe s2) X.xe s1 := by
    intro s1 H1 Hf1 F1 us xs I1 r1 l1 rel1 st1 o1 p1
    refine thn (hkw.run p pins s1 σ H1 _ I1 ⟨S1, Hf1, F1, bs, S2, rel1, e2, fun zs H2 Hf2 F2 g2 p2 => (⟨Hf2, F2, g2, p2⟩ : ∃ Hf2 F2, GivesA X.K Hf1 F1 H1 S2 σ bs zs Hf2 F2 H2 ∧ (ks.pure = true → HSub H1 H2))⟩) ?_
    rintro ws s2 ⟨zs, H2, I2, r2, Hf2, F2, g2, p2⟩
    refine ⟨I2.kIn, ?_⟩
    rw [ka3]
    have lw : ws.length = sh.ks.length := by rw [← r2.length, g2.res.length, evk_len e2, hk]
    refine core s2 us ws xs zs H2 Hf2 F2 I2 r1 r2 l1 lw g2.rel (st1.trans g2.st) (o1.mono g2.st.hf) g2.res fun hp => ?_
    rw [Bool.and_eq_true] at hp
    exact (p1 hp.1).trans (p2 hp.2)
  have posRun : wpAny (model X.prog X.w) X.A (spliced (backTo p (starEach es.py X.env))) (fun us s1 => ∃ xs H1 Hf1 F1, Inv X pins σ H1 s1 ∧ Vals xs us ∧ us.length = sh.n ∧ Rel X.K Hf1 F1 S1 σ H1 ∧ Step Hf F H Hf1 F1 H1 ∧ ArgsOk X.K Hf1 σ as xs ∧ (es.pure = true → HSub H H1)) X.xe s := by
    refine thn (ha.run p pins s σ H _ I ⟨S, Hf, F, as, S1, rel, e1, fun xs H1 Hf1 F1 g1 p1 => (⟨Hf1, F1, g1, p1⟩ : ∃ Hf1 F1, GivesA X.K Hf F H S1 σ as xs Hf1 F1 H1 ∧ (es.pure = true → HSub H H1))⟩) ?_
    rintro us s1 ⟨xs, H1, I1, r1, Hf1, F1, g1, p1⟩
    exact ⟨xs, H1, Hf1, F1, I1, r1, by rw [← r1.length, g1.res.length, eva_len e1, hn], g1.rel, g1.st, g1.res, p1⟩
  cases es with
  | nil =>
    have e1' : some (([] : List Arg), S) = some (as, S1) := by have := e1; unfold eva at this; exact this
    obtain ⟨rfl, rfl⟩ := Prod.mk.inj (Option.some.inj e1')
    have hn0 : ([] : List Value).length = sh.n := hn
    have kw := kwRun s H Hf F [] [] I .nil hn0 rel (Step.refl _ _ _) .nil (fun _ => HSub.refl _)
    cases ks with
    | nil =>
      have e2' : some (([] : List Arg), S) = some (bs, S2) := by have := e2; unfold evk at this; exact this
      obtain ⟨rfl, rfl⟩ := Prod.mk.inj (Option.some.inj e2')
      have hk0 : sh.ks = [] := hk.symm
      have := core s [] [] [] [] H Hf F I .nil .nil hn0 (by rw [hk0]; rfl) rel (Step.refl _ _ _) .nil .nil (fun _ => HSub.refl _)
      rw [hk0] at this
      exact PySem.W.callWith_K0 (first := []) I.kIn hkp this
    | cons y e qq ks =>
      exact PySem.W.callWith_KW0 (first := []) I.ok.mod.kin hkp ka1 kw ka2
  | cons e es =>
    have kwAfter := thn posRun (Q' := fun us s1 => wpAny (model X.prog X.w) X.A (evalAll ((backToKw p (keywordEach ks.py X.env)).map (·.2))) (fun ws s2 => X.K.In s2.heap ∧ wpAny (model X.prog X.w) X.A (call (.ref fa) us (((backToKw p (keywordEach ks.py X.env)).filterMap (·.1)).zip ws)) (EP X pins σ Q) X.xe s2) X.xe s1) (by
      rintro us s1 ⟨xs, H1, Hf1, F1, I1, r1, l1, rel1, st1, o1, p1⟩
      exact kwRun s1 H1 Hf1 F1 us xs I1 r1 l1 rel1 st1 o1 p1)
    cases ks with
    | nil =>
      have e2' : some (([] : List Arg), S1) = some (bs, S2) := by have := e2; unfold evk at this; exact this
      obtain ⟨rfl, rfl⟩ := Prod.mk.inj (Option.some.inj e2')
      have hk0 : sh.ks = [] := hk.symm
      refine PySem.W.callWith_K (first := []) (h₀ := X.base) I.ok.mod.kin hkp (thn posRun ?_) (star_cons e _ _) (no_star es p _)
      rintro us s1 ⟨xs, H1, Hf1, F1, I1, r1, l1, rel1, st1, o1, p1⟩
      have := core s1 us [] xs [] H1 Hf1 F1 I1 r1 .nil l1 (by rw [hk0]; rfl) rel1 st1 o1 .nil (fun hp => by rw [Bool.and_eq_true] at hp; exact p1 hp.1)
      rw [hk0] at this
      exact ⟨I1.kIn, this⟩
    | cons y e' qq ks =>
      refine PySem.W.callWith_KW (first := []) (h₀ := X.base) I.ok.mod.kin hkp ka1 kwAfter ?_ (star_cons e _ _)
      rw [ka2, Bool.or_false]
      exact no_star (.cons e es) p _
end
end BV
/-! enumerate over tuples and texts. -/
namespace BV
open PySem PySem.Spec PyProof.Rows L2
/-- the tuple at a, each item in a new pair -/
def IteT (K : Frag) (a : Addr) : It :=
  ⟨fun i H => ∃ (xs : List V) (x : V), SqT K H a xs ∧ xs[i]? = some x, fun i H v H' => ∃ T x, v = .ref T ∧ H T = none ∧ H' = upd H T (.tup [.int (i : Nat), x]) ∧ ∀ xs, SqT K H a xs → xs[i]? = some x, fun i H => ∃ xs : List V, SqT K H a xs ∧ xs.length = i⟩
/-- the signs of a text, each in a new pair -/
def IteS (x : Str) : It :=
  ⟨fun i H => i < x.cps.size, fun i H v H' => ∃ T c, v = .ref T ∧ H T = none ∧ H' = upd H T (.tup [.int (i : Nat), .str ⟨#[c]⟩]) ∧ x.cps[i]? = some c, fun i H => x.cps.size = i⟩
/-- one turn of enumerate over any iterator -/
theorem enum_turn {X : Cx} {i n : Nat} {pins : List (Addr × Obj)} {s : Shared} {σ : L2.St} {H : Hp} {E : Value → Shared → Prop} {e it : Addr} {fp : List Addr} {P : Nat → Value → Prop} {St : Nat → Heap → Prop} {elts : List Expr} {kk : Nat} {tpos : Pos} {old : Value}
    {Qf : V → Hp → Shared → Prop} (D : Draws X.prog X.w X.A.in1 it fp n P St) (I : Inv X pins σ H s) (hf : ∀ b ∈ [e, it], FpOk X pins H b) (he : IsEnum s.heap e it ((i : Nat) : Int) old) (hst : St i s.heap) (hi : i < n) (hne : e ≠ it) (hef : e ∉ fp)
    (go : ∀ (u : Value) (h' : Heap) (tk : Nat) (v : V), P i u → RelV v u → (∃ old, IsEnum h' e it ((i + 1 : Nat) : Int) old) → St (i + 1) h' →
      Inv X pins σ (upd H s.heap.objs.size (.tup [.int (i : Nat), v])) { s with heap := h', toks := tk } → H s.heap.objs.size = none → (∀ b ∈ [e, it], upd H s.heap.objs.size (.tup [.int (i : Nat), v]) b = none) → Qf (.ref s.heap.objs.size) (upd H s.heap.objs.size (.tup [.int (i : Nat), v])) { s with heap := h', toks := tk })
    (val : ∀ u, P i u → ∃ v, RelV v u) :
    wpAny (model X.prog X.w) X.A (pyNext (.ref e)) (fun r s1 => ∃ u, r = some u ∧
      wpAny (model X.prog X.w) X.A (letOwnedTupleGo (.Tuple elts kk tpos) (.ref e) u) (fun _ s2 => ∃ x H', RelV x u ∧ Qf x H' s2) E s1) E s := by
  have hel : e < s.heap.objs.size := Heap.lt_size he
  obtain ⟨oi, hoi⟩ := D.live _ _ hst
  have hil : it < s.heap.objs.size := Heap.lt_size hoi
  refine wpAny_pyNext_enum_itemD D he hst hi hne hef fun u h' tk hP ho hst' hT hsz hk => ?_
  refine ⟨_, rfl, wpAny_letOwnedTupleGo_enum (s := { s with heap := h', toks := tk + 1 }) ho fun h'' he' sb => ?_⟩
  obtain ⟨v, rv⟩ := val u hP
  have hT2 : h''.get? s.heap.objs.size = some { cls := .type "tuple", data := .seq #[.int i tk, u] } := (sb.2 _ (Nat.ne_of_gt hel)).trans hT
  have new : ObjOk X.prog X.w (upd H s.heap.objs.size (.tup [.int (i : Nat), v])) h'' s.heap.objs.size (.tup [.int (i : Nat), v]) :=
    ⟨by show 2 ≤ sizeLine; decide, [.int i tk, u], .cons ⟨_, rfl⟩ (.cons rv .nil), ⟨_, hT2, rfl, _, rfl⟩⟩
  have I1 : Inv X pins σ (upd H s.heap.objs.size (.tup [.int (i : Nat), v])) { s with heap := h'', toks := tk + 1 } :=
    I.turnedNew (ch := [e, it]) (fun b ob hb q => (sb.2 b (fun z => hb (by simp [z]))).trans (hk b ob (fun z => hb (by simp [z])) (fun z => hb (by simp [z])) q)) hf (Nat.le_refl _) new
  refine ⟨.ref s.heap.objs.size, _, rfl, go u h'' (tk + 1) v hP rv ⟨u, ?_⟩ (D.frame _ _ _ hst' fun b hb o q => (sb.2 b fun z => hef (z ▸ hb)).trans q) I1 (I.hok.fresh (Nat.le_refl _)) fun b hb => ?_⟩
  · have e1 : ((i + 1 : Nat) : Int) = (i : Int) + 1 := by omega
    rw [e1]; exact he'
  · have hb' : b < s.heap.objs.size := by
      have e' : b = e ∨ b = it := by simpa using hb
      rcases e' with z | z
      · rw [z]; exact hel
      · rw [z]; exact hil
    rw [upd_ne (Nat.ne_of_lt hb')]
    exact (hf b hb).1
theorem turn_enumT {P : Program} {w : World} {K : Frag} {elts : List Expr} {kk : Nat} {tpos : Pos} (a e it : Addr) (hae : a ≠ e) (hai : a ≠ it) :
    Turn P w K (.Tuple elts kk tpos) (IteT K a) [e, it] e (fun i h => (∃ old, IsEnum h e it ((i : Nat) : Int) old) ∧ h.IsTupleIter it a i ∧ e ≠ it) where
  mem := by simp
  obj := fun i h st b hb => by
    obtain ⟨⟨old, he⟩, ⟨o, ho, hc, hd⟩, _⟩ := st
    have e' : b = e ∨ b = it := by simpa using hb
    rcases e' with z | z
    · rw [z]; exact ⟨_, he, fun v q => nomatch q⟩
    · rw [z]; exact ⟨o, ho, fun v q => by rw [hd] at q; cases q⟩
  keep := fun i h h' st k => let ⟨⟨old, he⟩, hi, hne⟩ := st; ⟨⟨old, k e (by simp) _ he⟩, hi.at fun o q => k it (by simp) o q, hne⟩
  item := by
    intro X hP hw hK hc i pins s σ H E I hf st hg
    subst hP hw hK
    obtain ⟨⟨old, he⟩, hit, hne⟩ := st
    obtain ⟨xs, x, hq, hx⟩ := hg
    obtain ⟨its, rv, p, hz⟩ := I.tuple hq
    obtain ⟨u, hu, ru⟩ := rv.get hx
    have hu' : its.toArray[i]? = some u := by simpa using hu
    have hlt : i < its.toArray.size := (Array.getElem?_eq_some_iff.mp hu').1
    have D := Draws.tuple (prog := X.prog) (w := X.w) (A := X.A.in1) (I.ok.hd hc) it a hai its.toArray
    refine wpAny_mono (enum_turn (elts := elts) (kk := kk) (tpos := tpos) (E := E) (Qf := fun v H' s2 => ∃ T, v = .ref T ∧ H T = none ∧ H' = upd H T (.tup [.int (i : Nat), x]) ∧ Inv X pins σ H' s2 ∧ (∃ old, IsEnum s2.heap e it ((i + 1 : Nat) : Int) old) ∧ s2.heap.IsTupleIter it a (i + 1) ∧ ∀ b ∈ [e, it], H' b = none)
      D I hf he ⟨hit, p⟩ hlt hne (by simp only [List.mem_cons, List.not_mem_nil, or_false, not_or]; exact ⟨hne, fun z => hae z.symm⟩) (fun u1 h' tk v hP1 rv1 he1 st1 I1 hn1 hb1 => ?_) (fun u1 hP1 => ?_)) (fun r s1 ⟨u1, e1, h1⟩ => ⟨u1, e1, thn h1 fun _ s2 ⟨x2, H2, r2, T, e2, e3, e4, I2, he2, st2, hb2⟩ => ?_⟩) (fun _ _ z => z)
    · rw [hu'] at hP1
      cases hP1
      obtain rfl := RelV.inj rv1 ru
      exact ⟨_, rfl, hn1, rfl, I1, he1, st1.1, hb1⟩
    · rw [hu'] at hP1
      cases hP1
      exact ⟨x, ru⟩
    · exact ⟨x2, H2, I2, r2, ⟨T, x, e2, e3, e4, fun ys hy => by rw [I.tuple_inj hy hq]; exact hx⟩, ⟨he2, st2, hne⟩, hb2⟩
  done := by
    intro X hP hw hK hc i pins s σ H E I hf st hg
    subst hP hw hK
    obtain ⟨⟨old, he⟩, hit, hne⟩ := st
    obtain ⟨xs, hq, hx⟩ := hg
    obtain ⟨its, rv, p, hz⟩ := I.tuple hq
    obtain ⟨f0, f1, f2, f3, f4, f5⟩ := hf it (by simp)
    have hl := rv.length
    have D := Draws.tuple (prog := X.prog) (w := X.w) (A := X.A.in1) (I.ok.hd hc) it a hai its.toArray
    have ei : i = its.toArray.size := by simp; omega
    subst ei
    exact wpAny_pyNext_enum_endD D he ⟨hit, p⟩ fun h' eb => ⟨rfl, I.turned (t' := s.toks) (fun b o hb q => eb b o hb q) f0 f1 f3 f4 f5⟩
  self := fun A i s Q E st h => let ⟨⟨_, he⟩, _⟩ := st; wpAny_pyIter_enum he h
theorem turn_enumS {P : Program} {w : World} {K : Frag} {elts : List Expr} {kk : Nat} {tpos : Pos} (x : Str) (t : Tok) (e it : Addr) :
    Turn P w K (.Tuple elts kk tpos) (IteS x) [e, it] e (fun i h => (∃ old, IsEnum h e it ((i : Nat) : Int) old) ∧ h.IsStrIter it (strIterType x) x t i ∧ e ≠ it) where
  mem := by simp
  obj := fun i h st b hb => by
    obtain ⟨⟨old, he⟩, ⟨o, ho, hc, hd⟩, _⟩ := st
    have e' : b = e ∨ b = it := by simpa using hb
    rcases e' with z | z
    · rw [z]; exact ⟨_, he, fun v q => nomatch q⟩
    · rw [z]; exact ⟨o, ho, fun v q => by rw [hd] at q; cases q⟩
  keep := fun i h h' st k => let ⟨⟨old, he⟩, ⟨o, ho, r⟩, hne⟩ := st; ⟨⟨old, k e (by simp) _ he⟩, ⟨o, k it (by simp) o ho, r⟩, hne⟩
  item := by
    intro X hP hw hK hc i pins s σ H E I hf st hg
    subst hP hw hK
    obtain ⟨⟨old, he⟩, hit, hne⟩ := st
    have D := Draws.text (prog := X.prog) (w := X.w) (A := X.A.in1) (I.ok.hd hc) it x t
    refine wpAny_mono (enum_turn (elts := elts) (kk := kk) (tpos := tpos) (E := E) (Qf := fun v H' s2 => ∃ T c, v = .ref T ∧ H T = none ∧ H' = upd H T (.tup [.int (i : Nat), .str ⟨#[c]⟩]) ∧ x.cps[i]? = some c ∧ Inv X pins σ H' s2 ∧ (∃ old, IsEnum s2.heap e it ((i + 1 : Nat) : Int) old) ∧ s2.heap.IsStrIter it (strIterType x) x t (i + 1) ∧ ∀ b ∈ [e, it], H' b = none)
      D I hf he hit hg hne (by simp only [List.mem_cons, List.not_mem_nil, or_false]; exact hne) (fun u1 h' tk v hP1 rv1 he1 st1 I1 hn1 hb1 => ?_) (fun u1 hP1 => ?_)) (fun r s1 ⟨u1, e1, h1⟩ => ⟨u1, e1, thn h1 fun _ s2 ⟨x2, H2, r2, T, c, e2, e3, e4, ec, I2, he2, st2, hb2⟩ => ?_⟩) (fun _ _ z => z)
    · obtain ⟨c, u, hcx, rfl⟩ := hP1
      obtain rfl := RelV.inj rv1 (show RelV (.str ⟨#[c]⟩) _ from ⟨u, rfl⟩)
      exact ⟨_, c, rfl, hn1, rfl, hcx, I1, he1, st1, hb1⟩
    · obtain ⟨c, u, hcx, rfl⟩ := hP1
      exact ⟨.str ⟨#[c]⟩, u, rfl⟩
    · exact ⟨x2, H2, I2, r2, ⟨T, c, e2, e3, e4, ec⟩, ⟨he2, st2, hne⟩, hb2⟩
  done := by
    intro X hP hw hK hc i pins s σ H E I hf st hg
    subst hP hw hK
    obtain ⟨⟨old, he⟩, hit, hne⟩ := st
    obtain ⟨f0, f1, f2, f3, f4, f5⟩ := hf it (by simp)
    have D := Draws.text (prog := X.prog) (w := X.w) (A := X.A.in1) (I.ok.hd hc) it x t
    have hg : x.cps.size = i := hg
    subst hg
    exact wpAny_pyNext_enum_endD D he hit fun h' eb => ⟨rfl, I.turned (t' := s.toks) (fun b o hb q => eb b o hb q) f0 f1 f3 f4 f5⟩
  self := fun A i s Q E st h => let ⟨⟨_, he⟩, _⟩ := st; wpAny_pyIter_enum he h
theorem meets_enumerate_newT (l : Addr) (items : Array Value) :
    Meets (Builtin.«enumerate.__new__» ⟨[.type "enumerate", .ref l], []⟩) (fun _ R s => s.heap.IsTuple l items ∧
      R (.ok (.ret (.ref (s.heap.push { cls := .type "tuple_iterator", data := .fields #[.ref l, .int 0 0] }).objs.size)))
        { s with heap := (s.heap.push { cls := .type "tuple_iterator", data := .fields #[.ref l, .int 0 0] }).push { cls := .type "enumerate", data := .fields #[.none, .bool false, .ref s.heap.objs.size, rawInt 0, .none, .none] } }) :=
  .of_wp fun prog w A R s h => by
    obtain ⟨hT, h⟩ := h
    have hsub := sub_enumerate
    wp_walk
    refine wpAny_stack_any fun st => wpAny_pure ?_
    split
    · rename_i c _ _ _ _ _
      cases (c == Value.type "enumerate")
      · wp_walk using wpAny_pyIter_tuple hT
        exact ⟨_, rfl, h⟩
      · wp_walk using wpAny_pyIter_tuple hT
        exact ⟨_, rfl, h⟩
    · wp_walk using wpAny_pyIter_tuple hT
      exact ⟨_, rfl, h⟩
theorem call_enumerate_tup {prog : Program} {w : World} {A : Around} {E : Value → Shared → Prop} {s : Shared} {l : Addr} {items : Array Value} {Q : Value → Shared → Prop} (hL : s.heap.IsTuple l items)
    (h : ∀ h', IsEnum h' (s.heap.objs.size + 1) s.heap.objs.size 0 .none → h'.IsTupleIter s.heap.objs.size l 0 → h'.objs.size = s.heap.objs.size + 2 →
      (∀ b o, s.heap.get? b = some o → h'.get? b = some o) → Q (.ref (s.heap.objs.size + 1)) { s with heap := h' }) :
    wpAny (model prog w) A (call (.type "enumerate") [.ref l]) Q E s := by
  refine callType_new F.called_enumerate (by decide) (F.typeCall_enumerate_1 _) (F.newCall_enumerate_1 _) (fun obj => F.args_object_init_2 obj _) F.entry_enumerate_new
    (meets_enumerate_newT l items) ⟨hL, ?_⟩
  have hz : (s.heap.push { cls := .type "tuple_iterator", data := .fields #[.ref l, .int 0 0] }).objs.size = s.heap.objs.size + 1 := Heap.size_push ..
  show _ ∧ _
  rw [hz]
  have he : IsEnum ((s.heap.push { cls := .type "tuple_iterator", data := .fields #[.ref l, .int 0 0] }).push
      { cls := .type "enumerate", data := .fields #[.none, .bool false, .ref s.heap.objs.size, rawInt 0, .none, .none] }) (s.heap.objs.size + 1) s.heap.objs.size 0 .none := by
    have := Heap.get?_push_size (s.heap.push { cls := .type "tuple_iterator", data := .fields #[.ref l, .int 0 0] })
      (o := { cls := .type "enumerate", data := .fields #[.none, .bool false, .ref s.heap.objs.size, rawInt 0, .none, .none] }) rfl
    rw [hz] at this; exact this
  refine ⟨⟨_, he, rfl⟩, h _ he ⟨_, Heap.get?_push_of_some _ (Heap.get?_push_size _ rfl), rfl, rfl⟩ (by rw [Heap.size_push, hz]) fun b o x => Heap.get?_push_of_some _ (Heap.get?_push_of_some _ x)⟩
/-- enumerate of a list, a tuple, a text -/
def iEnumA (K : Frag) (ta : TA) : TI := fun σ H R => ta σ H fun vs H1 => (∃ a xs, vs = [.ref a] ∧ SqL K H1 a xs ∧ R (Ite K a) H1) ∨ (∃ a xs, vs = [.ref a] ∧ SqT K H1 a xs ∧ R (IteT K a) H1) ∨ ∃ x, vs = [.str x] ∧ R (IteS x) H1
theorem pi_enumA {X : Cx} {e : Expr} {ta : TA} {p pos tpos : Pos} {elts : List Expr} {kk : Nat} (hg : Gl X "enumerate") (hm : X.mg "enumerate" = none) (ha : PA X [e] ta) (hs : starEach [e] X.env = [(false, eval e X.env)]) :
    PI X (.Tuple elts kk tpos) (.Call (.Name "enumerate" p) [e] [] pos) (iEnumA X.K ta) := by
  refine ⟨fun pins s σ H R I h => ?_⟩
  refine Call_ (ld_blt I hg hm boot_enumerate (PyProof.Rows.callWith_type1 (thn (ha.run pos pins s σ H _ I h) fun us s1 ⟨vs, H1, I1, r1, q1⟩ => ?_) hs rfl))
  have fresh2 : ∀ b ∈ [s1.heap.objs.size + 1, s1.heap.objs.size], FpOk X pins H1 b := fun b hb => by
    have e' : b = s1.heap.objs.size + 1 ∨ b = s1.heap.objs.size := by simpa using hb
    have hle : s1.heap.objs.size ≤ b := by
      rcases e' with z | z
      · rw [z]; exact Nat.le_add_right _ _
      · rw [z]; exact Nat.le_refl _
    exact I1.fpOk hle (I1.hok.fresh hle)
  rcases q1 with ⟨a, xs, ex, hq, q⟩ | ⟨a, xs, ex, hq, q⟩ | ⟨x, ex, q⟩
  · subst ex
    cases r1 with
    | cons r rr =>
      cases rr
      cases r
      obtain ⟨its, rv, p', hz⟩ := I1.list hq
      refine call_enumerate_list p'.isList fun h' he hit hsz hk => wpAny_pyIter_enum he ?_
      have I2 : Inv X pins σ H1 { s1 with heap := h' } := I1.kept (t' := s1.toks) hk
      exact ⟨s1.heap.objs.size + 1, [s1.heap.objs.size + 1, s1.heap.objs.size], _, _, H1, rfl, I2, turn_enum a (s1.heap.objs.size + 1) s1.heap.objs.size, ⟨⟨.none, he⟩, hit, Nat.succ_ne_self _⟩, fresh2, q⟩
  · subst ex
    cases r1 with
    | cons r rr =>
      cases rr
      cases r
      obtain ⟨its, rv, p', hz⟩ := I1.tuple hq
      obtain ⟨o1, ho1, _⟩ := id p'
      have hlt := Heap.lt_size ho1
      refine call_enumerate_tup (show s1.heap.IsTuple a its.toArray from p') fun h' he hit hsz hk => wpAny_pyIter_enum he ?_
      have I2 : Inv X pins σ H1 { s1 with heap := h' } := I1.kept (t' := s1.toks) hk
      exact ⟨s1.heap.objs.size + 1, [s1.heap.objs.size + 1, s1.heap.objs.size], _, _, H1, rfl, I2, turn_enumT a (s1.heap.objs.size + 1) s1.heap.objs.size (Nat.ne_of_lt (Nat.lt_succ_of_lt hlt)) (Nat.ne_of_lt hlt), ⟨⟨.none, he⟩, hit, Nat.succ_ne_self _⟩, fresh2, q⟩
  · subst ex
    cases r1 with
    | cons r rr =>
      cases rr
      obtain ⟨t, rfl⟩ := r
      refine call_enumerate_str fun h' he hit hsz hk => wpAny_pyIter_enum he ?_
      have I2 : Inv X pins σ H1 { s1 with heap := h' } := I1.kept (t' := s1.toks) hk
      exact ⟨s1.heap.objs.size + 1, [s1.heap.objs.size + 1, s1.heap.objs.size], _, _, H1, rfl, I2, turn_enumS x t (s1.heap.objs.size + 1) s1.heap.objs.size, ⟨⟨.none, he⟩, hit, Nat.succ_ne_self _⟩, fresh2, q⟩
end BV
/-! What is walked, targets, comprehensions. -/
namespace BV
open PySem PySem.Spec PyProof.Rows L2
/-- the i-th thing comes: it stands, or is a new pair -/
def YItem (K : Frag) (Hf : Hp) (vs : List Val) : Nat → Hp → V → Hp → Prop := fun i H x H' => ∃ v, vs[i]? = some v ∧
  ((H' = H ∧ Rep K Hf v x) ∨ ∃ T a b y z, v = .tup [a, b] ∧ x = .ref T ∧ H T = none ∧ H' = upd H T (.tup [y, z]) ∧ Rep K Hf a y ∧ Rep K Hf b z)
def tI (K : Frag) (D : Den) (it : CI) : TI := fun σ H Rr => ∃ S Hf F vs S', Rel K Hf F S σ H ∧ evI D it S = some (vs, S') ∧
  ∀ J H' Hf' F', Rel K Hf' F' S' σ H' → Step Hf F H Hf' F' H' → (it.pure = true → HSub H H') → Walk J vs.length (fun H => HSub Hf' H) (YItem K Hf' vs) → Rr J H'
section
variable {K : Frag} {Hf H : Hp}
theorem RepL.get' : ∀ {vs : List Val} {xs : List V} {i : Nat} {x : V}, RepL K H vs xs → xs[i]? = some x → ∃ v, vs[i]? = some v ∧ Rep K H v x
  | _, _, _, _, .nil, e => by simp at e
  | _, _, 0, _, .cons h _, e => by simp at e; subst e; exact ⟨_, rfl, h⟩
  | _, _, i + 1, x, .cons _ t, e => by
    obtain ⟨u, h1, h2⟩ := RepL.get' (i := i) (x := x) t (by simpa using e)
    exact ⟨u, by simpa using h1, h2⟩
theorem intsFrom_len (lo : Int) : ∀ n, (intsFrom lo n).length = n
  | 0 => rfl
  | n + 1 => congrArg Nat.succ (intsFrom_len (lo + 1) n)
theorem intsFrom_get : ∀ {n : Nat} {lo : Int} {i : Nat}, i < n → (intsFrom lo n)[i]? = some (.int (lo + i))
  | 0, _, _, h => by omega
  | n + 1, lo, 0, _ => by simp [intsFrom]
  | n + 1, lo, i + 1, h => by
    show (intsFrom (lo + 1) n)[i]? = _
    rw [intsFrom_get (by omega)]
    congr 2
    omega
theorem numbered_len : ∀ (xs : List Val) (k : Nat), (numbered k xs).length = xs.length
  | [], _ => rfl
  | _ :: xs, k => congrArg Nat.succ (numbered_len xs (k + 1))
theorem numbered_get : ∀ {xs : List Val} {k i : Nat} {v : Val}, xs[i]? = some v → (numbered k xs)[i]? = some (.tup [.int ((k + i : Nat) : Int), v])
  | [], _, _, _, e => by simp at e
  | x :: xs, k, 0, v, e => by simp at e; subst e; simp [numbered]
  | x :: xs, k, i + 1, v, e => by
    show (numbered (k + 1) xs)[i]? = _
    rw [numbered_get (by simpa using e)]
    congr 5
    omega
theorem pairUp_len : ∀ (xs ys : List Val), (pairUp xs ys).length = min xs.length ys.length
  | [], _ => by simp [pairUp]
  | _ :: _, [] => by simp [pairUp]
  | x :: xs, y :: ys => by simp only [pairUp, List.length_cons, pairUp_len xs ys]; omega
theorem pairUp_get : ∀ {xs ys : List Val} {i : Nat} {v w : Val}, xs[i]? = some v → ys[i]? = some w → (pairUp xs ys)[i]? = some (.tup [v, w])
  | [], _, _, _, _, e, _ => by simp at e
  | _ :: _, [], _, _, _, _, e => by simp at e
  | x :: xs, y :: ys, 0, v, w, e, e2 => by simp at e e2; subst e; subst e2; simp [pairUp]
  | x :: xs, y :: ys, i + 1, v, w, e, e2 => by
    show (pairUp xs ys)[i]? = _
    exact pairUp_get (by simpa using e) (by simpa using e2)
theorem walk_rl {a : Addr} {vs : List Val} {ys : List V} (h : RdL K Hf a ys) (l : RepL K Hf vs ys) : Walk (Itl K a) vs.length (fun H => HSub Hf H) (YItem K Hf vs) := by
  rw [← l.length]
  exact walk_list.mono (fun H s => (rdL_mono s h).sq) fun i H x H' hi s y => by
    obtain ⟨rfl, e⟩ := y
    obtain ⟨v, e1, e2⟩ := l.get' e
    exact ⟨v, e1, .inl ⟨rfl, e2⟩⟩
theorem walk_rt {a : Addr} {vs : List Val} {ys : List V} (h : SqT K Hf a ys) (l : RepL K Hf vs ys) : Walk (Itt K a) vs.length (fun H => HSub Hf H) (YItem K Hf vs) := by
  rw [← l.length]
  exact walk_tup.mono (fun H s => sqT_mono s h) fun i H x H' hi s y => by
    obtain ⟨rfl, e⟩ := y
    obtain ⟨v, e1, e2⟩ := l.get' e
    exact ⟨v, e1, .inl ⟨rfl, e2⟩⟩
theorem walk_rr {lo : Int} {n : Nat} : Walk (Itr lo n) (intsFrom lo n).length (fun H => HSub Hf H) (YItem K Hf (intsFrom lo n)) := by
  rw [intsFrom_len]
  exact walk_range.mono (fun H s => trivial) fun i H x H' hi s y => by
    obtain ⟨rfl, rfl⟩ := y
    exact ⟨_, intsFrom_get hi, .inl ⟨rfl, .int _⟩⟩
theorem walk_re {a : Addr} {vs : List Val} {ys : List V} (h : RdL K Hf a ys) (l : RepL K Hf vs ys) : Walk (Ite K a) (numbered 0 vs).length (fun H => HSub Hf H) (YItem K Hf (numbered 0 vs)) := by
  rw [numbered_len, ← l.length]
  exact walk_enum.mono (fun H s => (rdL_mono s h).sq) fun i H x H' hi s y => by
    obtain ⟨T, y1, y2, rfl, e1, e2, e3, e4⟩ := y
    obtain ⟨v, e5, e6⟩ := l.get' e4
    cases e3
    refine ⟨_, numbered_get e5, .inr ⟨T, _, _, _, _, rfl, rfl, e1, e2, ?_, e6⟩⟩
    rw [Nat.zero_add]
    exact .int _
theorem walk_ret {a : Addr} {vs : List Val} {ys : List V} (h : SqT K Hf a ys) (l : RepL K Hf vs ys) : Walk (IteT K a) (numbered 0 vs).length (fun H => HSub Hf H) (YItem K Hf (numbered 0 vs)) := by
  rw [numbered_len, ← l.length]
  refine ⟨fun i H hi s => ⟨ys, ys[i], sqT_mono s h, by simp [hi]⟩, fun H s => ⟨ys, sqT_mono s h, rfl⟩, fun i H x H' hi s y => ?_⟩
  obtain ⟨T, y2, rfl, e1, e2, e4⟩ := y
  obtain ⟨v, e5, e6⟩ := l.get' (e4 ys (sqT_mono s h))
  refine ⟨_, numbered_get e5, .inr ⟨T, _, _, _, _, rfl, rfl, e1, e2, ?_, e6⟩⟩
  rw [Nat.zero_add]
  exact .int _
theorem signs_len (s : Str) : (signs s).length = s.cps.size := by unfold signs; simp
theorem signs_get {s : Str} {i c : Nat} (h : s.cps[i]? = some c) : (signs s)[i]? = some (.str ⟨#[c]⟩) := by unfold signs; simp [h]
theorem walk_res {x : Str} : Walk (IteS x) (numbered 0 (signs x)).length (fun H => HSub Hf H) (YItem K Hf (numbered 0 (signs x))) := by
  rw [numbered_len, signs_len]
  refine ⟨fun i H hi s => hi, fun H s => rfl, fun i H v H' hi s y => ?_⟩
  obtain ⟨T, c, rfl, e1, e2, e4⟩ := y
  refine ⟨_, numbered_get (signs_get e4), .inr ⟨T, _, _, _, _, rfl, rfl, e1, e2, ?_, .str _⟩⟩
  rw [Nat.zero_add]
  exact .int _
theorem walk_rs {x : Str} : Walk (Its x) (signs x).length (fun H => HSub Hf H) (YItem K Hf (signs x)) := by
  rw [signs_len]
  refine ⟨fun i H hi s => hi, fun H s => Nat.le_refl _, fun i H v H' hi s y => ?_⟩
  obtain ⟨rfl, c, e1, rfl⟩ := y
  exact ⟨_, signs_get e1, .inl ⟨rfl, .str _⟩⟩
theorem walk_rzt {a b : Addr} {vs ws : List Val} {ys zs : List V} (h : SqT K Hf a ys) (l : RepL K Hf vs ys) (h2 : SqT K Hf b zs) (l2 : RepL K Hf ws zs) : Walk (RZ.ItzT K a b) (pairUp vs ws).length (fun H => HSub Hf H) (YItem K Hf (pairUp vs ws)) := by
  rw [pairUp_len, ← l.length, ← l2.length]
  refine ⟨fun i H hi s => ?_, fun H s => ⟨ys, zs, sqT_mono s h, sqT_mono s h2, by omega⟩, fun i H x H' hi s y => ?_⟩
  · have q1 : i < ys.length := by omega
    have q2 : i < zs.length := by omega
    exact ⟨ys, zs, ys[i], zs[i], sqT_mono s h, sqT_mono s h2, by simp [q1], by simp [q2]⟩
  · obtain ⟨T, y1, y2, rfl, e1, e2, e3, e4⟩ := y
    obtain ⟨v, e5, e6⟩ := l.get' (e3 ys (sqT_mono s h))
    obtain ⟨w, e7, e8⟩ := l2.get' (e4 zs (sqT_mono s h2))
    exact ⟨_, pairUp_get e5 e7, .inr ⟨T, _, _, _, _, rfl, rfl, e1, e2, e6, e8⟩⟩
theorem walk_rz {a b : Addr} {vs ws : List Val} {ys zs : List V} (h : RdL K Hf a ys) (l : RepL K Hf vs ys) (h2 : RdL K Hf b zs) (l2 : RepL K Hf ws zs) : Walk (Itz K a b) (pairUp vs ws).length (fun H => HSub Hf H) (YItem K Hf (pairUp vs ws)) := by
  rw [pairUp_len, ← l.length, ← l2.length]
  exact (walk_zip rfl).mono (fun H s => ⟨(rdL_mono s h).sq, (rdL_mono s h2).sq⟩) fun i H x H' hi s y => by
    obtain ⟨T, y1, y2, rfl, e1, e2, e3, e4⟩ := y
    obtain ⟨v, e5, e6⟩ := l.get' e3
    obtain ⟨w, e7, e8⟩ := l2.get' e4
    exact ⟨_, pairUp_get e5 e7, .inr ⟨T, _, _, _, _, rfl, rfl, e1, e2, e6, e8⟩⟩
end
section
variable {free : List Str} {D : Den} {n : Nat} {N : List Str} {sc : Scope} {X : Cx}
theorem i_seq {tg : Expr} {e : CE} (h : PE X e.py (tEv X.K D e)) : PI X tg (CI.seq e).py (tI X.K D (.seq e)) := by
  refine ⟨fun pins s σ H Rr I hw => ?_⟩
  obtain ⟨S, Hf, F, vs, S', rel, he, q⟩ := hw
  unfold evI at he
  rw [Option.bind_eq_some_iff] at he
  obtain ⟨⟨⟨m, v⟩, S1⟩, e1, he⟩ := he
  cases m with
  | bor => cases he
  | own d =>
    simp only [Option.map_eq_some_iff] at he
    obtain ⟨xs, e2, he⟩ := he
    obtain ⟨rfl, rfl⟩ := Prod.mk.inj he
    cases v with
    | lst ys =>
      cases e2
      refine (pi_list h).run pins s σ H Rr I ⟨S, Hf, F, _, S1, rel, e1, fun x H1 Hf1 F1 g1 p1 => ?_⟩
      obtain ⟨Hf1', s1, rel1, st1, re1, rf1⟩ := g1.opd
      cases rf1 d rfl with
      | lst hd l => exact ⟨_, rfl, ⟨_, (rdL_mono rel1.sub hd).sq⟩, q _ H1 Hf1' F1 rel1 st1 (fun hp => p1 (by unfold CI.pure at hp; exact hp)) (walk_rl hd l)⟩
    | tup ys =>
      cases e2
      refine (pi_tup h).run pins s σ H Rr I ⟨S, Hf, F, _, S1, rel, e1, fun x H1 Hf1 F1 g1 p1 => ?_⟩
      obtain ⟨Hf1', s1, rel1, st1, re1, rf1⟩ := g1.opd
      cases rf1 d rfl with
      | tup hd l => exact ⟨_, rfl, ⟨_, sqT_mono rel1.sub hd⟩, q _ H1 Hf1' F1 rel1 st1 (fun hp => p1 (by unfold CI.pure at hp; exact hp)) (walk_rt hd l)⟩
    | str z =>
      cases e2
      refine (pi_str h).run pins s σ H Rr I ⟨S, Hf, F, _, S1, rel, e1, fun x H1 Hf1 F1 g1 p1 => ?_⟩
      obtain ⟨Hf1', s1, rel1, st1, re1, rf1⟩ := g1.opd
      cases rf1 d rfl with
      | str _ => exact ⟨_, rfl, q _ H1 Hf1' F1 rel1 st1 (fun hp => p1 (by unfold CI.pure at hp; exact hp)) walk_rs⟩
    | _ => cases e2
theorem i_rng1 (c : Ctx free D n N sc X) {tg : Expr} {e : CE} {np p : Pos} (g : glB sc "range" = true) (m : ("range" : Str) ∈ free) (h : PE X e.py (tEv X.K D e)) : PI X tg (CI.rng1 np e p).py (tI X.K D (.rng1 np e p)) := by
  refine ⟨fun pins s σ H Rr I hw => ?_⟩
  obtain ⟨S, Hf, F, vs, S', rel, he, q⟩ := hw
  unfold evI at he
  rw [Option.bind_eq_some_iff] at he
  obtain ⟨⟨⟨m', v⟩, S1⟩, e1, he⟩ := he
  refine (pi_range1 (c.gl g) (c.fre _ m) (pa_cons h pa_nil (star_cons e _ _)) (star_cons e _ _)).run pins s σ H Rr I ⟨S, Hf, F, _, S1, rel, e1, fun x H1 Hf1 F1 g1 p1 => ?_⟩
  obtain ⟨Hf1', s1, rel1, st1, re1, rf1⟩ := g1.opd
  cases v with
  | int i =>
    have he : gd (inRange i) (some (intsFrom 0 i.toNat, S1)) = some (vs, S') := he
    rw [gd_some] at he
    obtain ⟨ir, he⟩ := he
    obtain ⟨rfl, rfl⟩ := Prod.mk.inj (Option.some.inj he)
    obtain rfl := re1.int_
    have ir := of_decide_eq_true ir
    exact ⟨i, rfl, ir.1, ir.2, q _ H1 Hf1' F1 rel1 st1 (fun hp => p1 (by unfold CI.pure at hp; exact hp)) walk_rr⟩
  | _ => cases he
theorem i_rng2 (c : Ctx free D n N sc X) {tg : Expr} {a b : CE} {np p : Pos} (g : glB sc "range" = true) (m : ("range" : Str) ∈ free) (ha : PE X a.py (tEv X.K D a)) (hb : PE X b.py (tEv X.K D b)) : PI X tg (CI.rng2 np a b p).py (tI X.K D (.rng2 np a b p)) := by
  refine ⟨fun pins s σ H Rr I hw => ?_⟩
  obtain ⟨S, Hf, F, vs, S', rel, he, q⟩ := hw
  unfold evI at he
  rw [Option.bind_eq_some_iff] at he
  obtain ⟨⟨⟨m1, v1⟩, S1⟩, e1, he⟩ := he
  rw [Option.bind_eq_some_iff] at he
  obtain ⟨⟨⟨m2, v2⟩, S2⟩, e2, he⟩ := he
  refine (pi_range2 (c.gl g) (c.fre _ m) (pa_cons ha (pa_cons hb pa_nil (star_cons b _ _)) (star_cons a _ _)) (by rw [star_cons, star_cons]; rfl) (star_cons b _ _)).run pins s σ H Rr I ⟨S, Hf, F, _, S1, rel, e1, fun x H1 Hf1 F1 g1 p1 => ?_⟩
  obtain ⟨Hf1', s1, rel1, st1, re1, rf1⟩ := g1.opd
  refine ⟨S1, Hf1', F1, _, S2, rel1, e2, fun y H2 Hf2 F2 g2 p2 => ?_⟩
  obtain ⟨Hf2', s2, rel2, st2, re2, rf2⟩ := g2.opd
  cases v1 with
  | int i =>
    cases v2 with
    | int j =>
      have he : gd (inRange i && inRange j) (some (intsFrom i (j - i).toNat, S2)) = some (vs, S') := he
      rw [gd_some, Bool.and_eq_true] at he
      obtain ⟨⟨i1, i2⟩, he⟩ := he
      obtain ⟨rfl, rfl⟩ := Prod.mk.inj (Option.some.inj he)
      obtain rfl := re1.int_
      obtain rfl := re2.int_
      have i1 := of_decide_eq_true i1
      have i2 := of_decide_eq_true i2
      refine ⟨i, j, rfl, ⟨i1.1, i1.2, i2.1, i2.2⟩, q _ H2 Hf2' F2 rel2 (st1.trans st2) (fun hp => ?_) walk_rr⟩
      unfold CI.pure at hp
      rw [Bool.and_eq_true] at hp
      exact (p1 hp.1).trans (p2 hp.2)
    | _ => cases he
  | _ => cases he
theorem i_enum (c : Ctx free D n N sc X) {es : List Expr} {kk : Nat} {tp : Pos} {e : CE} {np p : Pos} (g : glB sc "enumerate" = true) (m : ("enumerate" : Str) ∈ free) (h : PE X e.py (tEv X.K D e)) : PI X (.Tuple es kk tp) (CI.enum np e p).py (tI X.K D (.enum np e p)) := by
  refine ⟨fun pins s σ H Rr I hw => ?_⟩
  obtain ⟨S, Hf, F, vs, S', rel, he, q⟩ := hw
  unfold evI at he
  rw [Option.bind_eq_some_iff] at he
  obtain ⟨⟨⟨m', v⟩, S1⟩, e1, he⟩ := he
  refine (pi_enumA (c.gl g) (c.fre _ m) (pa_cons h pa_nil (star_cons e _ _)) (star_cons e _ _)).run pins s σ H Rr I ⟨S, Hf, F, _, S1, rel, e1, fun x H1 Hf1 F1 g1 p1 => ?_⟩
  obtain ⟨Hf1', s1, rel1, st1, re1, rf1⟩ := g1.opd
  cases m' with
  | bor => cases he
  | own d =>
    simp only [Option.map_eq_some_iff] at he
    obtain ⟨xs, e2, he⟩ := he
    obtain ⟨rfl, rfl⟩ := Prod.mk.inj he
    cases v with
    | lst ys =>
      cases e2
      cases rf1 d rfl with
      | lst hd l => exact .inl ⟨_, _, rfl, (rdL_mono rel1.sub hd).sq, q _ H1 Hf1' F1 rel1 st1 (fun hp => p1 (by unfold CI.pure at hp; exact hp)) (walk_re hd l)⟩
    | tup ys =>
      cases e2
      cases rf1 d rfl with
      | tup hd l => exact .inr (.inl ⟨_, _, rfl, sqT_mono rel1.sub hd, q _ H1 Hf1' F1 rel1 st1 (fun hp => p1 (by unfold CI.pure at hp; exact hp)) (walk_ret hd l)⟩)
    | str z =>
      cases e2
      cases rf1 d rfl with
      | str _ => exact .inr (.inr ⟨_, rfl, q _ H1 Hf1' F1 rel1 st1 (fun hp => p1 (by unfold CI.pure at hp; exact hp)) walk_res⟩)
    | _ => cases e2
theorem i_zip (c : Ctx free D n N sc X) {es : List Expr} {kk : Nat} {tp : Pos} {a b : CE} {np p : Pos} (g : glB sc "zip" = true) (m : ("zip" : Str) ∈ free) (ha : PE X a.py (tEv X.K D a)) (hb : PE X b.py (tEv X.K D b)) : PI X (.Tuple es kk tp) (CI.zip np a b p).py (tI X.K D (.zip np a b p)) := by
  refine ⟨fun pins s σ H Rr I hw => ?_⟩
  obtain ⟨S, Hf, F, vs, S', rel, he, q⟩ := hw
  unfold evI at he
  rw [Option.bind_eq_some_iff] at he
  obtain ⟨⟨⟨m1, v1⟩, S1⟩, e1, he⟩ := he
  rw [Option.bind_eq_some_iff] at he
  obtain ⟨⟨⟨m2, v2⟩, S2⟩, e2, he⟩ := he
  refine (RZ.pi_zipA (c.gl g) (c.fre _ m) (pa_cons ha (pa_cons hb pa_nil (star_cons b _ _)) (star_cons a _ _)) (star_cons a _ _) (no_star (.cons b .nil) p _)).run pins s σ H Rr I ⟨S, Hf, F, _, S1, rel, e1, fun x H1 Hf1 F1 g1 p1 => ?_⟩
  obtain ⟨Hf1', s1, rel1, st1, re1, rf1⟩ := g1.opd
  refine ⟨S1, Hf1', F1, _, S2, rel1, e2, fun y H2 Hf2 F2 g2 p2 => ?_⟩
  obtain ⟨Hf2', s2, rel2, st2, re2, rf2⟩ := g2.opd
  cases m1 with
  | bor => cases he
  | own d1 =>
    cases m2 with
    | bor => cases v1 <;> cases he
    | own d2 =>
      cases v1 with
      | lst xs =>
        cases v2 with
        | lst zs =>
          obtain ⟨rfl, rfl⟩ := Prod.mk.inj (Option.some.inj he)
          cases (rf1 d1 rfl).mono st2.hf with
          | lst hd l =>
            cases rf2 d2 rfl with
            | lst hd2 l2 =>
              refine ⟨_, _, _, _, rfl, .inl ⟨(rdL_mono rel2.sub hd).sq, (rdL_mono rel2.sub hd2).sq, q _ H2 Hf2' F2 rel2 (st1.trans st2) (fun hp => ?_) (walk_rz hd l hd2 l2)⟩⟩
              unfold CI.pure at hp
              rw [Bool.and_eq_true] at hp
              exact (p1 hp.1).trans (p2 hp.2)
        | _ => cases he
      | tup xs =>
        cases v2 with
        | tup zs =>
          obtain ⟨rfl, rfl⟩ := Prod.mk.inj (Option.some.inj he)
          cases (rf1 d1 rfl).mono st2.hf with
          | tup hd l =>
            cases rf2 d2 rfl with
            | tup hd2 l2 =>
              refine ⟨_, _, _, _, rfl, .inr ⟨sqT_mono rel2.sub hd, sqT_mono rel2.sub hd2, q _ H2 Hf2' F2 rel2 (st1.trans st2) (fun hp => ?_) (walk_rzt hd l hd2 l2)⟩⟩
              unfold CI.pure at hp
              rw [Bool.and_eq_true] at hp
              exact (p1 hp.1).trans (p2 hp.2)
        | _ => cases he
      | _ => cases he
/-! ### targets -/
mutual
def CT.slots : CT → List Nat
  | .name i _ _ => [i]
  | .tup ts _ _ => ts.slots
def CTs.slots : CTs → List Nat
  | .nil => []
  | .cons t ts => t.slots ++ ts.slots
end
def tT (K : Frag) (t : CT) : TG := fun x σ H Q => ∃ S Hf F v S', Rel K Hf F S σ H ∧ Rep K Hf v x ∧ t.set v S = some S' ∧
  ∀ σ' F', Rel K Hf F' S' σ' H → (∀ a ∈ F', a ∈ F) → (∀ l : List Nat, (∀ i ∈ t.slots, i ∈ l) → wipe σ' l = wipe σ l) → Q σ' H
def tTs' (K : Frag) (ts : CTs) : TGs := fun xs σ H Q => ∃ S Hf F vs S', Rel K Hf F S σ H ∧ RepL K Hf vs xs ∧ ts.set vs S = some S' ∧
  ∀ σ' F', Rel K Hf F' S' σ' H → (∀ a ∈ F', a ∈ F) → (∀ l : List Nat, (∀ i ∈ ts.slots, i ∈ l) → wipe σ' l = wipe σ l) → Q σ' H
theorem wipe_set {σ : L2.St} {i : Nat} {y : Option V} : ∀ {l : List Nat}, i ∈ l → wipe (σ.set i y) l = wipe σ l
  | [], h => by cases h
  | j :: l, h => by
    unfold wipe
    by_cases hj : i = j
    · subst hj
      have g : ∀ {l : List Nat} {σ : L2.St}, (wipe (σ.set i y) l).set i none = (wipe σ l).set i none := by
        intro l
        induction l with
        | nil => intro σ; unfold wipe; rw [List.set_set]
        | cons k l ih =>
          intro σ
          unfold wipe
          by_cases hk : k = i
          · subst hk; rw [List.set_set, List.set_set]; exact ih
          · rw [List.set_comm _ _ hk, List.set_comm _ _ hk, ih]
      exact g
    · rcases List.mem_cons.mp h with z | z
      · exact absurd z hj
      · rw [wipe_set z]
mutual
/-- a target that may be stored -/
def CT.wf (N : List Str) (sc : Scope) (fb : Str → Bool) : CT → Bool
  | .name i x _ => decide (N[i]? = some x) && locB sc x && fb x
  | .tup ts _ _ => ts.wf N sc fb
def CTs.wf (N : List Str) (sc : Scope) (fb : Str → Bool) : CTs → Bool
  | .nil => true
  | .cons t ts => t.wf N sc fb && ts.wf N sc fb
end
theorem CT.each (t : CT) (es : List Expr) (env : Env) : assignEach (t.py :: es) env = (false, assign t.py env) :: assignEach es env := by cases t <;> rfl
theorem CTs.each_len : ∀ (ts : CTs) (env : Env), (assignEach ts.py env).length = ts.len ∧ (assignEach ts.py env).findIdx? (·.1) = none
  | .nil, _ => ⟨rfl, rfl⟩
  | .cons t ts, env => by
    have ih := CTs.each_len ts env
    show (assignEach (t.py :: ts.py) env).length = _ ∧ (assignEach (t.py :: ts.py) env).findIdx? (·.1) = none
    rw [CT.each]
    refine ⟨congrArg Nat.succ ih.1, ?_⟩
    rw [List.findIdx?_cons, ih.2]
    rfl
theorem CTs.set_len : ∀ {ts : CTs} {vs : List Val} {S S' : Slots}, ts.set vs S = some S' → vs.length = ts.len
  | .nil, [], _, _, _ => rfl
  | .nil, _ :: _, _, _, e => by unfold CTs.set at e; cases e
  | .cons t ts, [], _, _, e => by unfold CTs.set at e; cases e
  | .cons t ts, v :: vs, S, S', e => by
    unfold CTs.set at e
    rw [Option.bind_eq_some_iff] at e
    obtain ⟨S1, _, e⟩ := e
    exact congrArg Nat.succ (CTs.set_len e)
mutual
theorem g_ct (c : Ctx free D n N sc X) {fb : Str → Bool} (hfn : ∀ x, fb x = true → X.fn x = true ∨ X.env.scope.names.lookup x = some .local) : ∀ (t : CT), t.wf N sc fb = true → PG X t.py (tT X.K t)
  | .name i x p, w => by
    unfold CT.wf at w
    simp only [Bool.and_eq_true] at w
    obtain ⟨⟨w1, w2⟩, w3⟩ := w
    have w1 := of_decide_eq_true w1
    have pg := pg_name (X := X) (pos := p) (i := i) (x := x) (by rw [c.hN]; exact c.nd) (by rw [c.hN]; exact w1) (by rw [c.sc]; exact locB_ok w2) (hfn x w3)
    refine ⟨fun pins s σ H v u Q I r h => pg.run pins s σ H v u Q I r ?_⟩
    obtain ⟨S, Hf, F, vv, S', rel, rep, e, q⟩ := h
    unfold CT.set at e
    cases e
    have hl : i < S.length := by
      have e1 := I.len
      have e2 := rel.len
      have := lt_of_get w1
      rw [c.hN] at e1
      omega
    obtain ⟨F', rel', sub⟩ := rel.put (i := i) (d := 0) (v := vv) (x := v) (G := []) hl (.frz (.inl rfl) rep) (by simpa using rel.nd) (fun a h => by cases h)
    refine q _ F' rel' (fun a ha => (sub a ha).elim id fun z => by cases z) fun l hl => wipe_set (hl i (by simp [CT.slots]))
  | .tup ts k p, w => by
    unfold CT.wf at w
    have pgs := g_cts c hfn ts w
    have el := CTs.each_len ts X.env
    have pg := pg_tup (X := X) (pos := p) (k := k) c.calm pgs el.1 el.2
    refine ⟨fun pins s σ H v u Q I r h => ?_⟩
    obtain ⟨S, Hf, F, vv, S', rel, rep, e, q⟩ := h
    unfold CT.set at e
    cases vv with
    | tup xs =>
      have e : ts.set xs S = some S' := e
      cases rep with
      | tup hd l => exact pg.run pins s σ H _ u Q I r ⟨_, _, rfl, sqT_mono rel.sub hd, by rw [l.length]; exact CTs.set_len e, S, Hf, F, xs, S', rel, l, e, q⟩
    | lst xs =>
      have e : ts.set xs S = some S' := e
      cases rep with
      | lst hd l => exact (pg_lst (X := X) (pos := p) (k := k) c.calm pgs el.1 el.2).run pins s σ H _ u Q I r ⟨_, _, rfl, (rdL_mono rel.sub hd).sq, by rw [l.length]; exact CTs.set_len e, S, Hf, F, xs, S', rel, l, e, q⟩
    | _ => cases e
theorem g_cts (c : Ctx free D n N sc X) {fb : Str → Bool} (hfn : ∀ x, fb x = true → X.fn x = true ∨ X.env.scope.names.lookup x = some .local) : ∀ (ts : CTs), ts.wf N sc fb = true → PGs X ts.py (tTs' X.K ts)
  | .nil, _ => by
    refine ⟨fun pins s σ H vs us Q I r h => pgs_nil.run pins s σ H vs us Q I r ?_⟩
    obtain ⟨S, Hf, F, vv, S', rel, rep, e, q⟩ := h
    cases rep with
    | nil =>
      unfold CTs.set at e
      cases e
      exact ⟨rfl, q σ F rel (fun a h => h) fun l _ => rfl⟩
    | cons _ _ => unfold CTs.set at e; cases e
  | .cons t ts, w => by
    unfold CTs.wf at w
    rw [Bool.and_eq_true] at w
    have pg := pgs_cons (g_ct c hfn t w.1) (g_cts c hfn ts w.2) (by rw [CT.each]; rfl)
    refine ⟨fun pins s σ H vs us Q I r h => pg.run pins s σ H vs us Q I r ?_⟩
    obtain ⟨S, Hf, F, vv, S', rel, rep, e, q⟩ := h
    cases rep with
    | nil => unfold CTs.set at e; cases e
    | cons h1 h2 =>
      unfold CTs.set at e
      rw [Option.bind_eq_some_iff] at e
      obtain ⟨S1, e1, e2⟩ := e
      refine ⟨_, _, rfl, S, Hf, F, _, S1, rel, h1, e1, fun σ1 F1 rel1 sub1 wp1 => ?_⟩
      refine ⟨S1, Hf, F1, _, S', rel1, h2, e2, fun σ2 F2 rel2 sub2 wp2 => q σ2 F2 rel2 (fun a h => sub1 a (sub2 a h)) fun l hl => ?_⟩
      rw [wp2 l fun i hi => hl i (List.mem_append_right _ hi), wp1 l fun i hi => hl i (List.mem_append_left _ hi)]
end
end
end BV
/-! Comprehensions. -/
namespace BV
open PySem PySem.Spec PyProof.Rows L2
/-- a list at D0 that is being made, beside the slots -/
structure Acc (K : Frag) (Hf0 : Hp) (F0 : List Addr) (H0 : Hp) (D0 : Addr) (pu : Bool) (τ : L2.St) (done : List Val) (S : Slots) (Hf : Hp) (F : List Addr) (ys : List V) (H : Hp) : Prop where
  rel : Rel K Hf F S τ H
  st : Step Hf0 F0 H0 Hf F H
  at_ : H D0 = some (.lst ys)
  out : D0 ∉ F
  off : Hf D0 = none
  rep : RepL K Hf done ys
  new : H0 D0 = none
  pu : pu = true → HSub H0 H
section
variable {K : Frag} {Hf0 Hf Hf2 H0 H H2 : Hp} {F0 F F2 : List Addr} {D0 : Addr} {pu : Bool} {τ τ2 : L2.St} {done : List Val} {S S2 : Slots} {ys : List V}
theorem wipe_wipe {σ : L2.St} {vl : List Nat} : L2.wipe (L2.wipe σ vl) vl = L2.wipe σ vl := by
  apply List.ext_getElem?
  intro j
  by_cases hj : j ∈ vl
  · have z : ∀ {τ : L2.St}, j < τ.length → (L2.wipe τ vl)[j]? = some none := by
      intro τ hl
      have go : ∀ {l : List Nat}, j ∈ l → (L2.wipe τ l)[j]? = some none := by
        intro l
        induction l with
        | nil => intro h; cases h
        | cons k l ih =>
          intro h
          unfold L2.wipe
          by_cases hk : k = j
          · subst hk; rw [List.getElem?_set_self (by rw [wipe_length]; exact hl)]
          · rw [List.getElem?_set_ne hk]
            exact ih ((List.mem_cons.mp h).elim (fun z => absurd z.symm hk) id)
      exact go hj
    by_cases hl : j < σ.length
    · rw [z (by rw [wipe_length]; exact hl), z hl]
    · rw [List.getElem?_eq_none (by rw [wipe_length, wipe_length]; omega), List.getElem?_eq_none (by rw [wipe_length]; omega)]
  · rw [wipe_out hj]
theorem Acc.start (rel : Rel K Hf0 F0 S τ H0) (hn : H0 D0 = none) : Acc K Hf0 F0 H0 D0 pu τ [] S Hf0 F0 [] (upd H0 D0 (.lst [])) := by
  refine ⟨rel.upd hn, (Step.refl _ _ _).upd hn, upd_same, fun h => ?_, ?_, .nil, hn, fun _ => HSub.upd hn⟩
  · obtain ⟨o, e⟩ := rel.dom D0 h
    rw [e] at hn; cases hn
  · cases q : Hf0 D0 with
    | none => rfl
    | some o => rw [rel.sub D0 o q] at hn; cases hn
theorem Acc.step {b : Bool} (a : Acc K Hf0 F0 H0 D0 pu τ done S Hf F ys H) (rel : Rel K Hf2 F2 S2 τ2 H2) (st : Step Hf F H Hf2 F2 H2) (p : b = true → HSub H H2) (hb : pu = true → b = true) : Acc K Hf0 F0 H0 D0 pu τ2 done S2 Hf2 F2 ys H2 := by
  refine ⟨rel, a.st.trans st, st.fr D0 _ a.at_ a.out, fun h => ?_, ?_, a.rep.mono st.hf, a.new, fun hp => (a.pu hp).trans (p (hb hp))⟩
  · rcases st.own D0 h with z | z
    · exact a.out z
    · rw [a.at_] at z; cases z
  · rw [st.new D0 _ a.at_ a.out]; exact a.off
theorem Acc.push (a : Acc K Hf0 F0 H0 D0 pu τ done S Hf F ys H) {v : Val} {y : V} (r : Rep K Hf v y) : Acc K Hf0 F0 H0 D0 pu τ (done ++ [v]) S Hf F (ys ++ [y]) (upd H D0 (.lst (ys ++ [y]))) := by
  refine ⟨a.rel.mut a.out a.off, ⟨a.st.hf, fun b o e n => ?_, a.st.new, a.st.own⟩, upd_same, a.out, a.off, a.rep.append (.cons r .nil), a.new, fun hp b o e => ?_⟩
  · rw [upd_ne fun z => by rw [z, a.new] at e; cases e]
    exact a.st.fr b o e n
  · rw [upd_ne fun z => by rw [z, a.new] at e; cases e]
    exact a.pu hp b o e
theorem Rel.none_any {i : Nat} {y : Option V} (r : Rel K Hf F S τ H) (h : S[i]? = some Option.none) : Rel K Hf F S (τ.set i y) H := by
  obtain ⟨z, F1, G2, F3, e1, e2, e3, e4⟩ := r.plc.split h
  cases e3
  have := e4 (Hf' := Hf) (H' := H) (HSub.refl _) (fun a _ o e => e) (.no (y := y))
  refine ⟨r.sub, r.nd, r.off, ?_⟩
  rw [e2]
  have hs : S.set i Option.none = S := by
    apply List.ext_getElem?
    intro j
    rw [List.getElem?_set]
    split
    · rename_i hj; subst hj
      split
      · exact h.symm
      · rename_i hl; rw [List.getElem?_eq_none (by omega)]
    · rfl
  rw [hs] at this
  exact this
theorem wipeS_len : ∀ (l : List Nat), (wipeS S l).length = S.length
  | [] => rfl
  | v :: l => by unfold wipeS; rw [List.length_set, wipeS_len l]
theorem wipeS_at {i : Nat} : ∀ {l : List Nat}, i ∈ l → i < S.length → (wipeS S l)[i]? = some Option.none
  | [], h, _ => by cases h
  | j :: l, h, hl => by
    unfold wipeS
    by_cases hj : j = i
    · subst hj; rw [List.getElem?_set_self (by rw [wipeS_len]; exact hl)]
    · rw [List.getElem?_set_ne hj]
      exact wipeS_at ((List.mem_cons.mp h).elim (fun z => absurd z.symm hj) id) hl
/-- names are forgotten -/
theorem Rel.wipe : ∀ (l : List Nat), Rel K Hf F S τ H → ∃ F', Rel K Hf F' (wipeS S l) τ H ∧ ∀ a ∈ F', a ∈ F
  | [], r => ⟨F, r, fun _ h => h⟩
  | i :: l, r => by
    obtain ⟨F1, r1, s1⟩ := Rel.wipe l r
    obtain ⟨G2, r2, s2⟩ := r1.none (i := i)
    exact ⟨G2, r2, fun a h => s1 a (s2 a h)⟩
/-- what stands in a forgotten slot does not matter -/
theorem Rel.anyAt {T : Slots} (r : Rel K Hf F T τ H) : ∀ (l : List Nat), (∀ i ∈ l, i < T.length → T[i]? = some Option.none) → Rel K Hf F T (L2.wipe τ l) H
  | [], _ => r
  | i :: l, h => by
    unfold L2.wipe
    have r1 := Rel.anyAt r l fun j hj => h j (List.mem_cons_of_mem _ hj)
    by_cases hi : i < T.length
    · exact r1.none_any (h i (List.mem_cons_self ..) hi)
    · rw [List.set_eq_of_length_le (by rw [r1.len]; omega)]
      exact r1
theorem Rel.ofWipe {T : Slots} : ∀ (l : List Nat) {τ : L2.St}, (∀ i ∈ l, i < T.length → T[i]? = some Option.none) → Rel K Hf F T (L2.wipe τ l) H → Rel K Hf F T τ H
  | [], _, _, r => r
  | i :: l, τ, h, r => by
    unfold L2.wipe at r
    refine Rel.ofWipe l (fun j hj => h j (List.mem_cons_of_mem _ hj)) ?_
    by_cases hi : i < T.length
    · have hl : i < (L2.wipe τ l).length := by have := r.len; rw [List.length_set] at this; omega
      have := r.none_any (y := (L2.wipe τ l)[i]) (h i (List.mem_cons_self ..) hi)
      rw [List.set_set] at this
      rw [show (L2.wipe τ l).set i (L2.wipe τ l)[i] = L2.wipe τ l from set_same (by rw [List.getElem?_eq_getElem hl])] at this
      exact this
    · rw [List.set_eq_of_length_le (by have := r.len; rw [List.length_set] at this; omega)] at r
      exact r
theorem Acc.wipe (a : Acc K Hf0 F0 H0 D0 pu τ done S Hf F ys H) (l : List Nat) : ∃ F', Acc K Hf0 F0 H0 D0 pu (L2.wipe τ l) done (wipeS S l) Hf F' ys H := by
  obtain ⟨F', r, sub⟩ := a.rel.wipe l
  have r2 := r.anyAt l fun i hi hl => wipeS_at hi (by rw [wipeS_len] at hl; exact hl)
  exact ⟨F', r2, ⟨a.st.hf, a.st.fr, a.st.new, fun b h => a.st.own b (sub b h)⟩, a.at_, fun h => a.out (sub _ h), a.off, a.rep, a.new, a.pu⟩
/-- the next thing comes -/
theorem Acc.item {vs : List Val} {i : Nat} {x : V} {H' Hfi : Hp} (a : Acc K Hf0 F0 H0 D0 pu τ done S Hf F ys H) (s : HSub Hfi Hf) (y : YItem K Hfi vs i H x H') :
    ∃ v Hf', vs[i]? = some v ∧ HSub Hf Hf' ∧ Acc K Hf0 F0 H0 D0 pu τ done S Hf' F ys H' ∧ Rep K Hf' v x := by
  obtain ⟨v, e, y⟩ := y
  rcases y with ⟨rfl, r⟩ | ⟨T, p, q, y1, y2, rfl, rfl, hT, rfl, r1, r2⟩
  · exact ⟨v, Hf, e, HSub.refl _, a, r.mono s⟩
  · have g := Gives.newT (Hf := Hf) (F := F) (H := H) a.rel (Step.refl _ _ _) hT (.cons (r1.mono s) (.cons (r2.mono s) .nil))
    obtain ⟨Hf', s1, rel', st', re, rf⟩ := g.opd
    refine ⟨_, Hf', e, st'.hf, a.step (b := true) rel' st' (fun _ => HSub.upd hT) (fun _ => rfl), rf 0 rfl⟩
end
section
variable {free : List Str} {D : Den} {n : Nat} {N : List Str} {sc : Scope} {X : Cx}
theorem compL_step {f : Val → Slots → Option (List Val × Slots)} {vs ws : List Val} {i : Nat} {v : Val} {S S' : Slots} (hv : vs[i]? = some v) (h : compL f (vs.drop i) S = some (ws, S')) :
    ∃ o S1 rest, f v S = some (o, S1) ∧ compL f (vs.drop (i + 1)) S1 = some (rest, S') ∧ ws = o ++ rest := by
  have hl := lt_of_get hv
  have e : vs.drop i = v :: vs.drop (i + 1) := by
    rw [List.drop_eq_getElem_cons hl]
    congr 1
    rw [List.getElem?_eq_getElem hl] at hv
    exact Option.some.inj hv
  rw [e] at h
  unfold compL at h
  rw [Option.bind_eq_some_iff] at h
  obtain ⟨⟨o, S1⟩, e1, h⟩ := h
  rw [Option.map_eq_some_iff] at h
  obtain ⟨⟨rest, S2⟩, e2, h⟩ := h
  obtain ⟨rfl, rfl⟩ := Prod.mk.inj h
  exact ⟨o, S1, rest, e1, e2, rfl⟩
theorem compL_end {f : Val → Slots → Option (List Val × Slots)} {vs ws : List Val} {S S' : Slots} (h : compL f (vs.drop vs.length) S = some (ws, S')) : ws = [] ∧ S' = S := by
  rw [List.drop_length] at h
  unfold compL at h
  obtain ⟨rfl, rfl⟩ := Prod.mk.inj (Option.some.inj h)
  exact ⟨rfl, rfl⟩
/-- the tests of a comprehension -/
abbrev tTests (K : Frag) (D : Den) (ifs : CEs) : TT := tEt K D (fun S => evts D ifs S) ifs.pure
theorem pts_ce {ifs : CEs} (h : ∀ e, ifs = .cons e .nil → PT X e.py (tTs X.K D e)) (hl : ifs.len ≤ 1) : PTs X ifs.py (tTests X.K D ifs) := by
  cases ifs with
  | nil =>
    refine ⟨fun pins s σ H Q I hw => pts_nil.run pins s σ H Q I ?_⟩
    obtain ⟨S, Hf, F, b, S', rel, e, q⟩ := hw
    have e : some (true, S) = some (b, S') := e
    obtain ⟨rfl, rfl⟩ := Prod.mk.inj (Option.some.inj e)
    exact q H Hf F rel (Step.refl _ _ _) fun _ => HSub.refl _
  | cons e es =>
    cases es with
    | nil =>
      refine ⟨fun pins s σ H Q I hw => (pts_one (h e rfl)).run pins s σ H Q I ?_⟩
      obtain ⟨S, Hf, F, b, S', rel, ht, q⟩ := hw
      refine ⟨S, Hf, F, b, S', rel, ht, fun H1 Hf1 F1 rel1 st1 p1 => q H1 Hf1 F1 rel1 st1 fun hp => p1 ?_⟩
      have hp : (e.pure && true) = true := hp
      simpa using hp
    | cons a b => unfold CEs.len CEs.len at hl; omega
theorem folded_not (it : CI) (env : Env) (x : Value) : foldedSetIterable it.py env x = pure x := by
  cases it with
  | seq e => cases e <;> first | rfl | (rename_i P; cases P <;> rfl)
  | _ => rfl
/-- one turn behind the target: tests, then the thing or not -/
def lcTurn (D : Den) (elt : CE) (t : CT) (ifs : CEs) (vs : List Nat) : Val → Slots → Option (List Val × Slots) := fun v S1 => (t.set v S1).bind fun S2 => (evts D ifs S2).bind fun b => bif b.1 then (ev D elt b.2).bind fun r => match r.1.1 with
      | .own _ => some ([r.1.2], wipeS r.2 vs)
      | .bor => none else some ([], wipeS b.2 vs)
theorem lcTurn_wiped {elt : CE} {t : CT} {ifs : CEs} {vs : List Nat} {v : Val} {S S1 : Slots} {o : List Val} (e : lcTurn D elt t ifs vs v S = some (o, S1)) : ∃ R, S1 = wipeS R vs := by
  unfold lcTurn at e
  rw [Option.bind_eq_some_iff] at e
  obtain ⟨S2, e1, e⟩ := e
  rw [Option.bind_eq_some_iff] at e
  obtain ⟨⟨b, S3⟩, e2, e⟩ := e
  cases b with
  | false => exact ⟨S3, (Prod.mk.inj (Option.some.inj (show some (([] : List Val), wipeS S3 vs) = some (o, S1) from e))).2.symm⟩
  | true =>
    have e : ((ev D elt S3).bind fun r => match r.1.1 with
      | .own _ => some ([r.1.2], wipeS r.2 vs)
      | .bor => none) = some (o, S1) := e
    rw [Option.bind_eq_some_iff] at e
    obtain ⟨⟨⟨m, w⟩, S4⟩, e3, e⟩ := e
    cases m with
    | bor => cases e
    | own d => exact ⟨S4, (Prod.mk.inj (Option.some.inj e)).2.symm⟩
theorem lc_turn {K : Frag} {Hf0 Hf H0 H Hfi H' : Hp} {F0 F : List Addr} {D0 : Addr} {pu : Bool} {τ : L2.St} {done o vs' : List Val} {S S1 : Slots} {ys : List V} {elt : CE} {t : CT} {ifs : CEs} {vs : List Nat} {i : Nat} {v : Val} {x : V} {tot : Nat}
    (a : Acc K Hf0 F0 H0 D0 pu τ done S Hf F ys H) (s : HSub Hfi Hf) (y : YItem K Hfi vs' i H x H') (hv : vs'[i]? = some v) (e : lcTurn D elt t ifs vs v S = some (o, S1)) (hsl : ∀ j ∈ t.slots, j ∈ vs) (hp : pu = true → (elt.pure && ifs.pure) = true)
    (hz : (done ++ o).length ≤ tot) (hz2 : tot ≤ sizeLine) {τw : L2.St} (hw : wipe τ vs = τw)
    {Nx : Hp → Prop} (nx : ∀ Hf2 F2 ys2 H2 τ2, wipe τ2 vs = τw → Acc K Hf0 F0 H0 D0 pu τw (done ++ o) S1 Hf2 F2 ys2 H2 → HSub Hf Hf2 → Nx H2) :
    tT K t x τ H' fun σ2 H2 => wipe σ2 vs = τw ∧ tTests K D ifs σ2 H2 fun b H3 => if b = true then tEv K D elt σ2 H3 fun y H4 => ∃ acc, H4 D0 = some (.lst acc) ∧ acc.length < sizeLine ∧ Nx (upd H4 D0 (.lst (acc ++ [y]))) else Nx H3 := by
  obtain ⟨v', Hf', ev', s', a', rv⟩ := a.item s y
  rw [hv] at ev'
  cases ev'
  unfold lcTurn at e
  rw [Option.bind_eq_some_iff] at e
  obtain ⟨S2, e1, e⟩ := e
  rw [Option.bind_eq_some_iff] at e
  obtain ⟨⟨b, S3⟩, e2, e⟩ := e
  refine ⟨S, Hf', F, v, S2, a'.rel, rv, e1, fun σ2 F2 rel2 sub2 wp => ⟨(wp vs hsl).trans hw, ?_⟩⟩
  have st2 : Step Hf' F H' Hf' F2 H' := ⟨HSub.refl _, fun _ _ e _ => e, fun _ _ _ _ => rfl, fun a h => .inl (sub2 a h)⟩
  have a2 := a'.step (b := true) rel2 st2 (fun _ => HSub.refl _) (fun _ => rfl)
  refine ⟨S2, Hf', F2, b, S3, rel2, e2, fun H3 Hf3 F3 rel3 st3 p3 => ?_⟩
  have a3 := a2.step (b := ifs.pure) rel3 st3 p3 (fun h => by have := hp h; rw [Bool.and_eq_true] at this; exact this.2)
  dsimp only
  cases b with
  | false =>
    rw [if_neg (by decide)]
    obtain ⟨rfl, rfl⟩ := Prod.mk.inj (Option.some.inj (show some (([] : List Val), wipeS S3 vs) = some (o, S1) from e))
    rw [List.append_nil] at nx
    obtain ⟨F4, a4⟩ := a3.wipe vs
    rw [(wp vs hsl).trans hw] at a4
    exact nx _ _ _ _ σ2 ((wp vs hsl).trans hw) a4 (s'.trans st3.hf)
  | true =>
    rw [if_pos rfl]
    have e : ((ev D elt S3).bind fun r => match r.1.1 with
      | .own _ => some ([r.1.2], wipeS r.2 vs)
      | .bor => none) = some (o, S1) := e
    rw [Option.bind_eq_some_iff] at e
    obtain ⟨⟨⟨m, w⟩, S4⟩, e3, e⟩ := e
    cases m with
    | bor => cases e
    | own d =>
      obtain ⟨rfl, rfl⟩ := Prod.mk.inj (Option.some.inj e)
      refine ⟨S3, Hf3, F3, _, S4, rel3, e3, fun y H4 Hf4 F4 g4 p4 => ?_⟩
      obtain ⟨Hf4', s4, rel4, st4, re4, rf4⟩ := g4.opd
      have a4 := a3.step (b := elt.pure) rel4 st4 p4 (fun h => by have := hp h; rw [Bool.and_eq_true] at this; exact this.1)
      refine ⟨ys, a4.at_, ?_, ?_⟩
      · rw [a4.rep.length]
        rw [List.length_append, List.length_singleton] at hz
        omega
      · obtain ⟨F5, a5⟩ := (a4.push (rf4 d rfl)).wipe vs
        rw [(wp vs hsl).trans hw] at a5
        exact nx _ _ _ _ σ2 ((wp vs hsl).trans hw) a5 (s'.trans (st3.hf.trans st4.hf))
theorem s_lc (c : Ctx free D n N sc X) {elt : CE} {t : CT} {it : CI} {ifs : CEs} {scp : Scope} {own : List (Str × Nat)} {p : Pos} (ok : blkC N sc scp own = true) (hsl : ∀ j ∈ t.slots, j ∈ own.map (·.2))
    (hi : PI X t.py it.py (tI X.K D it))
    (hg : ∀ (s : Shared) (H : Hp) (C : Addr) (cl : List (Str × Addr)) (fp : List Addr), PG (X.blk s H scp (compEnvC scp cl C X.env) fp) t.py (tT X.K t)) (ht : ∀ (s : Shared) (H : Hp) (C : Addr) (cl : List (Str × Addr)) (fp : List Addr), PTs (X.blk s H scp (compEnvC scp cl C X.env) fp) ifs.py (tTests X.K D ifs))
    (he : ∀ (s : Shared) (H : Hp) (C : Addr) (cl : List (Str × Addr)) (fp : List Addr), PE (X.blk s H scp (compEnvC scp cl C X.env) fp) elt.py (tEv X.K D elt)) :
    ∃ tl, (∀ σ H Q, tEv X.K D (.lc elt t it ifs scp own p) σ H Q → tl σ H Q) ∧ PE X (CE.lc elt t it ifs scp own p).py tl ∧
      (∀ {i : Nat} {y : Str} {py spos : Pos}, N[i]? = some y → sc.names.lookup y = some .local → swapsWith (CE.lc elt t it ifs scp own p).py (some (.Name y py)) spos.line X.env = pure true → PS X (.Assign [.Name y py] (CE.lc elt t it ifs scp own p).py spos) (tAsg tl (gName i))) := by
  have blk : BlkOk X.N X.env.scope scp own := by rw [c.hN, c.sc]; exact blkOk_by ok
  refine ⟨tLc (tI X.K D it) (tT X.K t) (tTests X.K D ifs) (tEv X.K D elt) (own.map fun z : Str × Nat => z.2), ?_, pe_lc (pos := p) c.calm (by rw [c.hN]; exact c.nd) hi blk hg ht he (fun x => folded_not it _ x), fun hy hyl hsw => ?_⟩
  · rintro σ H Q ⟨S, Hf, F, r, S', rel, hev, q⟩
    unfold ev at hev
    rw [Option.bind_eq_some_iff] at hev
    obtain ⟨⟨vs, S1⟩, e1, hev⟩ := hev
    rw [Option.bind_eq_some_iff] at hev
    obtain ⟨⟨ws, S2⟩, e2, hev⟩ := hev
    rw [gd_some] at hev
    obtain ⟨fl, hev⟩ := hev
    obtain ⟨rfl, rfl⟩ := Prod.mk.inj (Option.some.inj hev)
    have fl := of_decide_eq_true fl
    have e2 : compL (lcTurn D elt t ifs (own.map (·.2))) vs (wipeS S1 (own.map (·.2))) = some (ws, S2) := e2
    refine ⟨S, Hf, F, vs, S1, rel, e1, fun J H1 Hf1 F1 rel1 st1 p1 w => fun D0 hD => ?_⟩
    obtain ⟨F1', relw, subw⟩ := rel1.wipe (own.map (·.2))
    have relw2 := relw.anyAt (own.map (·.2)) fun i hi hl => wipeS_at hi (by rw [wipeS_len] at hl; exact hl)
    let vl := own.map (·.2)
    let pu := elt.pure && ifs.pure
    have a0 : Acc X.K Hf1 F1' H1 D0 pu (wipe σ vl) [] (wipeS S1 vl) Hf1 F1' [] (upd H1 D0 (.lst [])) := Acc.start relw2 hD
    refine lc_it w (fun i H' => ∃ Si Hfi Fi ys done rest, Acc X.K Hf1 F1' H1 D0 pu (wipe σ vl) done Si Hfi Fi ys H' ∧ compL (lcTurn D elt t ifs vl) (vs.drop i) Si = some (rest, S2) ∧ done ++ rest = ws ∧ ∃ R, Si = wipeS R vl) ?_ ?_ ?_ ?_
    · exact ⟨_, _, _, _, [], ws, a0, by rw [List.drop_zero]; exact e2, rfl, _, rfl⟩
    · rintro i H' _ ⟨Si, Hfi, Fi, ys, done, rest, a, _⟩
      exact a.st.hf.trans a.rel.sub
    · rintro i x H2 H3 hi ⟨Si, Hfi, Fi, ys, done, rest, a, ec, ew, _⟩ yi
      obtain ⟨v, hv⟩ : ∃ v, vs[i]? = some v := ⟨vs[i], List.getElem?_eq_getElem hi⟩
      obtain ⟨o, S3, rest', f1, f2, rfl⟩ := compL_step hv ec
      refine lc_turn (tot := ws.length) a a.st.hf yi hv f1 hsl (fun h => h) ?_ fl wipe_wipe fun Hf4 F4 ys4 H4 τ4 wp a4 _ => ?_
      · have := congrArg List.length ew
        simp only [List.length_append] at this ⊢
        omega
      · exact ⟨S3, Hf4, F4, ys4, done ++ o, rest', a4, f2, by rw [List.append_assoc]; exact ew, lcTurn_wiped f1⟩
    · rintro H2 ⟨Si, Hfi, Fi, ys, done, rest, a, ec, ew, R, eR⟩
      obtain ⟨rfl, rfl⟩ := compL_end ec
      rw [List.append_nil] at ew
      subst ew
      have hw0 : ∀ i ∈ vl, i < S2.length → S2[i]? = some none := by
        intro i hi hl
        rw [eR] at hl ⊢
        exact wipeS_at hi (by rw [wipeS_len] at hl; exact hl)
      have relF := Rel.ofWipe vl hw0 a.rel
      have ow : Own X.K Hfi H2 1 (.lst done) (.ref D0) [D0] := .lst a.at_ a.rep.ownL
      refine q _ H2 Hfi Fi ⟨relF, st1.trans ⟨a.st.hf, fun b o e n => a.st.fr b o e fun z => n (subw b z), fun b o e n => a.st.new b o e fun z => n (subw b z), fun b h => (a.st.own b h).imp (subw b) id⟩, [D0], ow, ?_, ?_, ?_⟩ fun hp => ?_
      · rw [List.nodup_append]
        refine ⟨a.rel.nd, by simp, fun b hb d hd e => ?_⟩
        have : d = D0 := by simpa using hd
        rw [e, this] at hb
        exact a.out hb
      · intro b hb
        have : b = D0 := by simpa using hb
        rw [this]; exact a.off
      · intro b hb
        have : b = D0 := by simpa using hb
        rw [this]; exact st1.fresh hD
      · unfold CE.pure at hp
        simp only [Bool.and_eq_true] at hp
        exact (p1 hp.1.2).trans (a.pu (by show (elt.pure && ifs.pure) = true; rw [hp.1.1, hp.2]; rfl))
  · exact ps_setLc c.calm (by rw [c.hN]; exact c.nd) (by rw [c.hN]; exact hy) (by rw [c.sc]; exact hyl) hsw hi blk hg ht he (fun x => folded_not it _ x)

theorem it_loop {J : It} {m : Nat} {G : Hp → Prop} {Y : Nat → Hp → V → Hp → Prop} (w : Walk J m G Y) {B : (Hp → Prop) → V → Hp → Prop} {H4 : Hp} {Qd : Hp → Prop} (Pv : Nat → Hp → Prop) (h0 : Pv 0 H4) (hG : ∀ i H, i ≤ m → Pv i H → G H)
    (hs : ∀ i x H H', i < m → Pv i H → Y i H x H' → B (Pv (i + 1)) x H') (hd : ∀ H, Pv m H → Qd H) :
    ∃ W : Nat → Nat → Hp → Prop, (∃ k, W 0 k H4) ∧ ∀ i k H, W i k H → (J.stop i H ∧ Qd H) ∨ (J.go i H ∧ ∃ Nx : Hp → Prop, (∀ H', Nx H' → ∃ k', k' < k ∧ W (i + 1) k' H') ∧ ∀ x H', J.yld i H x H' → B Nx x H') := by
  refine ⟨fun i k H => k = m - i ∧ i ≤ m ∧ Pv i H, ⟨m, by simp, Nat.zero_le _, h0⟩, ?_⟩
  rintro i k H ⟨rfl, hi, p⟩
  have q := hG i H hi p
  by_cases hlt : i < m
  · exact .inr ⟨w.goes i H hlt q, Pv (i + 1), fun H' p' => ⟨m - (i + 1), by omega, rfl, hlt, p'⟩, fun x H' y => hs i x H H' hlt p (w.yields i H x H' hlt q y)⟩
  · have e : i = m := by omega
    subst e
    exact .inl ⟨w.stops H q, hd H p⟩
theorem wipe_sub {σ : L2.St} {own : List Nat} : ∀ {l : List Nat}, (∀ i ∈ l, i ∈ own) → wipe (wipe σ l) own = wipe σ own
  | [], _ => rfl
  | i :: l, h => by
    show wipe ((wipe σ l).set i none) own = _
    rw [wipe_set (h i (List.mem_cons_self ..))]
    exact wipe_sub fun j hj => h j (List.mem_cons_of_mem _ hj)
def lc2Turn (D : Den) (elt : CE) (t : CT) (ifs : CEs) (t1 : CT) (it1 : CI) (ifs1 : CEs) (own vs1 : List Nat) : Val → Slots → Option (List Val × Slots) := fun v S1 => (t.set v S1).bind fun S2 => (evts D ifs S2).bind fun b => bif b.1 then (evI D it1 b.2).bind fun q1 =>
      (compL (lcTurn D elt t1 ifs1 vs1) q1.1 (wipeS q1.2 vs1)).map fun z => (z.1, wipeS z.2 own) else some ([], wipeS b.2 own)
theorem lc2Turn_wiped {elt : CE} {t t1 : CT} {it1 : CI} {ifs ifs1 : CEs} {own vs1 : List Nat} {v : Val} {S S1 : Slots} {o : List Val} (e : lc2Turn D elt t ifs t1 it1 ifs1 own vs1 v S = some (o, S1)) : ∃ R, S1 = wipeS R own := by
  unfold lc2Turn at e
  rw [Option.bind_eq_some_iff] at e
  obtain ⟨S2, e1, e⟩ := e
  rw [Option.bind_eq_some_iff] at e
  obtain ⟨⟨b, S3⟩, e2, e⟩ := e
  cases b with
  | false => exact ⟨S3, (Prod.mk.inj (Option.some.inj (show some (([] : List Val), wipeS S3 own) = some (o, S1) from e))).2.symm⟩
  | true =>
    have e : ((evI D it1 S3).bind fun q1 => (compL (lcTurn D elt t1 ifs1 vs1) q1.1 (wipeS q1.2 vs1)).map fun z => (z.1, wipeS z.2 own)) = some (o, S1) := e
    rw [Option.bind_eq_some_iff] at e
    obtain ⟨q1, e3, e⟩ := e
    rw [Option.map_eq_some_iff] at e
    obtain ⟨z, _, e⟩ := e
    exact ⟨z.2, (Prod.mk.inj e).2.symm⟩
theorem s_lc2 (c : Ctx free D n N sc X) {elt : CE} {t t1 : CT} {it it1 : CI} {ifs ifs1 : CEs} {scp : Scope} {own : List (Str × Nat)} {vs1 : List Nat} {p : Pos} (ok : blkC N sc scp own = true) (hsl : ∀ j ∈ t.slots, j ∈ own.map (·.2)) (hsl1 : ∀ j ∈ t1.slots, j ∈ vs1) (hv : ∀ i ∈ vs1, i ∈ own.map (·.2))
    (hi : PI X t.py it.py (tI X.K D it))
    (hg : ∀ (s : Shared) (H : Hp) (C : Addr) (cl : List (Str × Addr)) (fp : List Addr), PG (X.blk s H scp (compEnvC scp cl C X.env) fp) t.py (tT X.K t)) (ht : ∀ (s : Shared) (H : Hp) (C : Addr) (cl : List (Str × Addr)) (fp : List Addr), PTs (X.blk s H scp (compEnvC scp cl C X.env) fp) ifs.py (tTests X.K D ifs))
    (hi1 : ∀ (s : Shared) (H : Hp) (C : Addr) (cl : List (Str × Addr)) (fp : List Addr), PI (X.blk s H scp (compEnvC scp cl C X.env) fp) t1.py it1.py (tI X.K D it1))
    (hg1 : ∀ (s : Shared) (H : Hp) (C : Addr) (cl : List (Str × Addr)) (fp : List Addr), PG (X.blk s H scp (compEnvC scp cl C X.env) fp) t1.py (tT X.K t1)) (ht1 : ∀ (s : Shared) (H : Hp) (C : Addr) (cl : List (Str × Addr)) (fp : List Addr), PTs (X.blk s H scp (compEnvC scp cl C X.env) fp) ifs1.py (tTests X.K D ifs1))
    (he : ∀ (s : Shared) (H : Hp) (C : Addr) (cl : List (Str × Addr)) (fp : List Addr), PE (X.blk s H scp (compEnvC scp cl C X.env) fp) elt.py (tEv X.K D elt)) :
    ∃ tl, (∀ σ H Q, tEv X.K D (.lc2 elt t it ifs t1 it1 ifs1 scp own vs1 p) σ H Q → tl σ H Q) ∧ PE X (CE.lc2 elt t it ifs t1 it1 ifs1 scp own vs1 p).py tl ∧
      (∀ {i : Nat} {y : Str} {py spos : Pos}, N[i]? = some y → sc.names.lookup y = some .local → swapsWith (CE.lc2 elt t it ifs t1 it1 ifs1 scp own vs1 p).py (some (.Name y py)) spos.line X.env = pure true → PS X (.Assign [.Name y py] (CE.lc2 elt t it ifs t1 it1 ifs1 scp own vs1 p).py spos) (tAsg tl (gName i))) := by
  have blk : BlkOk X.N X.env.scope scp own := by rw [c.hN, c.sc]; exact blkOk_by ok
  refine ⟨tLc2 (tI X.K D it) (tT X.K t) (tTests X.K D ifs) (tI X.K D it1) (tT X.K t1) (tTests X.K D ifs1) (tEv X.K D elt) (own.map fun z : Str × Nat => z.2) vs1, ?_, pe_lc2 (pos := p) c.calm (by rw [c.hN]; exact c.nd) hi blk hv hg ht hi1 hg1 ht1 he (fun x => folded_not it _ x) (fun _ x => folded_not it1 _ x), fun hy hyl hsw => ?_⟩
  · rintro σ H Q ⟨S, Hf, F, r, S', rel, hev, q⟩
    unfold ev at hev
    rw [Option.bind_eq_some_iff] at hev
    obtain ⟨⟨vs, S1⟩, e1, hev⟩ := hev
    rw [Option.bind_eq_some_iff] at hev
    obtain ⟨⟨ws, S2⟩, e2, hev⟩ := hev
    rw [gd_some] at hev
    obtain ⟨fl, hev⟩ := hev
    obtain ⟨rfl, rfl⟩ := Prod.mk.inj (Option.some.inj hev)
    have fl := of_decide_eq_true fl
    have e2 : compL (lc2Turn D elt t ifs t1 it1 ifs1 (own.map (·.2)) vs1) vs (wipeS S1 (own.map (·.2))) = some (ws, S2) := e2
    refine ⟨S, Hf, F, vs, S1, rel, e1, fun J H1 Hf1 F1 rel1 st1 p1 w => fun D0 hD => ?_⟩
    obtain ⟨F1', relw, subw⟩ := rel1.wipe (own.map (·.2))
    have relw2 := relw.anyAt (own.map (·.2)) fun i hi hl => wipeS_at hi (by rw [wipeS_len] at hl; exact hl)
    let vl := own.map (·.2)
    let pu := elt.pure && ifs.pure && it1.pure && ifs1.pure
    have a0 : Acc X.K Hf1 F1' H1 D0 pu (wipe σ vl) [] (wipeS S1 vl) Hf1 F1' [] (upd H1 D0 (.lst [])) := Acc.start relw2 hD
    refine it_loop (B := fun Nx x H' => tT X.K t x (wipe σ vl) H' fun σ2 H2 => wipe σ2 vl = wipe σ vl ∧ tTests X.K D ifs σ2 H2 fun b H3 => if b = true then tI X.K D it1 σ2 H3 fun J1 H4 => ∃ W1 : Nat → Nat → Hp → Prop, (∃ m, W1 0 m H4) ∧ ∀ j k H, W1 j k H →
      (J1.stop j H ∧ Nx H) ∨ (J1.go j H ∧ ∃ Nx1 : Hp → Prop, (∀ H', Nx1 H' → ∃ k', k' < k ∧ W1 (j + 1) k' H') ∧ ∀ x H', J1.yld j H x H' → tT X.K t1 x (wipe σ2 vs1) H' fun σ3 H5 => wipe σ3 vs1 = wipe σ2 vs1 ∧ tTests X.K D ifs1 σ3 H5 fun b H6 =>
        if b = true then tEv X.K D elt σ3 H6 fun y H7 => ∃ acc, H7 D0 = some (.lst acc) ∧ acc.length < sizeLine ∧ Nx1 (upd H7 D0 (.lst (acc ++ [y]))) else Nx1 H6) else Nx H3) w
      (fun i H' => ∃ Si Hfi Fi ys done rest, Acc X.K Hf1 F1' H1 D0 pu (wipe σ vl) done Si Hfi Fi ys H' ∧ compL (lc2Turn D elt t ifs t1 it1 ifs1 vl vs1) (vs.drop i) Si = some (rest, S2) ∧ done ++ rest = ws ∧ ∃ R, Si = wipeS R vl) ?_ ?_ ?_ ?_
    · exact ⟨_, _, _, _, [], ws, a0, by rw [List.drop_zero]; exact e2, rfl, _, rfl⟩
    · rintro i H' _ ⟨Si, Hfi, Fi, ys, done, rest, a, _⟩
      exact a.st.hf.trans a.rel.sub
    · rintro i x H2 H3 hi ⟨Si, Hfi, Fi, ys, done, rest, a, ec, ew, _⟩ yi
      obtain ⟨v, hv'⟩ : ∃ v, vs[i]? = some v := ⟨vs[i], List.getElem?_eq_getElem hi⟩
      obtain ⟨o, S3, rest', f1, f2, rfl⟩ := compL_step hv' ec
      have wiped := lc2Turn_wiped f1
      obtain ⟨v', Hf', ev', s', a', rv⟩ := a.item a.st.hf yi
      rw [hv'] at ev'
      cases ev'
      have f1' := f1
      unfold lc2Turn at f1
      rw [Option.bind_eq_some_iff] at f1
      obtain ⟨T2, g1, f1⟩ := f1
      rw [Option.bind_eq_some_iff] at f1
      obtain ⟨⟨b, T3⟩, g2, f1⟩ := f1
      refine ⟨Si, Hf', Fi, v, T2, a'.rel, rv, g1, fun σ2 F2 rel2 sub2 wp => ⟨(wp vl hsl).trans wipe_wipe, ?_⟩⟩
      have st2 : Step Hf' Fi H3 Hf' F2 H3 := ⟨HSub.refl _, fun _ _ e _ => e, fun _ _ _ _ => rfl, fun a h => .inl (sub2 a h)⟩
      have a2 := a'.step (b := true) rel2 st2 (fun _ => HSub.refl _) (fun _ => rfl)
      refine ⟨T2, Hf', F2, b, T3, rel2, g2, fun H4 Hf4 F4 rel4 st4 p4 => ?_⟩
      have a4 := a2.step (b := ifs.pure) rel4 st4 p4 (fun h => by
        have h : (elt.pure && ifs.pure && it1.pure && ifs1.pure) = true := h
        simp only [Bool.and_eq_true] at h
        exact h.1.1.2)
      have fin : ∀ {τ : L2.St} {So : Slots} {Hf5 : Hp} {F5 : List Addr} {ys5 : List V} {H5 : Hp}, wipe τ vl = wipe σ vl → wipeS So vl = S3 → Acc X.K Hf1 F1' H1 D0 pu τ (done ++ o) So Hf5 F5 ys5 H5 →
          ∃ Si Hfi Fi ys done' rest, Acc X.K Hf1 F1' H1 D0 pu (wipe σ vl) done' Si Hfi Fi ys H5 ∧ compL (lc2Turn D elt t ifs t1 it1 ifs1 vl vs1) (vs.drop (i + 1)) Si = some (rest, S2) ∧ done' ++ rest = ws ∧ ∃ R, Si = wipeS R vl := by
        intro τ So Hf5 F5 ys5 H5 hw hS a5
        obtain ⟨F6, a6⟩ := a5.wipe vl
        rw [hw, hS] at a6
        exact ⟨S3, Hf5, F6, ys5, done ++ o, rest', a6, f2, by rw [List.append_assoc]; exact ew, wiped⟩
      dsimp only
      cases b with
      | false =>
        rw [if_neg (by decide)]
        obtain ⟨e5, e6⟩ := Prod.mk.inj (Option.some.inj (show some (([] : List Val), wipeS T3 vl) = some (o, S3) from f1))
        subst e5
        rw [List.append_nil] at fin
        exact fin ((wp vl hsl).trans wipe_wipe) e6 a4
      | true =>
        rw [if_pos rfl]
        have f1 : ((evI D it1 T3).bind fun q1 => (compL (lcTurn D elt t1 ifs1 vs1) q1.1 (wipeS q1.2 vs1)).map fun z => (z.1, wipeS z.2 vl)) = some (o, S3) := f1
        rw [Option.bind_eq_some_iff] at f1
        obtain ⟨⟨us, T4⟩, g3, f1⟩ := f1
        rw [Option.map_eq_some_iff] at f1
        obtain ⟨⟨o', T5⟩, g4, f1⟩ := f1
        obtain ⟨rfl, e7⟩ := Prod.mk.inj f1
        refine ⟨T3, Hf4, F4, us, T4, rel4, g3, fun J1 H5 Hf5 F5 rel5 st5 p5 w1 => ?_⟩
        have a5 := a4.step (b := it1.pure) rel5 st5 p5 (fun h => by
          have h : (elt.pure && ifs.pure && it1.pure && ifs1.pure) = true := h
          simp only [Bool.and_eq_true] at h
          exact h.1.2)
        obtain ⟨F6, a6⟩ := a5.wipe vs1
        refine it_loop (B := fun Nx1 x H' => tT X.K t1 x (wipe σ2 vs1) H' fun σ3 H5 => wipe σ3 vs1 = wipe σ2 vs1 ∧ tTests X.K D ifs1 σ3 H5 fun b H6 =>
          if b = true then tEv X.K D elt σ3 H6 fun y H7 => ∃ acc, H7 D0 = some (.lst acc) ∧ acc.length < sizeLine ∧ Nx1 (upd H7 D0 (.lst (acc ++ [y]))) else Nx1 H6) w1
          (fun j H' => ∃ Sj Hfj Fj ys1 done1 rest1, Acc X.K Hf1 F1' H1 D0 pu (wipe σ2 vs1) done1 Sj Hfj Fj ys1 H' ∧ HSub Hf5 Hfj ∧ compL (lcTurn D elt t1 ifs1 vs1) (us.drop j) Sj = some (rest1, T5) ∧ done1 ++ rest1 = done ++ o') ?_ ?_ ?_ ?_
        · exact ⟨_, _, _, _, done, o', a6, HSub.refl _, by rw [List.drop_zero]; exact g4, rfl⟩
        · rintro j H' _ ⟨Sj, Hfj, Fj, ys1, done1, rest1, b1, b2, _⟩
          exact b2.trans b1.rel.sub
        · rintro j y H7 H8 hj ⟨Sj, Hfj, Fj, ys1, done1, rest1, b1, b2, b3, b4⟩ yj
          obtain ⟨u, hu⟩ : ∃ v, us[j]? = some v := ⟨us[j], List.getElem?_eq_getElem hj⟩
          obtain ⟨o1, S6, rest2, k1, k2, rfl⟩ := compL_step hu b3
          refine lc_turn (tot := ws.length) b1 b2 yj hu k1 hsl1 (fun h => ?_) ?_ fl wipe_wipe fun Hf9 F9 ys9 H9 τ9 wp9 a9 s9 => ?_
          · have h : (elt.pure && ifs.pure && it1.pure && ifs1.pure) = true := h
            simp only [Bool.and_eq_true] at h ⊢
            exact ⟨h.1.1.1, h.2⟩
          · have q1 := congrArg List.length ew
            have q2 := congrArg List.length b4
            simp only [List.length_append] at q1 q2 ⊢
            omega
          · exact ⟨S6, Hf9, F9, ys9, done1 ++ o1, rest2, a9, b2.trans s9, k2, by rw [List.append_assoc]; exact b4⟩
        · rintro H7 ⟨Sj, Hfj, Fj, ys1, done1, rest1, b1, b2, b3, b4⟩
          obtain ⟨rfl, rfl⟩ := compL_end b3
          rw [List.append_nil] at b4
          subst b4
          exact fin ((wipe_sub hv).trans ((wp vl hsl).trans wipe_wipe)) e7 b1
    · rintro H2 ⟨Si, Hfi, Fi, ys, done, rest, a, ec, ew, R, eR⟩
      obtain ⟨rfl, rfl⟩ := compL_end ec
      rw [List.append_nil] at ew
      subst ew
      have hw0 : ∀ i ∈ vl, i < S2.length → S2[i]? = some none := by
        intro i hi hl
        rw [eR] at hl ⊢
        exact wipeS_at hi (by rw [wipeS_len] at hl; exact hl)
      have relF := Rel.ofWipe vl hw0 a.rel
      have ow : Own X.K Hfi H2 1 (.lst done) (.ref D0) [D0] := .lst a.at_ a.rep.ownL
      refine q _ H2 Hfi Fi ⟨relF, st1.trans ⟨a.st.hf, fun b o e n => a.st.fr b o e fun z => n (subw b z), fun b o e n => a.st.new b o e fun z => n (subw b z), fun b h => (a.st.own b h).imp (subw b) id⟩, [D0], ow, ?_, ?_, ?_⟩ fun hp => ?_
      · rw [List.nodup_append]
        refine ⟨a.rel.nd, by simp, fun b hb d hd e => ?_⟩
        have : d = D0 := by simpa using hd
        rw [e, this] at hb
        exact a.out hb
      · intro b hb
        have : b = D0 := by simpa using hb
        rw [this]; exact a.off
      · intro b hb
        have : b = D0 := by simpa using hb
        rw [this]; exact st1.fresh hD
      · unfold CE.pure at hp
        simp only [Bool.and_eq_true] at hp
        exact (p1 hp.1.1.1.2).trans (a.pu (by show (elt.pure && ifs.pure && it1.pure && ifs1.pure) = true; rw [hp.1.1.1.1, hp.1.1.2, hp.1.2, hp.2]; rfl))
  · exact ps_setLc2 c.calm (by rw [c.hN]; exact c.nd) (by rw [c.hN]; exact hy) (by rw [c.sc]; exact hyl) hsw hi blk hv hg ht hi1 hg1 ht1 he (fun x => folded_not it _ x) (fun _ x => folded_not it1 _ x)
end
end BV
/-! Dict comprehensions. -/
namespace BV
open PySem PySem.Spec PyProof.Rows L2
/-- a thing at D0 that is being made, beside the slots -/
structure AccG (Mk : Hp → List Val → HO → Prop) (K : Frag) (Hf0 : Hp) (F0 : List Addr) (H0 : Hp) (D0 : Addr) (pu : Bool) (τ : L2.St) (done : List Val) (S : Slots) (Hf : Hp) (F : List Addr) (ob : HO) (H : Hp) : Prop where
  rel : Rel K Hf F S τ H
  st : Step Hf0 F0 H0 Hf F H
  at_ : H D0 = some ob
  out : D0 ∉ F
  off : Hf D0 = none
  rep : Mk Hf done ob
  new : H0 D0 = none
  pu : pu = true → HSub H0 H
section
variable {Mk : Hp → List Val → HO → Prop} {K : Frag} {Hf0 Hf Hf2 H0 H H2 : Hp} {F0 F F2 : List Addr} {D0 : Addr} {pu : Bool} {τ τ2 : L2.St} {done done2 : List Val} {S S2 : Slots} {ob ob2 : HO}
theorem AccG.start (rel : Rel K Hf0 F0 S τ H0) (hn : H0 D0 = none) (h : Mk Hf0 [] ob) : AccG Mk K Hf0 F0 H0 D0 pu τ [] S Hf0 F0 ob (upd H0 D0 ob) := by
  refine ⟨rel.upd hn, (Step.refl _ _ _).upd hn, upd_same, fun h => ?_, ?_, h, hn, fun _ => HSub.upd hn⟩
  · obtain ⟨o, e⟩ := rel.dom D0 h
    rw [e] at hn; cases hn
  · cases q : Hf0 D0 with
    | none => rfl
    | some o => rw [rel.sub D0 o q] at hn; cases hn
theorem AccG.step {b : Bool} (mono : ∀ {Hf Hf' : Hp}, HSub Hf Hf' → Mk Hf done ob → Mk Hf' done ob) (a : AccG Mk K Hf0 F0 H0 D0 pu τ done S Hf F ob H) (rel : Rel K Hf2 F2 S2 τ2 H2) (st : Step Hf F H Hf2 F2 H2) (p : b = true → HSub H H2) (hb : pu = true → b = true) : AccG Mk K Hf0 F0 H0 D0 pu τ2 done S2 Hf2 F2 ob H2 := by
  refine ⟨rel, a.st.trans st, st.fr D0 _ a.at_ a.out, fun h => ?_, ?_, mono st.hf a.rep, a.new, fun hp => (a.pu hp).trans (p (hb hp))⟩
  · rcases st.own D0 h with z | z
    · exact a.out z
    · rw [a.at_] at z; cases z
  · rw [st.new D0 _ a.at_ a.out]; exact a.off
theorem AccG.push (a : AccG Mk K Hf0 F0 H0 D0 pu τ done S Hf F ob H) (r : Mk Hf done2 ob2) : AccG Mk K Hf0 F0 H0 D0 pu τ done2 S Hf F ob2 (upd H D0 ob2) := by
  refine ⟨a.rel.mut a.out a.off, ⟨a.st.hf, fun b o e n => ?_, a.st.new, a.st.own⟩, upd_same, a.out, a.off, r, a.new, fun hp b o e => ?_⟩
  · rw [upd_ne fun z => by rw [z, a.new] at e; cases e]
    exact a.st.fr b o e n
  · rw [upd_ne fun z => by rw [z, a.new] at e; cases e]
    exact a.pu hp b o e
theorem AccG.wipe (a : AccG Mk K Hf0 F0 H0 D0 pu τ done S Hf F ob H) (l : List Nat) : ∃ F', AccG Mk K Hf0 F0 H0 D0 pu (L2.wipe τ l) done (wipeS S l) Hf F' ob H := by
  obtain ⟨F', r, sub⟩ := a.rel.wipe l
  have r2 := r.anyAt l fun i hi hl => wipeS_at hi (by rw [wipeS_len] at hl; exact hl)
  exact ⟨F', r2, ⟨a.st.hf, a.st.fr, a.st.new, fun b h => a.st.own b (sub b h)⟩, a.at_, fun h => a.out (sub _ h), a.off, a.rep, a.new, a.pu⟩
theorem AccG.item (mono : ∀ {Hf Hf' : Hp}, HSub Hf Hf' → Mk Hf done ob → Mk Hf' done ob) {vs : List Val} {i : Nat} {x : V} {H' Hfi : Hp} (a : AccG Mk K Hf0 F0 H0 D0 pu τ done S Hf F ob H) (s : HSub Hfi Hf) (y : YItem K Hfi vs i H x H') :
    ∃ v Hf', vs[i]? = some v ∧ HSub Hf Hf' ∧ AccG Mk K Hf0 F0 H0 D0 pu τ done S Hf' F ob H' ∧ Rep K Hf' v x := by
  obtain ⟨v, e, y⟩ := y
  rcases y with ⟨rfl, r⟩ | ⟨T, p, q, y1, y2, rfl, rfl, hT, rfl, r1, r2⟩
  · exact ⟨v, Hf, e, HSub.refl _, a, r.mono s⟩
  · have g := Gives.newT (Hf := Hf) (F := F) (H := H) a.rel (Step.refl _ _ _) hT (.cons (r1.mono s) (.cons (r2.mono s) .nil))
    obtain ⟨Hf', s1, rel', st', re, rf⟩ := g.opd
    exact ⟨_, Hf', e, st'.hf, a.step mono (b := true) rel' st' (fun _ => HSub.upd hT) (fun _ => rfl), rf 0 rfl⟩
end
/-! ### dicts -/
theorem RepK.keysB {K : Frag} {Hf : Hp} {k : Key} : ∀ {kvs : List (Key × Val)} {ks : List (Key × V)}, RepK K Hf kvs ks → (ks.any fun q => decide (q.1 = k)) = kvs.any fun q => decide (q.1 = k)
  | _, _, .nil => rfl
  | _, _, .cons h r => by rw [List.any_cons, List.any_cons, RepK.keysB r]
theorem RepK.length' {K : Frag} {Hf : Hp} : ∀ {kvs : List (Key × Val)} {ks : List (Key × V)}, RepK K Hf kvs ks → ks.length = kvs.length
  | _, _, .nil => rfl
  | _, _, .cons h r => congrArg Nat.succ (RepK.length' r)
theorem RepK.over {K : Frag} {Hf : Hp} {k : Key} {v : Val} {z : V} (rv : Rep K Hf v z) : ∀ {kvs : List (Key × Val)} {ks : List (Key × V)}, RepK K Hf kvs ks → RepK K Hf (kvs.map fun q => bif decide (q.1 = k) then (q.1, v) else q) (ks.map fun q => if q.1 = k then (q.1, z) else q)
  | _, _, .nil => .nil
  | _, _, .cons (k := k') h r => by
    rw [List.map_cons, List.map_cons]
    by_cases e : k' = k
    · simp only [e, decide_true, cond_true, if_true]
      exact .cons rv (RepK.over rv r)
    · simp only [e, decide_false, cond_false, if_false]
      exact .cons h (RepK.over rv r)
theorem RepK.snoc {K : Frag} {Hf : Hp} {k : Key} {v : Val} {z : V} (rv : Rep K Hf v z) : ∀ {kvs : List (Key × Val)} {ks : List (Key × V)}, RepK K Hf kvs ks → RepK K Hf (kvs ++ [(k, v)]) (ks ++ [(k, z)])
  | _, _, .nil => .cons rv .nil
  | _, _, .cons h r => .cons h (RepK.snoc rv r)
theorem RepK.put {K : Frag} {Hf : Hp} {k : Key} {v : Val} {z : V} (rv : Rep K Hf v z) {kvs : List (Key × Val)} {ks : List (Key × V)} (r : RepK K Hf kvs ks) : RepK K Hf (putD kvs k v) (putK ks k z) := by
  unfold putD putK
  rw [RepK.keysB (k := k) r]
  cases kvs.any fun q => decide (q.1 = k) with
  | true => exact RepK.over rv r
  | false => exact RepK.snoc rv r
theorem putD_len {kvs : List (Key × Val)} {k : Key} {v : Val} : (putD kvs k v).length ≤ kvs.length + 1 := by
  unfold putD
  cases kvs.any fun q => decide (q.1 = k) <;> simp
theorem putAll_app : ∀ {ws us : List Val} {acc : List (Key × Val)}, putAll acc (ws ++ us) = (putAll acc ws).bind fun a => putAll a us
  | [], us, acc => rfl
  | w :: ws, us, acc => by
    show (pairOf w).bind (fun q => putAll (putD acc q.1 q.2) (ws ++ us)) = ((pairOf w).bind fun q => putAll (putD acc q.1 q.2) ws).bind fun a => putAll a us
    cases e : pairOf w with
    | none => rfl
    | some q => exact putAll_app
theorem putAll_len : ∀ {ws : List Val} {acc kvs : List (Key × Val)}, putAll acc ws = some kvs → kvs.length ≤ acc.length + ws.length
  | [], acc, kvs, h => by cases h; simp
  | w :: ws, acc, kvs, h => by
    have h : (pairOf w).bind (fun q => putAll (putD acc q.1 q.2) ws) = some kvs := h
    rw [Option.bind_eq_some_iff] at h
    obtain ⟨q, _, h⟩ := h
    have := putAll_len h
    have := putD_len (kvs := acc) (k := q.1) (v := q.2)
    rw [List.length_cons]
    omega
def MkD (K : Frag) (Hf : Hp) (done : List Val) (ob : HO) : Prop := ∃ kvs ks, ob = .dK ks ∧ putAll [] done = some kvs ∧ RepK K Hf kvs ks
theorem MkD.mono {K : Frag} {Hf Hf' : Hp} {done : List Val} {ob : HO} (s : HSub Hf Hf') (h : MkD K Hf done ob) : MkD K Hf' done ob := by
  obtain ⟨kvs, ks, e1, e2, r⟩ := h
  exact ⟨kvs, ks, e1, e2, r.mono s⟩
section
variable {free : List Str} {D : Den} {n : Nat} {N : List Str} {sc : Scope} {X : Cx}
def dcTurn (D : Den) (kx vx : CE) (t : CT) (ifs : CEs) (vs : List Nat) : Val → Slots → Option (List Val × Slots) := fun v S1 => (t.set v S1).bind fun S2 => (evts D ifs S2).bind fun b => bif b.1 then (ev D kx b.2).bind fun r => (ev D vx r.2).bind fun u => match r.1.1, u.1.1 with
      | .own _, .own _ => some ([.tup [r.1.2, u.1.2]], wipeS u.2 vs)
      | _, _ => none else some ([], wipeS b.2 vs)
theorem dcTurn_wiped {kx vx : CE} {t : CT} {ifs : CEs} {vs : List Nat} {v : Val} {S S1 : Slots} {o : List Val} (e : dcTurn D kx vx t ifs vs v S = some (o, S1)) : ∃ R, S1 = wipeS R vs := by
  unfold dcTurn at e
  rw [Option.bind_eq_some_iff] at e
  obtain ⟨S2, e1, e⟩ := e
  rw [Option.bind_eq_some_iff] at e
  obtain ⟨⟨b, S3⟩, e2, e⟩ := e
  cases b with
  | false => exact ⟨S3, (Prod.mk.inj (Option.some.inj (show some (([] : List Val), wipeS S3 vs) = some (o, S1) from e))).2.symm⟩
  | true =>
    have e : ((ev D kx S3).bind fun r => (ev D vx r.2).bind fun u => match r.1.1, u.1.1 with
      | .own _, .own _ => some ([Val.tup [r.1.2, u.1.2]], wipeS u.2 vs)
      | _, _ => none) = some (o, S1) := e
    rw [Option.bind_eq_some_iff] at e
    obtain ⟨⟨⟨m, w⟩, S4⟩, e3, e⟩ := e
    rw [Option.bind_eq_some_iff] at e
    obtain ⟨⟨⟨m', w'⟩, S5⟩, e4, e⟩ := e
    cases m with
    | bor => cases e
    | own d =>
      cases m' with
      | bor => cases e
      | own d' => exact ⟨S5, (Prod.mk.inj (Option.some.inj e)).2.symm⟩
theorem keyV {K : Frag} {Hf : Hp} {v : Val} {x : V} {k : Key} (h : Rep K Hf v x) (e : keyOf v = some k) : x = kV k := keyOf_ok h e
theorem dc_turn {K : Frag} {Hf0 Hf H0 H Hfi H' : Hp} {F0 F : List Addr} {D0 : Addr} {pu : Bool} {τ : L2.St} {done o vs' : List Val} {S S1 : Slots} {ob : HO} {kx vx : CE} {t : CT} {ifs : CEs} {vs : List Nat} {i : Nat} {v : Val} {x : V} {tot : Nat}
    (a : AccG (MkD K) K Hf0 F0 H0 D0 pu τ done S Hf F ob H) (s : HSub Hfi Hf) (y : YItem K Hfi vs' i H x H') (hv : vs'[i]? = some v) (e : dcTurn D kx vx t ifs vs v S = some (o, S1)) (hsl : ∀ j ∈ t.slots, j ∈ vs) (hp : pu = true → (kx.pure && vx.pure && ifs.pure) = true)
    (hz : (done ++ o).length ≤ tot) (hz2 : tot ≤ sizeLine) (hput : ∃ all, putAll [] (done ++ o) = some all) {τw : L2.St} (hw : wipe τ vs = τw)
    {Nx : Hp → Prop} (nx : ∀ Hf2 F2 ob2 H2 τ2, wipe τ2 vs = τw → AccG (MkD K) K Hf0 F0 H0 D0 pu τw (done ++ o) S1 Hf2 F2 ob2 H2 → HSub Hf Hf2 → Nx H2) :
    tT K t x τ H' fun σ2 H2 => wipe σ2 vs = τw ∧ tTests K D ifs σ2 H2 fun b H3 => if b = true then tEv K D kx σ2 H3 fun y H4 => tEv K D vx σ2 H4 fun z H5 => ∃ kvs k, y = kV k ∧ H5 D0 = some (.dK kvs) ∧ kvs.length < sizeLine ∧ Nx (upd H5 D0 (.dK (putK kvs k z))) else Nx H3 := by
  obtain ⟨v', Hf', ev', s', a', rv⟩ := a.item MkD.mono s y
  rw [hv] at ev'
  cases ev'
  unfold dcTurn at e
  rw [Option.bind_eq_some_iff] at e
  obtain ⟨S2, e1, e⟩ := e
  rw [Option.bind_eq_some_iff] at e
  obtain ⟨⟨b, S3⟩, e2, e⟩ := e
  refine ⟨S, Hf', F, v, S2, a'.rel, rv, e1, fun σ2 F2 rel2 sub2 wp => ⟨(wp vs hsl).trans hw, ?_⟩⟩
  have st2 : Step Hf' F H' Hf' F2 H' := ⟨HSub.refl _, fun _ _ e _ => e, fun _ _ _ _ => rfl, fun a h => .inl (sub2 a h)⟩
  have a2 := a'.step MkD.mono (b := true) rel2 st2 (fun _ => HSub.refl _) (fun _ => rfl)
  refine ⟨S2, Hf', F2, b, S3, rel2, e2, fun H3 Hf3 F3 rel3 st3 p3 => ?_⟩
  have a3 := a2.step MkD.mono (b := ifs.pure) rel3 st3 p3 (fun h => by have := hp h; simp only [Bool.and_eq_true] at this; exact this.2)
  dsimp only
  cases b with
  | false =>
    rw [if_neg (by decide)]
    obtain ⟨rfl, rfl⟩ := Prod.mk.inj (Option.some.inj (show some (([] : List Val), wipeS S3 vs) = some (o, S1) from e))
    rw [List.append_nil] at nx
    obtain ⟨F4, a4⟩ := a3.wipe vs
    rw [(wp vs hsl).trans hw] at a4
    exact nx _ _ _ _ σ2 ((wp vs hsl).trans hw) a4 (s'.trans st3.hf)
  | true =>
    rw [if_pos rfl]
    have e : ((ev D kx S3).bind fun r => (ev D vx r.2).bind fun u => match r.1.1, u.1.1 with
      | .own _, .own _ => some ([Val.tup [r.1.2, u.1.2]], wipeS u.2 vs)
      | _, _ => none) = some (o, S1) := e
    rw [Option.bind_eq_some_iff] at e
    obtain ⟨⟨⟨m, w⟩, S4⟩, e3, e⟩ := e
    rw [Option.bind_eq_some_iff] at e
    obtain ⟨⟨⟨m', w'⟩, S5⟩, e4, e⟩ := e
    cases m with
    | bor => cases e
    | own d =>
      cases m' with
      | bor => cases e
      | own d' =>
        obtain ⟨rfl, rfl⟩ := Prod.mk.inj (Option.some.inj e)
        refine ⟨S3, Hf3, F3, _, S4, rel3, e3, fun y H4 Hf4 F4 g4 p4 => ?_⟩
        obtain ⟨Hf4', s4, rel4, st4, re4, rf4⟩ := g4.opd
        have a4 := a3.step MkD.mono (b := kx.pure) rel4 st4 p4 (fun h => by have := hp h; simp only [Bool.and_eq_true] at this; exact this.1.1)
        refine ⟨S4, Hf4', F4, _, S5, rel4, e4, fun z H5 Hf5 F5 g5 p5 => ?_⟩
        obtain ⟨Hf5', s5, rel5, st5, re5, rf5⟩ := g5.opd
        have a5 := a4.step MkD.mono (b := vx.pure) rel5 st5 p5 (fun h => by have := hp h; simp only [Bool.and_eq_true] at this; exact this.1.2)
        obtain ⟨kvs, ks, eo, e6, rk⟩ := a5.rep
        subst eo
        obtain ⟨all, hall⟩ := hput
        rw [putAll_app, e6] at hall
        have hall : (pairOf (.tup [w, w'])).bind (fun q => putAll (putD kvs q.1 q.2) []) = some all := hall
        rw [Option.bind_eq_some_iff] at hall
        obtain ⟨q, hq, hall⟩ := hall
        have hq : (keyOf w).map (fun q => (q, w')) = some q := hq
        rw [Option.map_eq_some_iff] at hq
        obtain ⟨k, hk, rfl⟩ := hq
        cases hall
        have hy := keyV ((rf4 d rfl).mono st5.hf) hk
        refine ⟨ks, k, hy, a5.at_, ?_, ?_⟩
        · rw [rk.length']
          have := putAll_len e6
          rw [List.length_append, List.length_singleton] at hz
          simp only [List.length_nil] at this
          omega
        · have mk : MkD K Hf5' (done ++ [.tup [w, w']]) (.dK (putK ks k z)) := ⟨putD kvs k w', putK ks k z, rfl, by
            rw [putAll_app, e6]
            show (pairOf (.tup [w, w'])).bind (fun q => putAll (putD kvs q.1 q.2) []) = _
            show ((keyOf w).map (fun q => (q, w'))).bind _ = _
            rw [hk]
            rfl, RepK.put (rf5 d' rfl) rk⟩
          obtain ⟨F6, a6⟩ := (a5.push mk).wipe vs
          rw [(wp vs hsl).trans hw] at a6
          exact nx _ _ _ _ σ2 ((wp vs hsl).trans hw) a6 (s'.trans (st3.hf.trans (st4.hf.trans st5.hf)))
/-- name = {..} on one line, the name a local -/
theorem ps_nameDc {i : Nat} {nm : Str} {pn : Pos} {kx vx tg iter : Expr} {ifs : List Expr} {scp : Scope} {own : List (Str × Nat)} {pc ps : Pos} {wi : TI} {g : TG} {tt : TT} {tk tv : TE} (calm : X.calm = true) (nd : X.N.Nodup) (at_ : X.N[i]? = some nm) (loc : X.env.scope.names.lookup nm = some .local)
    (sw : swapsWith (.DictComp kx vx [⟨tg, iter, ifs, 0⟩] scp pc) (some (.Name nm pn)) ps.line X.env = pure true) (hi : PI X tg iter wi) (blk : BlkOk X.N X.env.scope scp own)
    (hg : ∀ (s : Shared) (H : Hp) (C : Addr) (cl : List (Str × Addr)) (fp : List Addr), PG (X.blk s H scp (compEnvC scp cl C X.env) fp) tg g)
    (ht : ∀ (s : Shared) (H : Hp) (C : Addr) (cl : List (Str × Addr)) (fp : List Addr), PTs (X.blk s H scp (compEnvC scp cl C X.env) fp) ifs tt)
    (hk : ∀ (s : Shared) (H : Hp) (C : Addr) (cl : List (Str × Addr)) (fp : List Addr), PE (X.blk s H scp (compEnvC scp cl C X.env) fp) kx tk)
    (he : ∀ (s : Shared) (H : Hp) (C : Addr) (cl : List (Str × Addr)) (fp : List Addr), PE (X.blk s H scp (compEnvC scp cl C X.env) fp) vx tv) (hs : ∀ x, foldedSetIterable iter X.env x = pure x) :
    PS X (.Assign [.Name nm pn] (.DictComp kx vx [⟨tg, iter, ifs, 0⟩] scp pc) ps) (tAsg (tDc wi g tt tk tv (own.map (·.2))) (gName i)) := by
  refine ⟨fun pins s σ H E I hq => ?_⟩
  rw [exec_Assign_Name_used _ _ _ _ sw]
  refine wpAny_bind (wpAny_standAt (wpAny_bind ?_))
  show wpAny _ X.A (do let _ ← comprehension (.DictComp kx vx [⟨tg, iter, ifs, 0⟩] scp pc) scp X.env (firstIterPos [⟨tg, iter, ifs, 0⟩] pc) newDict false (eval iter X.env) (some (assign (.Name nm pn) X.env))) _ _ s
  have hq : tDc wi g tt tk tv (own.map (·.2)) σ H (fun x H1 => gName i x σ H1 E.nx) := hq
  refine wpAny_bind (thn (dc_core (Qf := fun _ s' => SP X pins E .next s') calm nd I hi blk hg ht hk he hs hq fun L C s' m H' I' q hn f => ?_) fun _ s' z => wpAny_pure (wpAny_pure z))
  show wpAny _ _ (assign (.Name nm pn) X.env (.ref L)) _ _ _
  refine wpAny_assign_Name (store_ok2 (v := V.ref L) I' nd at_ (.inl loc) rfl (fun s2 I2 ⟨ad, sb, had⟩ => ?_) (.inr loc))
  obtain ⟨f0, f1, f2, f3, f4, f5⟩ := f
  have ne : C ≠ ad := by
    rcases had with z | z
    · rw [z]; exact f1
    · exact fun e => f4 nm ad z e.symm
  exact ⟨m, hn.sameBut sb ne, fun h3 sb3 => ⟨_, H', I2.turned (t' := s2.toks) (fun b o hb e => (sb3.2 b hb).trans e) f0 f1 f3 f4 f5, q⟩⟩
theorem s_dc (c : Ctx free D n N sc X) {kx vx : CE} {t : CT} {it : CI} {ifs : CEs} {scp : Scope} {own : List (Str × Nat)} {p : Pos} (ok : blkC N sc scp own = true) (hsl : ∀ j ∈ t.slots, j ∈ own.map (·.2))
    (hi : PI X t.py it.py (tI X.K D it))
    (hg : ∀ (s : Shared) (H : Hp) (C : Addr) (cl : List (Str × Addr)) (fp : List Addr), PG (X.blk s H scp (compEnvC scp cl C X.env) fp) t.py (tT X.K t)) (ht : ∀ (s : Shared) (H : Hp) (C : Addr) (cl : List (Str × Addr)) (fp : List Addr), PTs (X.blk s H scp (compEnvC scp cl C X.env) fp) ifs.py (tTests X.K D ifs))
    (hk : ∀ (s : Shared) (H : Hp) (C : Addr) (cl : List (Str × Addr)) (fp : List Addr), PE (X.blk s H scp (compEnvC scp cl C X.env) fp) kx.py (tEv X.K D kx))
    (he : ∀ (s : Shared) (H : Hp) (C : Addr) (cl : List (Str × Addr)) (fp : List Addr), PE (X.blk s H scp (compEnvC scp cl C X.env) fp) vx.py (tEv X.K D vx)) :
    ∃ tl, (∀ σ H Q, tEv X.K D (.dcm kx vx t it ifs scp own p) σ H Q → tl σ H Q) ∧ PE X (CE.dcm kx vx t it ifs scp own p).py tl ∧
      (∀ {i : Nat} {y : Str} {py spos : Pos}, N[i]? = some y → sc.names.lookup y = some .local → swapsWith (CE.dcm kx vx t it ifs scp own p).py (some (.Name y py)) spos.line X.env = pure true → PS X (.Assign [.Name y py] (CE.dcm kx vx t it ifs scp own p).py spos) (tAsg tl (gName i))) := by
  have blk : BlkOk X.N X.env.scope scp own := by rw [c.hN, c.sc]; exact blkOk_by ok
  refine ⟨tDc (tI X.K D it) (tT X.K t) (tTests X.K D ifs) (tEv X.K D kx) (tEv X.K D vx) (own.map fun z : Str × Nat => z.2), ?_, pe_dc (pos := p) c.calm (by rw [c.hN]; exact c.nd) hi blk hg ht hk he (fun x => folded_not it _ x), fun hy hyl hsw => ?_⟩
  · rintro σ H Q ⟨S, Hf, F, r, S', rel, hev, q⟩
    unfold ev at hev
    rw [Option.bind_eq_some_iff] at hev
    obtain ⟨⟨vs, S1⟩, e1, hev⟩ := hev
    rw [Option.bind_eq_some_iff] at hev
    obtain ⟨⟨ws, S2⟩, e2, hev⟩ := hev
    rw [gd_some] at hev
    obtain ⟨fl, hev⟩ := hev
    rw [Option.map_eq_some_iff] at hev
    obtain ⟨kvs, eput, hev⟩ := hev
    obtain ⟨rfl, rfl⟩ := Prod.mk.inj hev
    have fl := of_decide_eq_true fl
    have e2 : compL (dcTurn D kx vx t ifs (own.map (·.2))) vs (wipeS S1 (own.map (·.2))) = some (ws, S2) := e2
    refine ⟨S, Hf, F, vs, S1, rel, e1, fun J H1 Hf1 F1 rel1 st1 p1 w => fun D0 hD => ?_⟩
    obtain ⟨F1', relw, subw⟩ := rel1.wipe (own.map (·.2))
    have relw2 := relw.anyAt (own.map (·.2)) fun i hi hl => wipeS_at hi (by rw [wipeS_len] at hl; exact hl)
    let vl := own.map (·.2)
    let pu := kx.pure && vx.pure && ifs.pure
    have a0 : AccG (MkD X.K) X.K Hf1 F1' H1 D0 pu (wipe σ vl) [] (wipeS S1 vl) Hf1 F1' (.dK []) (upd H1 D0 (.dK [])) := AccG.start relw2 hD ⟨[], [], rfl, rfl, .nil⟩
    refine it_loop w (fun i H' => ∃ Si Hfi Fi ob done rest, AccG (MkD X.K) X.K Hf1 F1' H1 D0 pu (wipe σ vl) done Si Hfi Fi ob H' ∧ compL (dcTurn D kx vx t ifs vl) (vs.drop i) Si = some (rest, S2) ∧ done ++ rest = ws ∧ ∃ R, Si = wipeS R vl) ?_ ?_ ?_ ?_
    · exact ⟨_, _, _, _, [], ws, a0, by rw [List.drop_zero]; exact e2, rfl, _, rfl⟩
    · rintro i H' _ ⟨Si, Hfi, Fi, ob, done, rest, a, _⟩
      exact a.st.hf.trans a.rel.sub
    · rintro i x H2 H3 hi ⟨Si, Hfi, Fi, ob, done, rest, a, ec, ew, _⟩ yi
      obtain ⟨v, hv⟩ : ∃ v, vs[i]? = some v := ⟨vs[i], List.getElem?_eq_getElem hi⟩
      obtain ⟨o, S3, rest', f1, f2, rfl⟩ := compL_step hv ec
      refine dc_turn (tot := ws.length) a a.st.hf yi hv f1 hsl (fun h => h) ?_ fl ?_ wipe_wipe fun Hf4 F4 ob4 H4 τ4 wp a4 _ => ?_
      · have := congrArg List.length ew
        simp only [List.length_append] at this ⊢
        omega
      · rw [← ew, ← List.append_assoc, putAll_app] at eput
        rw [Option.bind_eq_some_iff] at eput
        obtain ⟨z, hz, _⟩ := eput
        exact ⟨z, hz⟩
      · exact ⟨S3, Hf4, F4, ob4, done ++ o, rest', a4, f2, by rw [List.append_assoc]; exact ew, dcTurn_wiped f1⟩
    · rintro H2 ⟨Si, Hfi, Fi, ob, done, rest, a, ec, ew, R, eR⟩
      obtain ⟨rfl, rfl⟩ := compL_end ec
      rw [List.append_nil] at ew
      subst ew
      have hw0 : ∀ i ∈ vl, i < S2.length → S2[i]? = some none := by
        intro i hi hl
        rw [eR] at hl ⊢
        exact wipeS_at hi (by rw [wipeS_len] at hl; exact hl)
      have relF := Rel.ofWipe vl hw0 a.rel
      obtain ⟨kvs', ks, eo, ep, rk⟩ := a.rep
      subst eo
      rw [eput] at ep
      cases ep
      have ow : Own X.K Hfi H2 1 (.dic kvs) (.ref D0) [D0] := .dic a.at_ rk.ownK
      refine q _ H2 Hfi Fi ⟨relF, st1.trans ⟨a.st.hf, fun b o e n => a.st.fr b o e fun z => n (subw b z), fun b o e n => a.st.new b o e fun z => n (subw b z), fun b h => (a.st.own b h).imp (subw b) id⟩, [D0], ow, ?_, ?_, ?_⟩ fun hp => ?_
      · rw [List.nodup_append]
        refine ⟨a.rel.nd, by simp, fun b hb d hd e => ?_⟩
        have : d = D0 := by simpa using hd
        rw [e, this] at hb
        exact a.out hb
      · intro b hb
        have : b = D0 := by simpa using hb
        rw [this]; exact a.off
      · intro b hb
        have : b = D0 := by simpa using hb
        rw [this]; exact st1.fresh hD
      · unfold CE.pure at hp
        simp only [Bool.and_eq_true] at hp
        exact (p1 hp.1.2).trans (a.pu (by show (kx.pure && vx.pure && ifs.pure) = true; rw [hp.1.1.1, hp.1.1.2, hp.2]; rfl))
  · exact ps_nameDc c.calm (by rw [c.hN]; exact c.nd) (by rw [c.hN]; exact hy) (by rw [c.sc]; exact hyl) hsw hi blk hg ht hk he (fun x => folded_not it _ x)
end
end BV
/-! Set comprehensions of two clauses. -/
namespace BV
open PySem PySem.Spec PyProof.Rows L2
/-- a set comprehension of two clauses -/
abbrev scE (el a i b j : Expr) (us vs : List Expr) (scp : Scope) (p : Pos) : Expr := .SetComp el [⟨a, i, us, 0⟩, ⟨b, j, vs, 0⟩] scp p
section
variable {el a i b j : Expr} {us vs : List Expr} {scp : Scope} {p : Pos} {env : Env} {it acc : Value}
theorem sc_turn0 : compTurn (scE el a i b j us vs scp p) 0 it acc env = (do
      standAt i.pos
      match ← pyNext it with
      | none => pure (.done .next)
      | some v =>
        letOwnedTupleGo a it v
        assign a env v
        let mut ok := true
        for c in us do
          if ok then ok ← isTrue c env (eval c env)
        if ok then
          let x ← eval j env
          standAt j.pos
          let x ← foldedSetIterable j env x
          let _ ← runOwn (.compStart (scE el a i b j us vs scp p) 1 (← holding [x] (pyIter x)) acc env) env
        again (.compLoop (scE el a i b j us vs scp p) 0 it acc env)) := by rfl
theorem sc_turn1 : compTurn (scE el a i b j us vs scp p) 1 it acc env = (do
      standAt j.pos
      match ← pyNext it with
      | none => pure (.done .next)
      | some v =>
        letOwnedTupleGo b it v
        assign b env v
        let mut ok := true
        for c in vs do
          if ok then ok ← isTrue c env (eval c env)
        if ok then
          (do let v ← eval el env; standAt el.pos; let _ ← call (.builtin "set.add") [acc, v])
        again (.compLoop (scE el a i b j us vs scp p) 1 it acc env)) := by rfl
variable {prog : Program} {w : World} {A : Around} {R : Result → Shared → Prop} {s : Shared}
/-- the tests of a clause, one after the other -/
abbrev testsOf (cs : List Expr) (env : Env) : Sem Bool := forIn cs true fun c r => if r = true then do let ok ← isTrue c env (eval c env); pure (ForInStep.yield ok) else pure (ForInStep.yield r)
theorem sc_loop0 (hj : ∀ x, foldedSetIterable j env x = pure x) (J : Nat → Shared → Prop)
    (turn : ∀ n s, J n s → wpAny (model prog w) A (pyNext it) (fun r s1 => match r with
      | none => R (.ok .next) s1
      | some v => wpAny (model prog w) A (letOwnedTupleGo a it v) (fun _ s2 => wpAny (model prog w) A (assign a env v) (fun _ s3 => wpAny (model prog w) A (testsOf us env) (fun ok s4 =>
          if ok = true then wpAny (model prog w) A (eval j env) (fun x s5 => wpAny (model prog w) A (pyIter x) (fun it1 s6 =>
              codeAny (model prog w) A (.compStart (scE el a i b j us vs scp p) 1 it1 acc env) (fun r s' => match r with
                | .ok _ => ∃ m, m < n ∧ J m s'
                | .error _ => False) s6) (fun _ _ => False) s5) (fun _ _ => False) s4
          else ∃ m, m < n ∧ J m s4) (fun _ _ => False) s3) (fun _ _ => False) s2) (fun _ _ => False) s1) (fun _ _ => False) s) (n : Nat) (h : J n s) :
    codeAny (model prog w) A (.compLoop (scE el a i b j us vs scp p) 0 it acc env) R s := by
  refine codeAny_loop rfl J (fun n s hJ => ?_) n h
  refine wpAny_noted (show wpAny _ A (compTurn (scE el a i b j us vs scp p) 0 it acc env) _ _ s from ?_)
  rw [sc_turn0]
  refine wpAny_bind (wpAny_standAt (wpAny_bind (thnF (turn n s hJ) fun r s1 h1 => ?_)))
  cases r with
  | none => exact wpAny_pure h1
  | some v =>
    refine wpAny_bind (thnF h1 fun _ s2 h2 => wpAny_bind (thnF h2 fun _ s3 h3 => wpAny_bind (thnF h3 fun ok s4 h4 => ?_)))
    cases ok with
    | false => exact wpAny_pure ⟨rfl, h4⟩
    | true =>
      refine wpAny_bind (thnF h4 fun x s5 h5 => wpAny_bind (wpAny_standAt (wpAny_bind (wpAny_of_eq (hj x) (wpAny_bind (wpAny_holding (thnF h5 fun it1 s6 h6 => wpAny_bind (wpAny_runOwn ?_))))))))
      rw [Around.mark_none]
      refine codeAny_mono h6 fun r s' hr => ?_
      cases r with
      | ok f => exact wpAny_pure ⟨rfl, hr⟩
      | error e => exact hr.elim
theorem sc_loop1 (J : Nat → Shared → Prop)
    (turn : ∀ n s, J n s → wpAny (model prog w) A (pyNext it) (fun r s1 => match r with
      | none => R (.ok .next) s1
      | some v => wpAny (model prog w) A (letOwnedTupleGo b it v) (fun _ s2 => wpAny (model prog w) A (assign b env v) (fun _ s3 => wpAny (model prog w) A (testsOf vs env) (fun ok s4 =>
          if ok = true then wpAny (model prog w) A (eval el env) (fun x s5 => wpAny (model prog w) A (call (.builtin "set.add") [acc, x]) (fun _ s6 => ∃ m, m < n ∧ J m s6) (fun _ _ => False) s5) (fun _ _ => False) s4
          else ∃ m, m < n ∧ J m s4) (fun _ _ => False) s3) (fun _ _ => False) s2) (fun _ _ => False) s1) (fun _ _ => False) s) (n : Nat) (h : J n s) :
    codeAny (model prog w) A (.compLoop (scE el a i b j us vs scp p) 1 it acc env) R s := by
  refine codeAny_loop rfl J (fun n s hJ => ?_) n h
  refine wpAny_noted (show wpAny _ A (compTurn (scE el a i b j us vs scp p) 1 it acc env) _ _ s from ?_)
  rw [sc_turn1]
  refine wpAny_bind (wpAny_standAt (wpAny_bind (thnF (turn n s hJ) fun r s1 h1 => ?_)))
  cases r with
  | none => exact wpAny_pure h1
  | some v =>
    refine wpAny_bind (thnF h1 fun _ s2 h2 => wpAny_bind (thnF h2 fun _ s3 h3 => wpAny_bind (thnF h3 fun ok s4 h4 => ?_)))
    cases ok with
    | false => exact wpAny_pure ⟨rfl, h4⟩
    | true => exact wpAny_bind (wpAny_bind (thnF h4 fun x s5 h5 => wpAny_bind (wpAny_standAt (wpAny_bind (thnF h5 fun _ s6 h6 => wpAny_pure (wpAny_pure ⟨rfl, h6⟩))))))
theorem sc_start (k : Nat) (hk : k = 0 ∨ k = 1) (h0 : codeAny (model prog w) A (.compLoop (scE el a i b j us vs scp p) k it acc env) R s)
    (h : wpAny (model prog w) A (pyIter it) (fun it' s' => codeAny (model prog w) A (.compLoop (scE el a i b j us vs scp p) k it' acc env) R s') (fun _ _ => False) s) :
    codeAny (model prog w) A (.compStart (scE el a i b j us vs scp p) k it acc env) R s := by
  refine codeAny_of_tree (wpAny_notedAt (show wpAny _ _ (compStart (scE el a i b j us vs scp p) k it acc env) _ _ s from ?_))
  rcases hk with rfl | rfl
  · unfold compStart
    refine wpAny_bind (m := ask) (wpAny_askSetting (wpAny_ite ?_))
    split
    · exact wpAny_pure ⟨rfl, h0⟩
    · refine wpAny_bind (wpAny_rule (wpAny_bind (m := standAt i.pos) (wpAny_standAt (wpAny_bind (thnF h fun it' s' h' => wpAny_pure ⟨rfl, h'⟩)))))
  · unfold compStart
    refine wpAny_bind (m := ask) (wpAny_askSetting (wpAny_ite ?_))
    split
    · exact wpAny_pure ⟨rfl, h0⟩
    · refine wpAny_bind (wpAny_rule (wpAny_bind (m := standAt j.pos) (wpAny_standAt (wpAny_bind (thnF h fun it' s' h' => wpAny_pure ⟨rfl, h'⟩)))))
end
/-- the set at D, a thing more -/
def addS (w : World) (D : Addr) (H : Hp) (Nx : Hp → Prop) (y : V) : Prop := ∃ (k : Int) (S : Int → Bool) (n : Nat), y = .int k ∧ H D = some (SetO w D S n) ∧ n + 1 < scanBound ∧ Nx (upd H D (SetO w D (fun z => S z || decide (z = k)) (if S k = true then n else n + 1)))
/-- what a walk over J is asked: at each turn it stops, or a thing comes and B leads on -/
def walks (J : It) (B : (Hp → Prop) → V → Hp → Prop) (H0 : Hp) (Qd : Hp → Prop) : Prop := ∃ W : Nat → Nat → Hp → Prop, (∃ m, W 0 m H0) ∧ ∀ i m H, W i m H →
  (J.stop i H ∧ Qd H) ∨ (J.go i H ∧ ∃ Nx : Hp → Prop, (∀ H', Nx H' → ∃ m', m' < m ∧ W (i + 1) m' H') ∧ ∀ x H', J.yld i H x H' → B Nx x H')
def tSc2 (w : World) (wi : TI) (g : TG) (tt : TT) (wj : TI) (h : TG) (tu : TT) (te : TE) (all own1 : List Nat) : TE := fun σ H Q => wi σ H fun J H1 => ∀ D, H1 D = none →
  walks J (fun Nx x H2 => g x (wipe σ all) H2 fun σ2 H3 => wipe σ2 all = wipe σ all ∧ tt σ2 H3 fun t H4 => if t = true then
      wj σ2 H4 fun J1 H5 => walks J1 (fun Ny y H6 => h y (wipe σ2 own1) H6 fun σ3 H7 => wipe σ3 own1 = wipe σ2 own1 ∧ tu σ3 H7 fun u H8 => if u = true then te σ3 H8 fun z H9 => addS w D H9 Ny z else Ny H8) H5 Nx
    else Nx H4) (upd H1 D (SetO w D (fun _ => false) 0)) fun H2 => Q (.ref D) H2
section
variable {X : Cx}
/-- set.add of an int -/
theorem add_int {pins : List (Addr × Obj)} {σ : L2.St} {H : Hp} {s : Shared} {E : Value → Shared → Prop} {D : Addr} {y : V} {u : Value} {Nx : Hp → Prop} {Q : Value → Shared → Prop} (I : Inv X pins σ H s) (r : RelV y u) (h : addS X.w D H Nx y)
    (k : ∀ s' H', Inv X pins σ H' s' → Nx H' → Q .none s') : wpAny (model X.prog X.w) X.A (call (.builtin "set.add") [.ref D, u]) Q E s := by
  obtain ⟨z, S, n, rfl, hD, room, nx⟩ := h
  obtain ⟨t, rfl⟩ := r
  refine setR_add (setO_get I hD) room fun h' sb new => k _ _ ?_ nx
  refine I.write (e := D) (t' := s.toks + 1) (by rw [hD]; trivial) (.inl rfl) (fun c o hc ho => (sb.2 c hc).trans ho) ?_ (setO_new new)
  have ⟨o, _, _, _, ho, _⟩ := new
  exact ⟨o, ho⟩
theorem sc2_core {pins : List (Addr × Obj)} {s : Shared} {σ : L2.St} {H : Hp} {Q : VK} {el a i b j : Expr} {us vs : List Expr} {scp : Scope} {own : List (Str × Nat)} {own1 : List Nat} {p p' : Pos} {wi wj : TI} {g h : TG} {tt tu : TT} {te : TE}
    (calm : X.calm = true) (nd : X.N.Nodup) (inv : Inv X pins σ H s) (hi : PI X a i wi) (blk : BlkOk X.N X.env.scope scp own) (sub : ∀ k ∈ own1, k ∈ own.map (·.2))
    (hg : ∀ (s : Shared) (H : Hp) (C : Addr) (cl : List (Str × Addr)) (fp : List Addr), PG (X.blk s H scp (compEnvC scp cl C X.env) fp) a g)
    (ht : ∀ (s : Shared) (H : Hp) (C : Addr) (cl : List (Str × Addr)) (fp : List Addr), PTs (X.blk s H scp (compEnvC scp cl C X.env) fp) us tt)
    (hj : ∀ (s : Shared) (H : Hp) (C : Addr) (cl : List (Str × Addr)) (fp : List Addr), PI (X.blk s H scp (compEnvC scp cl C X.env) fp) b j wj)
    (hh : ∀ (s : Shared) (H : Hp) (C : Addr) (cl : List (Str × Addr)) (fp : List Addr), PG (X.blk s H scp (compEnvC scp cl C X.env) fp) b h)
    (hu : ∀ (s : Shared) (H : Hp) (C : Addr) (cl : List (Str × Addr)) (fp : List Addr), PTs (X.blk s H scp (compEnvC scp cl C X.env) fp) vs tu)
    (he : ∀ (s : Shared) (H : Hp) (C : Addr) (cl : List (Str × Addr)) (fp : List Addr), PE (X.blk s H scp (compEnvC scp cl C X.env) fp) el te)
    (fi : ∀ x, foldedSetIterable i X.env x = pure x) (fj : ∀ env x, foldedSetIterable j env x = pure x) (q : tSc2 X.w wi g tt wj h tu te (own.map (·.2)) own1 σ H Q) :
    wpAny (model X.prog X.w) X.A (eval (scE el a i b j us vs scp p) X.env) (EP X pins σ Q) X.xe s := by
  have cells : ∀ y ∈ scp.names, y.2 = .free → ∃ c, X.env.cells.lookup y.1 = some c := fun y hy e => (blk.free y hy e).elim (fun k => inv.ok.has _ (.inl k)) fun k => inv.ok.has _ (.inr k)
  refine wpAny_comprehension_free (use := none) rfl fi (closure_ok cells) blk.kind (fun y hy e => by rw [blk.uniq y hy, e]) (thn (hi.run pins s σ H _ inv q) fun xv sA hx => thn hx fun itv sB hB => ?_)
  obtain ⟨it, fp, tn, J, HB, rfl, invB, T, stB, fpB, wk⟩ := hB
  refine PpSet.newSet_ok (newEnv_comp ?_)
  obtain ⟨W, ⟨m0, w0⟩, turn⟩ := wk sB.heap.objs.size (invB.hok.fresh (Nat.le_refl _))
  let D : Addr := sB.heap.objs.size
  let H0 : Hp := upd HB D (SetO X.w D (fun _ => false) 0)
  let sC : Shared := { sB with heap := sB.heap.push { cls := .type "set", dict := none, data := .set #[] 0 (.fresh 0 0 (!X.w.params.followText "set-order")) } }
  have invC : Inv X pins σ H0 sC := invB.laid (t' := sB.toks) (fun c o e => Heap.get?_push_of_some _ e) (Nat.le_refl _) (setO_new (setR_fresh X.w))
  have low : ∀ c ∈ fp, c < sB.heap.objs.size := fun c hc => let ⟨_, e, _⟩ := T.obj _ _ stB c hc; Heap.lt_size e
  have fpC : ∀ c ∈ fp, FpOk X pins H0 c ∧ c < sC.heap.objs.size := fun c hc => by
    refine ⟨⟨?_, (fpB c hc).2⟩, ?_⟩
    · show upd HB D _ c = none
      rw [upd_ne (Nat.ne_of_lt (low c hc))]
      exact (fpB c hc).1
    · show c < (sB.heap.push _).objs.size
      rw [Heap.size_push]
      exact Nat.lt_succ_of_lt (low c hc)
  have stC : tn 0 sC.heap := T.keep _ _ _ stB fun c _ o e => Heap.get?_push_of_some _ e
  have invD := block_start invC blk nd fpC
  let cl := cellsFrom (sC.heap.objs.size + 1) scp.names (cloFrom X.env.cells scp.names [])
  have pg := hg sC H0 sC.heap.objs.size cl fp
  have pt := ht sC H0 sC.heap.objs.size cl fp
  have pj := hj sC H0 sC.heap.objs.size cl fp
  have ph := hh sC H0 sC.heap.objs.size cl fp
  have pu := hu sC H0 sC.heap.objs.size cl fp
  have pe := he sC H0 sC.heap.objs.size cl fp
  have eL : (compEnvC scp cl sC.heap.objs.size X.env).locals = sC.heap.objs.size := rfl
  show codeAny _ _ (.compStart (scE el a i b j us vs scp p) 0 (.ref it) (.ref D) (compEnvC scp cl sC.heap.objs.size X.env)) (compPost (model X.prog X.w) X.A X.xe none (EP X pins σ Q) (.ref D) sC.heap.objs.size) { sC with heap := pushCells (sC.heap.push { cls := .type "dict", data := .dict #[] }) scp.names }
  have gone : ∀ c ∈ fp, H0 c = none := fun c hc => (fpC c hc).1.1
  have stD : tn 0 (pushCells (sC.heap.push { cls := .type "dict", data := .dict #[] }) scp.names) := T.keep _ _ _ stC fun c _ o e => pushCells_keeps _ _ _ _ (Heap.get?_push_of_some _ e)
  have invD : Inv (X.blk sC H0 scp (compEnvC scp cl sC.heap.objs.size X.env) fp) [] (wipe σ (own.map (·.2))) H0 { sC with heap := pushCells (sC.heap.push { cls := .type "dict", data := .dict #[] }) scp.names } := invD
  generalize (compEnvC scp cl sC.heap.objs.size X.env) = ce at *
  let B := X.blk sC H0 scp ce fp
  have free : ∀ {σ' : L2.St} {H' : Hp} {s' : Shared}, Inv B [] σ' H' s' → (∀ c ∈ fp, H' c = none) → ∀ c ∈ fp, FpOk B [] H' c := fun {σ' H' s'} I' hn c hc =>
    ⟨hn c hc, (I'.ok.exf c hc).1, I'.ok.exfs c hc, .inl hc, fun x d e => (I'.ok.exf c hc).2 x d e, fun q hq => by
      have hq : q ∈ ([] : List (Addr × Obj)) ++ [] := hq
      cases hq⟩
  let All : Nat → Shared → Prop := fun n s' => ∃ k H', Inv B [] (wipe σ (own.map (·.2))) H' s' ∧ tn k s'.heap ∧ (∀ c ∈ fp, H' c = none) ∧ W k n H'
  have loop : codeAny (model X.prog X.w) X.A (.compLoop (scE el a i b j us vs scp p) 0 (.ref it) (.ref D) ce) (compPost (model X.prog X.w) X.A X.xe none (EP X pins σ Q) (.ref D) sC.heap.objs.size) { sC with heap := pushCells (sC.heap.push { cls := .type "dict", data := .dict #[] }) scp.names } := by
    refine sc_loop0 (fj ce) All ?_ m0 ⟨0, H0, invD, stD, gone, w0⟩
    rintro n s1 ⟨k, H1, I1, st1, n1, w1⟩
    rcases turn k n H1 w1 with ⟨stop, done⟩ | ⟨go, Nx, hNx, step⟩
    · refine thnF (T.done B rfl rfl rfl calm k [] s1 _ H1 (fun _ _ => False) I1 (free I1 n1) st1 stop) fun r s2 ⟨hr, I2⟩ => ?_
      subst hr
      have I3 : Inv X pins σ H1 s2 := invC.call' (ch := fp) I2.os I2.base I2.hok I2.bare fun c hc => ⟨(fpC c hc).1.2.2.2.1, (fpC c hc).1.2.1, (fpC c hc).1.2.2.2.2.1, (fpC c hc).1.2.2.2.2.2⟩
      have hC : H1 sC.heap.objs.size = none := by
        have := I2.free
        rw [← eL]
        exact this
      obtain ⟨m, hn, _⟩ := I2.loc
      have hn : s2.heap.Ns sC.heap.objs.size m := by
        rw [← eL]
        exact hn
      obtain ⟨f0, f1, f2, f3, f4, f5⟩ := invC.fpOk (Nat.le_refl _) hC
      exact ⟨m, hn, fun h'' sb => ⟨.ref D, H1, I3.turned (t' := s2.toks) (fun c o hc e => (sb.2 c hc).trans e) f0 f1 f3 f4 f5, rfl, done⟩⟩
    · refine thnF (T.item B rfl rfl rfl calm k [] s1 _ H1 (fun _ _ => False) I1 (free I1 n1) st1 go) fun r s2 ⟨u, hr, h2⟩ => ?_
      subst hr
      refine thnF h2 fun _ s3 ⟨x, H3, I3, r3, y3, st3, n3⟩ => ?_
      have I3' := I3.pinned (free I3 n3) (T.obj _ _ st3)
      refine thnF (pg.run _ s3 _ H3 x u _ I3' r3 (step x H3 y3)) fun _ s4 ⟨σ4, H4, I4, w4, q4⟩ => ?_
      refine thnF (pt.run _ s4 σ4 H4 _ I4 q4) fun t s5 ⟨H5, I5, q5⟩ => ?_
      have len4 : (wipe σ (own.map (·.2))).length = σ4.length := by rw [← w4, wipe_length]
      have back : ∀ {τ : L2.St} {s' : Shared} {H' : Hp}, Inv B ([] ++ pinsAt fp s3.heap) τ H' s' → (wipe σ (own.map (·.2))).length = τ.length → (∀ (c : Nat) v, (wipe σ (own.map (·.2)))[c]? = some (some v) → τ[c]? = some (some v)) → Nx H' → ∃ m, m < n ∧ All m s' := fun {τ s' H'} I' hl hk nx => by
        obtain ⟨m', hm, w'⟩ := hNx H' nx
        have keep : ∀ c ∈ fp, ∀ o, s3.heap.get? c = some o → s'.heap.get? c = some o ∧ H' c = none := fun c hc o e =>
          ⟨(I'.pin (c, o) (List.mem_append_right _ (List.mem_append_right _ (mem_pinsAt hc e)))).1, (I'.pin (c, o) (List.mem_append_right _ (List.mem_append_right _ (mem_pinsAt hc e)))).2.1⟩
        exact ⟨m', hm, k + 1, H', (I'.unpinned (pins := [])).weak hl hk, T.keep _ _ _ st3 fun c hc o e => (keep c hc o e).1, fun c hc => let ⟨o, e, _⟩ := T.obj _ _ st3 c hc; (keep c hc o e).2, w'⟩
      cases t with
      | false => exact back I5 len4 (fun c v e => by rw [← w4] at e; exact (wipe_some e).1) q5
      | true =>
        refine thnF (pj.run _ s5 σ4 H5 _ I5 q5) fun xv s6 hx => thnF hx fun itv s7 h7 => ?_
        obtain ⟨it1, fp1, tn1, J1, H7, rfl, I7, T1, st7, f7, W1, ⟨m1, w1'⟩, turn1⟩ := h7
        have free1 : ∀ {H' : Hp}, (∀ c ∈ fp1, H' c = none) → ∀ c ∈ fp1, FpOk B ([] ++ pinsAt fp s3.heap) H' c := fun hn c hc => ⟨hn c hc, (f7 c hc).2⟩
        let All1 : Nat → Shared → Prop := fun m s' => ∃ l H', Inv B ([] ++ pinsAt fp s3.heap) (wipe σ4 own1) H' s' ∧ tn1 l s'.heap ∧ (∀ c ∈ fp1, H' c = none) ∧ W1 l m H'
        have inner : codeAny (model X.prog X.w) X.A (.compLoop (scE el a i b j us vs scp p) 1 (.ref it1) (.ref D) ce) (fun r s' => match r with
            | .ok _ => ∃ m, m < n ∧ All m s'
            | .error _ => False) s7 := by
          refine sc_loop1 All1 ?_ m1 ⟨0, H7, I7.weak (wipe_length _ _) (fun c v e => (wipe_some e).1), st7, fun c hc => (f7 c hc).1, w1'⟩
          rintro m s8 ⟨l, H8, I8, st8, n8, w8⟩
          rcases turn1 l m H8 w8 with ⟨stop1, nx1⟩ | ⟨go1, Ny, hNy, step1⟩
          · refine thnF (T1.done B rfl rfl rfl calm l _ s8 (wipe σ4 own1) H8 (fun _ _ => False) I8 (free1 n8) st8 stop1) fun r s9 ⟨hr, I9⟩ => ?_
            subst hr
            refine back I9 (len4.trans (wipe_length σ4 own1).symm) (fun c v e => ?_) nx1
            rw [← w4] at e
            obtain ⟨e1, e2⟩ := wipe_some e
            rw [wipe_out fun z => e2 (sub c z)]
            exact e1
          · refine thnF (T1.item B rfl rfl rfl calm l _ s8 (wipe σ4 own1) H8 (fun _ _ => False) I8 (free1 n8) st8 go1) fun r s9 ⟨u1, hr, h9⟩ => ?_
            subst hr
            refine thnF h9 fun _ sa ⟨x1, Ha, Ia, ra, ya, sta, na⟩ => ?_
            have Ia' := Ia.pinned (free1 na) (T1.obj _ _ sta)
            refine thnF (ph.run _ sa (wipe σ4 own1) Ha x1 u1 _ Ia' ra (step1 x1 Ha ya)) fun _ sb ⟨σb, Hb, Ib, wb, qb⟩ => ?_
            refine thnF (pu.run _ sb σb Hb _ Ib qb) fun t1 sc ⟨Hc, Ic, qc⟩ => ?_
            have on : ∀ {s' : Shared} {H' : Hp}, Inv B (([] ++ pinsAt fp s3.heap) ++ pinsAt fp1 sa.heap) σb H' s' → Ny H' → ∃ m', m' < m ∧ All1 m' s' := fun {s' H'} I' ny => by
              obtain ⟨m', hm, w'⟩ := hNy H' ny
              have keep : ∀ c ∈ fp1, ∀ o, sa.heap.get? c = some o → s'.heap.get? c = some o ∧ H' c = none := fun c hc o e =>
                ⟨(I'.pin (c, o) (List.mem_append_right _ (List.mem_append_right _ (mem_pinsAt hc e)))).1, (I'.pin (c, o) (List.mem_append_right _ (List.mem_append_right _ (mem_pinsAt hc e)))).2.1⟩
              exact ⟨m', hm, l + 1, H', I'.unpinned.weak (by rw [← wb, wipe_length]) (fun c v e => by rw [← wb] at e; exact (wipe_some e).1), T1.keep _ _ _ sta fun c hc o e => (keep c hc o e).1, fun c hc => let ⟨o, e, _⟩ := T1.obj _ _ sta c hc; (keep c hc o e).2, w'⟩
            cases t1 with
            | false => exact on Ic qc
            | true => exact thnF (pe.run _ sc σb Hc _ Ic qc) fun z sd ⟨yv, Hd, Id, rd, ad⟩ => add_int (X := B) Id rd ad fun s' H' I' ny => on I' ny
        exact sc_start 1 (.inr rfl) inner (T1.self X.A 0 _ _ _ st7 inner)
  exact sc_start 0 (.inl rfl) loop (T.self X.A 0 _ _ _ stD loop)
end
end BV
/-! sorted({.. for .. for ..}). -/
namespace BV
open PySem PySem.Spec PyProof.Rows L2
/-! ### rising lists -/
theorem mem_insU {x z : Int} : ∀ {l : List Int}, z ∈ insU x l ↔ z = x ∨ z ∈ l
  | [] => by simp [insU]
  | y :: r => by
    unfold insU
    split
    · simp
    · split
      · rename_i e
        subst e
        simp
      · rw [List.mem_cons, mem_insU, List.mem_cons]
        constructor
        · rintro (h | h | h)
          · exact .inr (.inl h)
          · exact .inl h
          · exact .inr (.inr h)
        · rintro (h | h | h)
          · exact .inr (.inl h)
          · exact .inl h
          · exact .inr (.inr h)
theorem rise_insU {x : Int} : ∀ {l : List Int}, l.Pairwise (· < ·) → (insU x l).Pairwise (· < ·)
  | [], _ => by simp [insU]
  | y :: r, h => by
    rw [List.pairwise_cons] at h
    unfold insU
    split
    · rename_i c
      refine List.pairwise_cons.mpr ⟨fun z hz => ?_, List.pairwise_cons.mpr h⟩
      rcases List.mem_cons.mp hz with rfl | hz
      · exact c
      · exact Int.lt_trans c (h.1 z hz)
    · split
      · exact List.pairwise_cons.mpr h
      · refine List.pairwise_cons.mpr ⟨fun z hz => ?_, rise_insU h.2⟩
        rcases mem_insU.mp hz with rfl | hz
        · omega
        · exact h.1 z hz
theorem mem_sortU {z : Int} : ∀ {l : List Int}, z ∈ sortU l ↔ z ∈ l
  | [] => by simp [sortU]
  | y :: r => by
    show z ∈ insU y (sortU r) ↔ _
    rw [mem_insU, mem_sortU, List.mem_cons]
theorem rise_sortU : ∀ {l : List Int}, (sortU l).Pairwise (· < ·)
  | [] => by simp [sortU]
  | y :: r => rise_insU (l := sortU r) rise_sortU
theorem rise_uniq : ∀ {l m : List Int}, l.Pairwise (· < ·) → m.Pairwise (· < ·) → (∀ k, k ∈ l ↔ k ∈ m) → l = m
  | [], [], _, _, _ => rfl
  | [], y :: m, _, _, h => by have := (h y).mpr (List.mem_cons_self ..); cases this
  | x :: l, [], _, _, h => by have := (h x).mp (List.mem_cons_self ..); cases this
  | x :: l, y :: m, hl, hm, h => by
    rw [List.pairwise_cons] at hl hm
    have e : x = y := by
      rcases List.mem_cons.mp ((h x).mp (List.mem_cons_self ..)) with e | e
      · exact e
      · rcases List.mem_cons.mp ((h y).mpr (List.mem_cons_self ..)) with f | f
        · exact f.symm
        · have := hl.1 y f
          have := hm.1 x e
          omega
    subst e
    congr 1
    refine rise_uniq hl.2 hm.2 fun k => ⟨fun hk => ?_, fun hk => ?_⟩
    · rcases List.mem_cons.mp ((h k).mp (List.mem_cons_of_mem _ hk)) with e | e
      · have := hl.1 k hk
        omega
      · exact e
    · rcases List.mem_cons.mp ((h k).mpr (List.mem_cons_of_mem _ hk)) with e | e
      · have := hm.1 k hk
        omega
      · exact e
theorem intsOf_map : ∀ {vs : List Val} {ks : List Int}, intsOf vs = some ks → vs = ks.map .int
  | [], ks, h => by cases h; rfl
  | v :: vs, ks, h => by
    cases v with
    | int i =>
      have h : (intsOf vs).map (i :: ·) = some ks := h
      rw [Option.map_eq_some_iff] at h
      obtain ⟨l, e, rfl⟩ := h
      rw [intsOf_map e]
      rfl
    | _ => cases h
/-! ### sorted of a set -/
section
variable {P : Program} {w : World} {A : Around} {E : Value → Shared → Prop} {s : Shared} {a : Addr}
theorem sorted_setA {S : Int → Bool} {n : Nat} {Q : Value → Shared → Prop} (R : SetR w s.heap a S n) (calm : A.handled = none)
    (done : ∀ s' p (out : List Value) (c : Nat) (ns : List Int), (∀ b o, s.heap.get? b = some o → s'.heap.get? b = some o) → s'.gens = s.gens → s'.os = s.os → s.heap.objs.size ≤ p →
      s'.heap.get? p = some (seqObj "list" out.toArray c) → IntsAre out ns → ns.Pairwise (· < ·) → (∀ k, k ∈ ns ↔ S k = true) → ns.length = n → Q (.ref p) s') :
    wpAny (model P w) A (call (.builtin "sorted") [.ref a]) Q E s := by
  obtain ⟨o, es, ep, t, ho, hex, hd, good, nd, mem, lim, fits, num, ris, led⟩ := R
  refine Calls.call_function_entry kind_sorted plain_sorted entry_sorted (args_sorted1 _) ?_
  unfold Builtin.«sorted»
  refine wpAny_bind (m := checkCount "sorted" 1 1 _) (wpAny_pure (wpAny_bind (collect_set (A := A.in1) calm ⟨o, ho, hex.1, hd⟩ fits lim ris led fun s1 vs k1 z1 g1 o1 pm => ?_)))
  have len : vs.length = n := by rw [pm.length_eq, List.length_map, Array.length_toList]; exact num
  have ii : IntsAre vs (vs.map Builtin.Re.reRawOf) := ints_of vs fun v hv => by
    obtain ⟨e, he, rfl⟩ := List.mem_map.mp (pm.mem_iff.mp hv)
    obtain ⟨k, tk, h1, _⟩ := good e he
    exact ⟨k, tk, h1⟩
  have keys : (vs.map Builtin.Re.reRawOf).Perm (es.toList.map L2.keyOf) := by
    have z := pm.map Builtin.Re.reRawOf
    rw [List.map_map] at z
    exact z
  have small : vs.length ≤ sizeLine := by
    have : es.size < 4096 := lim
    rw [len, ← num, sizeLine_eq]
    omega
  refine wpAny_bind (wpAny_newList ?_ small)
  have hoL : (s1.heap.push (seqObj "list" vs.toArray 0)).get? s1.heap.objs.size = some (seqObj "list" vs.toArray 0) := Heap.get?_push_size _ rfl
  refine wpAny_bind (wpAny_holding (wpAny_call_entry slot_list_sort ⟨_, hoL, rfl⟩ entry_list_sort (SrtO.list_sort_ord SrtO.swo_int hoL small (fun h2 => SrtO.ints_sortable ii h2) fun out h1 h2 => ⟨_, rfl, ?_⟩) (args_list_sort _)))
  obtain ⟨r1, r2, r3⟩ := SrtO.ints_out ii h1 h2
  obtain ⟨c, hc⟩ := sortedHeap_at (vs := vs) (out := out.toArray) hoL
  have perm := r2.trans keys
  refine wpAny_pure ⟨_, rfl, done _ s1.heap.objs.size out c (out.map SrtO.iv) (fun b u e => ?_) g1 o1 z1 hc r1 (lt_of_le_nodup _ r3 (perm.nodup_iff.mpr nd)) (fun k => by rw [perm.mem_iff, ← mem k]) ?_⟩
  · have q := k1 b u e
    have lt := Heap.lt_size q
    show (sortedHeap (s1.heap.push (seqObj "list" vs.toArray 0)) s1.heap.objs.size vs out.toArray).get? b = some u
    rw [sortedHeap_old (Nat.ne_of_lt lt) (by rw [size_push']; exact Nat.lt_succ_of_lt lt)]
    exact Heap.get?_push_of_some _ q
  · rw [perm.length_eq, List.length_map, Array.length_toList]; exact num
end
def rSortS (w : World) : List V → Hp → VK → Prop := fun vs H Q => ∃ (a : Addr) (S : Int → Bool) (n : Nat), vs = [V.ref a] ∧ H a = some (SetO w a S n) ∧
  ∀ (ns : List Int) (p : Addr), ns.Pairwise (· < ·) → (∀ k : Int, k ∈ ns ↔ S k = true) → ns.length ≤ sizeLine → H p = none → Q (.ref p) (upd H p (.lst (ns.map V.int)))
theorem cr_sortS {X : Cx} (calm : X.calm = true) : CallR X (.builtin "sorted") (rSortS X.w) := by
  intro pins s σ H vs us Q I r h
  obtain ⟨a, S, n, rfl, ha, q⟩ := h
  have R := setO_get I ha
  have lim : n ≤ sizeLine := by
    obtain ⟨o, es, ep, t, ho, hex, hd, good, nd, mem, lim, fits, num, ris, led⟩ := R
    have : es.size < 4096 := lim
    rw [← num, sizeLine_eq]
    omega
  rw [Vals.ref1 r]
  refine sorted_setA R (I.ok.hd calm) fun s' p out c ns k g o hp hg hi hs hm hl => ?_
  have len : (ns.map V.int).length ≤ sizeLine := by rw [List.length_map, hl]; exact lim
  have hn : H p = none := I.hok.fresh hp
  have J : Inv X pins σ (upd H p (.lst (ns.map V.int))) { s with heap := s'.heap, gens := s'.gens, drawn := s'.drawn, toks := s'.toks } :=
    I.call (ch := []) (Un.laid k hp hn) (I.hok.laid k hp ⟨len, out, c, vals_of_ints hi, hg⟩) (by rw [g]; exact I.bare) (fun _ z => nomatch z)
  have e : s' = { s with heap := s'.heap, gens := s'.gens, drawn := s'.drawn, toks := s'.toks } := by
    cases s'
    cases s
    cases o
    rfl
  rw [e]
  exact ⟨.ref p, _, J, rfl, q ns p hs hm (by rw [hl]; exact lim) hn⟩
end BV
/-! list(..) of any walk; zip, strict or not, as a walk. -/
namespace BV
open PySem PySem.Spec PyProof.Rows L2
section
variable {prog : Program} {w : World} {A : Around} {I : Addr} {fp wr : List Addr} {G : Array GenState → Array GenState → Prop} {n : Nat} {P : Nat → Value → Prop} {St : Nat → Shared → Prop} {T : String}
/-- an iterator's type that knows no length -/
structure NoLen (T : String) : Prop where
  len : typeLookup (.type T) "__len__" = pure none
  hint : typeLookup (.type T) "__length_hint__" = pure none
  nl : (Value.type T == Value.type "list") = false
  nt : (Value.type T == Value.type "tuple") = false
theorem grow_walk {R : Result → Shared → Prop} {s : Shared} (no : NoLen T) (W : WalksS prog w A.in1 I fp wr G n P St) (ty : ∀ i s, St i s → s.TypeIs (.ref I) T) (L : Addr) (res : Value) (c : Nat) (st : St 0 s) (out : L ∉ fp) (mem : I ∈ fp)
    (hL : s.heap.get? L = some { cls := .type "list", data := .seq #[] c }) (fits : n ≤ sizeLine)
    (k : ∀ s' acc c', Moved (L :: wr) G s s' → s'.heap.get? L = some { cls := .type "list", dict := none, data := .seq acc c', slots := #[] } → ItemsOf P acc n → R (.ok (.ret res)) s') :
    wpAny (model prog w) A.in1 (Builtin.List.listExtendWith (.ref L) (.ref I) res)
      (fun fin s' => match fin with | .done f => R (.ok f) s' | .again c' => c'.quiet = true ∧ codeAny (model prog w) A c' R s') (fun e s' => R (.error e) s') s := by
  have ne : L ≠ I := fun e => out (by rw [e]; exact mem)
  unfold Builtin.List.listExtendWith
  refine wpAny_bind (wpAny_typeOf (ty 0 _ st) ?_)
  have h1 : Builtin.List.listSameRef (.ref L) (.ref I) = false := by simp [Builtin.List.listSameRef, ne]
  simp only [h1, no.nl, no.nt, Bool.or_false, Bool.false_eq_true, if_false]
  refine wpAny_bind (W.self 0 _ _ _ st (wpAny_bind (wpAny_holding ?_)))
  unfold Builtin.List.listLengthHint
  refine wpAny_bind (wpAny_specialOf (ty 0 _ st) no.len ?_)
  refine wpAny_bind (m := specialOf (Value.ref I) (Str.ofString "__length_hint__")) (wpAny_specialOf (ty 0 _ st) no.hint (wpAny_pure ?_))
  refine wpAny_bind (m := rule "list.extend.makes-room") (wpAny_rule (wpAny_bind (m := Builtin.List.listTouch (.ref L)) ?_))
  show wpAny _ A.in1 (updateSeq L (·.push .none) >>= fun _ => updateSeq L (·.pop)) _ _ _
  refine wpAny_bind (wpAny_updateSeq hL rfl ?_)
  have g1 := Heap.get?_update_self (Obj.mapSeq (·.push Value.none)) hL rfl
  refine wpAny_updateSeq (hz := by seq_fits) g1 rfl ?_
  have g2 := Heap.get?_update_self (Obj.mapSeq (·.pop)) g1 rfl
  have oth : ∀ b o, b ≠ L → s.heap.get? b = some o → ((s.heap.update L (Obj.mapSeq (·.push Value.none))).update L (Obj.mapSeq (·.pop))).get? b = some o := fun b o hb e => by
    rw [Heap.get?_update_other _ _ (Ne.symm hb), Heap.get?_update_other _ _ (Ne.symm hb)]
    exact e
  refine wpAny_pure ⟨plainId_quiet F.plain_extend_loop _, codeAny_extend_loopS W fits _ out _ n 0 _ _ _ rfl (Nat.zero_le _) (W.frame 0 s _ s.toks st (Nat.le_refl _) fun b hb o e => oth b o (fun z => out (by rw [← z]; exact hb)) e) g2 (ItemsOf.nil P) fun s' acc c' mv hL' hacc => ?_⟩
  exact k s' acc c' (Moved.trans W.gtrans ((Moved.refl W.grefl).then_heap (Nat.le_refl _) fun b o hb e => oth b o (fun z => hb (by rw [z]; exact List.mem_cons_self)) e) mv) hL' hacc
theorem list_walk {E : Value → Shared → Prop} {s : Shared} {Q : Value → Shared → Prop} (no : NoLen T) (W : WalksS prog w A.in1.in1 I fp wr G n P St) (ty : ∀ i s, St i s → s.TypeIs (.ref I) T) (st : St 0 s) (low : ∀ b ∈ fp, b < s.heap.objs.size) (mem : I ∈ fp) (fits : n ≤ sizeLine)
    (k : ∀ s' acc c', Moved (s.heap.objs.size :: wr) G { s with heap := s.heap.push { cls := .type "list", data := .seq #[] } } s' → s'.heap.get? s.heap.objs.size = some { cls := .type "list", dict := none, data := .seq acc c', slots := #[] } → ItemsOf P acc n → Q (.ref s.heap.objs.size) s') :
    wpAny (model prog w) A (call (.type "list") [.ref I]) Q E s := by
  have out : s.heap.objs.size ∉ fp := fun z => Nat.lt_irrefl _ (low _ z)
  refine callType_codes (Q₁ := fun obj s1 => obj = .ref s.heap.objs.size ∧ s1 = { s with heap := s.heap.push { cls := .type "list", data := .seq #[] } }) F.called_list (F.typeCall_list_1 _) F.entry_list_init (code_list_new _ ⟨rfl, rfl⟩) fun obj s1 h1 => ?_
  obtain ⟨rfl, rfl⟩ := h1
  have hL : (s.heap.push { cls := .type "list", data := .seq #[] }).get? s.heap.objs.size = some { cls := .type "list", data := .seq #[] } := Heap.get?_push_size _ rfl
  refine ⟨⟨_, hL, rfl⟩, F.args_list_init_2 _ _, ?_⟩
  have st1 : St 0 { s with heap := s.heap.push { cls := .type "list", data := .seq #[] } } := W.frame 0 s _ s.toks st (Nat.le_refl _) fun b _ o e => Heap.get?_push_of_some _ e
  generalize hs1 : ({ s with heap := s.heap.push { cls := .type "list", data := .seq #[] } } : Shared) = s1 at *
  have hL : s1.heap.get? s.heap.objs.size = some { cls := .type "list", data := .seq #[] } := by rw [← hs1]; exact hL
  show wpAny _ A.in1.in1 (do let old ← Builtin.List.listItems (.ref s.heap.objs.size); Builtin.List.listUpdate (.ref s.heap.objs.size) (fun _ => #[]); letGo old.toList.reverse; Builtin.List.listExtendWith (.ref s.heap.objs.size) (.ref I) .none) _ _ s1
  refine wpAny_bind ?_
  unfold Builtin.List.listItems
  refine wpAny_bind (wpAny_seqItems hL rfl (wpAny_pure (wpAny_bind (m := updateSeq s.heap.objs.size fun _ => #[]) (wpAny_updateSeq hL rfl (wpAny_bind (wpAny_letGo ?_))))))
  have g2 := Heap.get?_update_self (Obj.mapSeq (fun _ => (#[] : Array Value))) hL rfl
  have oth : ∀ b o, b ≠ s.heap.objs.size → s1.heap.get? b = some o → (s1.heap.update s.heap.objs.size (Obj.mapSeq (fun _ => (#[] : Array Value)))).get? b = some o := fun b o hb e => by
    rw [Heap.get?_update_other _ _ (Ne.symm hb)]
    exact e
  refine grow_walk no W ty s.heap.objs.size .none _ (W.frame 0 s1 _ s1.toks st1 (Nat.le_refl _) fun b hb o e => oth b o (fun z => out (by rw [← z]; exact hb)) e) out mem g2 fits fun s' acc c' mv hL' hacc => ?_
  exact ⟨rfl, k s' acc c' (Moved.trans W.gtrans ((Moved.refl W.grefl).then_heap (Nat.le_refl _) fun b o hb e => oth b o (fun z => hb (by rw [z]; exact List.mem_cons_self)) e) mv) hL' hacc⟩
end
theorem zip_nolen : NoLen "zip" := ⟨by rw [typeLookup_type, builtinLookup_eq_fast]; kernel_rfl, by rw [typeLookup_type, builtinLookup_eq_fast]; kernel_rfl, by decide, by decide⟩
/-! ### zip -/
abbrev ZipAt (h : Heap) (z TI TO : Addr) (b : Bool) (f0 f1 : Value) : Prop := h.get? z = some { cls := .type "zip", dict := none, data := .fields #[f0, f1, .bool b, .ref TI, .ref TO], slots := #[] }
section
variable {prog : Program} {w : World} {A : Around} {E : Value → Shared → Prop} {s : Shared} {z TI TO i1 i2 it : Addr} {fp fp1 fp2 : List Addr} {n i : Nat} {P P1 P2 : Nat → Value → Prop} {St St1 St2 : Nat → Heap → Prop} {a1 a2 : Value}
theorem noe_item {Q : Option Value → Shared → Prop} (D : Draws prog w A it fp n P St) (hi : i < n) (st : St i s.heap) (k : ∀ x h' tk, P i x → St (i + 1) h' → Heap.SameBut it s.heap h' → Q (some x) { s with heap := h', toks := tk }) :
    wpAny (model prog w) A (Builtin.SmallTypes.nextOrEnd (.ref it)) Q E s := by
  unfold Builtin.SmallTypes.nextOrEnd
  exact wpAny_bind (wpAny_attempt (D.item i s _ _ hi st fun x h' tk a b c => wpAny_pure (k x h' tk a b c)))
theorem noe_end {Q : Option Value → Shared → Prop} (D : Draws prog w A it fp n P St) (st : St n s.heap) (k : ∀ h', Heap.ExtBut it s.heap h' → Q none { s with heap := h' }) : wpAny (model prog w) A (Builtin.SmallTypes.nextOrEnd (.ref it)) Q E s := by
  unfold Builtin.SmallTypes.nextOrEnd
  refine wpAny_bind (wpAny_attempt (D.done s _ _ st fun h' e ext ⟨o, ho, hc⟩ => ?_))
  exact wpAny_bind (wpAny_isInstance (T := "StopIteration") (b := true) ⟨o, ho, hc⟩ isSubtype_stop (wpAny_pure (k h' ext)))
/-- one thing is drawn -/
def drw (b : Bool) (it : Value) : Sem (Option Value) := if b then Builtin.SmallTypes.nextOrEnd it else do return some (← Builtin.SmallTypes.nextOf it)
theorem drw_item {Q : Option Value → Shared → Prop} (b : Bool) (D : Draws prog w A it fp n P St) (hi : i < n) (st : St i s.heap) (k : ∀ x h' tk, P i x → St (i + 1) h' → Heap.SameBut it s.heap h' → Q (some x) { s with heap := h', toks := tk }) : wpAny (model prog w) A (drw b (.ref it)) Q E s := by
  cases b with
  | true => exact noe_item D hi st k
  | false => exact wpAny_bind (m := Builtin.SmallTypes.nextOf (.ref it)) (D.item i s _ _ hi st fun x h' tk a b c => wpAny_pure (k x h' tk a b c))
theorem alive_ok {M : Model} {a : Addr} {o : Obj} {Q : Option Obj → Shared → Prop} (ho : s.heap.get? a = some o) (h : Q (some o) s) : wpAny M A (loadIfAlive a) Q E s := fun Γ p _ => by
  show Sem.wp M Γ (.loadIfAlive a fun x => pure x) _ _ p s
  rw [Sem.wp_loadIfAlive, ho]
  exact (wpAny_pure (M := M) (A := A) (E := E) h) Γ p ‹_›
/-- the tuple that a zip keeps may be used again -/
def Loose (h : Heap) (f0 : Value) : Prop := f0 = .none ∨ ∃ T : Addr, f0 = rawInt T ∧ h.get? T = none
theorem dead_ok {M : Model} {a : Addr} {Q : Option Obj → Shared → Prop} (ho : s.heap.get? a = none) (h : Q none s) : wpAny M A (loadIfAlive a) Q E s := fun Γ p _ => by
  show Sem.wp M Γ (.loadIfAlive a fun x => pure x) _ _ p s
  rw [Sem.wp_loadIfAlive, ho]
  exact (wpAny_pure (M := M) (A := A) (E := E) h) Γ p ‹_›
theorem zip_loose {b : Bool} {f0 f1 : Value} {Q : Bool → Shared → Prop} (hz : ZipAt s.heap z TI TO b f0 f1) (hf : Loose s.heap f0) (k : Q true s) : wpAny (model prog w) A (Builtin.SmallTypes.ownedTupleIsFree (.ref z)) Q E s := by
  unfold Builtin.SmallTypes.ownedTupleIsFree
  rcases hf with rfl | ⟨T, rfl, hT⟩
  · exact wpAny_bind (wpAny_field hz rfl (x := .none) rfl (wpAny_pure k))
  · exact wpAny_bind (wpAny_field hz rfl (x := rawInt T) rfl (wpAny_bind (m := loadIfAlive T) (dead_ok hT (wpAny_pure k))))
/-- a turn where the tuple is free -/
theorem zip_again {b : Bool} {f0 f1 : Value} {Q : Value → Shared → Prop} (S : ZipSep2 z TI TO i1 i2 fp1 fp2) (D1 : Draws prog w A i1 fp1 n P1 St1) (D2 : Draws prog w A i2 fp2 n P2 St2)
    (hz : ZipAt s.heap z TI TO b f0 f1) (hf : Loose s.heap f0) (hTI : IsTupOf2 s.heap TI (.ref i1) (.ref i2)) (hTO : IsTupOf2 s.heap TO a1 a2) (st1 : St1 i s.heap) (st2 : St2 i s.heap) (lt : i < n)
    (k : ∀ x1 x2 h' tk, P1 i x1 → P2 i x2 → ZipAt h' z TI TO b (rawInt s.heap.objs.size) (.bool false) → IsTupOf2 h' TO x1 x2 → St1 (i + 1) h' → St2 (i + 1) h' → IsTupOf2 h' s.heap.objs.size x1 x2 →
      (∀ c o, c ≠ z → c ≠ TO → c ≠ i1 → c ≠ i2 → s.heap.get? c = some o → h'.get? c = some o) → Q (.ref s.heap.objs.size) { s with heap := h', toks := tk }) :
    wpAny (model prog w) A (Builtin.«zip.__next__» ⟨[.ref z], []⟩) (fun fin s' => ∃ v, fin = .done (.ret v) ∧ Q v s') E s := by
  obtain ⟨hp, g, d, t0, os⟩ := s
  refine wpAny_bind (m := field (.ref z) 2) (wpAny_field hz rfl (x := .bool b) rfl (wpAny_bind (m := field (.ref z) 3) (wpAny_field hz rfl (x := .ref TI) rfl (wpAny_bind (wpAny_seqItems hTI rfl (wpAny_bind (m := Builtin.SmallTypes.ownedTupleIsFree (.ref z)) (zip_loose hz hf ?_)))))))
  have hb : (Value.bool b == Value.bool true) = b := by cases b <;> rfl
  rw [hb]
  simp only [if_true]
  refine wpAny_bind (wpAny_rule (wpAny_bind (wpAny_field hz rfl (x := .ref TO) rfl (wpAny_bind (wpAny_setField_rec hz (by simp) fun q0 z0 e0 => ?_)))))
  have z0 : ZipAt q0 z TI TO b .ellipsis f1 := z0
  have e0 : Heap.SameBut z hp q0 := e0
  refine wpAny_bind ?_
  simp only [List.zipIdx_cons, List.zipIdx_nil, List.forIn_cons, List.forIn_nil]
  refine wpAny_bind (wpAny_bind (wpAny_onRaise (show wpAny _ _ (drw b (.ref i1)) _ _ ⟨q0, g, d, t0, os⟩ from drw_item b D1 lt (D1.over st1 e0 S.zf1) fun x1 q1 t1 p1 s1 e1 => ?_)))
  have e1 : Heap.SameBut i1 q0 q1 := e1
  have u1 : IsTupOf2 q1 TO a1 a2 := e1.extBut _ _ S.Ti1 (e0.extBut _ _ S.TOz hTO)
  refine wpAny_bind (wpAny_seqItems (s := ⟨q1, g, d, t1, os⟩) u1 rfl (wpAny_bind (updateSeq_IsTupOf2 (s := ⟨q1, g, d, t1, os⟩) u1 fun q2 u2 e2 => wpAny_bind (wpAny_letGo (wpAny_pure ?_)))))
  have u2 : IsTupOf2 q2 TO x1 a2 := u2
  have e2 : Heap.SameBut TO q1 q2 := e2
  refine wpAny_bind (wpAny_bind (wpAny_onRaise (show wpAny _ _ (drw b (.ref i2)) _ _ ⟨q2, g, d, t1, os⟩ from drw_item b D2 lt (D2.over (D2.over (D2.over st2 e0 S.zf2) e1 S.sep1_2) e2 S.Tf2) fun x2 q3 t3 p2 s2 e3 => ?_)))
  have e3 : Heap.SameBut i2 q2 q3 := e3
  have u3 : IsTupOf2 q3 TO x1 a2 := e3.extBut _ _ S.Ti2 u2
  refine wpAny_bind (wpAny_seqItems (s := ⟨q3, g, d, t3, os⟩) u3 rfl (wpAny_bind (updateSeq_IsTupOf2 (s := ⟨q3, g, d, t3, os⟩) u3 fun q4 u4 e4 => wpAny_bind (wpAny_letGo (wpAny_pure (wpAny_pure ?_))))))
  have u4 : IsTupOf2 q4 TO x1 x2 := u4
  have e4 : Heap.SameBut TO q3 q4 := e4
  refine wpAny_bind (wpAny_seqItems (s := ⟨q4, g, d, t3, os⟩) u4 rfl (wpAny_bind (wpAny_newTuple ?_)))
  have size : q4.objs.size = hp.objs.size := by rw [e4.1, e3.1, e2.1, e1.1, e0.1]
  have z4 : ZipAt q4 z TI TO b .ellipsis f1 := e4.extBut _ _ S.TOz.symm (e3.extBut _ _ S.zi2 (e2.extBut _ _ S.TOz.symm (e1.extBut _ _ S.zi1 z0)))
  have old : ∀ c o, c ≠ z → c ≠ TO → c ≠ i1 → c ≠ i2 → hp.get? c = some o → q4.get? c = some o := fun c o cz cT c1 c2 e => e4.extBut _ _ cT (e3.extBut _ _ c2 (e2.extBut _ _ cT (e1.extBut _ _ c1 (e0.extBut _ _ cz e))))
  have j1 : St1 (i + 1) q4 := D1.over (D1.over (D1.over s1 e2 S.Tf1) e3 S.sep2_1) e4 S.Tf1
  have j2 : St2 (i + 1) q4 := D2.over s2 e4 S.Tf2
  have zlt : z < q4.objs.size := Heap.lt_size z4
  refine wpAny_bind (m := Builtin.SmallTypes.ownedTupleHandOut (.ref z) (.ref q4.objs.size)) ?_
  unfold Builtin.SmallTypes.ownedTupleHandOut
  have z5 : ZipAt (q4.push { cls := .type "tuple", data := .seq #[x1, x2] }) z TI TO b .ellipsis f1 := Heap.get?_push_of_some _ z4
  refine wpAny_bind (wpAny_setField_rec z5 (by simp) fun q6 z6 e6 => ?_)
  have z6 : ZipAt q6 z TI TO b (rawInt q4.objs.size) f1 := z6
  refine wpAny_setField_rec z6 (by simp) fun q7 z7 e7 => ?_
  have z7 : ZipAt q7 z TI TO b (rawInt q4.objs.size) (.bool false) := z7
  have e6 : Heap.SameBut z (q4.push { cls := .type "tuple", data := .seq #[x1, x2] }) q6 := e6
  have e7 : Heap.SameBut z q6 q7 := e7
  have up : ∀ c o, c ≠ z → q4.get? c = some o → q7.get? c = some o := fun c o hc e => e7.extBut _ _ hc (e6.extBut _ _ hc (Heap.get?_push_of_some _ e))
  have new : IsTupOf2 q7 q4.objs.size x1 x2 := e7.extBut _ _ (Nat.ne_of_gt zlt) (e6.extBut _ _ (Nat.ne_of_gt zlt) (Heap.get?_push_size _ rfl))
  refine wpAny_pure ⟨_, rfl, ?_⟩
  show Q (.ref q4.objs.size) ⟨q7, g, d, t3, os⟩
  rw [size] at z7 new ⊢
  exact k x1 x2 q7 t3 p1 p2 z7 (up _ _ S.TOz u4) (D1.frame _ _ _ j1 fun c hc o e => up c o (fun q => S.zf1 (q ▸ hc)) e) (D2.frame _ _ _ j2 fun c hc o e => up c o (fun q => S.zf2 (q ▸ hc)) e) new fun c o cz cT c1 c2 e => up c o cz (old c o cz cT c1 c2 e)
theorem stop_now {α : Type} {Q : α → Shared → Prop} (calm : A.handled = none) (k : ∀ h' e, (∀ c o, s.heap.get? c = some o → h'.get? c = some o) → (∃ o, h'.get? e = some o ∧ o.cls = .type "StopIteration") → E (.ref e) { s with heap := h' }) :
    wpAny (model prog w) A (Builtin.SmallTypes.stopIteration : Sem α) Q E s := by
  unfold Builtin.SmallTypes.stopIteration
  refine wpAny_bind ?_
  simp only [newExc, newTuple]
  refine wpAny_bind (wpAny_newObj_type ?_ (by size_fits))
  refine wpAny_bind (m := firstArgMember _ _) (wpAny_of_eq (a := Value.none) (by first | rfl | (simp only [firstArgMember]; rfl)) ?_)
  refine wpAny_newObj_type ?_ (by size_fits)
  simp only [raiseNew]
  refine wpAny_bind (wpAny_handled ?_)
  rw [calm]
  refine wpAny_bind (wpAny_pure (wpAny_throw ?_))
  exact k _ _ (fun c o e => Heap.get?_push_of_some _ (Heap.get?_push_of_some _ e)) ⟨_, Heap.get?_push_size _ rfl, rfl⟩
/-- a zip whose tuple is out does not take it again -/
theorem zip_held {T : Addr} {oT : Obj} {b : Bool} {f1 : Value} {Q : Bool → Shared → Prop} (hz : ZipAt s.heap z TI TO b (rawInt T) f1) (hT : s.heap.get? T = some oT) (hf : f1 = .bool false ∨ f1 = .bool true)
    (k : ∀ h', ZipAt h' z TI TO b (rawInt T) (.bool true) → Heap.SameBut z s.heap h' → Q false { s with heap := h' }) : wpAny (model prog w) A (Builtin.SmallTypes.ownedTupleIsFree (.ref z)) Q E s := by
  unfold Builtin.SmallTypes.ownedTupleIsFree
  refine wpAny_bind (wpAny_field hz rfl (x := rawInt T) rfl ?_)
  refine wpAny_bind (m := loadIfAlive T) (alive_ok hT ?_)
  rcases hf with rfl | rfl
  · refine wpAny_bind (m := field (.ref z) 1) (wpAny_field hz rfl (x := .bool false) rfl (wpAny_bind (m := setField (.ref z) 1 (.bool true)) (wpAny_setField_rec hz (by simp) fun h' z' e' => wpAny_pure (k h' z' e'))))
  · exact wpAny_bind (m := field (.ref z) 1) (wpAny_field hz rfl (x := .bool true) rfl (wpAny_pure (k s.heap hz ⟨rfl, fun _ _ => rfl⟩)))
/-- a later turn -/
theorem zip_later {T : Addr} {oT : Obj} {b : Bool} {f1 : Value} {Q : Value → Shared → Prop} (S : ZipSep2 z TI TO i1 i2 fp1 fp2) (D1 : Draws prog w A i1 fp1 n P1 St1) (D2 : Draws prog w A i2 fp2 n P2 St2)
    (hz : ZipAt s.heap z TI TO b (rawInt T) f1) (hT : s.heap.get? T = some oT) (hf : f1 = .bool false ∨ f1 = .bool true) (hTI : IsTupOf2 s.heap TI (.ref i1) (.ref i2)) (st1 : St1 i s.heap) (st2 : St2 i s.heap) (lt : i < n)
    (k : ∀ x1 x2 h' tk, P1 i x1 → P2 i x2 → ZipAt h' z TI TO b (rawInt T) (.bool true) → St1 (i + 1) h' → St2 (i + 1) h' → IsTupOf2 h' s.heap.objs.size x1 x2 →
      (∀ c o, c ≠ z → c ≠ i1 → c ≠ i2 → s.heap.get? c = some o → h'.get? c = some o) → Q (.ref s.heap.objs.size) { s with heap := h', toks := tk }) :
    wpAny (model prog w) A (Builtin.«zip.__next__» ⟨[.ref z], []⟩) (fun fin s' => ∃ v, fin = .done (.ret v) ∧ Q v s') E s := by
  obtain ⟨hp, g, d, t0, os⟩ := s
  refine wpAny_bind (m := field (.ref z) 2) (wpAny_field hz rfl (x := .bool b) rfl (wpAny_bind (m := field (.ref z) 3) (wpAny_field hz rfl (x := .ref TI) rfl (wpAny_bind (wpAny_seqItems hTI rfl (wpAny_bind (m := Builtin.SmallTypes.ownedTupleIsFree (.ref z)) (zip_held hz hT hf fun q0 z0 e0 => ?_)))))))
  have e0 : Heap.SameBut z hp q0 := e0
  simp only [Bool.false_eq_true, if_false]
  refine wpAny_bind ?_
  rw [← Array.forIn_toList]
  simp only [List.forIn_cons, List.forIn_nil]
  have hb : (Value.bool b == Value.bool true) = b := by cases b <;> rfl
  rw [hb]
  refine wpAny_bind (wpAny_bind (wpAny_holding (show wpAny _ _ (drw b (.ref i1)) _ _ ⟨q0, g, d, t0, os⟩ from drw_item b D1 lt (D1.over st1 e0 S.zf1) fun x1 q1 t1 p1 s1 e1 => wpAny_pure ?_)))
  have e1 : Heap.SameBut i1 q0 q1 := e1
  refine wpAny_bind (wpAny_bind (wpAny_holding (show wpAny _ _ (drw b (.ref i2)) _ _ ⟨q1, g, d, t1, os⟩ from drw_item b D2 lt (D2.over (D2.over st2 e0 S.zf2) e1 S.sep1_2) fun x2 q2 t2 p2 s2 e2 => wpAny_pure (wpAny_pure ?_))))
  have e2 : Heap.SameBut i2 q1 q2 := e2
  refine wpAny_bind (wpAny_newTuple (wpAny_pure ⟨_, rfl, ?_⟩) (by show 2 ≤ sizeLine; decide))
  have size : q2.objs.size = hp.objs.size := by rw [e2.1, e1.1, e0.1]
  have z2 : ZipAt q2 z TI TO b (rawInt T) (.bool true) := e2.extBut _ _ S.zi2 (e1.extBut _ _ S.zi1 z0)
  have up : ∀ c o, q2.get? c = some o → (q2.push { cls := .type "tuple", data := .seq #[x1, x2] }).get? c = some o := fun c o e => Heap.get?_push_of_some _ e
  show Q (.ref q2.objs.size) ⟨q2.push { cls := .type "tuple", data := .seq #[x1, x2] }, g, d, t2, os⟩
  have new : IsTupOf2 (q2.push { cls := .type "tuple", data := .seq #[x1, x2] }) q2.objs.size x1 x2 := Heap.get?_push_size _ rfl
  generalize q2.push { cls := .type "tuple", data := .seq #[x1, x2] } = q3 at up new ⊢
  rw [size] at new ⊢
  exact k x1 x2 q3 t2 p1 p2 (up _ _ z2) (D1.frame _ _ _ (D1.over s1 e2 S.sep2_1) fun c _ o e => up c o e) (D2.frame _ _ _ s2 fun c _ o e => up c o e) new fun c o cz c1 c2 e => up c o (e2.extBut _ _ c2 (e1.extBut _ _ c1 (e0.extBut _ _ cz e)))
/-- both are at their ends: a strict zip looks at the second one too -/
theorem strict_end {α : Type} {Q : Fin → Shared → Prop} (calm : A.handled = none) (D2 : Draws prog w A i2 fp2 n P2 St2) (st2 : St2 n s.heap)
    (k : ∀ h' e, (∀ c o, c ≠ i2 → s.heap.get? c = some o → h'.get? c = some o) → (∃ o, h'.get? e = some o ∧ o.cls = .type "StopIteration") → E (.ref e) { s with heap := h' }) :
    wpAny (model prog w) A (do
      for (it, j) in [((.ref i2 : Value), 1)] do
        if (← Builtin.SmallTypes.nextOrEnd it).isSome then
          rule "zip.__next__.longer"; raiseError "ValueError" s!"zip() argument {j + 1} is longer than {if j == 1 then "argument 1" else s!"arguments 1-{j}"}"
      rule "zip.__next__.all-ended"; Builtin.SmallTypes.stopIteration : Sem Fin) Q E s := by
  simp only [List.forIn_cons, List.forIn_nil]
  refine wpAny_bind (wpAny_bind (wpAny_bind (noe_end D2 st2 fun h' ext => ?_)))
  refine wpAny_pure (wpAny_pure (wpAny_bind (wpAny_rule (stop_now (s := { s with heap := h' }) calm fun h2 e kp he => ?_))))
  exact k h2 e (fun c o hc q => kp c o (ext c o hc q)) he
theorem zip_stop {b : Bool} {f0 f1 : Value} {Q : Fin → Shared → Prop} (calm : A.handled = none) (S : ZipSep2 z TI TO i1 i2 fp1 fp2) (D1 : Draws prog w A i1 fp1 n P1 St1) (D2 : Draws prog w A i2 fp2 n P2 St2) (hz : ZipAt s.heap z TI TO b f0 f1)
    (hf : Loose s.heap f0 ∨ ∃ (T : Addr) (oT : Obj), f0 = rawInt T ∧ s.heap.get? T = some oT ∧ (f1 = .bool false ∨ f1 = .bool true)) (hTI : IsTupOf2 s.heap TI (.ref i1) (.ref i2)) (st1 : St1 n s.heap) (st2 : St2 n s.heap)
    (k : ∀ h' e, (∀ c o, c ≠ z → c ≠ i1 → c ≠ i2 → s.heap.get? c = some o → h'.get? c = some o) → (∃ o, h'.get? e = some o ∧ o.cls = .type "StopIteration") → E (.ref e) { s with heap := h' }) :
    wpAny (model prog w) A (Builtin.«zip.__next__» ⟨[.ref z], []⟩) Q E s := by
  obtain ⟨hp, g, d, t0, os⟩ := s
  have hb : (Value.bool b == Value.bool true) = b := by cases b <;> rfl
  refine wpAny_bind (m := field (.ref z) 2) (wpAny_field hz rfl (x := .bool b) rfl (wpAny_bind (m := field (.ref z) 3) (wpAny_field hz rfl (x := .ref TI) rfl (wpAny_bind (wpAny_seqItems hTI rfl (wpAny_bind (m := Builtin.SmallTypes.ownedTupleIsFree (.ref z)) ?_))))))
  rw [hb]
  rcases hf with hf | ⟨T, oT, rfl, hT, hf⟩
  · refine zip_loose hz hf ?_
    simp only [if_true]
    refine wpAny_bind (wpAny_rule (wpAny_bind (wpAny_field hz rfl (x := .ref TO) rfl (wpAny_bind (wpAny_setField_rec hz (by simp) fun q0 z0 e0 => ?_)))))
    have z0 : ZipAt q0 z TI TO b .ellipsis f1 := z0
    have e0 : Heap.SameBut z hp q0 := e0
    refine wpAny_bind ?_
    simp only [List.zipIdx_cons, List.zipIdx_nil, List.forIn_cons, List.forIn_nil]
    cases b with
    | false =>
      refine wpAny_bind (wpAny_bind (wpAny_onRaise (show wpAny _ _ (Builtin.SmallTypes.nextOf (.ref i1) >>= _) _ _ ⟨q0, g, d, t0, os⟩ from wpAny_bind (D1.done ⟨q0, g, d, t0, os⟩ _ _ (D1.over st1 e0 S.zf1) fun q1 e x1 ⟨oe, ho, hc⟩ => ?_))))
      have x1 : Heap.ExtBut i1 q0 q1 := x1
      have ho : q1.get? e = some oe := ho
      have z1 : ZipAt q1 z TI TO false .ellipsis f1 := x1 _ _ S.zi1 z0
      have ez : e ≠ z := fun q => by
        subst q
        rw [z1] at ho
        cases ho
        simp at hc
      refine wpAny_setField_rec (s := ⟨q1, g, d, t0, os⟩) z1 (by simp) fun q2 _ e2 => ?_
      have e2 : Heap.SameBut z q1 q2 := e2
      exact k q2 e (fun c o cz c1 c2 x => e2.extBut _ _ cz (x1 _ _ c1 (e0.extBut _ _ cz x))) ⟨oe, e2.extBut _ _ ez ho, hc⟩
    | true =>
      refine wpAny_bind (wpAny_bind (wpAny_onRaise (show wpAny _ _ (Builtin.SmallTypes.nextOrEnd (.ref i1)) _ _ ⟨q0, g, d, t0, os⟩ from noe_end D1 (D1.over st1 e0 S.zf1) fun q1 x1 => ?_)))
      have x1 : Heap.ExtBut i1 q0 q1 := x1
      have z1 : ZipAt q1 z TI TO true .ellipsis f1 := x1 _ _ S.zi1 z0
      refine wpAny_bind (m := setField (.ref z) 0 .none) (wpAny_setField_rec (s := ⟨q1, g, d, t0, os⟩) z1 (by simp) fun q2 _ e2 => wpAny_bind ?_)
      have e2 : Heap.SameBut z q1 q2 := e2
      refine strict_end (α := Unit) (s := ⟨q2, g, d, t0, os⟩) calm D2 (D2.frame _ _ _ st2 fun c hc o e => e2.extBut _ _ (fun q => S.zf2 (q ▸ hc)) (x1 _ _ (fun q => S.sep1_2 (q ▸ hc)) (e0.extBut _ _ (fun q => S.zf2 (q ▸ hc)) e))) fun q3 e kp he => ?_
      exact k q3 e (fun c o cz c1 c2 x => kp c o c2 (e2.extBut _ _ cz (x1 _ _ c1 (e0.extBut _ _ cz x)))) he
  · refine zip_held hz hT hf fun q0 z0 e0 => ?_
    have e0 : Heap.SameBut z hp q0 := e0
    simp only [Bool.false_eq_true, if_false]
    refine wpAny_bind ?_
    rw [← Array.forIn_toList]
    simp only [List.forIn_cons, List.forIn_nil]
    cases b with
    | false =>
      refine wpAny_bind (wpAny_bind (wpAny_holding (show wpAny _ _ (Builtin.SmallTypes.nextOf (.ref i1) >>= _) _ _ ⟨q0, g, d, t0, os⟩ from wpAny_bind (D1.done ⟨q0, g, d, t0, os⟩ _ _ (D1.over st1 e0 S.zf1) fun q1 e x1 he => ?_))))
      have x1 : Heap.ExtBut i1 q0 q1 := x1
      exact k q1 e (fun c o cz c1 c2 x => x1 _ _ c1 (e0.extBut _ _ cz x)) he
    | true =>
      refine wpAny_bind (wpAny_bind (wpAny_holding (show wpAny _ _ (Builtin.SmallTypes.nextOrEnd (.ref i1)) _ _ ⟨q0, g, d, t0, os⟩ from noe_end D1 (D1.over st1 e0 S.zf1) fun q1 x1 => wpAny_bind ?_)))
      have x1 : Heap.ExtBut i1 q0 q1 := x1
      refine strict_end (α := Unit) (s := ⟨q1, g, d, t0, os⟩) calm D2 (D2.frame _ _ _ st2 fun c hc o e => x1 _ _ (fun q => S.sep1_2 (q ▸ hc)) (e0.extBut _ _ (fun q => S.zf2 (q ▸ hc)) e)) fun q3 e kp he => ?_
      exact k q3 e (fun c o cz c1 c2 x => kp c o c2 (x1 _ _ c1 (e0.extBut _ _ cz x))) he
end
end BV
/-! list(zip(a, b)), strict or not. -/
namespace BV
open PySem PySem.Spec PyProof.Rows L2
section
variable {prog : Program} {w : World} {A : Around} {E : Value → Shared → Prop} {s : Shared} {z TI TO i1 i2 : Addr} {fp1 fp2 : List Addr} {n i : Nat} {P1 P2 : Nat → Value → Prop} {St1 St2 : Nat → Heap → Prop}
/-- a zip amid its walk -/
def ZSt (z TI TO i1 i2 : Addr) (b : Bool) (St1 St2 : Nat → Heap → Prop) (i : Nat) (h : Heap) : Prop := ∃ f0 f1 a1 a2, ZipAt h z TI TO b f0 f1 ∧ (f0 = .none ∨ ∃ T : Addr, f0 = rawInt T) ∧ (f1 = .bool false ∨ f1 = .bool true) ∧ IsTupOf2 h TI (.ref i1) (.ref i2) ∧ IsTupOf2 h TO a1 a2 ∧ St1 i h ∧ St2 i h
theorem ZSt.frame {b : Bool} {h h' : Heap} (D1 : Draws prog w A i1 fp1 n P1 St1) (D2 : Draws prog w A i2 fp2 n P2 St2) (q : ZSt z TI TO i1 i2 b St1 St2 i h) (k : ∀ c ∈ z :: TI :: TO :: (fp1 ++ fp2), ∀ o, h.get? c = some o → h'.get? c = some o) : ZSt z TI TO i1 i2 b St1 St2 i h' := by
  obtain ⟨f0, f1, a1, a2, e1, e2, e3, e4, e5, e6, e7⟩ := q
  exact ⟨f0, f1, a1, a2, k _ (by simp) _ e1, e2, e3, k _ (by simp) _ e4, k _ (by simp) _ e5, D1.frame _ _ _ e6 fun c hc o e => k c (by simp [hc]) o e, D2.frame _ _ _ e7 fun c hc o e => k c (by simp [hc]) o e⟩
theorem split_f0 {h : Heap} {f0 : Value} (h0 : f0 = .none ∨ ∃ T : Addr, f0 = rawInt T) : Loose h f0 ∨ ∃ (T : Addr) (oT : Obj), f0 = rawInt T ∧ h.get? T = some oT := by
  rcases h0 with e | ⟨T, e⟩
  · exact .inl (.inl e)
  · cases q : h.get? T with
    | none => exact .inl (.inr ⟨T, e, q⟩)
    | some o => exact .inr ⟨T, o, e, q⟩
theorem zip_next {b : Bool} {Q : Option Value → Shared → Prop} (S : ZipSep2 z TI TO i1 i2 fp1 fp2) (D1 : Draws prog w A.in1 i1 fp1 n P1 St1) (D2 : Draws prog w A.in1 i2 fp2 n P2 St2) (q : ZSt z TI TO i1 i2 b St1 St2 i s.heap) (lt : i < n)
    (k : ∀ x1 x2 h' tk, P1 i x1 → P2 i x2 → ZSt z TI TO i1 i2 b St1 St2 (i + 1) h' → IsTupOf2 h' s.heap.objs.size x1 x2 → (∀ c o, c ∉ [z, TO, i1, i2] → s.heap.get? c = some o → h'.get? c = some o) → Q (some (.ref s.heap.objs.size)) { s with heap := h', toks := tk }) :
    wpAny (model prog w) A (pyNext (.ref z)) Q E s := by
  obtain ⟨f0, f1, a1, a2, e1, e2, e3, e4, e5, e6, e7⟩ := q
  have hT : s.TypeIs (.ref z) "zip" := ⟨_, e1, rfl⟩
  unfold pyNext
  refine wpAny_bind (wpAny_attempt (wpAny_callSpecial?_slot (name := Str.ofString "__next__") hT F.slot_zip_next (wpAny_call_entry F.slot_zip_next hT F.entry_zip_next ?_ (F.args_zip_next_1 _))))
  rcases split_f0 (h := s.heap) e2 with lo | ⟨T, oT, rfl, ho⟩
  · refine zip_again S D1 D2 e1 lo e4 e5 e6 e7 lt fun x1 x2 h' tk p1 p2 z' t' s1 s2 n' kp => wpAny_pure (k x1 x2 h' tk p1 p2 ⟨_, _, _, _, z', .inr ⟨_, rfl⟩, .inl rfl, ?_, t', s1, s2⟩ n' fun c o hc e => ?_)
    · exact kp _ _ S.TIz S.TITO S.TIi1 S.TIi2 e4
    · simp only [List.mem_cons, List.not_mem_nil, or_false, not_or] at hc
      exact kp c o hc.1 hc.2.1 hc.2.2.1 hc.2.2.2 e
  · refine zip_later S D1 D2 e1 ho e3 e4 e6 e7 lt fun x1 x2 h' tk p1 p2 z' s1 s2 n' kp => wpAny_pure (k x1 x2 h' tk p1 p2 ⟨_, _, a1, a2, z', .inr ⟨_, rfl⟩, .inr rfl, ?_, ?_, s1, s2⟩ n' fun c o hc e => ?_)
    · exact kp _ _ S.TIz S.TIi1 S.TIi2 e4
    · exact kp _ _ S.TOz S.Ti1 S.Ti2 e5
    · simp only [List.mem_cons, List.not_mem_nil, or_false, not_or] at hc
      exact kp c o hc.1 hc.2.2.1 hc.2.2.2 e
theorem zip_over {b : Bool} {Q : Option Value → Shared → Prop} (calm : A.handled = none) (S : ZipSep2 z TI TO i1 i2 fp1 fp2) (D1 : Draws prog w A.in1 i1 fp1 n P1 St1) (D2 : Draws prog w A.in1 i2 fp2 n P2 St2) (q : ZSt z TI TO i1 i2 b St1 St2 n s.heap)
    (k : ∀ h', (∀ c o, c ∉ [z, TO, i1, i2] → s.heap.get? c = some o → h'.get? c = some o) → Q none { s with heap := h' }) : wpAny (model prog w) A (pyNext (.ref z)) Q E s := by
  obtain ⟨f0, f1, a1, a2, e1, e2, e3, e4, e5, e6, e7⟩ := q
  have hT : s.TypeIs (.ref z) "zip" := ⟨_, e1, rfl⟩
  unfold pyNext
  refine wpAny_bind (wpAny_attempt (wpAny_callSpecial?_slot (name := Str.ofString "__next__") hT F.slot_zip_next (wpAny_call_entry F.slot_zip_next hT F.entry_zip_next (zip_stop (A := A.in1) calm S D1 D2 e1 ?_ e4 e6 e7 fun h' e kp ⟨o, ho, hc⟩ => ?_) (F.args_zip_next_1 _))))
  · rcases split_f0 (h := s.heap) e2 with lo | ⟨T, oT, rfl, ho⟩
    · exact .inl lo
    · exact .inr ⟨T, oT, rfl, ho, e3⟩
  · refine wpAny_bind (wpAny_isInstance (T := "StopIteration") (b := true) ⟨o, ho, hc⟩ isSubtype_stop (wpAny_pure (k h' fun c o hc e => ?_)))
    simp only [List.mem_cons, List.not_mem_nil, or_false, not_or] at hc
    exact kp c o hc.1 hc.2.2.1 hc.2.2.2 e
end
/-- new pairs, one after another -/
def pourS (Q : List V → Hp → Prop) : Hp → List V → List V → List V → Prop
  | H, [], [], done => Q done H
  | H, x :: xs, y :: ys, done => ∀ T, H T = none → pourS Q (upd H T (.tup [x, y])) xs ys (done ++ [.ref T])
  | _, _, _, _ => False
section
variable {X : Cx} {pins : List (Addr × Obj)} {σ : L2.St} {A : Around} {z TI TO i1 i2 L : Addr} {fp1 fp2 : List Addr} {n : Nat} {St1 St2 : Nat → Heap → Prop} {us vs : List Value} {b : Bool} {R : Result → Shared → Prop} {res : Value}
theorem vals_snoc {xs : List V} {us : List Value} {x : V} {u : Value} (h : Vals xs us) (r : RelV x u) : Vals (xs ++ [x]) (us ++ [u]) := h.append (.cons r .nil)
theorem upd_over {H : Hp} {a : Addr} {x y : HO} : upd (upd H a x) a y = upd H a y := by
  funext c
  by_cases e : c = a
  · subst e; rw [upd_same, upd_same]
  · rw [upd_ne e, upd_ne e, upd_ne e]
theorem upd_swap {H : Hp} {a b : Addr} {x y : HO} (h : a ≠ b) : upd (upd H a x) b y = upd (upd H b y) a x := by
  funext c
  by_cases e : c = a
  · subst e; rw [upd_ne h, upd_same, upd_same]
  · by_cases f : c = b
    · subst f; rw [upd_same, upd_ne e, upd_same]
    · rw [upd_ne f, upd_ne e, upd_ne e, upd_ne f]
theorem four {z TO i1 i2 TI L : Addr} {fp1 fp2 : List Addr} (S : ZipSep2 z TI TO i1 i2 fp1 fp2) (out : L ∉ z :: TI :: TO :: (fp1 ++ fp2)) : L ∉ [z, TO, i1, i2] := fun m => out (by
  simp only [List.mem_cons, List.not_mem_nil, or_false] at m
  simp only [List.mem_cons, List.mem_append]
  rcases m with e | e | e | e
  · exact .inl e
  · exact .inr (.inr (.inl e))
  · exact .inr (.inr (.inr (.inl (by rw [e]; exact S.mem1))))
  · exact .inr (.inr (.inr (.inr (by rw [e]; exact S.mem2)))))
theorem pour_loop (calm : A.handled = none) (S : ZipSep2 z TI TO i1 i2 fp1 fp2) (D1 : Draws X.prog X.w A.in1.in1 i1 fp1 n (fun i v => us[i]? = some v) St1) (D2 : Draws X.prog X.w A.in1.in1 i2 fp2 n (fun i v => vs[i]? = some v) St2)
    (out : L ∉ z :: TI :: TO :: (fp1 ++ fp2)) (small : n ≤ sizeLine) {Q : List V → Hp → Prop}
    (fin : ∀ s' H' done, Inv X pins σ (upd H' L (.lst done)) s' → H' L = none → Q done H' → R (.ok (.ret res)) s') :
    ∀ (xs ys : List V) (i : Nat) (s : Shared) (H : Hp) (acc : List Value) (c : Nat) (done : List V), i + xs.length = n → Inv X pins σ (upd H L (.lst done)) s → H L = none → (∀ q ∈ [z, TO, i1, i2], FpOk X pins (upd H L (.lst done)) q) → ZSt z TI TO i1 i2 b St1 St2 i s.heap →
      s.heap.get? L = some { cls := .type "list", dict := none, data := .seq acc.toArray c, slots := #[] } → Vals done acc → done.length = i → Vals xs (us.drop i) → Vals ys (vs.drop i) → pourS Q H xs ys done →
      codeAny (model X.prog X.w) A (.builtin "list.extend.loop" ⟨[.ref L, .ref z, res], []⟩) R s
  | [], [], i, s, H, acc, c, done, hi, I, hn, hf, q, hL, hv, hl, _, _, hq => by
    have hi : i = n := by simpa using hi
    subst hi
    refine codeAny_builtin F.entry_extend_loop ?_
    rw [Around.under_plainId F.plain_extend_loop _]
    exact wpAny_bind (m := pyNext (.ref z)) (zip_over (A := A.in1) calm S D1 D2 q fun h' kp => wpAny_pure (fin _ H done (I.turnedL (t' := s.toks) (ch := [z, TO, i1, i2]) kp hf) hn hq))
  | [], _ :: _, _, _, _, _, _, _, _, _, _, _, _, _, _, _, _, _, hq => hq.elim
  | _ :: _, [], _, _, _, _, _, _, _, _, _, _, _, _, _, _, _, _, hq => hq.elim
  | x :: xs, y :: ys, i, s, H, acc, c, done, hi, I, hn, hf, q, hL, hv, hl, hx, hy, hq => by
    have lt : i < n := by rw [← hi, List.length_cons]; omega
    have ne := four S out
    refine codeAny_builtin F.entry_extend_loop ?_
    rw [Around.under_plainId F.plain_extend_loop _]
    refine wpAny_bind (m := pyNext (.ref z)) (zip_next (A := A.in1) S D1 D2 q lt fun u1 u2 h' tk p1 p2 q' new kp => ?_)
    have d1 : us.drop i = u1 :: us.drop (i + 1) := by
      obtain ⟨h1, h2⟩ := List.getElem?_eq_some_iff.mp p1
      rw [List.drop_eq_getElem_cons h1, h2]
    have d2 : vs.drop i = u2 :: vs.drop (i + 1) := by
      obtain ⟨h1, h2⟩ := List.getElem?_eq_some_iff.mp p2
      rw [List.drop_eq_getElem_cons h1, h2]
    rw [d1] at hx
    rw [d2] at hy
    cases hx with
    | cons rx hx =>
      cases hy with
      | cons ry hy =>
        generalize hT : s.heap.objs.size = T at *
        have ok : ObjOk X.prog X.w (upd (upd H L (.lst done)) T (.tup [x, y])) h' T (.tup [x, y]) := ⟨by show 2 ≤ sizeLine; decide, [u1, u2], .cons rx (.cons ry .nil), ⟨_, new, rfl, _, rfl⟩⟩
        have I1 : Inv X pins σ (upd (upd H L (.lst done)) T (.tup [x, y])) { s with heap := h', toks := tk } := I.turnedNew (ch := [z, TO, i1, i2]) kp hf (Nat.le_of_eq hT) ok
        have hL1 := kp L _ ne hL
        have LT : L ≠ T := fun e => by
          have := Heap.lt_size hL
          rw [e, hT] at this
          exact Nat.lt_irrefl _ this
        have low : ∀ q ∈ [z, TO, i1, i2], q ≠ T := fun c hc e => by
          obtain ⟨f0, f1, a1, a2, e1, e2, e3, e4, e5, e6, e7⟩ := q
          have hz : ∀ {o : Obj}, s.heap.get? c = some o → False := fun ho => Nat.lt_irrefl _ (by
            have := Heap.lt_size ho
            rw [e, hT] at this
            exact this)
          simp only [List.mem_cons, List.not_mem_nil, or_false] at hc
          rcases hc with rfl | rfl | rfl | rfl
          · exact hz e1
          · exact hz e5
          · obtain ⟨o, ho⟩ := D1.live _ _ e6; exact hz ho
          · obtain ⟨o, ho⟩ := D2.live _ _ e7; exact hz ho
        have hHT : H T = none := by
          have z : upd H L (.lst done) T = none := I.hok.fresh (Nat.le_of_eq hT)
          rw [upd_ne (Ne.symm LT)] at z
          exact z
        refine wpAny_bind (m := updateSeq L (·.push (.ref T))) (wpAny_updateSeq hL1 rfl (wpAny_pure ⟨plainId_quiet F.plain_extend_loop _, ?_⟩) ?_ ?_)
        · have oth : ∀ c o, c ≠ L → h'.get? c = some o → (h'.update L (Obj.mapSeq (·.push (.ref T)))).get? c = some o := fun c o hc e => by
            rw [Heap.get?_update_other _ _ (Ne.symm hc)]
            exact e
          have hL2 := Heap.get?_update_self (Obj.mapSeq (·.push (.ref T))) hL1 rfl
          obtain ⟨c2, hL3⟩ : ∃ c2, (h'.update L (Obj.mapSeq (·.push (.ref T)))).get? L = some { cls := .type "list", dict := none, data := .seq (acc ++ [Value.ref T]).toArray c2, slots := #[] } := ⟨_, by
            rw [hL2]
            simp [Obj.mapSeq]
            rfl⟩
          have vv : Vals (done ++ [.ref T]) (acc ++ [.ref T]) := vals_snoc hv (show RelV (.ref T) (.ref T) from rfl)
          have at1 : upd (upd H L (.lst done)) T (.tup [x, y]) L = some (.lst done) := by rw [upd_ne LT, upd_same]
          have I2 := I1.write (e := L) (t' := tk) (o := .lst (done ++ [.ref T])) (h' := h'.update L (Obj.mapSeq (·.push (.ref T)))) (by rw [at1]; trivial) (.inl rfl) (fun c o hc e => oth c o hc e) ⟨_, hL3⟩ ⟨by rw [List.length_append, hl, List.length_singleton]; omega, _, c2, vv, hL3⟩
          rw [upd_swap LT, upd_over] at I2
          refine pour_loop calm S D1 D2 out small fin xs ys (i + 1) _ _ (acc ++ [.ref T]) c2 (done ++ [.ref T]) (by rw [← hi, List.length_cons]; omega) I2 (by rw [upd_ne LT]; exact hn) (fun c hc => ⟨?_, (hf c hc).2⟩) (q'.frame D1 D2 fun c hc o e => oth c o (fun z => out (z ▸ hc)) e) hL3 vv (by simp [hl]) hx hy (hq _ hHT)
          have cL : c ≠ L := fun z => ne (z ▸ hc)
          have z := (hf c hc).1
          rw [upd_ne cL] at z
          rw [upd_ne cL, upd_ne (low c hc)]
          exact z
        · rw [List.size_toArray, ← hv.length, hl]; omega
        · show (acc.toArray.push (.ref T)).size ≤ sizeLine + 1
          rw [Array.size_push, List.size_toArray, ← hv.length, hl]; omega
end
end BV
/-! list(zip(a, b)) and list(zip(a, b, strict=True)) as expressions. -/
namespace BV
open PySem PySem.Spec PyProof.Rows L2
section
variable {M : Model} {A : Around} {E : Value → Shared → Prop} {s : Shared} {env : Env}
theorem callT_kw {pos : Pos} {T : String} {e : Expr} {rest : List Expr} {kws : List Keyword} {Q : Value → Shared → Prop}
    (h : wpAny M A (spliced (backTo pos (starEach (e :: rest) env))) (fun vs s1 => wpAny M A (evalAll ((backToKw pos (keywordEach kws env)).map (·.2))) (fun ks s2 => wpAny M A (call (.type T) vs (((backToKw pos (keywordEach kws env)).filterMap (·.1)).zip ks)) Q E s2) E s1) E s)
    (he : backTo pos (starEach (e :: rest) env) = (false, eval e env) :: backTo pos (starEach rest env)) (hp : (backTo pos (starEach (e :: rest) env)).any (·.1) = false)
    (ha : (backToKw pos (keywordEach kws env)).all (·.1.isSome) = true) (hk : (backToKw pos (keywordEach kws env)).any (·.1.isNone) = false) :
    wpAny M A (callWith pos (.type T) [] (backTo pos (starEach (e :: rest) env)) (backToKw pos (keywordEach kws env))) Q E s := by
  have main : wpAny M A (evalArgs (.type T) true (backTo pos (starEach (e :: rest) env)) (backToKw pos (keywordEach kws env))) (fun a s1 => wpAny M A (call (.type T) ([] ++ a.pos) a.kw) Q E s1) E s := by
    rw [he] at h ⊢
    exact evalArgs_kwB ha h
  unfold callWith
  refine wpAny_bind (wpAny_holding (wpAny_mono main (fun a s1 h1 => wpAny_bind (wpAny_standAt ?_)) fun _ _ x => x))
  simp only [hp, hk, Bool.or_false]
  exact wpAny_bind (wpAny_pure (wpAny_bind (wpAny_mono h1 (fun r s2 hr => wpAny_bind (wpAny_holding (wpAny_point (wpAny_pure hr)))) fun _ _ x => x)))
end
/-! ### a strict zip is made -/
theorem typeCall_strict (a b c : Value) : checkTypeCall "zip" ⟨[a, b], [(Str.ofString "strict", c)]⟩ = pure () := by kernel_rfl
theorem newCall_strict (a b c : Value) : checkBuiltinCall "zip.__new__" ⟨[.type "zip", a, b], [(Str.ofString "strict", c)]⟩ = pure () := by kernel_rfl
theorem init_strict (o a b c : Value) : argsOk "object.__init__" ⟨[o, a, b], [(Str.ofString "strict", c)]⟩ := by unfold argsOk; kernel_rfl
abbrev zH (h : Heap) (o1 o2 : Obj) (b : Bool) : Heap := (gzO2 h o1 o2).push { cls := .type "zip", data := .fields #[.none, .bool false, .bool b, .ref ((h.push o1).push o2).objs.size, .ref (gzT2 h o1 o2).objs.size] }
theorem meets_strict {v1 v2 : Value} {o1 o2 : Obj} {H1 H2 : Heap → Prop} (B1 : Begins v1 o1 H1) (B2 : Begins v2 o2 H2) :
    Meets (Builtin.«zip.__new__» ⟨[.type "zip", v1, v2], [(Str.ofString "strict", .bool true)]⟩) (fun _ R s => (H1 s.heap ∧ H2 s.heap) ∧ R (.ok (.ret (.ref (gzO2 s.heap o1 o2).objs.size))) { s with heap := zH s.heap o1 o2 true }) :=
  .of_wp fun prog w A R s h => by
    obtain ⟨hp, g, d, tk, os⟩ := s
    obtain ⟨⟨h1, h2⟩, h⟩ := h
    have hsub := sub_zip
    have k1 : ∀ {A' : Around} {E : Value → Shared → Prop} {Q : Value → Shared → Prop}, Q (.ref hp.objs.size) ⟨hp.push o1, g, d, tk, os⟩ → wpAny (model prog w) A' (pyIter v1) Q E ⟨hp, g, d, tk, os⟩ := fun q => B1.iter prog w _ _ ⟨hp, g, d, tk, os⟩ _ h1 q
    have k2 : ∀ {A' : Around} {E : Value → Shared → Prop} {Q : Value → Shared → Prop}, Q (.ref (hp.push o1).objs.size) ⟨(hp.push o1).push o2, g, d, tk, os⟩ → wpAny (model prog w) A' (pyIter v2) Q E ⟨hp.push o1, g, d, tk, os⟩ :=
      fun q => B2.iter prog w _ _ ⟨hp.push o1, g, d, tk, os⟩ _ (B2.keeps _ _ h2 fun b o' e => Heap.get?_push_of_some _ e) q
    have e2 : (Str.ofString "strict" != ("strict" : Str)) = false := by decide +kernel
    wp_walk using k1, k2
    exact ⟨_, rfl, h⟩
section
variable {prog : Program} {w : World} {A : Around} {E : Value → Shared → Prop} {s : Shared}
/-- the arguments of a zip -/
def zipKw : Bool → List (Str × Value)
  | true => [(Str.ofString "strict", .bool true)]
  | false => []
theorem zip_made {v1 v2 : Value} {o1 o2 : Obj} {H1 H2 : Heap → Prop} {Q : Value → Shared → Prop} (b : Bool) (B1 : Begins v1 o1 H1) (B2 : Begins v2 o2 H2) (h1 : H1 s.heap) (h2 : H2 s.heap)
    (k : ∀ h', ZipAt h' (s.heap.objs.size + 4) (s.heap.objs.size + 2) (s.heap.objs.size + 3) b .none (.bool false) → IsTupOf2 h' (s.heap.objs.size + 2) (.ref s.heap.objs.size) (.ref (s.heap.objs.size + 1)) →
      IsTupOf2 h' (s.heap.objs.size + 3) .none .none → h'.get? s.heap.objs.size = some o1 → h'.get? (s.heap.objs.size + 1) = some o2 → h'.objs.size = s.heap.objs.size + 5 →
      (∀ c o, s.heap.get? c = some o → h'.get? c = some o) → Q (.ref (s.heap.objs.size + 4)) { s with heap := h' }) :
    wpAny (model prog w) A (call (.type "zip") [v1, v2] (zipKw b)) Q E s := by
  cases b with
  | false => exact zip_begins2 B1 B2 h1 h2 k
  | true =>
    refine callType_newKw F.called_zip (by decide) (typeCall_strict _ _ _) (newCall_strict _ _ _) (fun obj => init_strict obj _ _ _) F.entry_zip_new (meets_strict B1 B2) ⟨⟨h1, h2⟩, ?_⟩
    have z1 : (s.heap.push o1).objs.size = s.heap.objs.size + 1 := Heap.size_push ..
    have z2 : ((s.heap.push o1).push o2).objs.size = s.heap.objs.size + 2 := by rw [Heap.size_push, z1]
    have z3 : (gzT2 s.heap o1 o2).objs.size = s.heap.objs.size + 3 := by rw [Heap.size_push, z2]
    have z4 : (gzO2 s.heap o1 o2).objs.size = s.heap.objs.size + 4 := by rw [Heap.size_push, z3]
    have z5 : (zH s.heap o1 o2 true).objs.size = s.heap.objs.size + 5 := by rw [Heap.size_push, z4]
    have c4 : (zH s.heap o1 o2 true).get? (gzO2 s.heap o1 o2).objs.size = some _ := Heap.get?_push_size _ rfl
    have c3 : (zH s.heap o1 o2 true).get? (gzT2 s.heap o1 o2).objs.size = some { cls := .type "tuple", data := .seq #[.none, .none] } := Heap.get?_push_of_some _ (Heap.get?_push_size _ rfl)
    have c2 : (zH s.heap o1 o2 true).get? ((s.heap.push o1).push o2).objs.size = some { cls := .type "tuple", data := .seq #[.ref s.heap.objs.size, .ref (s.heap.push o1).objs.size] } := Heap.get?_push_of_some _ (Heap.get?_push_of_some _ (Heap.get?_push_size _ rfl))
    have c0 : (zH s.heap o1 o2 true).get? s.heap.objs.size = some o1 := Heap.get?_push_of_some _ (Heap.get?_push_of_some _ (Heap.get?_push_of_some _ (Heap.get?_push_of_some _ (Heap.get?_push_size _ B1.free))))
    have c1 : (zH s.heap o1 o2 true).get? (s.heap.push o1).objs.size = some o2 := Heap.get?_push_of_some _ (Heap.get?_push_of_some _ (Heap.get?_push_of_some _ (Heap.get?_push_size _ B2.free)))
    rw [z4, z3, z2] at c4
    rw [z3] at c3
    rw [z2, z1] at c2
    rw [z1] at c1
    show _ ∧ _
    rw [z4]
    exact ⟨⟨_, c4, rfl⟩, k _ c4 c2 c3 c0 c1 z5 fun c o e => Heap.get?_push_of_some _ (Heap.get?_push_of_some _ (Heap.get?_push_of_some _ (Heap.get?_push_of_some _ (Heap.get?_push_of_some _ e))))⟩
end
theorem iter_zip {prog : Program} {w : World} {A : Around} {E : Value → Shared → Prop} {s : Shared} {z TI TO : Addr} {b : Bool} {f0 f1 : Value} {Q : Value → Shared → Prop} (hz : ZipAt s.heap z TI TO b f0 f1) (h : Q (.ref z) s) : wpAny (model prog w) A (pyIter (.ref z)) Q E s := by
  have hT : s.TypeIs (.ref z) "zip" := ⟨_, hz, rfl⟩
  exact wpAny_pyIter_slot hT F.slot_zip_iter (wpAny_call_entry F.slot_zip_iter hT F.entry_zip_iter (show wpAny _ _ (ret (.ref z)) _ _ s from wpAny_pure ⟨_, rfl, _, _, hT, F.slot_zip_next.lookup, h⟩) (F.args_zip_iter_1 _))
section
variable {X : Cx} {pins : List (Addr × Obj)} {σ : L2.St} {H : Hp} {s : Shared} {z TI TO i1 i2 : Addr} {fp1 fp2 : List Addr} {n : Nat} {St1 St2 : Nat → Heap → Prop} {us vs : List Value} {b : Bool} {xs ys : List V}
/-- list(..) of a zip that stands at its beginning -/
theorem list_zip {Q : VK} (calm : X.calm = true) (I : Inv X pins σ H s) (S : ZipSep2 z TI TO i1 i2 fp1 fp2) (D1 : Draws X.prog X.w X.A.in1.in1.in1 i1 fp1 n (fun i v => us[i]? = some v) St1) (D2 : Draws X.prog X.w X.A.in1.in1.in1 i2 fp2 n (fun i v => vs[i]? = some v) St2)
    (q : ZSt z TI TO i1 i2 b St1 St2 0 s.heap) (low : ∀ c ∈ z :: TI :: TO :: (fp1 ++ fp2), c < s.heap.objs.size) (hf : ∀ c ∈ [z, TO, i1, i2], FpOk X pins H c) (hx : Vals xs us) (hy : Vals ys vs) (hn : xs.length = n) (small : n ≤ sizeLine)
    (k : pourS (fun done H3 => ∀ p, H3 p = none → Q (.ref p) (upd H3 p (.lst done))) H xs ys []) : wpAny (model X.prog X.w) X.A (call (.type "list") [.ref z]) (EP X pins σ Q) X.xe s := by
  refine callType_codes (Q₁ := fun obj s1 => obj = .ref s.heap.objs.size ∧ s1 = { s with heap := s.heap.push { cls := .type "list", data := .seq #[] } }) F.called_list (F.typeCall_list_1 _) F.entry_list_init (code_list_new _ ⟨rfl, rfl⟩) fun obj s1 h1 => ?_
  obtain ⟨rfl, rfl⟩ := h1
  have hL : (s.heap.push { cls := .type "list", data := .seq #[] }).get? s.heap.objs.size = some { cls := .type "list", data := .seq #[] } := Heap.get?_push_size _ rfl
  have fresh : H s.heap.objs.size = none := I.hok.fresh (Nat.le_refl _)
  have I1 : Inv X pins σ (upd H s.heap.objs.size (.lst [])) { s with heap := s.heap.push { cls := .type "list", data := .seq #[] } } := I.laid (t' := s.toks) (fun c o e => Heap.get?_push_of_some _ e) (Nat.le_refl _) ⟨Nat.zero_le _, [], 0, .nil, hL⟩
  have q1 : ZSt z TI TO i1 i2 b St1 St2 0 (s.heap.push { cls := .type "list", data := .seq #[] }) := q.frame D1 D2 fun c _ o e => Heap.get?_push_of_some _ e
  have out : s.heap.objs.size ∉ z :: TI :: TO :: (fp1 ++ fp2) := fun m => Nat.lt_irrefl _ (low _ m)
  refine ⟨⟨_, hL, rfl⟩, F.args_list_init_2 _ _, ?_⟩
  generalize hs1 : ({ s with heap := s.heap.push { cls := .type "list", data := .seq #[] } } : Shared) = s1 at *
  have e1 : s1.heap = s.heap.push { cls := .type "list", data := .seq #[] } := by rw [← hs1]
  rw [← e1] at hL q1
  generalize s.heap.objs.size = L at *
  show wpAny _ X.A.in1.in1 (do let old ← Builtin.List.listItems (.ref L); Builtin.List.listUpdate (.ref L) (fun _ => #[]); letGo old.toList.reverse; Builtin.List.listExtendWith (.ref L) (.ref z) .none) _ _ s1
  refine wpAny_bind ?_
  unfold Builtin.List.listItems
  refine wpAny_bind (wpAny_seqItems hL rfl (wpAny_pure (wpAny_bind (m := updateSeq L fun _ => #[]) (wpAny_updateSeq hL rfl (wpAny_bind (wpAny_letGo ?_))))))
  -- the list stays empty through what is done to it ahead
  have keep : ∀ (h : Heap) (f : Array Value → Array Value) (d : Addr) (o : Obj), d ≠ L → h.get? d = some o → (h.update L (Obj.mapSeq f)).get? d = some o := fun h f d o hd e => by
    rw [Heap.get?_update_other _ _ (Ne.symm hd)]
    exact e
  have g2 := Heap.get?_update_self (Obj.mapSeq (fun _ => (#[] : Array Value))) hL rfl
  have q2 : ZSt z TI TO i1 i2 b St1 St2 0 (s1.heap.update L (Obj.mapSeq fun _ => #[])) := q1.frame D1 D2 fun c hc o e => keep _ _ c o (fun z => out (z ▸ hc)) e
  obtain ⟨f0, f1, a1, a2, hz, _⟩ := id q2
  have ty : (⟨s1.heap.update L (Obj.mapSeq fun _ => #[]), s1.gens, s1.drawn, s1.toks, s1.os⟩ : Shared).TypeIs (.ref z) "zip" := ⟨_, hz, rfl⟩
  have ne : L ≠ z := fun e => out (by rw [e]; exact List.mem_cons_self)
  unfold Builtin.List.listExtendWith
  refine wpAny_bind (wpAny_typeOf ty ?_)
  have h1 : Builtin.List.listSameRef (.ref L) (.ref z) = false := by simp [Builtin.List.listSameRef, ne]
  simp only [h1, zip_nolen.nl, zip_nolen.nt, Bool.or_false, Bool.false_eq_true, if_false]
  refine wpAny_bind (iter_zip hz (wpAny_bind (wpAny_holding ?_)))
  unfold Builtin.List.listLengthHint
  refine wpAny_bind (wpAny_specialOf ty zip_nolen.len ?_)
  refine wpAny_bind (m := specialOf (Value.ref z) (Str.ofString "__length_hint__")) (wpAny_specialOf ty zip_nolen.hint (wpAny_pure ?_))
  refine wpAny_bind (m := rule "list.extend.makes-room") (wpAny_rule (wpAny_bind (m := Builtin.List.listTouch (.ref L)) ?_))
  show wpAny _ _ (updateSeq L (·.push .none) >>= fun _ => updateSeq L (·.pop)) _ _ _
  refine wpAny_bind (wpAny_updateSeq g2 rfl ?_)
  have g3 := Heap.get?_update_self (Obj.mapSeq (·.push Value.none)) g2 rfl
  refine wpAny_updateSeq (hz := by seq_fits) g3 rfl ?_
  have g4 := Heap.get?_update_self (Obj.mapSeq (·.pop)) g3 rfl
  have all : ∀ d o, d ≠ L → s1.heap.get? d = some o → (((s1.heap.update L (Obj.mapSeq fun _ => #[])).update L (Obj.mapSeq (·.push Value.none))).update L (Obj.mapSeq (·.pop))).get? d = some o := fun d o hd e => keep _ _ d o hd (keep _ _ d o hd (keep _ _ d o hd e))
  obtain ⟨c4, g5⟩ : ∃ c4, (((s1.heap.update L (Obj.mapSeq fun _ => #[])).update L (Obj.mapSeq (·.push Value.none))).update L (Obj.mapSeq (·.pop))).get? L = some { cls := .type "list", dict := none, data := .seq ([] : List Value).toArray c4, slots := #[] } := ⟨_, g4⟩
  have at1 : upd H L (.lst []) L = some (.lst []) := upd_same
  have I2 := I1.write (e := L) (t' := s1.toks) (o := .lst []) (by rw [at1]; trivial) (.inl rfl) all ⟨_, g5⟩ ⟨Nat.zero_le _, [], c4, .nil, g5⟩
  rw [upd_over] at I2
  refine wpAny_pure ⟨plainId_quiet F.plain_extend_loop _, pour_loop (A := X.A.in1) (I.ok.hd calm) S D1 D2 out small (fun s' H' done I' hn' hq' => ⟨rfl, .ref L, upd H' L (.lst done), I', rfl, hq' L hn'⟩) xs ys 0 _ H [] c4 [] (by omega) I2 fresh (fun c hc => ⟨?_, (hf c hc).2⟩) (q1.frame D1 D2 fun c hc o e => all c o (fun z => out (z ▸ hc)) e) g5 .nil rfl hx hy k⟩
  have cL : c ≠ L := fun e => four S out (by rw [← e]; exact hc)
  rw [upd_ne cL]
  exact (hf c hc).1
def tLz (K : Frag) (ta tb : TE) : TE := fun σ H Q => ta σ H fun x H1 => tb σ H1 fun y H2 => ∃ a c xs ys, x = .ref a ∧ y = .ref c ∧ ((SqL K H2 a xs ∧ SqL K H2 c ys) ∨ (SqT K H2 a xs ∧ SqT K H2 c ys)) ∧ xs.length = ys.length ∧
  pourS (fun done H3 => ∀ p, H3 p = none → Q (.ref p) (upd H3 p (.lst done))) H2 xs ys []
/-- the zip is made, then poured -/
theorem made_poured {Q : VK} (calm : X.calm = true) (I : Inv X pins σ H s) {u v : Value} {x y : V} (b : Bool) (rx : RelV x u) (ry : RelV y v) {a c : Addr} (ex : x = .ref a) (ey : y = .ref c)
    (sq : (SqL X.K H a xs ∧ SqL X.K H c ys) ∨ (SqT X.K H a xs ∧ SqT X.K H c ys)) (hl : xs.length = ys.length) (k : pourS (fun done H3 => ∀ p, H3 p = none → Q (.ref p) (upd H3 p (.lst done))) H xs ys []) :
    wpAny (model X.prog X.w) X.A (call (.type "zip") [u, v] (zipKw b)) (fun z s' => wpAny (model X.prog X.w) X.A (call (.type "list") [z]) (EP X pins σ Q) X.xe s') X.xe s := by
  subst ex ey
  cases rx
  cases ry
  have fp5 : ∀ d ∈ [s.heap.objs.size + 4, s.heap.objs.size + 3, s.heap.objs.size, s.heap.objs.size + 1], FpOk X pins H d := fun d hd => by
    have le : s.heap.objs.size ≤ d := by
      simp only [List.mem_cons, List.not_mem_nil, or_false] at hd
      rcases hd with e | e | e | e <;> rw [e] <;> first | exact Nat.le_refl _ | exact Nat.le_add_right _ _
    exact I.fpOk le (I.hok.fresh le)
  rcases sq with ⟨h1, h2⟩ | ⟨h1, h2⟩
  · obtain ⟨us, ru, p1, l1⟩ := I.list h1
    obtain ⟨vs, rv, p2, l2⟩ := I.list h2
    have a1 := p1.lt
    have a2 := p2.lt
    refine zip_made b (begins_list a us.toArray) (begins_list c vs.toArray) p1.isList p2.isList fun h' hz hTI hTO o1 o2 size kp => ?_
    have I2 : Inv X pins σ H { s with heap := h' } := I.kept (t' := s.toks) kp
    have D1 := Draws.list (prog := X.prog) (w := X.w) (A := X.A.in1.in1.in1) (I.ok.hd calm) s.heap.objs.size a (Nat.ne_of_lt a1) us.toArray
    have D2 := Draws.list (prog := X.prog) (w := X.w) (A := X.A.in1.in1.in1) (I.ok.hd calm) (s.heap.objs.size + 1) c (Nat.ne_of_lt (Nat.lt_succ_of_lt a2)) vs.toArray
    have e1 : us.toArray.size = xs.length := by rw [List.size_toArray]; exact ru.length.symm
    have e2 : vs.toArray.size = xs.length := by rw [List.size_toArray, ← rv.length, hl]
    simp only [List.getElem?_toArray] at D1 D2
    rw [e1] at D1
    rw [e2] at D2
    refine list_zip calm I2 (zip_sep2 (fp1 := [a]) (fp2 := [c]) (by simpa using a1) (by simpa using a2)) D1 D2 ⟨_, _, _, _, hz, .inl rfl, .inl rfl, hTI, hTO, ⟨⟨_, o1, rfl, rfl⟩, p1.isList.at fun o e => kp a o e⟩, ⟨⟨_, o2, rfl, rfl⟩, p2.isList.at fun o e => kp c o e⟩⟩ (fun d hd => ?_) fp5 ru rv rfl l1 k
    show d < h'.objs.size
    rw [size]
    simp only [List.mem_cons, List.mem_append, List.not_mem_nil, or_false] at hd
    rcases hd with e | e | e | (e | e) | (e | e) <;> rw [e] <;> first | exact Nat.lt_succ_of_le (Nat.add_le_add_left (by decide) _) | exact Nat.lt_of_lt_of_le a1 (Nat.le_add_right _ _) | exact Nat.lt_of_lt_of_le a2 (Nat.le_add_right _ _) | exact Nat.lt_add_of_pos_right (by decide)
  · obtain ⟨us, ru, p1, l1⟩ := I.tuple h1
    obtain ⟨vs, rv, p2, l2⟩ := I.tuple h2
    obtain ⟨q1, w1, _⟩ := id p1
    obtain ⟨q2, w2, _⟩ := id p2
    have a1 := Heap.lt_size w1
    have a2 := Heap.lt_size w2
    have p1 : s.heap.IsTuple a us.toArray := p1
    have p2 : s.heap.IsTuple c vs.toArray := p2
    refine zip_made b (begins_tuple a us.toArray) (begins_tuple c vs.toArray) p1 p2 fun h' hz hTI hTO o1 o2 size kp => ?_
    have I2 : Inv X pins σ H { s with heap := h' } := I.kept (t' := s.toks) kp
    have D1 := Draws.tuple (prog := X.prog) (w := X.w) (A := X.A.in1.in1.in1) (I.ok.hd calm) s.heap.objs.size a (Nat.ne_of_lt a1) us.toArray
    have D2 := Draws.tuple (prog := X.prog) (w := X.w) (A := X.A.in1.in1.in1) (I.ok.hd calm) (s.heap.objs.size + 1) c (Nat.ne_of_lt (Nat.lt_succ_of_lt a2)) vs.toArray
    have e1 : us.toArray.size = xs.length := by rw [List.size_toArray]; exact ru.length.symm
    have e2 : vs.toArray.size = xs.length := by rw [List.size_toArray, ← rv.length, hl]
    simp only [List.getElem?_toArray] at D1 D2
    rw [e1] at D1
    rw [e2] at D2
    refine list_zip calm I2 (zip_sep2 (fp1 := [a]) (fp2 := [c]) (by simpa using a1) (by simpa using a2)) D1 D2 ⟨_, _, _, _, hz, .inl rfl, .inl rfl, hTI, hTO, ⟨⟨_, o1, rfl, rfl⟩, p1.at fun o e => kp a o e⟩, ⟨⟨_, o2, rfl, rfl⟩, p2.at fun o e => kp c o e⟩⟩ (fun d hd => ?_) fp5 ru rv rfl l1 k
    show d < h'.objs.size
    rw [size]
    simp only [List.mem_cons, List.mem_append, List.not_mem_nil, or_false] at hd
    rcases hd with e | e | e | (e | e) | (e | e) <;> rw [e] <;> first | exact Nat.lt_succ_of_le (Nat.add_le_add_left (by decide) _) | exact Nat.lt_of_lt_of_le a1 (Nat.le_add_right _ _) | exact Nat.lt_of_lt_of_le a2 (Nat.le_add_right _ _) | exact Nat.lt_add_of_pos_right (by decide)
theorem pe_lzip {ea eb : Expr} {ta tb : TE} {lp zp pz p kp cp : Pos} {kk : Nat} (b : Bool) (calm : X.calm = true) (gl : Gl X "list") (ml : X.mg "list" = none) (gz : Gl X "zip") (mz : X.mg "zip" = none) (ha : PE X ea ta) (hb : PE X eb tb)
    (na : starEach [ea, eb] X.env = (false, eval ea X.env) :: starEach [eb] X.env) (nb : starEach [eb] X.env = (false, eval eb X.env) :: starEach [] X.env) :
    PE X (.Call (.Name "list" lp) [.Call (.Name "zip" zp) [ea, eb] (zipK b kp cp kk) pz] [] p) (tLz X.K ta tb) := by
  refine ⟨fun pins s σ H Q I h => ?_⟩
  refine Call_ (ld_blt I gl ml boot_list (PyProof.Rows.callWith_type1 (args_cons ?_ rfl) rfl))
  have zip : wpAny (model X.prog X.w) X.A (eval (.Call (.Name "zip" zp) [ea, eb] (zipK b kp cp kk) pz) X.env) (fun z s' => wpAny (model X.prog X.w) X.A (call (.type "list") [z]) (EP X pins σ Q) X.xe s') X.xe s := by
    have args : wpAny (model X.prog X.w) X.A (spliced (backTo pz (starEach [ea, eb] X.env))) (fun us s' => wpAny (model X.prog X.w) X.A (call (.type "zip") us (zipKw b)) (fun z s' => wpAny (model X.prog X.w) X.A (call (.type "list") [z]) (EP X pins σ Q) X.xe s') X.xe s') X.xe s :=
      args_cons (thn (ha.run pins s σ H _ I h) fun u s1 ⟨x, H1, I1, r1, q1⟩ => args_cons (thn (hb.run pins s1 σ H1 _ I1 q1) fun v s2 ⟨y, H2, I2, r2, a, c, xs, ys, ex, ey, sq, hl, k⟩ => args_nil (made_poured calm I2 b r1 r2 ex ey sq hl k)) nb) na
    cases b with
    | false => exact Call_ (ld_blt I gz mz boot_zip (PyProof.Rows.callWith_type1 args na (by rw [nb]; rfl)))
    | true =>
      show wpAny (model X.prog X.w) X.A (eval (.Name "zip" zp) X.env >>= fun f => callWith pz f [] (backTo pz (starEach [ea, eb] X.env)) (backToKw pz (keywordEach (zipK true kp cp kk) X.env))) _ _ _
      refine wpAny_bind (ld_blt I gz mz boot_zip ?_)
      refine callT_kw (T := "zip") (kws := zipK true kp cp kk) (thn args fun us s1 h1 => kws_cons (wpAny_Constant_bool (kws_nil ?_))) (by rw [na]; rfl) (by rw [na, nb]; rfl) rfl rfl
      exact h1
  exact thn zip fun z s1 h1 => args_nil h1
end
end BV
/-! xs[::-1] of a tuple. -/
namespace BV
open PySem PySem.Spec PyProof.Rows L2
theorem adj_rev (n : Nat) : Builtin.Slice.sliceAdjust none none (-1) (n : Int) = ((n : Int) - 1, -1) := by
  unfold Builtin.Slice.sliceAdjust
  simp
theorem places_rev (n : Nat) : Builtin.Slice.slicePlaces ((n : Int) - 1) (-1) (-1) = n := by
  unfold Builtin.Slice.slicePlaces
  simp
  split <;> omega
theorem fm_map {α β : Type} {f : α → Option β} {g : α → β} : ∀ {l : List α}, (∀ x ∈ l, f x = some (g x)) → l.filterMap f = l.map g
  | [], _ => rfl
  | x :: l, h => by rw [List.filterMap_cons, h x (List.mem_cons_self ..), List.map_cons, fm_map fun y hy => h y (List.mem_cons_of_mem _ hy)]
theorem pick_rev (xs : Array Value) : ((List.range xs.size).filterMap fun (k : Nat) => xs[((xs.size : Int) - 1 + (k : Int) * -1).toNat]?).toArray = xs.toList.reverse.toArray := by
  congr 1
  rw [fm_map (g := fun k => xs.toList[xs.size - 1 - k]?.getD .none)]
  · apply List.ext_getElem?
    intro i
    rw [List.getElem?_map]
    by_cases h : i < xs.size
    · rw [List.getElem?_range h, List.getElem?_reverse (by simpa using h)]
      have h2 : xs.toList.length - 1 - i < xs.toList.length := by rw [Array.length_toList]; omega
      rw [List.getElem?_eq_getElem h2]
      simp only [Option.map_some, Array.length_toList]
      rw [List.getElem?_eq_getElem (by rw [Array.length_toList]; omega)]
      rfl
    · rw [List.getElem?_eq_none (by rw [List.length_range]; omega), List.getElem?_eq_none (by rw [List.length_reverse, Array.length_toList]; omega)]
      rfl
  · intro k hk
    have hk := List.mem_range.mp hk
    have h1 : ((xs.size : Int) - 1 + (k : Int) * -1).toNat = xs.size - 1 - k := by omega
    have h2 : xs.size - 1 - k < xs.size := by omega
    rw [h1, Array.getElem?_eq_getElem h2, List.getElem?_eq_getElem (by rw [Array.length_toList]; exact h2)]
    simp
section
variable {prog : Program} {w : World} {A : Around} {E : Value → Shared → Prop} {s : Shared}
theorem tuple_rev {t sl : Addr} {items : Array Value} {vl vu vs : Value} {Q : Value → Shared → Prop} (ht : IsTup s.heap t items) (hs : s.heap.IsSliceOf sl vl vu vs) (pl : IsPart vl none) (pu : IsPart vu none) (ps : IsPart vs (some (-1))) (small : items.size ≤ sizeLine)
    (h : Q (.ref s.heap.objs.size) { s with heap := s.heap.push { cls := .type "tuple", data := .seq items.toList.reverse.toArray } }) : wpAny (model prog w) A (getItem (.ref t) (.ref sl)) Q E s := by
  obtain ⟨os, hos, hcs, hds⟩ := id hs
  have hTs : s.TypeIs (.ref sl) "slice" := ⟨os, hos, hcs⟩
  unfold getItem
  try with_reducible refine wpAny_holding ?_
  first | refine wpAny_bind (wpAny_pure ?_) | skip
  refine wpAny_bind (wpAny_sequenceKey ht.typeIs (by decide) ?_)
  refine wpAny_bind (wpAny_callSpecial?_slot (name := Str.ofString "__getitem__") ht.typeIs PyProof.Rows.slot_tuple_getitem (wpAny_call_entry PyProof.Rows.slot_tuple_getitem ht.typeIs entry_tuple_getitem ?_ (args_tuple_getitem _ _)))
  refine wpAny_bind (m := Builtin.Tuple.tupleItemsOf (.ref t)) (tupleItemsOf_ ht (wpAny_bind (wpAny_typeOf hTs ?_)))
  rw [if_pos (by decide)]
  refine wpAny_bind ?_
  unfold Builtin.Slice.sliceApplied Builtin.Slice.sliceFields
  refine wpAny_bind (wpAny_bind (wpAny_field hos hds (x := vl) rfl (wpAny_bind (wpAny_field hos hds (x := vu) rfl (wpAny_bind (wpAny_field hos hds (x := vs) rfl (wpAny_pure ?_)))))))
  refine wpAny_bind (HT.slicePart_ ps ?_)
  show wpAny _ _ (if ((-1 : Int) == 0) = true then _ else _) _ _ s
  rw [if_neg (by decide)]
  refine wpAny_bind (HT.slicePart_ pl (wpAny_bind (HT.slicePart_ pu (wpAny_bind (wpAny_pure ?_)))))
  show wpAny _ _ (match Builtin.Slice.sliceAdjust none none (-1) (items.size : Int) with | (lo, hi) => pure (lo, (-1 : Int), Builtin.Slice.slicePlaces lo hi (-1))) _ _ s
  rw [adj_rev]
  show wpAny _ _ (pure ((items.size : Int) - 1, (-1 : Int), Builtin.Slice.slicePlaces ((items.size : Int) - 1) (-1) (-1))) _ _ s
  rw [places_rev]
  refine wpAny_pure ?_
  show wpAny _ _ (if (((items.size : Int) - 1) == 0 && (-1 : Int) == 1 && items.size == items.size) = true then _ else _) _ _ s
  rw [if_neg (by simp), pick_rev]
  unfold Builtin.Tuple.tupleExact
  refine wpAny_bind (wpAny_newObj_type (wpAny_pure ⟨_, rfl, wpAny_pure h⟩) ?_)
  show items.toList.reverse.toArray.size ≤ sizeLine
  simpa using small
end
section
variable {X : Cx}
def tRevA (K : Frag) (te : TE) : TE := fun σ H Q => te σ H fun x H1 => ∃ a xs, x = .ref a ∧ ((SqL K H1 a xs ∧ ∀ p, H1 p = none → Q (.ref p) (upd H1 p (.lst xs.reverse))) ∨ (SqT K H1 a xs ∧ ∀ p, H1 p = none → Q (.ref p) (upd H1 p (.tup xs.reverse))))
theorem pe_revA {e : Expr} {te : TE} {k : Nat} {p1 p2 p3 pos : Pos} (he : PE X e te) : PE X (.Subscript e (.Slice none none (some (.UnaryOp .USub (.Constant (.int 1) k p1) p2)) p3) pos) (tRevA X.K te) := by
  refine ⟨fun pins s σ H Q I h => Subscript_ (thn (he.run pins s σ H _ I h) fun v s1 ⟨x, H1, I1, r1, a, xs, ex, q⟩ => ?_)⟩
  subst ex
  cases r1
  have one : PO X (some (.UnaryOp .USub (.Constant (.int 1) k p1) p2)) (tPart (tUn (rU fun i => .int (-i)) (tC (.int 1)))) := po_some (pe_un un_neg pe_int)
  refine wpAny_Slice (thn (po_none.run pins s1 σ H1 (fun o H2 => o = none ∧ H2 = H1) I1 ⟨rfl, rfl⟩) fun vl s2 ⟨l, H2, I2, pl, el, e2⟩ => ?_)
  subst el e2
  refine thn (po_none.run pins s2 σ H2 (fun o H3 => o = none ∧ H3 = H2) I2 ⟨rfl, rfl⟩) fun vu s3 ⟨u, H3, I3, pu, eu, e3⟩ => ?_
  subst eu e3
  refine thn (one.run pins s3 σ H3 (fun o H4 => o = some (-1) ∧ H4 = H3) I3 ⟨1, rfl, -1, rfl, rfl, rfl⟩) fun vs s4 ⟨o, H4, I4, ps, eo, e4⟩ => ?_
  subst eo e4
  have I5 : Inv X pins σ H4 { s4 with heap := s4.heap.push { cls := .type "slice", data := .fields #[vl, vu, vs] } } := I4.kept (t' := s4.toks) fun b ob q => Heap.get?_push_of_some _ q
  show wpAny (model X.prog X.w) X.A (subscriptTail e (.Slice none none (some (.UnaryOp .USub (.Constant (.int 1) k p1) p2)) p3) (.ref a) (.ref s4.heap.objs.size)) (EP X pins σ Q) X.xe { s4 with heap := s4.heap.push { cls := .type "slice", data := .fields #[vl, vu, vs] } }
  rcases q with ⟨hx, q⟩ | ⟨hx, q⟩
  · obtain ⟨its, r, ht, hz⟩ := I5.list hx
    refine tail_any (ops := [.ref a, .ref s4.heap.objs.size]) ht.isList.typeIs (PySem.slot_list_getitem.lookup) ?_ (by with_unfolding_all rfl)
    refine wpAny_getItem_list_slice ht.isList (Heap.IsSliceOf.new _ vl vu vs) pl pu ps (by decide) ?_ (by rw [List.size_toArray, ← r.length]; exact hz)
    rw [PySem.W.krv_pick]
    exact ⟨.ref _, _, I5.laid (t' := s4.toks) (o := .lst xs.reverse) (fun b ob q => Heap.get?_push_of_some _ q) (Nat.le_refl _) ⟨by rw [List.length_reverse]; exact hz, _, 0, r.reverse, Heap.get?_push_size _ rfl⟩, rfl, q _ (I5.hok.fresh (Nat.le_refl _))⟩
  · obtain ⟨its, r, ht, hz⟩ := I5.tuple hx
    refine tail_any (ops := [.ref a, .ref s4.heap.objs.size]) ht.typeIs (PyProof.Rows.slot_tuple_getitem.lookup) ?_ (by with_unfolding_all rfl)
    refine tuple_rev ht (Heap.IsSliceOf.new _ vl vu vs) pl pu ps (by rw [List.size_toArray, ← r.length]; exact hz) ?_
    exact ⟨.ref _, _, I5.laid (t' := s4.toks) (o := .tup xs.reverse) (fun b ob q => Heap.get?_push_of_some _ q) (Nat.le_refl _) ⟨by rw [List.length_reverse]; exact hz, _, r.reverse, IsTup.new _ _⟩, rfl, q _ (I5.hok.fresh (Nat.le_refl _))⟩
end
end BV
/-! list(zip(..)), dict(TABLE), xs[::-1], sorted({..}) as expressions of the layer. -/
namespace BV
open PySem PySem.Spec PyProof.Rows L2
section
variable {free : List Str} {D : Den} {n : Nat} {N : List Str} {sc : Scope} {X : Cx}
theorem pour_rep {K : Frag} {Hf0 H0 : Hp} {F0 F : List Addr} {S : Slots} {σ : L2.St} {Q : List V → Hp → Prop} :
    ∀ {vs ws dv : List Val} {xs ys done : List V} {Hf H : Hp}, vs.length = ws.length → RepL K Hf vs xs → RepL K Hf ws ys → RepL K Hf dv done → Rel K Hf F S σ H → Step Hf0 F0 H0 Hf F H →
      (∀ Hf' H' done', Rel K Hf' F S σ H' → Step Hf0 F0 H0 Hf' F H' → HSub H H' → RepL K Hf' (dv ++ pairUp vs ws) done' → Q done' H') → pourS Q H xs ys done
  | [], [], dv, _, _, done, Hf, H, _, .nil, .nil, rd, rel, st, k => k Hf H done rel st (HSub.refl _) (by rw [show pairUp [] [] = [] from rfl, List.append_nil]; exact rd)
  | [], _ :: _, _, _, _, _, _, _, h, _, _, _, _, _, _ => by simp at h
  | _ :: _, [], _, _, _, _, _, _, h, _, _, _, _, _, _ => by simp at h
  | v :: vs, w :: ws, dv, _, _, done, Hf, H, h, .cons (x := x) (xs := xs) rx hx, .cons (x := y) (xs := ys) ry hy, rd, rel, st, k => by
    intro T hT
    have g := Gives.newT (Hf := Hf) (F := F) (H := H) rel (Step.refl _ _ _) hT (.cons rx (.cons ry .nil))
    obtain ⟨Hf', s1, rel', st', re, rf⟩ := g.opd
    refine pour_rep (vs := vs) (ws := ws) (dv := dv ++ [.tup [v, w]]) (by simpa using h) (hx.mono st'.hf) (hy.mono st'.hf) ((rd.mono st'.hf).append (.cons (rf 0 rfl) .nil)) rel' (st.trans st') fun Hf2 H2 done2 r2 t2 s2 q2 => ?_
    refine k Hf2 H2 done2 r2 t2 ((HSub.upd hT).trans s2) ?_
    rw [show pairUp (v :: vs) (w :: ws) = .tup [v, w] :: pairUp vs ws from rfl]
    rw [List.append_assoc] at q2
    exact q2
theorem s_lzip (c : Ctx free D n N sc X) {b : Bool} {x y : CE} {lp zp kp cp pz p : Pos} {kk : Nat} (g1 : glB sc "list" = true) (m1 : ("list" : Str) ∈ free) (g2 : glB sc "zip" = true) (m2 : ("zip" : Str) ∈ free)
    (hx : PE X x.py (tEv X.K D x)) (hy : PE X y.py (tEv X.K D y)) : PE X (CE.lzip b lp zp x y kp cp kk pz p).py (tEv X.K D (.lzip b lp zp x y kp cp kk pz p)) := by
  refine peBy (pe_lzip b c.calm (c.gl g1) (c.fre _ m1) (c.gl g2) (c.fre _ m2) hx hy (star_cons x _ _) (star_cons y _ _)) fun σ H Q ⟨S, Hf, F, r, S', rel, he, q⟩ => ?_
  unfold ev at he
  rw [Option.bind_eq_some_iff] at he
  obtain ⟨⟨⟨d1, v1⟩, S1⟩, e1, he⟩ := he
  rw [Option.bind_eq_some_iff] at he
  obtain ⟨⟨⟨d2, v2⟩, S2⟩, e2, he⟩ := he
  refine ⟨S, Hf, F, _, S1, rel, e1, fun u H1 Hf1 F1 a1 p1 => ?_⟩
  obtain ⟨Hf1', s1, rel1, st1, re1, rf1⟩ := a1.opd
  refine ⟨S1, Hf1', F1, _, S2, rel1, e2, fun w H2 Hf2 F2 a2 p2 => ?_⟩
  obtain ⟨Hf2', s2, rel2, st2, re2, rf2⟩ := a2.opd
  have pure2 : (CE.lzip b lp zp x y kp cp kk pz p).pure = true → HSub H H2 := fun hp => by
    unfold CE.pure at hp
    rw [Bool.and_eq_true] at hp
    exact (p1 hp.1).trans (p2 hp.2)
  have fin : ∀ {vs ws : List Val} {xs ys : List V}, vs.length = ws.length → RepL X.K Hf2' vs xs → RepL X.K Hf2' ws ys → some (((.own 1, .lst (pairUp vs ws)) : Res), S2) = some (r, S') → pourS (fun done H3 => ∀ p, H3 p = none → Q (.ref p) (upd H3 p (.lst done))) H2 xs ys [] := fun {vs ws xs ys} hl h1 h2 e => by
    obtain ⟨rfl, rfl⟩ := Prod.mk.inj (Option.some.inj e)
    refine pour_rep hl h1 h2 .nil rel2 (st1.trans st2) fun Hf3 H3 done r3 t3 s3 q3 p' hp' => ?_
    rw [List.nil_append] at q3
    exact q _ _ Hf3 F2 (Gives.newL r3 t3 hp' q3) fun hp => (pure2 hp).trans (s3.trans (HSub.upd hp'))
  cases d1 with
  | bor => cases he
  | own o1 =>
    cases d2 with
    | bor => cases v1 <;> cases he
    | own o2 =>
      cases v1 with
      | lst vs =>
        cases v2 with
        | lst ws =>
          have he : gd (vs.length == ws.length) (some (((.own 1, .lst (pairUp vs ws)) : Res), S2)) = some (r, S') := he
          rw [gd_some] at he
          have hl : vs.length = ws.length := by simpa using he.1
          cases (rf1 o1 rfl).mono st2.hf with
          | lst hd l =>
            cases rf2 o2 rfl with
            | lst hd2 l2 => exact ⟨_, _, _, _, rfl, rfl, .inl ⟨(rdL_mono rel2.sub hd).sq, (rdL_mono rel2.sub hd2).sq⟩, by rw [l.length, l2.length]; exact hl, fin hl l l2 he.2⟩
        | _ => cases he
      | tup vs =>
        cases v2 with
        | tup ws =>
          have he : gd (vs.length == ws.length) (some (((.own 1, .lst (pairUp vs ws)) : Res), S2)) = some (r, S') := he
          rw [gd_some] at he
          have hl : vs.length = ws.length := by simpa using he.1
          cases (rf1 o1 rfl).mono st2.hf with
          | tup hd l =>
            cases rf2 o2 rfl with
            | tup hd2 l2 => exact ⟨_, _, _, _, rfl, rfl, .inr ⟨sqT_mono rel2.sub hd, sqT_mono rel2.sub hd2⟩, by rw [l.length, l2.length]; exact hl, fin hl l l2 he.2⟩
        | _ => cases he
      | _ => cases he
/-! ### dict(TABLE) -/
theorem tab_vals {K : Frag} {w : World} {Pr : Program} : ∀ {kvs : List (Str × Val)} {es : List DictEntry}, TabL K kvs es → PySem.W.KeysLit w.params es → ∃ (ks : List (Key × V)) (vs : List (Key × Value)), RepK K (fun _ => none) (kvs.map fun q => (.inr q.1, q.2)) ks ∧ KV ks vs ∧ Pairs (mixKind Pr w) es vs ∧ vs.map (·.1) = kvs.map fun q => .inr q.1
  | _, _, .nil, _ => ⟨[], [], .nil, .nil, .nil, rfl⟩
  | _, _, .cons (k := k) (t := t) (y := y) (e := e) h1 h2 h3 r, lit => by
    obtain ⟨ks, vs, a1, a2, a3, a4⟩ := tab_vals (w := w) (Pr := Pr) r lit.2
    refine ⟨(.inr k, y) :: ks, (.inr k, e.val) :: vs, .cons h3 a1, .cons ⟨rfl, h2⟩ a2, .cons ?_ rfl a3, by rw [List.map_cons, List.map_cons, a4]⟩
    show keyIs (.inr k) e.key = true
    rw [h1]
    exact keyIs_str k t
theorem tab_keys {w : World} {Pr : Program} : ∀ {es : List DictEntry}, PySem.W.KeysLit w.params es → ∀ e ∈ es, ∃ k, (mixKind Pr w).is k e.key = true ∧ e.hash = (mixKind Pr w).hash k := fun lit e he => by
  obtain ⟨x, t, h1, h2⟩ := lit.all e he
  refine ⟨.inr x, ?_, ?_⟩
  · show keyIs (.inr x) e.key = true
    rw [h1]
    exact keyIs_str x t
  · rw [h2]
    rfl
theorem s_dcp (c : Ctx free D n N sc X) {x : Str} {dp xp p : Pos} (g1 : glB sc "dict" = true) (m1 : ("dict" : Str) ∈ free) (g2 : glB sc x = true) (ok : okName x = true) : PE X (CE.dcp dp xp x p).py (tEv X.K D (.dcp dp xp x p)) := by
  refine ⟨fun pins s σ H Q I h => ?_⟩
  obtain ⟨S, Hf, F, r, S', rel, he, q⟩ := h
  unfold ev at he
  rw [Option.map_eq_some_iff] at he
  obtain ⟨kvs, e1, he⟩ := he
  obtain ⟨rfl, rfl⟩ := Prod.mk.inj he
  obtain ⟨d, es, k, hm, kd, tl, nd, sm⟩ := c.tab x kvs e1
  obtain ⟨ks, vs, a1, a2, a3, a4⟩ := tab_vals (w := X.w) (Pr := X.prog) tl kd.lit
  have lenV : vs.length ≤ 1000 := by
    have := congrArg List.length a4
    simp only [List.length_map] at this
    omega
  have lenK : ks.length ≤ 1000 := by rw [Paired.length a2]; exact lenV
  have dd : s.heap.DictOf (mixKind X.prog X.w) d vs := ⟨_, es, k, I.kIn d _ kd.at_, ⟨rfl, rfl, rfl⟩, rfl, fun e he => tab_keys kd.lit e (Array.mem_toList_iff.mpr he), a3, by
    rw [a4]
    unfold List.Nodup at nd ⊢
    rw [List.pairwise_map] at nd ⊢
    exact nd.imp fun h e => h (by injection e)⟩
  refine Call_ (ld_blt I (c.gl g1) (c.fre _ m1) PyProof.Rows.boot_dict (PyProof.Rows.callWith_type1 (args_cons (thn ((pe_glob (X := X) (x := x) (pos := xp) (v := .ref d) (c.gl g2) hm rfl (okName_ok ok).1).run pins s σ H (fun y H1 => y = .ref d ∧ H1 = H) I ⟨rfl, rfl⟩) fun u s1 ⟨y, H1, I1, r1, ey, eH⟩ => args_nil ?_) rfl) rfl))
  subst ey eH
  cases r1
  have dd1 : s1.heap.DictOf (mixKind X.prog X.w) d vs := ⟨_, es, k, I1.kIn d _ kd.at_, ⟨rfl, rfl, rfl⟩, rfl, fun e he => tab_keys kd.lit e (Array.mem_toList_iff.mpr he), a3, dd.choose_spec.choose_spec.choose_spec.2.2.2.2.2⟩
  refine kt_call_dict kd.low dd1 (Nat.le_trans lenV (by decide)) fun h' dd' hs => ?_
  have hn : H1 s1.heap.objs.size = none := I1.hok.fresh (Nat.le_refl _)
  have I2 : Inv X pins σ (upd H1 s1.heap.objs.size (.dK ks)) { s1 with heap := h' } := I1.laid (a := s1.heap.objs.size) (o := .dK ks) (t' := s1.toks) (fun b u hu => (hs.2 b (Nat.ne_of_lt (Heap.lt_size hu))).trans (Heap.get?_push_of_some _ hu)) (Nat.le_refl _) (dk_new (Nat.le_trans lenK (by decide)) (beq_eq_false_iff_ne.mpr (Ne.symm (Nat.ne_of_lt I1.big))) a2 dd')
  refine ⟨.ref s1.heap.objs.size, _, I2, rfl, ?_⟩
  have rk : RepK X.K Hf (kvs.map fun q => (.inr q.1, q.2)) ks := a1.mono fun _ _ e => by cases e
  have hpF : s1.heap.objs.size ∉ F := fun z => by obtain ⟨o, e⟩ := rel.dom _ z; rw [e] at hn; cases hn
  have hf : Hf s1.heap.objs.size = none := by
    cases z : Hf s1.heap.objs.size with
    | none => rfl
    | some o => rw [rel.sub _ o z] at hn; cases hn
  refine q _ _ Hf F ⟨rel.upd hn, (Step.refl Hf F H1).upd hn, [s1.heap.objs.size], .dic upd_same rk.ownK, ?_, ?_, ?_⟩ fun _ => HSub.upd hn
  · rw [List.nodup_append]
    refine ⟨rel.nd, by simp, fun b hb d hd e => ?_⟩
    have : d = s1.heap.objs.size := by simpa using hd
    exact hpF (this ▸ e ▸ hb)
  · intro b hb
    have : b = s1.heap.objs.size := by simpa using hb
    rw [this]; exact hf
  · intro b hb
    have : b = s1.heap.objs.size := by simpa using hb
    rw [this]; exact .inr hn
/-! ### xs[::-1] -/
theorem s_rev {a : CE} {k : Nat} {p1 p2 p3 p : Pos} (ha : PE X a.py (tEv X.K D a)) : PE X (CE.rev a k p1 p2 p3 p).py (tEv X.K D (.rev a k p1 p2 p3 p)) := by
  refine peBy (pe_revA ha) fun σ H Q ⟨S, Hf, F, r, S', rel, he, q⟩ => ?_
  unfold ev at he
  rw [Option.bind_eq_some_iff] at he
  obtain ⟨⟨⟨m, v⟩, S1⟩, e1, he⟩ := he
  refine ⟨S, Hf, F, _, S1, rel, e1, fun x H1 Hf1 F1 g1 q1 => ?_⟩
  obtain ⟨Hf1', s1, rel1, st1, re1, rf1⟩ := g1.opd
  have pu : (CE.rev a k p1 p2 p3 p).pure = true → HSub H H1 := fun hp => q1 (by unfold CE.pure at hp; exact hp)
  cases m with
  | bor => cases v <;> cases he
  | own d =>
    cases v with
    | lst vs =>
      obtain ⟨rfl, rfl⟩ := Prod.mk.inj (Option.some.inj he)
      cases rf1 d rfl with
      | lst hd l => exact ⟨_, _, rfl, .inl ⟨(rdL_mono rel1.sub hd).sq, fun p hp => q _ _ Hf1' F1 (Gives.newL rel1 st1 hp l.reverse) fun h => (pu h).trans (HSub.upd hp)⟩⟩
    | tup vs =>
      obtain ⟨rfl, rfl⟩ := Prod.mk.inj (Option.some.inj he)
      cases rf1 d rfl with
      | tup hd l =>
        refine ⟨_, _, rfl, .inr ⟨sqT_mono rel1.sub hd, fun p hp => ?_⟩⟩
        have g := Gives.newT (Hf := Hf) (F := F) (H := H) rel1 st1 hp l.reverse
        obtain ⟨Hf2, s2, rel2, st2, re2, rf2⟩ := g.opd
        exact q _ _ Hf2 F1 (.frz rel2 st2 (rf2 0 rfl) (.inl rfl)) fun h => (pu h).trans (HSub.upd hp)
    | _ => cases he
/-! ### sorted({..}) -/
def MkS (w : World) (D0 : Addr) (Hf : Hp) (done : List Val) (ob : HO) : Prop := ∃ (ks : List Int) (S : Int → Bool) (n : Nat), done = ks.map .int ∧ ob = SetO w D0 S n ∧ (∀ k, S k = decide (k ∈ ks)) ∧ n ≤ ks.length
theorem MkS.mono {w : World} {D0 : Addr} {Hf Hf' : Hp} {done : List Val} {ob : HO} (s : HSub Hf Hf') (h : MkS w D0 Hf done ob) : MkS w D0 Hf' done ob := h
theorem ints_split {a b : List Val} {ks : List Int} (h : a ++ b = ks.map .int) : ∃ k1 k2, a = k1.map .int ∧ b = k2.map .int ∧ ks = k1 ++ k2 := by
  rw [eq_comm, List.map_eq_append_iff] at h
  obtain ⟨k1, k2, e1, e2, e3⟩ := h
  exact ⟨k1, k2, e2.symm, e3.symm, e1⟩
theorem int_inj {a b : List Int} (h : a.map Val.int = b.map Val.int) : a = b := List.map_inj_right (fun x y e => by injection e) |>.mp h
theorem ss_turn {w : World} {K : Frag} {Hf0 Hf H0 H Hfi H' : Hp} {F0 F : List Addr} {D0 : Addr} {pu : Bool} {τ : L2.St} {done o vs' : List Val} {S S1 : Slots} {ob : HO} {elt : CE} {t : CT} {ifs : CEs} {vs : List Nat} {i : Nat} {v : Val} {x : V}
    (a : AccG (MkS w D0) K Hf0 F0 H0 D0 pu τ done S Hf F ob H) (s : HSub Hfi Hf) (y : YItem K Hfi vs' i H x H') (hv : vs'[i]? = some v) (e : lcTurn D elt t ifs vs v S = some (o, S1)) (hsl : ∀ j ∈ t.slots, j ∈ vs) (hp : pu = true → (elt.pure && ifs.pure) = true)
    (hz : (done ++ o).length ≤ 4000) (hint : ∃ ks : List Int, done ++ o = ks.map .int) {τw : L2.St} (hw : wipe τ vs = τw)
    {Nx : Hp → Prop} (nx : ∀ Hf2 F2 ob2 H2 τ2, wipe τ2 vs = τw → AccG (MkS w D0) K Hf0 F0 H0 D0 pu τw (done ++ o) S1 Hf2 F2 ob2 H2 → HSub Hf Hf2 → Nx H2) :
    tT K t x τ H' fun σ2 H2 => wipe σ2 vs = τw ∧ tTests K D ifs σ2 H2 fun b H3 => if b = true then tEv K D elt σ2 H3 fun y H4 => addS w D0 H4 Nx y else Nx H3 := by
  obtain ⟨v', Hf', ev', s', a', rv⟩ := a.item MkS.mono s y
  rw [hv] at ev'
  cases ev'
  unfold lcTurn at e
  rw [Option.bind_eq_some_iff] at e
  obtain ⟨S2, e1, e⟩ := e
  rw [Option.bind_eq_some_iff] at e
  obtain ⟨⟨b, S3⟩, e2, e⟩ := e
  refine ⟨S, Hf', F, v, S2, a'.rel, rv, e1, fun σ2 F2 rel2 sub2 wp => ⟨(wp vs hsl).trans hw, ?_⟩⟩
  have st2 : Step Hf' F H' Hf' F2 H' := ⟨HSub.refl _, fun _ _ e _ => e, fun _ _ _ _ => rfl, fun a h => .inl (sub2 a h)⟩
  have a2 := a'.step MkS.mono (b := true) rel2 st2 (fun _ => HSub.refl _) (fun _ => rfl)
  refine ⟨S2, Hf', F2, b, S3, rel2, e2, fun H3 Hf3 F3 rel3 st3 p3 => ?_⟩
  have a3 := a2.step MkS.mono (b := ifs.pure) rel3 st3 p3 (fun h => by have := hp h; rw [Bool.and_eq_true] at this; exact this.2)
  dsimp only
  cases b with
  | false =>
    rw [if_neg (by decide)]
    obtain ⟨rfl, rfl⟩ := Prod.mk.inj (Option.some.inj (show some (([] : List Val), wipeS S3 vs) = some (o, S1) from e))
    rw [List.append_nil] at nx
    obtain ⟨F4, a4⟩ := a3.wipe vs
    rw [(wp vs hsl).trans hw] at a4
    exact nx _ _ _ _ σ2 ((wp vs hsl).trans hw) a4 (s'.trans st3.hf)
  | true =>
    rw [if_pos rfl]
    have e : ((ev D elt S3).bind fun r => match r.1.1 with
      | .own _ => some ([r.1.2], wipeS r.2 vs)
      | .bor => none) = some (o, S1) := e
    rw [Option.bind_eq_some_iff] at e
    obtain ⟨⟨⟨m, u⟩, S4⟩, e3, e⟩ := e
    cases m with
    | bor => cases e
    | own d =>
      obtain ⟨rfl, rfl⟩ := Prod.mk.inj (Option.some.inj e)
      refine ⟨S3, Hf3, F3, _, S4, rel3, e3, fun y H4 Hf4 F4 g4 p4 => ?_⟩
      obtain ⟨Hf4', s4, rel4, st4, re4, rf4⟩ := g4.opd
      have a4 := a3.step MkS.mono (b := elt.pure) rel4 st4 p4 (fun h => by have := hp h; rw [Bool.and_eq_true] at this; exact this.1)
      obtain ⟨ks, Sx, n, ed, eo, hS, hn⟩ := a4.rep
      subst eo
      obtain ⟨kk, hk⟩ := hint
      obtain ⟨k1, k2, f1, f2, f3⟩ := ints_split hk
      have ek : ks = k1 := int_inj (ed.symm.trans f1)
      subst ek
      obtain ⟨j, rfl⟩ : ∃ j, k2 = [j] := by
        cases k2 with
        | nil => cases f2
        | cons j r =>
          cases r with
          | nil => exact ⟨j, rfl⟩
          | cons _ _ => simp at f2
      have eu : u = .int j := by simpa using f2
      subst eu
      have ey : y = .int j := by
        cases rf4 d rfl with
        | int _ => rfl
      have len : n + 1 < scanBound := by
        have h1 : done.length = ks.length := by rw [ed, List.length_map]
        rw [List.length_append, List.length_singleton] at hz
        show n + 1 < 4096
        omega
      refine ⟨j, Sx, n, ey, a4.at_, len, ?_⟩
      have mk : MkS w D0 Hf4' (done ++ [.int j]) (SetO w D0 (fun z => Sx z || decide (z = j)) (if Sx j = true then n else n + 1)) := ⟨ks ++ [j], _, _, by rw [ed, List.map_append]; rfl, rfl, fun z => by
        rw [hS z]
        by_cases h1 : z ∈ ks <;> by_cases h2 : z = j <;> simp [h1, h2], by
        rw [List.length_append, List.length_singleton]
        split <;> omega⟩
      obtain ⟨F6, a6⟩ := (a4.push mk).wipe vs
      rw [(wp vs hsl).trans hw] at a6
      exact nx _ _ _ _ σ2 ((wp vs hsl).trans hw) a6 (s'.trans (st3.hf.trans st4.hf))
theorem rep_ints {K : Frag} {H : Hp} : ∀ (ks : List Int), RepL K H (ks.map Val.int) (ks.map V.int)
  | [] => .nil
  | k :: r => .cons (.int k) (rep_ints r)
theorem s_ssc (c : Ctx free D n N sc X) {np : Pos} {elt : CE} {t t1 : CT} {it it1 : CI} {ifs ifs1 : CEs} {scp : Scope} {own : List (Str × Nat)} {vs1 : List Nat} {p q : Pos} (gs : glB sc "sorted" = true) (ms : ("sorted" : Str) ∈ free) (ok : blkC N sc scp own = true) (hsl : ∀ j ∈ t.slots, j ∈ own.map (·.2)) (hsl1 : ∀ j ∈ t1.slots, j ∈ vs1) (hv : ∀ i ∈ vs1, i ∈ own.map (·.2))
    (hi : PI X t.py it.py (tI X.K D it))
    (hg : ∀ (s : Shared) (H : Hp) (C : Addr) (cl : List (Str × Addr)) (fp : List Addr), PG (X.blk s H scp (compEnvC scp cl C X.env) fp) t.py (tT X.K t)) (ht : ∀ (s : Shared) (H : Hp) (C : Addr) (cl : List (Str × Addr)) (fp : List Addr), PTs (X.blk s H scp (compEnvC scp cl C X.env) fp) ifs.py (tTests X.K D ifs))
    (hi1 : ∀ (s : Shared) (H : Hp) (C : Addr) (cl : List (Str × Addr)) (fp : List Addr), PI (X.blk s H scp (compEnvC scp cl C X.env) fp) t1.py it1.py (tI X.K D it1))
    (hg1 : ∀ (s : Shared) (H : Hp) (C : Addr) (cl : List (Str × Addr)) (fp : List Addr), PG (X.blk s H scp (compEnvC scp cl C X.env) fp) t1.py (tT X.K t1)) (ht1 : ∀ (s : Shared) (H : Hp) (C : Addr) (cl : List (Str × Addr)) (fp : List Addr), PTs (X.blk s H scp (compEnvC scp cl C X.env) fp) ifs1.py (tTests X.K D ifs1))
    (he : ∀ (s : Shared) (H : Hp) (C : Addr) (cl : List (Str × Addr)) (fp : List Addr), PE (X.blk s H scp (compEnvC scp cl C X.env) fp) elt.py (tEv X.K D elt)) :
    PE X (CE.ssc np elt t it ifs t1 it1 ifs1 scp own vs1 p q).py (tEv X.K D (.ssc np elt t it ifs t1 it1 ifs1 scp own vs1 p q)) := by
  have blk : BlkOk X.N X.env.scope scp own := by rw [c.hN, c.sc]; exact blkOk_by ok
  have comp : PE X (scE elt.py t.py it.py t1.py it1.py ifs.py ifs1.py scp p) (tSc2 X.w (tI X.K D it) (tT X.K t) (tTests X.K D ifs) (tI X.K D it1) (tT X.K t1) (tTests X.K D ifs1) (tEv X.K D elt) (own.map (·.2)) vs1) :=
    ⟨fun pins s σ H Q I h => sc2_core (p' := p) c.calm (by rw [c.hN]; exact c.nd) I hi blk hv hg ht hi1 hg1 ht1 he (fun x => folded_not it _ x) (fun _ x => folded_not it1 _ x) h⟩
  have okn := okName_ok (bf_ok .sorted)
  refine peBy (pe_callB (cr_sortS c.calm) (c.gl gs) (c.fre _ ms) (boot_bf .sorted) (pa_cons comp pa_nil rfl) okn.2.2 okn.1 rfl rfl) fun σ H Q ⟨S, Hf, F, r, S', rel, hev, qq⟩ => ?_
  unfold ev at hev
  rw [Option.bind_eq_some_iff] at hev
  obtain ⟨⟨vs, S1⟩, e1, hev⟩ := hev
  rw [Option.bind_eq_some_iff] at hev
  obtain ⟨⟨ws, S2⟩, e2, hev⟩ := hev
  rw [Option.bind_eq_some_iff] at hev
  obtain ⟨ks, e3, hev⟩ := hev
  rw [gd_some] at hev
  obtain ⟨fl, hev⟩ := hev
  obtain ⟨rfl, rfl⟩ := Prod.mk.inj (Option.some.inj hev)
  have fl := of_decide_eq_true fl
  have hws : ws = ks.map .int := intsOf_map e3
  have lws : ws.length ≤ 4000 := by rw [hws, List.length_map]; exact fl
  have e2 : compL (lc2Turn D elt t ifs t1 it1 ifs1 (own.map (·.2)) vs1) vs (wipeS S1 (own.map (·.2))) = some (ws, S2) := e2
  refine ⟨S, Hf, F, vs, S1, rel, e1, fun J H1 Hf1 F1 rel1 st1 p1 w => fun D0 hD => ?_⟩
  obtain ⟨F1', relw, subw⟩ := rel1.wipe (own.map (·.2))
  have relw2 := relw.anyAt (own.map (·.2)) fun i hi hl => wipeS_at hi (by rw [wipeS_len] at hl; exact hl)
  let vl := own.map (·.2)
  let pu := elt.pure && ifs.pure && it1.pure && ifs1.pure
  have part : ∀ {a b : List Val}, a ++ b = ws → ∃ k : List Int, a = k.map .int := fun h => by
    rw [hws] at h
    obtain ⟨k1, _, h1, _⟩ := ints_split h
    exact ⟨k1, h1⟩
  have a0 : AccG (MkS X.w D0) X.K Hf1 F1' H1 D0 pu (wipe σ vl) [] (wipeS S1 vl) Hf1 F1' (SetO X.w D0 (fun _ => false) 0) (upd H1 D0 (SetO X.w D0 (fun _ => false) 0)) := AccG.start relw2 hD ⟨[], _, 0, rfl, rfl, fun k => by simp, Nat.le_refl _⟩
  refine it_loop (B := fun Nx x H' => tT X.K t x (wipe σ vl) H' fun σ2 H2 => wipe σ2 vl = wipe σ vl ∧ tTests X.K D ifs σ2 H2 fun b H3 => if b = true then tI X.K D it1 σ2 H3 fun J1 H4 => walks J1 (fun Ny y H5 => tT X.K t1 y (wipe σ2 vs1) H5 fun σ3 H6 => wipe σ3 vs1 = wipe σ2 vs1 ∧ tTests X.K D ifs1 σ3 H6 fun b H7 =>
      if b = true then tEv X.K D elt σ3 H7 fun z H8 => addS X.w D0 H8 Ny z else Ny H7) H4 Nx else Nx H3) w
    (fun i H' => ∃ Si Hfi Fi ob done rest, AccG (MkS X.w D0) X.K Hf1 F1' H1 D0 pu (wipe σ vl) done Si Hfi Fi ob H' ∧ compL (lc2Turn D elt t ifs t1 it1 ifs1 vl vs1) (vs.drop i) Si = some (rest, S2) ∧ done ++ rest = ws ∧ ∃ R, Si = wipeS R vl) ?_ ?_ ?_ ?_
  · exact ⟨_, _, _, _, [], ws, a0, by rw [List.drop_zero]; exact e2, rfl, _, rfl⟩
  · rintro i H' _ ⟨Si, Hfi, Fi, ob, done, rest, a, _⟩
    exact a.st.hf.trans a.rel.sub
  · rintro i x H2 H3 hi ⟨Si, Hfi, Fi, ob, done, rest, a, ec, ew, _⟩ yi
    obtain ⟨v, hv'⟩ : ∃ v, vs[i]? = some v := ⟨vs[i], List.getElem?_eq_getElem hi⟩
    obtain ⟨o, S3, rest', f1, f2, rfl⟩ := compL_step hv' ec
    have wiped := lc2Turn_wiped f1
    obtain ⟨v', Hf', ev', s', a', rv⟩ := a.item MkS.mono a.st.hf yi
    rw [hv'] at ev'
    cases ev'
    unfold lc2Turn at f1
    rw [Option.bind_eq_some_iff] at f1
    obtain ⟨T2, g1, f1⟩ := f1
    rw [Option.bind_eq_some_iff] at f1
    obtain ⟨⟨b, T3⟩, g2, f1⟩ := f1
    refine ⟨Si, Hf', Fi, v, T2, a'.rel, rv, g1, fun σ2 F2 rel2 sub2 wp => ⟨(wp vl hsl).trans wipe_wipe, ?_⟩⟩
    have st2 : Step Hf' Fi H3 Hf' F2 H3 := ⟨HSub.refl _, fun _ _ e _ => e, fun _ _ _ _ => rfl, fun a h => .inl (sub2 a h)⟩
    have a2 := a'.step MkS.mono (b := true) rel2 st2 (fun _ => HSub.refl _) (fun _ => rfl)
    have pus : pu = true → elt.pure = true ∧ ifs.pure = true ∧ it1.pure = true ∧ ifs1.pure = true := fun h => by
      have h : (elt.pure && ifs.pure && it1.pure && ifs1.pure) = true := h
      rw [Bool.and_eq_true, Bool.and_eq_true, Bool.and_eq_true] at h
      exact ⟨h.1.1.1, h.1.1.2, h.1.2, h.2⟩
    refine ⟨T2, Hf', F2, b, T3, rel2, g2, fun H4 Hf4 F4 rel4 st4 p4 => ?_⟩
    have a4 := a2.step MkS.mono (b := ifs.pure) rel4 st4 p4 (fun h => (pus h).2.1)
    have fin : ∀ {τ : L2.St} {So : Slots} {Hf5 : Hp} {F5 : List Addr} {ob5 : HO} {H5 : Hp}, wipe τ vl = wipe σ vl → wipeS So vl = S3 → AccG (MkS X.w D0) X.K Hf1 F1' H1 D0 pu τ (done ++ o) So Hf5 F5 ob5 H5 →
        ∃ Si Hfi Fi ob done' rest, AccG (MkS X.w D0) X.K Hf1 F1' H1 D0 pu (wipe σ vl) done' Si Hfi Fi ob H5 ∧ compL (lc2Turn D elt t ifs t1 it1 ifs1 vl vs1) (vs.drop (i + 1)) Si = some (rest, S2) ∧ done' ++ rest = ws ∧ ∃ R, Si = wipeS R vl := by
      intro τ So Hf5 F5 ob5 H5 hw hS a5
      obtain ⟨F6, a6⟩ := a5.wipe vl
      rw [hw, hS] at a6
      exact ⟨S3, Hf5, F6, ob5, done ++ o, rest', a6, f2, by rw [List.append_assoc]; exact ew, wiped⟩
    dsimp only
    cases b with
    | false =>
      rw [if_neg (by decide)]
      obtain ⟨e5, e6⟩ := Prod.mk.inj (Option.some.inj (show some (([] : List Val), wipeS T3 vl) = some (o, S3) from f1))
      subst e5
      rw [List.append_nil] at fin
      exact fin ((wp vl hsl).trans wipe_wipe) e6 a4
    | true =>
      rw [if_pos rfl]
      have f1 : ((evI D it1 T3).bind fun q1 => (compL (lcTurn D elt t1 ifs1 vs1) q1.1 (wipeS q1.2 vs1)).map fun z => (z.1, wipeS z.2 vl)) = some (o, S3) := f1
      rw [Option.bind_eq_some_iff] at f1
      obtain ⟨⟨us, T4⟩, g3, f1⟩ := f1
      rw [Option.map_eq_some_iff] at f1
      obtain ⟨⟨o', T5⟩, g4, f1⟩ := f1
      obtain ⟨rfl, e7⟩ := Prod.mk.inj f1
      refine ⟨T3, Hf4, F4, us, T4, rel4, g3, fun J1 H5 Hf5 F5 rel5 st5 p5 w1 => ?_⟩
      have a5 := a4.step MkS.mono (b := it1.pure) rel5 st5 p5 (fun h => (pus h).2.2.1)
      obtain ⟨F6, a6⟩ := a5.wipe vs1
      refine it_loop (B := fun Ny y H5 => tT X.K t1 y (wipe σ2 vs1) H5 fun σ3 H6 => wipe σ3 vs1 = wipe σ2 vs1 ∧ tTests X.K D ifs1 σ3 H6 fun b H7 => if b = true then tEv X.K D elt σ3 H7 fun z H8 => addS X.w D0 H8 Ny z else Ny H7) w1
        (fun j H' => ∃ Sj Hfj Fj ob1 done1 rest1, AccG (MkS X.w D0) X.K Hf1 F1' H1 D0 pu (wipe σ2 vs1) done1 Sj Hfj Fj ob1 H' ∧ HSub Hf5 Hfj ∧ compL (lcTurn D elt t1 ifs1 vs1) (us.drop j) Sj = some (rest1, T5) ∧ done1 ++ rest1 = done ++ o') ?_ ?_ ?_ ?_
      · exact ⟨_, _, _, _, done, o', a6, HSub.refl _, by rw [List.drop_zero]; exact g4, rfl⟩
      · rintro j H' _ ⟨Sj, Hfj, Fj, ob1, done1, rest1, b1, b2, _⟩
        exact b2.trans b1.rel.sub
      · rintro j y H7 H8 hj ⟨Sj, Hfj, Fj, ob1, done1, rest1, b1, b2, b3, b4⟩ yj
        obtain ⟨u, hu⟩ : ∃ v, us[j]? = some v := ⟨us[j], List.getElem?_eq_getElem hj⟩
        obtain ⟨o1, S6, rest2, k1, k2, rfl⟩ := compL_step hu b3
        have all : done1 ++ o1 ++ (rest2 ++ rest') = ws := by
          rw [← ew, ← List.append_assoc, ← List.append_assoc, ← b4]
          simp only [List.append_assoc]
        refine ss_turn b1 b2 yj hu k1 hsl1 (fun h => by rw [(pus h).1, (pus h).2.2.2]; rfl) ?_ (part all) wipe_wipe fun Hf9 F9 ob9 H9 τ9 wp9 a9 s9 => ?_
        · have z := congrArg List.length all
          rw [List.length_append] at z
          omega
        · exact ⟨S6, Hf9, F9, ob9, done1 ++ o1, rest2, a9, b2.trans s9, k2, by rw [List.append_assoc]; exact b4⟩
      · rintro H7 ⟨Sj, Hfj, Fj, ob1, done1, rest1, b1, b2, b3, b4⟩
        obtain ⟨rfl, rfl⟩ := compL_end b3
        rw [List.append_nil] at b4
        subst b4
        exact fin ((wipe_sub hv).trans ((wp vl hsl).trans wipe_wipe)) e7 b1
  · rintro H2 ⟨Si, Hfi, Fi, ob, done, rest, a, ec, ew, R, eR⟩
    obtain ⟨rfl, rfl⟩ := compL_end ec
    rw [List.append_nil] at ew
    have hw0 : ∀ i ∈ vl, i < S2.length → S2[i]? = some none := by
      intro i hi hl
      rw [eR] at hl ⊢
      exact wipeS_at hi (by rw [wipeS_len] at hl; exact hl)
    have relF := Rel.ofWipe vl hw0 a.rel
    obtain ⟨kd, Sd, nn, ed, eo, hS, hn⟩ := a.rep
    subst eo
    have ek : kd = ks := int_inj (ed.symm.trans (ew.trans hws))
    subst ek
    refine ⟨D0, Sd, nn, rfl, a.at_, fun ns pp rise mem _ hp => ?_⟩
    have ens : ns = sortU kd := rise_uniq rise rise_sortU fun k => by rw [mem k, hS k, mem_sortU, decide_eq_true_eq]
    subst ens
    have stF : Step Hf F H Hfi Fi H2 := st1.trans ⟨a.st.hf, fun b o e n => a.st.fr b o e fun z => n (subw b z), fun b o e n => a.st.new b o e fun z => n (subw b z), fun b h => (a.st.own b h).imp (subw b) id⟩
    refine qq _ _ Hfi Fi (Gives.newL relF stF hp (rep_ints _)) fun hpu => ?_
    unfold CE.pure at hpu
    rw [Bool.and_eq_true, Bool.and_eq_true, Bool.and_eq_true, Bool.and_eq_true] at hpu
    exact ((p1 hpu.1.1.1.2).trans (a.pu (by show (elt.pure && ifs.pure && it1.pure && ifs1.pure) = true; rw [hpu.1.1.1.1, hpu.1.1.2, hpu.1.2, hpu.2]; rfl))).trans (HSub.upd hp)
end
end BV
/-! Places: a slot and a path into what it owns. -/
namespace BV
open PySem PySem.Spec PyProof.Rows L2
/-- one step along the heap -/
def StepH (H : Hp) (x : V) (k : Val) (z : V) : Prop := ∃ a, x = .ref a ∧ ((∃ ys m, H a = some (.lst ys) ∧ k = .int m ∧ atI ys m = some z) ∨ ∃ ks q, H a = some (.dK ks) ∧ BV.keyOf k = some q ∧ valV ks q = some z)
def WalkH (H : Hp) : V → List Val → V → Prop
  | x, [], y => x = y
  | x, k :: r, y => ∃ z, StepH H x k z ∧ WalkH H z r y
theorem StepH.mono {H H' : Hp} (s : HSub H H') {x : V} {k : Val} {z : V} (h : StepH H x k z) : StepH H' x k z := by
  obtain ⟨a, e, h⟩ := h
  refine ⟨a, e, ?_⟩
  rcases h with ⟨ys, m, h1, h2, h3⟩ | ⟨ks, q, h1, h2, h3⟩
  · exact .inl ⟨ys, m, s _ _ h1, h2, h3⟩
  · exact .inr ⟨ks, q, s _ _ h1, h2, h3⟩
theorem StepH.det {H : Hp} {x : V} {k : Val} {z z' : V} (h : StepH H x k z) (h' : StepH H x k z') : z = z' := by
  obtain ⟨a, e, h⟩ := h
  obtain ⟨a', e', h'⟩ := h'
  subst e
  cases e'
  rcases h with ⟨ys, m, h1, h2, h3⟩ | ⟨ks, q, h1, h2, h3⟩
  · rcases h' with ⟨ys', m', g1, g2, g3⟩ | ⟨ks', q', g1, g2, g3⟩
    · rw [h1] at g1
      cases g1
      subst h2
      cases g2
      rw [h3] at g3
      exact Option.some.inj g3
    · rw [h1] at g1; cases g1
  · rcases h' with ⟨ys', m', g1, g2, g3⟩ | ⟨ks', q', g1, g2, g3⟩
    · rw [h1] at g1; cases g1
    · rw [h1] at g1
      cases g1
      rw [h2] at g2
      cases g2
      rw [h3] at g3
      exact Option.some.inj g3
theorem WalkH.mono {H H' : Hp} (s : HSub H H') : ∀ {p : List Val} {x y : V}, WalkH H x p y → WalkH H' x p y
  | [], _, _, h => h
  | _ :: _, _, _, ⟨z, h1, h2⟩ => ⟨z, h1.mono s, WalkH.mono s h2⟩
theorem WalkH.det {H : Hp} : ∀ {p : List Val} {x y y' : V}, WalkH H x p y → WalkH H x p y' → y = y'
  | [], _, _, _, h, h' => h.symm.trans h'
  | _ :: _, _, _, _, ⟨z, h1, h2⟩, ⟨z', g1, g2⟩ => by
    have e := h1.det g1
    subst e
    exact WalkH.det h2 g2
theorem WalkH.snoc {H : Hp} {k : Val} {y : V} : ∀ {p : List Val} {x : V}, WalkH H x (p ++ [k]) y → ∃ z, WalkH H x p z ∧ StepH H z k y
  | [], x, ⟨z, h1, h2⟩ => by
    have h2 : z = y := h2
    subst h2
    exact ⟨x, rfl, h1⟩
  | _ :: _, _, ⟨z, h1, h2⟩ => by
    obtain ⟨w, g1, g2⟩ := WalkH.snoc h2
    exact ⟨w, ⟨z, h1, g1⟩, g2⟩
theorem getP_snoc {k : Val} {c : Val} : ∀ {p : List Val} {v : Val}, getP v (p ++ [k]) = some c → ∃ u, getP v p = some u ∧ getC u k = some c
  | [], v, h => by
    have h : (getC v k).bind (fun u => getP u []) = some c := h
    rw [Option.bind_eq_some_iff] at h
    obtain ⟨u, h1, h2⟩ := h
    cases h2
    exact ⟨v, rfl, h1⟩
  | j :: p, v, h => by
    have h : (getC v j).bind (fun u => getP u (p ++ [k])) = some c := h
    rw [Option.bind_eq_some_iff] at h
    obtain ⟨u, h1, h2⟩ := h
    obtain ⟨w, g1, g2⟩ := getP_snoc h2
    refine ⟨w, ?_, g2⟩
    show (getC v j).bind (fun u => getP u p) = some w
    rw [h1]
    exact g1
section
variable {K : Frag} {Hf H : Hp}
theorem OwnL.splitH {d : Nat} : ∀ {xs : List Val} {ys : List V} {G : List Addr} {j : Nat} {v : Val}, OwnL K Hf H d xs ys G → xs[j]? = some v →
    ∃ y G1 G2 G3, ys[j]? = some y ∧ G = G1 ++ G2 ++ G3 ∧ Own K Hf H d v y G2 ∧
      ∀ {Hf' H' : Hp} {u : Val} {G' : List Addr}, HSub Hf Hf' → (∀ a, (a ∈ G1 ∨ a ∈ G3) → ∀ o, H a = some o → H' a = some o) → Own K Hf' H' d u y G' → OwnL K Hf' H' d (xs.set j u) ys (G1 ++ G' ++ G3)
  | _, _, _, _, _, .nil, e => by simp at e
  | _, _, _, 0, _, .cons (x := x) (F := F) (G := G) h r, e => by
    simp at e; subst e
    refine ⟨x, [], F, G, rfl, rfl, h, fun s k q => ?_⟩
    exact .cons q (r.mono s fun a ha => k a (.inr ha))
  | _, _, _, j + 1, v, .cons (x := x) (F := F) (G := G) h r, e => by
    obtain ⟨z, F1, F2, F3, e1, e2, e3, e4⟩ := OwnL.splitH (j := j) (v := v) r (by simpa using e)
    refine ⟨z, F ++ F1, F2, F3, by simpa using e1, by rw [e2]; simp, e3, fun s k q => ?_⟩
    have := OwnL.cons (h.mono s fun a ha => k a (.inl (List.mem_append_left _ ha))) (e4 s (fun a ha => k a (ha.elim (fun z => .inl (List.mem_append_right _ z)) .inr)) q)
    simpa using this
theorem OwnK.splitH {d : Nat} {k : Key} {e : Key × Val} : ∀ {kvs : List (Key × Val)} {ks : List (Key × V)} {G : List Addr}, OwnK K Hf H d kvs ks G → (kvs.find? fun z => decide (z.1 = k)) = some e →
    ∃ y G1 G2 G3, valV ks k = some y ∧ G = G1 ++ G2 ++ G3 ∧ Own K Hf H d e.2 y G2 ∧
      ∀ {Hf' H' : Hp} {u : Val} {G' : List Addr}, HSub Hf Hf' → (∀ a, (a ∈ G1 ∨ a ∈ G3) → ∀ o, H a = some o → H' a = some o) → Own K Hf' H' d u y G' → OwnK K Hf' H' d (putF kvs k u) ks (G1 ++ G' ++ G3)
  | _, _, _, .nil, e => by simp at e
  | _, _, _, .cons (k := k') (v := v) (x := x) (vs := vs) (xs := xs) (F := F) (G := G) h r, q => by
    rw [List.find?_cons] at q
    by_cases c : k' = k
    · subst c
      simp only [decide_true] at q
      cases q
      refine ⟨x, [], F, G, ?_, rfl, h, @fun Hf' H' u' G' s kp q => ?_⟩
      · exact valV_pos rfl
      · have : putF ((k', v) :: vs) k' u' = (k', u') :: vs := by
          show (bif decide (k' = k') then _ else _) = _
          rw [decide_eq_true rfl]; rfl
        rw [this]
        exact .cons q (r.mono s fun a ha => kp a (.inr ha))
    · simp only [c, decide_false] at q
      obtain ⟨z, F1, F2, F3, e1, e2, e3, e4⟩ := OwnK.splitH r q
      refine ⟨z, F ++ F1, F2, F3, ?_, by rw [e2]; simp, e3, @fun Hf' H' u G' s kp q => ?_⟩
      · rw [valV_neg c]; exact e1
      · have t := OwnK.cons (k := k') (h.mono s fun a ha => kp a (.inl (List.mem_append_left _ ha))) (e4 s (fun a ha => kp a (ha.elim (fun z => .inl (List.mem_append_right _ z)) .inr)) q)
        have e : putF ((k', v) :: vs) k u = (k', v) :: putF vs k u := by
          show (bif decide (k' = k) then _ else _) = _
          rw [decide_eq_false c]; rfl
        rw [e]
        simpa using t
/-- one step into what is owned -/
theorem Own.step {d : Nat} {v k u : Val} {x : V} {G : List Addr} (h : Own K Hf H (d + 1) v x G) (g : getC v k = some u) :
    ∃ z A Gm B, StepH H x k z ∧ G = A ++ Gm ++ B ∧ Own K Hf H d u z Gm ∧
      ∀ {Hf' H' : Hp} {u' : Val} {G' : List Addr}, HSub Hf Hf' → (∀ a ∈ A ++ B, ∀ o, H a = some o → H' a = some o) → Own K Hf' H' d u' z G' → Own K Hf' H' (d + 1) (setC v k u') x (A ++ G' ++ B) := by
  cases h with
  | frz hd r =>
    exfalso
    rcases hd with z | z
    · cases z
    · cases v with
      | lst _ => cases z
      | dic _ => cases z
      | _ => cases k <;> cases g
  | lst ha l =>
    rename_i a xs ys F
    cases k with
    | int m =>
      have g : (ixN xs.length m).bind (fun j => xs[j]?) = some u := g
      rw [Option.bind_eq_some_iff] at g
      obtain ⟨j, e1, e2⟩ := g
      obtain ⟨z, G1, G2, G3, f1, f2, f3, f4⟩ := l.splitH e2
      refine ⟨z, a :: G1, G2, G3, ⟨a, rfl, .inl ⟨ys, m, ha, rfl, ?_⟩⟩, by rw [f2]; simp, f3, @fun Hf' H' u' G' s kp q => ?_⟩
      · unfold atI
        rw [l.length, e1]
        exact f1
      · have hs : setC (.lst xs) (.int m) u' = .lst (xs.set j u') := by
          show (match ixN xs.length m with
            | some n => Val.lst (xs.set n u')
            | none => Val.lst xs) = _
          rw [e1]
        rw [hs]
        exact .lst (kp a (by simp) _ ha) (f4 s (fun b hb => kp b (by simp only [List.cons_append, List.mem_cons, List.mem_append]; exact .inr hb)) q)
    | _ => cases g
  | dic ha l =>
    rename_i a kvs ks F
    have g : (BV.keyOf k).bind (fun q => (kvs.find? fun z => decide (z.1 = q)).map (·.2)) = some u := by
      cases k <;> exact g
    rw [Option.bind_eq_some_iff] at g
    obtain ⟨q, e1, e2⟩ := g
    rw [Option.map_eq_some_iff] at e2
    obtain ⟨e, e2, rfl⟩ := e2
    obtain ⟨z, G1, G2, G3, f1, f2, f3, f4⟩ := l.splitH e2
    refine ⟨z, a :: G1, G2, G3, ⟨a, rfl, .inr ⟨ks, q, ha, e1, f1⟩⟩, by rw [f2]; simp, f3, @fun Hf' H' u' G' s kp q' => ?_⟩
    have hs : setC (.dic kvs) k u' = .dic (putF kvs q u') := by
      show (match BV.keyOf k with
        | some q => Val.dic (putF kvs q u')
        | none => Val.dic kvs) = _
      rw [e1]
    rw [hs]
    exact .dic (kp a (by simp) _ ha) (f4 s (fun b hb => kp b (by simp only [List.cons_append, List.mem_cons, List.mem_append]; exact .inr hb)) q')
/-- along a path into what is owned -/
theorem Own.dig : ∀ {p : List Val} {d : Nat} {v c : Val} {x : V} {G : List Addr}, Own K Hf H d v x G → getP v p = some c → p.length ≤ d →
    ∃ y A Gc B, WalkH H x p y ∧ G = A ++ Gc ++ B ∧ Own K Hf H (d - p.length) c y Gc ∧
      ∀ {Hf' H' : Hp} {c' : Val} {G' : List Addr}, HSub Hf Hf' → (∀ a ∈ A ++ B, ∀ o, H a = some o → H' a = some o) → Own K Hf' H' (d - p.length) c' y G' → Own K Hf' H' d (setP v p c') x (A ++ G' ++ B)
  | [], d, v, c, x, G, h, g, _ => by
    cases g
    exact ⟨x, [], G, [], rfl, by simp, h, @fun Hf' H' c' G' s kp q => by
      have q : Own K Hf' H' d c' x G' := q
      show Own K Hf' H' d c' x ([] ++ G' ++ [])
      simpa using q⟩
  | k :: p, d, v, c, x, G, h, g, hl => by
    have g : (getC v k).bind (fun u => getP u p) = some c := g
    rw [Option.bind_eq_some_iff] at g
    obtain ⟨u, g1, g2⟩ := g
    obtain ⟨d, rfl⟩ : ∃ e, d = e + 1 := ⟨d - 1, by rw [List.length_cons] at hl; omega⟩
    rw [List.length_cons] at hl
    obtain ⟨z, A, Gm, B, s1, s2, s3, s4⟩ := h.step g1
    obtain ⟨y, A', Gc, B', t1, t2, t3, t4⟩ := Own.dig s3 g2 (by omega)
    have ed : d + 1 - (k :: p).length = d - p.length := by rw [List.length_cons]; omega
    refine ⟨y, A ++ A', Gc, B' ++ B, ⟨z, s1, t1⟩, by rw [s2, t2]; simp, by rw [ed]; exact t3, @fun Hf' H' c' G' s kp q => ?_⟩
    rw [ed] at q
    have w := s4 s (fun a ha => kp a (by simp only [List.mem_append] at ha ⊢; rcases ha with h | h <;> simp [h])) (t4 s (fun a ha => kp a (by simp only [List.mem_append] at ha ⊢; rcases ha with h | h <;> simp [h])) q)
    have es : setP v (k :: p) c' = setC v k (setP u p c') := by
      show (match getC v k with
        | some u => setC v k (setP u p c')
        | none => v) = _
      rw [g1]
    rw [es]
    simpa using w
/-- a place in a slot -/
theorem Rel.dig {F : List Addr} {S : Slots} {σ : L2.St} {i d : Nat} {v c : Val} {p : List Val} (r : Rel K Hf F S σ H) (e : S[i]? = some (some (d, v))) (g : getP v p = some c) (hl : p.length ≤ d) :
    ∃ x y A Gc B F0, σ[i]? = some (some x) ∧ WalkH H x p y ∧ Own K Hf H (d - p.length) c y Gc ∧ Rel K Hf F0 (S.set i Option.none) σ H ∧ (F0 ++ (A ++ Gc ++ B)).Nodup ∧ (∀ a, a ∈ F ↔ a ∈ F0 ∨ a ∈ A ++ Gc ++ B) ∧ (∀ a ∈ A ++ Gc ++ B, Hf a = Option.none) ∧
      ∀ {Hf' H' : Hp} {c' : Val} {G' : List Addr}, HSub Hf Hf' → (∀ a ∈ A ++ B, ∀ o, H a = some o → H' a = some o) → Own K Hf' H' (d - p.length) c' y G' → Own K Hf' H' d (setP v p c') x (A ++ G' ++ B) := by
  obtain ⟨x, G, F0, e1, ow, rel0, nd, iff, off⟩ := r.take e
  obtain ⟨y, A, Gc, B, t1, t2, t3, t4⟩ := ow.dig g hl
  subst t2
  exact ⟨x, y, A, Gc, B, F0, e1, t1, t3, rel0, nd, iff, off, t4⟩
theorem set_none_len {S : Slots} {i : Nat} : (S.set i Option.none).length = S.length := List.length_set ..
/-- the container at a place is changed -/
theorem Rel.redo {Hf' H' : Hp} {F0 F A Gc B Gc' : List Addr} {S : Slots} {σ : L2.St} {i d : Nat} {v' : Val} {x : V} (rel0 : Rel K Hf F0 (S.set i Option.none) σ H) (hi : i < S.length) (hx : σ[i]? = some (some x)) (nd : (F0 ++ (A ++ Gc ++ B)).Nodup) (iff : ∀ a, a ∈ F ↔ a ∈ F0 ∨ a ∈ A ++ Gc ++ B)
    (s : HSub Hf Hf') (hs : HSub Hf' H') (keep : ∀ b, b ∉ Gc → ∀ o, H b = some o → H' b = some o) (ow : Own K Hf' H' d v' x (A ++ Gc' ++ B)) (ndc : Gc'.Nodup) (fresh : ∀ b ∈ Gc', b ∈ Gc ∨ b ∉ F) (off' : ∀ b ∈ Gc', Hf' b = Option.none) (offF : ∀ b ∈ F, b ∉ Gc → Hf' b = Option.none) :
    ∃ F', Rel K Hf' F' (S.set i (some (d, v'))) σ H' ∧ ∀ b ∈ F', b ∈ F ∨ b ∈ Gc' := by
  have n1 := nd
  simp only [List.nodup_append, List.mem_append] at n1
  have ins : ∀ b, (b ∈ A ∨ b ∈ B) → b ∈ F := fun b hb => (iff b).mpr (.inr (by simp only [List.mem_append]; rcases hb with h | h <;> simp [h]))
  have in0 : ∀ b, b ∈ F0 → b ∈ F := fun b hb => (iff b).mpr (.inl hb)
  have rel1 : Rel K Hf' F0 (S.set i Option.none) σ H' := by
    refine ⟨hs, rel0.nd, fun a ha => offF a (in0 a ha) fun z => ?_, rel0.plc.mono s fun a ha o e => keep a (fun z => ?_) o e⟩
    · exact n1.2.2 a ha a (.inl (.inr z)) rfl
    · exact n1.2.2 a ha a (.inl (.inr z)) rfl
  have nd2 : (F0 ++ (A ++ Gc' ++ B)).Nodup := by
    have f1 : ∀ b ∈ Gc', b ∉ A := fun b hb ha => by
      rcases fresh b hb with z | z
      · exact n1.2.1.1.2.2 b ha b z rfl
      · exact z (ins b (.inl ha))
    have f2 : ∀ b ∈ Gc', b ∉ B := fun b hb ha => by
      rcases fresh b hb with z | z
      · exact n1.2.1.2.2 b (.inr z) b ha rfl
      · exact z (ins b (.inr ha))
    have f3 : ∀ b ∈ Gc', b ∉ F0 := fun b hb ha => by
      rcases fresh b hb with z | z
      · exact n1.2.2 b ha b (.inl (.inr z)) rfl
      · exact z (in0 b ha)
    simp only [List.nodup_append, List.mem_append]
    refine ⟨n1.1, ⟨⟨n1.2.1.1.1, ndc, fun a ha b hb e => f1 b hb (e ▸ ha)⟩, n1.2.1.2.1, fun a ha b hb e => ?_⟩, fun a ha b hb e => ?_⟩
    · rcases ha with z | z
      · exact n1.2.1.2.2 a (.inl z) b hb e
      · exact f2 a z (e ▸ hb)
    · rcases hb with (z | z) | z
      · exact n1.2.2 a ha b (.inl (.inl z)) e
      · exact f3 b z (e ▸ ha)
      · exact n1.2.2 a ha b (.inr z) e
  obtain ⟨F', rel', sub⟩ := rel1.put (i := i) (by rw [set_none_len]; exact hi) ow nd2 fun a ha => by
    simp only [List.mem_append] at ha
    rcases ha with (z | z) | z
    · exact offF a (ins a (.inl z)) fun w => n1.2.1.1.2.2 a z a w rfl
    · exact off' a z
    · exact offF a (ins a (.inr z)) fun w => n1.2.1.2.2 a (.inr w) a z rfl
  rw [List.set_set, set_same hx] at rel'
  refine ⟨F', rel', fun b hb => ?_⟩
  rcases sub b hb with z | z
  · exact .inl (in0 b z)
  · simp only [List.mem_append] at z
    rcases z with (z | z) | z
    · exact .inl (ins b (.inl z))
    · exact .inr z
    · exact .inl (ins b (.inr z))
end
end BV
/-! Places: read. -/
namespace BV
open PySem PySem.Spec PyProof.Rows L2
theorem binV_flat {op : Operator} {a b : Val} {r : R} (h : binV op a b = some r) (f : r.2.flat = true) : a.flat = true ∧ b.flat = true := by
  unfold binV at h
  split at h
  all_goals first
    | exact ⟨rfl, rfl⟩
    | (rw [gd_some] at h; obtain ⟨_, h⟩ := h; cases h; cases f; done)
    | (cases h; done)
theorem still_same {D : Den} : ∀ (k : CE) {S : Slots} {m : Mode} {v : Val} {S' : Slots}, k.still = true → ev D k S = some ((m, v), S') → v.flat = true → S' = S ∧ k.pure = true
  | .cst c j p, S, m, v, S', h, e, f => by
    unfold ev at e
    rw [Option.map_eq_some_iff] at e
    obtain ⟨w, _, e⟩ := e
    obtain ⟨_, rfl⟩ := Prod.mk.inj e
    exact ⟨rfl, rfl⟩
  | .brw i x p, S, m, v, S', h, e, f => by
    unfold ev at e
    split at e
    · rename_i d w e0
      have e := Option.some.inj e
      cases q : w.flat with
      | true =>
        rw [q] at e
        obtain ⟨_, rfl⟩ := Prod.mk.inj e
        exact ⟨rfl, rfl⟩
      | false =>
        rw [q] at e
        have e : (bif decide (d ≤ 1) || w.inner then (((.bor, w), S) : Res × Slots) else ((.own 0, w), S.set i (some (0, w)))) = ((m, v), S') := e
        exfalso
        cases z : (decide (d ≤ 1) || w.inner) with
        | true =>
          rw [z] at e
          obtain ⟨e1, _⟩ := Prod.mk.inj e
          obtain ⟨_, rfl⟩ := Prod.mk.inj e1
          rw [q] at f; cases f
        | false =>
          rw [z] at e
          obtain ⟨e1, _⟩ := Prod.mk.inj e
          obtain ⟨_, rfl⟩ := Prod.mk.inj e1
          rw [q] at f; cases f
    · cases e
  | .bin op a b p, S, m, v, S', h, e, f => by
    have h : (a.still && b.still) = true := h
    rw [Bool.and_eq_true] at h
    unfold ev at e
    rw [Option.bind_eq_some_iff] at e
    obtain ⟨⟨⟨m1, v1⟩, S1⟩, e1, e⟩ := e
    rw [gd_some] at e
    obtain ⟨_, e⟩ := e
    rw [Option.bind_eq_some_iff] at e
    obtain ⟨⟨⟨m2, v2⟩, S2⟩, e2, e⟩ := e
    rw [Option.map_eq_some_iff] at e
    obtain ⟨r, e3, e⟩ := e
    obtain ⟨e4, rfl⟩ := Prod.mk.inj e
    obtain ⟨_, rfl⟩ := Prod.mk.inj e4
    obtain ⟨f1, f2⟩ := binV_flat e3 f
    obtain ⟨rfl, p1⟩ := still_same a h.1 e1 f1
    obtain ⟨rfl, p2⟩ := still_same b h.2 e2 f2
    exact ⟨rfl, by unfold CE.pure; rw [p1, p2]; rfl⟩
  | .neg a p, S, m, v, S', h, e, f => by
    unfold ev at e
    rw [Option.bind_eq_some_iff] at e
    obtain ⟨⟨⟨m1, v1⟩, S1⟩, e1, e⟩ := e
    cases v1 with
    | int i =>
      obtain ⟨_, rfl⟩ := Prod.mk.inj (Option.some.inj e)
      obtain ⟨rfl, p1⟩ := still_same a h e1 rfl
      exact ⟨rfl, by unfold CE.pure; exact p1⟩
    | _ => cases e
  | .var .., S, m, v, S', h, _, _ => by cases (show false = true from h)
  | .mov .., S, m, v, S', h, _, _ => by cases (show false = true from h)
  | .ref .., S, m, v, S', h, _, _ => by cases (show false = true from h)
  | .pth .., S, m, v, S', h, _, _ => by cases (show false = true from h)
  | .glb .., S, m, v, S', h, _, _ => by cases (show false = true from h)
  | .tup .., S, m, v, S', h, _, _ => by cases (show false = true from h)
  | .lst .., S, m, v, S', h, _, _ => by cases (show false = true from h)
  | .dic0 .., S, m, v, S', h, _, _ => by cases (show false = true from h)
  | .nt .., S, m, v, S', h, _, _ => by cases (show false = true from h)
  | .bop .., S, m, v, S', h, _, _ => by cases (show false = true from h)
  | .cmp .., S, m, v, S', h, _, _ => by cases (show false = true from h)
  | .chn .., S, m, v, S', h, _, _ => by cases (show false = true from h)
  | .ifx .., S, m, v, S', h, _, _ => by cases (show false = true from h)
  | .isi .., S, m, v, S', h, _, _ => by cases (show false = true from h)
  | .blt .., S, m, v, S', h, _, _ => by cases (show false = true from h)
  | .call .., S, m, v, S', h, _, _ => by cases (show false = true from h)
  | .idx .., S, m, v, S', h, _, _ => by cases (show false = true from h)
  | .slc .., S, m, v, S', h, _, _ => by cases (show false = true from h)
  | .lc .., S, m, v, S', h, _, _ => by cases (show false = true from h)
  | .lc2 .., S, m, v, S', h, _, _ => by cases (show false = true from h)
  | .popAt .., S, m, v, S', h, _, _ => by cases (show false = true from h)
  | .dcm .., S, m, v, S', h, _, _ => by cases (show false = true from h)
  | .lrng .., S, m, v, S', h, _, _ => by cases (show false = true from h)
  | .lzip .., S, m, v, S', h, _, _ => by cases (show false = true from h)
  | .dcp .., S, m, v, S', h, _, _ => by cases (show false = true from h)
  | .rev .., S, m, v, S', h, _, _ => by cases (show false = true from h)
  | .ssc .., S, m, v, S', h, _, _ => by cases (show false = true from h)
  | .dsp .., S, m, v, S', h, _, _ => by cases (show false = true from h)
  | .plc .., S, m, v, S', h, _, _ => by cases (show false = true from h)
  | .mxd .., S, m, v, S', h, _, _ => by cases (show false = true from h)
  | .den .., S, m, v, S', h, _, _ => by cases (show false = true from h)
  | .tvl .., S, m, v, S', h, _, _ => by cases (show false = true from h)
  | .sme .., S, m, v, S', h, _, _ => by cases (show false = true from h)
/-- a subscript along the heap -/
def rStepH : R2 := fun x y H Q => ∃ (k : Val) (z : V), StepH H x k z ∧ (∀ m : Int, k = Val.int m → y = V.int m) ∧ (∀ q, BV.keyOf k = some q → y = kV q) ∧ Q z H
section
variable {free : List Str} {D : Den} {n : Nat} {N : List Str} {sc : Scope} {X : Cx}
theorem ix_step (hu : X.A.units + 1 < cLine) : IxR X rStepH := by
  intro value slice pins s σ H x y v u Q I rx ry h hs
  obtain ⟨k, z, ⟨a, rfl, h⟩, k1, k2, q⟩ := h
  rcases h with ⟨ys, m, h1, rfl, h3⟩ | ⟨ks, q', h1, h2, h3⟩
  · obtain rfl := k1 m rfl
    exact ix_list value slice pins s σ H _ _ v u Q I rx ry ⟨a, ys, m, z, rfl, rfl, .inl (.inl h1), h3, q⟩ hs
  · obtain rfl := k2 q' h2
    have g : DGet H a (kV q') (some z) := .inl ⟨ks, q', .inl h1, rfl, h3.symm⟩
    cases rx
    exact tail_any (dict_typeIs I g) PySem.F.slot_dict_getitem.lookup (d_getItem hu I g ry fun w' s' I' r' => ⟨z, H, I', r', q⟩) hs
/-- what a place's reading asks -/
def tPl (K : Frag) (D : Den) (P : CP) : TE := fun σ H Q => ∃ S Hf F i p d v c, Rel K Hf F S σ H ∧ evP D P S = some (i, p) ∧ S[i]? = some (some (d, v)) ∧ getP v p = some c ∧ p.length ≤ d ∧
  ∀ x y H' Hf' F', Rel K Hf' F' S σ H' → Step Hf F H Hf' F' H' → HSub H H' → σ[i]? = some (some x) → WalkH H' x p y → Q y H'
theorem s_place (c : Ctx free D n N sc X) : ∀ (P : CP), (∀ i x p, P = .rt i x p → N[i]? = some x ∧ visB sc x = true ∧ okName x = true) → (∀ P' k p, P = .sub P' k p → PE X P'.py (tPl X.K D P') ∧ PE X k.py (tEv X.K D k)) → PE X P.py (tPl X.K D P)
  | .rt i x p, h, _ => by
    obtain ⟨a, b, ok⟩ := h i x p rfl
    have h1 : PE X (.Name x p) (tVar i) := pe_var (i := i) (by rw [c.hN]; exact a) (by rw [c.sc]; exact visB_ok b) (okName_ok ok).1 (okName_ok ok).2.1
    refine peBy h1 fun σ H Q ⟨S, Hf, F, i', p', d, v, cc, rel, e1, e2, e3, e4, q⟩ => ?_
    unfold evP at e1
    obtain ⟨rfl, rfl⟩ := Prod.mk.inj (Option.some.inj e1)
    obtain ⟨y, _, hy, _⟩ := rel.get e2
    exact ⟨y, hy, q y y H Hf F rel (Step.refl _ _ _) (HSub.refl _) hy rfl⟩
  | .sub P k p, _, h => by
    obtain ⟨hP, hk⟩ := h P k p rfl
    have hu : X.A.units + 1 < cLine := by have := c.units; omega
    refine peBy (pe_ix (ix_step hu) hP hk (plain_ix k)) fun σ H Q ⟨S, Hf, F, i, pp, d, v, cc, rel, e1, e2, e3, e4, q⟩ => ?_
    unfold evP at e1
    rw [Option.bind_eq_some_iff] at e1
    obtain ⟨⟨i', p0⟩, f1, e1⟩ := e1
    rw [gd_some] at e1
    obtain ⟨st, e1⟩ := e1
    rw [Option.bind_eq_some_iff] at e1
    obtain ⟨⟨⟨m, kv⟩, S2⟩, f2, e1⟩ := e1
    rw [gd_some] at e1
    obtain ⟨fl, e1⟩ := e1
    obtain ⟨rfl, rfl⟩ := Prod.mk.inj (Option.some.inj e1)
    obtain ⟨rfl, pu⟩ := still_same k st f2 fl
    obtain ⟨c1, g1, g2⟩ := getP_snoc e3
    have hlen : p0.length + 1 ≤ d := by simpa using e4
    refine ⟨S2, Hf, F, i', p0, d, v, c1, rel, f1, e2, g1, by omega, fun x y1 H1 Hf1 F1 rel1 st1 sub1 hx w1 => ?_⟩
    refine ⟨S2, Hf1, F1, _, S2, rel1, f2, fun z H2 Hf2 F2 g p2 => ?_⟩
    obtain ⟨Hf2', s2, rel2, st2, re2, rf2⟩ := g.opd
    have sub2 := p2 pu
    obtain ⟨x', y, A, Gc, B, F0, hx', wk, _⟩ := rel2.dig e2 e3 e4
    rw [hx] at hx'
    cases hx'
    obtain ⟨z1, w2, sth⟩ := wk.snoc
    have ez := (w1.mono sub2).det w2
    subst ez
    refine ⟨kv, y, sth, fun mm e => ?_, fun qq e => keyE re2 e, q x y H2 Hf2' F2 rel2 (st1.trans st2) (sub1.trans sub2) hx wk⟩
    subst e
    exact re2.int_
theorem s_plc (c : Ctx free D n N sc X) {P : CP} (hP : PE X P.py (tPl X.K D P)) (hp : P.pure = true → True) : PE X (CE.plc P).py (tEv X.K D (.plc P)) := by
  refine peBy hP fun σ H Q ⟨S, Hf, F, r, S', rel, he, q⟩ => ?_
  unfold ev at he
  rw [Option.bind_eq_some_iff] at he
  obtain ⟨⟨i, p⟩, e1, he⟩ := he
  dsimp only at he
  split at he
  · rename_i d v e2
    rw [Option.bind_eq_some_iff] at he
    obtain ⟨u, e3, he⟩ := he
    rw [gd_some] at he
    obtain ⟨hl, he⟩ := he
    have hl := of_decide_eq_true hl
    refine ⟨S, Hf, F, i, p, d, v, u, rel, e1, e2, e3, hl, fun x y H1 Hf1 F1 rel1 st1 sub1 hx wk => ?_⟩
    obtain ⟨x', y', A, Gc, B, F0, hx', wk', ow, _⟩ := rel1.dig e2 e3 hl
    rw [hx] at hx'
    cases hx'
    have ey := wk.det wk'
    subst ey
    cases z : (u.flat || d == p.length) with
    | true =>
      rw [z] at he
      obtain ⟨rfl, rfl⟩ := Prod.mk.inj (Option.some.inj he)
      have rep : Rep X.K Hf1 u y := by
        rw [Bool.or_eq_true] at z
        rcases z with z | z
        · obtain ⟨rfl, ow0⟩ := ow.flat (d' := 0) z
          cases ow0 with | frz _ r => exact r
        · have : d - p.length = 0 := by have := eq_of_beq z; omega
          rw [this] at ow
          cases ow with | frz _ r => exact r
      exact q y H1 Hf1 F1 (.frz rel1 st1 rep (.inl rfl)) fun _ => sub1
    | false =>
      rw [z] at he
      have he : gd u.inner (some (((.bor, u) : Res), S)) = some (r, S') := he
      rw [gd_some] at he
      obtain ⟨inn, he⟩ := he
      obtain ⟨rfl, rfl⟩ := Prod.mk.inj (Option.some.inj he)
      exact q y H1 Hf1 F1 ⟨rel1, st1, ow.repE rel1.sub (by rw [inn, Bool.or_true])⟩ fun _ => sub1
  · cases he
end
end BV
/-! Displays of dicts. -/
namespace BV
open PySem PySem.Spec PyProof.Rows L2
def CDs.trs (K : Frag) (D : Den) : CDs → List (TE × TE)
  | .nil => []
  | .cons k _ _ e ds => (tC (.str k), tEv K D e) :: ds.trs K D
def CDs.all (Pp : CE → Prop) : CDs → Prop
  | .nil => True
  | .cons _ _ _ e ds => Pp e ∧ ds.all Pp
section
variable {free : List Str} {D : Den} {n : Nat} {N : List Str} {sc : Scope} {X : Cx}
theorem pps_ds {p : Pos} : ∀ {ds : CDs}, ds.all (fun e => PE X e.py (tEv X.K D e)) → PPs X p ds.pyk ds.pyv (ds.trs X.K D)
  | .nil, _ => pps_nil
  | .cons k kk kp e ds, h => pps_cons pe_str h.1 (pps_ds h.2)
theorem CDs.some_all : ∀ ds : CDs, ds.pyk.all (·.isSome) = true
  | .nil => rfl
  | .cons _ _ _ _ ds => CDs.some_all ds
theorem CDs.same_len : ∀ ds : CDs, ds.pyk.length = ds.pyv.length
  | .nil => rfl
  | .cons _ _ _ _ ds => congrArg Nat.succ (CDs.same_len ds)
theorem pairs_ok {K : Frag} {σ : L2.St} : ∀ {ds : CDs} {H : Hp} {Q : List (V × V) → Hp → Prop}, (∃ S Hf F rs S', Rel K Hf F S σ H ∧ evd D ds S = some (rs, S') ∧ ∀ ys H' Hf' F', GivesL K Hf F H S' σ (rs.map (·.2)) ys Hf' F' H' → (ds.pure = true → HSub H H') → Q (((rs.map (·.1)).zip ys).map fun z => (V.str z.1, z.2)) H') →
    tPairs (ds.trs K D) σ H Q
  | .nil, H, Q, ⟨S, Hf, F, rs, S', rel, he, q⟩ => by
    unfold evd at he
    obtain ⟨rfl, rfl⟩ := Prod.mk.inj (Option.some.inj he)
    exact q [] H Hf F ⟨rel, Step.refl _ _ _, [], .nil, by simpa using rel.nd, fun a h => (by cases h), fun a h => (by cases h)⟩ fun _ => HSub.refl _
  | .cons k kk kp e ds, H, Q, ⟨S, Hf, F, rs, S', rel, he, q⟩ => by
    unfold evd at he
    rw [Option.bind_eq_some_iff] at he
    obtain ⟨⟨⟨m, v⟩, S1⟩, e1, he⟩ := he
    cases m with
    | bor => cases he
    | own d =>
      simp only [Option.map_eq_some_iff] at he
      obtain ⟨⟨rs', S2⟩, e2, he⟩ := he
      obtain ⟨rfl, rfl⟩ := Prod.mk.inj he
      refine ⟨S, Hf, F, _, S1, rel, e1, fun x H1 Hf1 F1 g1 p1 => ?_⟩
      refine pairs_ok ⟨S1, Hf1, F1, rs', S2, g1.rel, e2, fun xs H2 Hf2 F2 g2 p2 => q (x :: xs) _ _ _ (GivesL.cons g1 g2) fun hp => ?_⟩
      unfold CDs.pure at hp
      rw [Bool.and_eq_true] at hp
      exact (p1 hp.1).trans (p2 hp.2)
theorem OwnL.toK {K : Frag} {Hf H : Hp} {d : Nat} : ∀ {vs : List Val} {xs : List V} {G : List Addr} {ks : List Key}, OwnL K Hf H d vs xs G → ks.length = vs.length → OwnK K Hf H d (ks.zip vs) (ks.zip xs) G
  | _, _, _, [], .nil, _ => .nil
  | _, _, _, _ :: _, .nil, h => by cases h
  | _, _, _, [], .cons _ _, h => by cases h
  | _, _, _, k :: ks, .cons h r, hl => .cons h (OwnL.toK r (by simpa using hl))
theorem merge_nodup : ∀ (kvs acc : List (Key × V)), (acc.map (·.1) ++ kvs.map (·.1)).Nodup → mergeK acc kvs = acc ++ kvs
  | [], acc, _ => by simp [mergeK]
  | q :: r, acc, h => by
    have hq : (acc.any fun z => decide (z.1 = q.1)) = false := by
      cases c : (acc.any fun z => decide (z.1 = q.1)) with
      | false => rfl
      | true =>
        exfalso
        rw [List.any_eq_true] at c
        obtain ⟨z, hz, e⟩ := c
        rw [List.nodup_append] at h
        exact h.2.2 z.1 (List.mem_map_of_mem hz) q.1 (by simp) (of_decide_eq_true e)
    have e : putK acc q.1 q.2 = acc ++ [q] := by
      unfold putK
      rw [hq]
      simp
    show mergeK (putK acc q.1 q.2) r = _
    rw [e, merge_nodup r (acc ++ [q]) (by simpa using h)]
    simp
theorem s_dsp {ds : CDs} {p : Pos} (hne : ds.pyk ≠ []) (h15 : ds.pyk.length ≤ 15) (h : ds.all fun e => PE X e.py (tEv X.K D e)) : PE X (CE.dsp ds p).py (tEv X.K D (.dsp ds p)) := by
  refine peBy (pe_disp (pps_ds h) (CDs.some_all ds) (CDs.same_len ds) hne h15) fun σ H Q ⟨S, Hf, F, r, S', rel, he, q⟩ => ?_
  unfold ev at he
  rw [Option.bind_eq_some_iff] at he
  obtain ⟨⟨rs, S1⟩, e1, he⟩ := he
  rw [gd_some, Bool.and_eq_true] at he
  obtain ⟨⟨l15, nd⟩, he⟩ := he
  obtain ⟨rfl, rfl⟩ := Prod.mk.inj (Option.some.inj he)
  have l15 : rs.length ≤ 15 := of_decide_eq_true l15
  have nd : (rs.map (·.1)).Nodup := of_decide_eq_true nd
  intro a ha
  have hf0 : Hf a = none := by
    cases z : Hf a with
    | none => rfl
    | some o => rw [rel.sub a o z] at ha; cases ha
  have hF0 : a ∉ F := fun h => by obtain ⟨o, e⟩ := rel.dom a h; rw [e] at ha; cases ha
  refine pairs_ok ⟨S, Hf, F, rs, S1, rel.upd ha, e1, fun ys H2 Hf2 F2 g p2 => ?_⟩
  have h2 : H2 a = some (.dK []) := g.st.fr a _ upd_same hF0
  have hf2 : Hf2 a = none := by rw [g.st.new a _ upd_same hF0]; exact hf0
  have hF2 : a ∉ F2 := fun h => by
    rcases g.st.own a h with z | z
    · exact hF0 z
    · rw [upd_same] at z; cases z
  obtain ⟨rel2, st2, G, ow, ndG, offG, frG⟩ := g
  have hlen : ys.length = rs.length := by simpa using ow.length
  have haG : a ∉ G := fun h => by
    rcases frG a h with z | z
    · exact hF0 z
    · rw [upd_same] at z; cases z
  generalize hks : (rs.map fun z => (Sum.inr z.1 : Key)) = ks
  have kl : ks.length = rs.length := by rw [← hks]; simp
  have knd : ks.Nodup := by
    have e : ks = (rs.map (·.1)).map (fun k => (Sum.inr k : Key)) := by rw [← hks]; simp
    rw [e]
    unfold List.Nodup at nd ⊢
    rw [List.pairwise_map]
    exact nd.imp fun h e => h (by injection e)
  refine ⟨h2, ks.zip ys, ?_, by rw [List.length_zip]; omega, ?_⟩
  · rw [← hks]
    have go : ∀ (rs : List (Str × R)) (ys : List V), ((rs.map (·.1)).zip ys).map (fun z => (V.str z.1, z.2)) = ((rs.map fun z => (Sum.inr z.1 : Key)).zip ys).map fun kv => (kV kv.1, kv.2) := by
      intro rs
      induction rs with
      | nil => intro ys; rfl
      | cons z rs ih =>
        intro ys
        cases ys with
        | nil => rfl
        | cons y ys => simp only [List.map_cons, List.zip_cons_cons, ih ys]; rfl
    exact go rs ys
  · have em : mergeK [] (ks.zip ys) = ks.zip ys := by
      have := merge_nodup (ks.zip ys) [] (by rw [List.map_nil, List.nil_append, List.map_fst_zip (by omega)]; exact knd)
      simpa using this
    rw [em]
    have ev : (rs.map fun z => ((Sum.inr z.1 : Key), z.2.2)) = ks.zip ((rs.map (·.2)).map (·.2)) := by
      rw [← hks]
      have go : ∀ rs : List (Str × R), (rs.map fun z => ((Sum.inr z.1 : Key), z.2.2)) = (rs.map fun z => (Sum.inr z.1 : Key)).zip ((rs.map (·.2)).map (·.2)) := by
        intro rs
        induction rs with
        | nil => rfl
        | cons z rs ih => simp only [List.map_cons, List.zip_cons_cons, ih]
      exact go rs
    dsimp only at q
    rw [ev] at q
    have keep : ∀ b, b ≠ a → ∀ o, H2 b = some o → L2.upd H2 a (.dK (ks.zip ys)) b = some o := fun b nb o e => by rw [upd_ne nb]; exact e
    have hH : ∀ b o, H b = some o → b ≠ a := fun b o e z => by rw [z, ha] at e; cases e
    have stH : ∀ {Hf3 : Hp}, HSub Hf2 Hf3 → (∀ b o, H b = some o → b ∉ F → Hf3 b = Hf2 b) → Step Hf F H Hf3 F2 (L2.upd H2 a (.dK (ks.zip ys))) := by
      intro Hf3 s hn
      refine ⟨st2.hf.trans s, fun b o e nF => keep b (hH b o e) o (st2.fr b o (by rw [upd_ne (hH b o e)]; exact e) nF), fun b o e nF => ?_, fun b hb => ?_⟩
      · rw [hn b o e nF]
        exact st2.new b o (by rw [upd_ne (hH b o e)]; exact e) nF
      · rcases st2.own b hb with z | z
        · exact .inl z
        · have nb : b ≠ a := fun z => hF2 (z ▸ hb)
          rw [upd_ne nb] at z
          exact .inr z
    have frH : ∀ b ∈ G, b ∈ F ∨ H b = none := fun b hb => by
      rcases frG b hb with z | z
      · exact .inl z
      · have nb : b ≠ a := fun e => haG (e ▸ hb)
        rw [upd_ne nb] at z
        exact .inr z
    have pur : ∀ (hp : (CE.dsp ds p).pure = true), HSub H (L2.upd H2 a (.dK (ks.zip ys))) := fun hp b o e => by
      unfold CE.pure at hp
      exact keep b (hH b o e) o (p2 hp b o (by rw [upd_ne (hH b o e)]; exact e))
    have kl2 : ks.length = ((rs.map (·.2)).map (·.2)).length := by rw [kl]; simp
    -- all shared, or own
    have plain : ∃ Hf3, Gives X.K Hf F H S1 σ (.own 1, .dic (ks.zip ((rs.map (·.2)).map (·.2)))) (.ref a) Hf3 F2 (L2.upd H2 a (.dK (ks.zip ys))) := by
      have s1 := frzH_sub (H := H2) offG
      have s2 := frzH_le (G := G) rel2.sub
      have dis : ∀ b ∈ F2, b ∉ G := fun b hb hg => (List.nodup_append.mp ndG).2.2 b hb b hg rfl
      have rep : RepL X.K (frzH Hf2 H2 G) ((rs.map (·.2)).map (·.2)) ys := ow.rep s1 fun b hb o e => by rw [frzH_in hb]; exact e
      have hfa : frzH Hf2 H2 G a = none := by rw [frzH_out haG]; exact hf2
      have relN : Rel X.K (frzH Hf2 H2 G) F2 S1 σ H2 := rel2.grow s1 s2 fun b hb => by rw [frzH_out (dis b hb)]; exact rel2.off b hb
      refine ⟨frzH Hf2 H2 G, relN.mut hF2 hfa, stH s1 fun b o e nF => ?_, [a], .dic (d := 0) upd_same (rep.ownL.toK kl2), ?_, ?_, ?_⟩
      · have : b ∉ G := fun hg => by
          rcases frH b hg with z | z
          · exact nF z
          · rw [z] at e; cases e
        rw [frzH_out this]
      · rw [List.nodup_append]
        refine ⟨rel2.nd, by simp, fun b hb z hz e => ?_⟩
        have : z = a := by simpa using hz
        exact hF2 (this ▸ e ▸ hb)
      · intro b hb
        have : b = a := by simpa using hb
        rw [this]; exact hfa
      · intro b hb
        have : b = a := by simpa using hb
        rw [this]; exact .inr ha
    have fin : ∃ Hf3, Gives X.K Hf F H S1 σ (.own (dispD (rs.map (·.2))), .dic (ks.zip ((rs.map (·.2)).map (·.2)))) (.ref a) Hf3 F2 (L2.upd H2 a (.dK (ks.zip ys))) := by
      unfold dispD
      split
      · exact plain
      · rename_i r0 _
        cases e : (rs.map (·.2)).all (fun q => q.2.flat || q.1 == r0.1) with
        | false => exact plain
        | true =>
          have l := (ow.same e).mono (H' := L2.upd H2 a (.dK (ks.zip ys))) (HSub.refl _) fun b hb o q => keep b (fun z => haG (z ▸ hb)) o q
          refine ⟨Hf2, rel2.mut hF2 hf2, stH (HSub.refl _) (fun _ _ _ _ => rfl), a :: G, .dic upd_same (l.toK kl2), ?_, ?_, ?_⟩
          · have n1 := List.nodup_append.mp ndG
            rw [List.nodup_append, List.nodup_cons]
            refine ⟨rel2.nd, ⟨haG, n1.2.1⟩, fun b hb z hz e => ?_⟩
            rcases List.mem_cons.mp hz with y | y
            · exact hF2 (y ▸ e ▸ hb)
            · exact n1.2.2 b hb z y e
          · intro b hb
            rcases List.mem_cons.mp hb with y | y
            · rw [y]; exact hf2
            · exact offG b y
          · intro b hb
            rcases List.mem_cons.mp hb with y | y
            · rw [y]; exact .inr ha
            · exact frH b y
    obtain ⟨Hf3, g3⟩ := fin
    exact q _ _ Hf3 F2 g3 pur
end
end BV
/-! max(.., default=..). -/
namespace BV
open PySem PySem.Spec PyProof.Rows L2
theorem mx_args (a d : Value) : argsOk "max" ⟨[a], [(Str.ofString "default", d)]⟩ := by unfold argsOk; kernel_rfl
section
variable {prog : Program} {w : World} {A : Around} {R : Result → Shared → Prop} {I L : Addr} {fp wr : List Addr} {n : Nat} {P : Nat → Value → Prop} {St : Nat → Heap → Prop} {bt : Nat → Nat → Bool} {kw : List (Str × Value)}
/-- from the second thing on: the best by now twice in the list at L -/
theorem mx_on (W : Walks prog w A.in1 I fp wr n P St) (cmp : CmpOf prog w A.in1 .Gt P bt) (out : L ∉ fp) : ∀ (k j : Nat) (s : Shared) (b : Value) (c : Nat), n - (j + 1) = k → j + 1 ≤ n → St (j + 1) s.heap → P (argBest bt j) b →
    s.heap.get? L = some { cls := .type "list", dict := none, data := .seq #[b, b] c, slots := #[] } →
    (∀ v h' tk, P (argBest bt (n - 1)) v → (∀ q o, q ∉ wr → q ≠ L → s.heap.get? q = some o → h'.get? q = some o) → R (.ok (.ret v)) { s with heap := h', toks := tk }) →
    codeAny (model prog w) A (.builtin "max.loop" ⟨[.ref I, .none, .ref L], kw⟩) R s
  | 0, j, s, b, c, hk, hj, st, pb, hL, fin => by
    have en : j + 1 = n := by omega
    have outw : L ∉ wr := fun h => out (W.sub _ h)
    refine codeAny_builtin F.entry_max_loop ?_
    rw [Around.under_plainId F.plain_max_loop _]
    refine wpAny_bind (m := seqItems? (.ref L)) (wpAny_seqItems hL rfl (wpAny_bind (m := tryCatch (pyNext (.ref I)) _) (wpAny_tryCatch (W.done s _ _ (en ▸ st) fun h' tk kp => ?_))))
    have hL' := kp L _ outw hL
    refine wpAny_bind (m := updateSeq L fun _ => #[]) (wpAny_updateSeq hL' rfl (wpAny_bind (wpAny_letGo (wpAny_pure ?_))))
    exact fin b _ tk (en ▸ pb) fun q o hq hqL e => (Heap.get?_update_other _ _ (Ne.symm hqL)).trans (kp q o hq e)
  | k + 1, j, s, b, c, hk, hj, st, pb, hL, fin => by
    have lt : j + 1 < n := by omega
    have outw : L ∉ wr := fun h => out (W.sub _ h)
    have nm : (toString "max" ++ toString ".loop" : String) = "max.loop" := by decide
    refine codeAny_builtin F.entry_max_loop ?_
    rw [Around.under_plainId F.plain_max_loop _]
    refine wpAny_bind (m := seqItems? (.ref L)) (wpAny_seqItems hL rfl (wpAny_bind (m := tryCatch (pyNext (.ref I)) _) (wpAny_tryCatch (W.item (j + 1) s _ _ lt st fun v h' tk pv st' kp => ?_))))
    have hL' := kp L _ outw hL
    refine wpAny_bind (m := tryCatch (holding [v, v] (richCompare .Gt v b >>= _)) _) (wpAny_tryCatch (wpAny_holding (wpAny_bind (cmp (j + 1) (argBest bt j) v b _ _ _ pv pb (wpAny_bind (wpAny_holding (wpAny_truthy_bool (wpAny_bind (wpAny_letGo (wpAny_pure ?_))))))))))
    cases z : bt (j + 1) (argBest bt j) with
    | true =>
      simp only [if_true]
      refine wpAny_bind (wpAny_updateSeq hL' rfl (wpAny_bind (wpAny_letGo ?_)))
      rw [nm]
      refine wpAny_pure ⟨plainId_quiet F.plain_max_loop _, mx_on W cmp out k (j + 1) _ v _ (by omega) lt (W.frame _ _ _ st' fun q hq o e => ?_) (by simp only [argBest, z, if_true]; exact pv) (Heap.get?_update_self _ hL' rfl) fun v' h2 t2 pv' kp2 => ?_⟩
      · exact (Heap.get?_update_other _ _ (fun h : L = q => out (h ▸ hq))).trans e
      · exact fin v' h2 t2 pv' fun q o hq hqL e => kp2 q o hq hqL ((Heap.get?_update_other _ _ (Ne.symm hqL)).trans (kp q o hq e))
    | false =>
      simp only [Bool.false_eq_true, if_false]
      refine wpAny_bind (wpAny_letGo ?_)
      rw [nm]
      refine wpAny_pure ⟨plainId_quiet F.plain_max_loop _, mx_on W cmp out k (j + 1) _ b c (by omega) lt st' (by simp only [argBest, z, Bool.false_eq_true, if_false]; exact pb) hL' fun v' h2 t2 pv' kp2 => ?_⟩
      exact fin v' h2 t2 pv' fun q o hq hqL e => kp2 q o hq hqL (kp q o hq e)
theorem mx_first (W : Walks prog w A.in1 I fp wr n P St) (cmp : CmpOf prog w A.in1 .Gt P bt) (out : L ∉ fp) (hn : 0 < n) {s : Shared} {c : Nat} (st : St 0 s.heap) (hL : s.heap.get? L = some { cls := .type "list", dict := none, data := .seq #[] c, slots := #[] })
    (fin : ∀ v h' tk, P (argBest bt (n - 1)) v → (∀ q o, q ∉ wr → q ≠ L → s.heap.get? q = some o → h'.get? q = some o) → R (.ok (.ret v)) { s with heap := h', toks := tk }) : codeAny (model prog w) A (.builtin "max.loop" ⟨[.ref I, .none, .ref L], kw⟩) R s := by
  have outw : L ∉ wr := fun h => out (W.sub _ h)
  have nm : (toString "max" ++ toString ".loop" : String) = "max.loop" := by decide
  refine codeAny_builtin F.entry_max_loop ?_
  rw [Around.under_plainId F.plain_max_loop _]
  refine wpAny_bind (m := seqItems? (.ref L)) (wpAny_seqItems hL rfl (wpAny_bind (m := tryCatch (pyNext (.ref I)) _) (wpAny_tryCatch (W.item 0 s _ _ hn st fun v h' tk pv st' kp => ?_))))
  have hL' := kp L _ outw hL
  refine wpAny_bind (m := updateSeq L fun _ => #[v, v]) (wpAny_updateSeq hL' rfl ?_)
  rw [nm]
  refine wpAny_pure ⟨plainId_quiet F.plain_max_loop _, mx_on W cmp out _ 0 _ v _ rfl hn (W.frame _ _ _ st' fun q hq o e => ?_) pv (Heap.get?_update_self _ hL' rfl) fun v' h2 t2 pv' kp2 => ?_⟩
  · exact (Heap.get?_update_other _ _ (fun h : L = q => out (h ▸ hq))).trans e
  · exact fin v' h2 t2 pv' fun q o hq hqL e => kp2 q o hq hqL ((Heap.get?_update_other _ _ (Ne.symm hqL)).trans (kp q o hq e))
/-- none at all -/
theorem mx_none {d : Value} {k : Str} (W : Walks prog w A.in1 I fp wr 0 P St) (out : L ∉ fp) {s : Shared} {c : Nat} (st : St 0 s.heap) (hL : s.heap.get? L = some { cls := .type "list", dict := none, data := .seq #[] c, slots := #[] })
    (fin : ∀ h' tk, (∀ q o, q ∉ wr → q ≠ L → s.heap.get? q = some o → h'.get? q = some o) → R (.ok (.ret d)) { s with heap := h', toks := tk }) : codeAny (model prog w) A (.builtin "max.loop" ⟨[.ref I, .none, .ref L], [(k, d)]⟩) R s := by
  refine codeAny_builtin F.entry_max_loop ?_
  rw [Around.under_plainId F.plain_max_loop _]
  refine wpAny_bind (m := seqItems? (.ref L)) (wpAny_seqItems hL rfl (wpAny_bind (m := tryCatch (pyNext (.ref I)) _) (wpAny_tryCatch (W.done s _ _ st fun h' tk kp => ?_))))
  exact wpAny_bind (wpAny_rule (wpAny_pure (fin h' tk fun q o hq _ e => kp q o hq e)))
end
section
variable {prog : Program} {w : World} {A : Around} {E : Value → Shared → Prop} {s : Shared} {l : Addr} {xs : Array (Int × Tok)}
theorem mx_call {Q : Value → Shared → Prop} {d : Value} (hh : A.handled = none) (hl : s.heap.IsList l (intItems xs))
    (h : ∀ v h' tk, (if 0 < xs.size then (intItems xs)[argBest (fun i j => decide (numAt xs i > numAt xs j)) (xs.size - 1)]? = some v else v = d) → (∀ b o, s.heap.get? b = some o → h'.get? b = some o) → Q v { s with heap := h', toks := tk }) :
    wpAny (model prog w) A (call (.builtin "max") [.ref l] [(Str.ofString "default", d)]) Q E s := by
  have nm : (toString "max" ++ toString ".loop" : String) = "max.loop" := by decide
  refine kmk_tree PySem.F.kind_max PySem.F.plain_max PySem.F.entry_max (mx_args _ _) ?_
  refine wpAny_bind (m := Builtin.Builtins.bindParams "max" ["key", "default"] 0 ⟨[], [(Str.ofString "default", d)]⟩) (wpAny_of_eq (show Builtin.Builtins.bindParams "max" ["key", "default"] 0 ⟨[], [(Str.ofString "default", d)]⟩ = pure [none, some d] from rfl) (wpAny_bind (wpAny_pure ?_)))
  refine wpAny_bind (iter_intList hl fun s₂ e st hfp hlI => ?_)
  subst e
  refine wpAny_bind (wpAny_newObj_type ?_)
  have out : (s.heap.push { cls := .type "list_iterator", data := .fields #[.ref l, .int 0 0] }).objs.size ∉ [s.heap.objs.size, l] := fun hm => Nat.lt_irrefl _ (hfp _ hm)
  rw [nm]
  have W := Walks.list (A := A.in1) (prog := prog) (w := w) hh s.heap.objs.size l hlI (intItems xs)
  have kept : ∀ {h' : Heap}, (∀ q o, q ∉ [s.heap.objs.size] → q ≠ (s.heap.push { cls := .type "list_iterator", data := .fields #[.ref l, .int 0 0] }).objs.size → ((s.heap.push { cls := .type "list_iterator", data := .fields #[.ref l, .int 0 0] }).push { cls := .type "list", data := .seq ([] : List Value).toArray }).get? q = some o → h'.get? q = some o) → ∀ b o, s.heap.get? b = some o → h'.get? b = some o := by
    intro h' kp b o e
    have lt := Heap.lt_size e
    refine kp b o (fun hm => ?_) (fun z => ?_) (Heap.get?_push_of_some _ (Heap.get?_push_of_some _ e))
    · rw [List.mem_singleton] at hm
      exact Nat.lt_irrefl _ (hm ▸ lt)
    · rw [z, Heap.size_push] at lt
      exact Nat.lt_irrefl _ (Nat.lt_trans (Nat.lt_succ_self _) lt)
  by_cases hn : 0 < xs.size
  · refine wpAny_pure ⟨plainId_quiet F.plain_max_loop _, mx_first W (CmpOf.ints_gt (numAt xs) (fun _ _ => intItems_at)) out (by simpa [intItems] using hn) (W.frame _ _ _ st fun b _ o e => Heap.get?_push_of_some _ e) (Heap.get?_push_size _ rfl) fun v h' tk pv kp => ?_⟩
    exact h v h' tk (by rw [if_pos hn]; simpa [intItems] using pv) (kept kp)
  · have hx : xs.size = 0 := by omega
    have h0 : (intItems xs).size = 0 := by simpa [intItems] using hx
    rw [h0] at W
    refine wpAny_pure ⟨plainId_quiet F.plain_max_loop _, mx_none W out (W.frame _ _ _ st fun b _ o e => Heap.get?_push_of_some _ e) (Heap.get?_push_size _ rfl) fun h' tk kp => ?_⟩
    exact h d h' tk (by rw [if_neg hn]) (kept kp)
end
section
variable {free : List Str} {D : Den} {n : Nat} {N : List Str} {sc : Scope} {X : Cx}
def tMxd (K : Frag) (ta td : TE) : TE := fun σ H Q => ta σ H fun x H1 => td σ H1 fun y H2 => ∃ (a : Addr) (ns : List Int), x = .ref a ∧ SqL K H2 a (ns.map V.int) ∧ (ns = [] → Q y H2) ∧ ∀ m, m ∈ ns → (∀ k ∈ ns, k ≤ m) → Q (.int m) H2
theorem pe_mxd {ea ed : Expr} {ta td : TE} {np kp p : Pos} (calm : X.calm = true) (gl : Gl X "max") (ml : X.mg "max" = none) (ha : PE X ea ta) (hd : PE X ed td) (na : starEach [ea] X.env = (false, eval ea X.env) :: starEach [] X.env) :
    PE X (.Call (.Name "max" np) [ea] [⟨some "default", ed, kp⟩] p) (tMxd X.K ta td) := by
  refine ⟨fun pins s σ H Q I h => ?_⟩
  show wpAny (model X.prog X.w) X.A (eval (.Name "max" np) X.env >>= fun f => callWith p f [] (backTo p (starEach [ea] X.env)) (backToKw p (keywordEach [⟨some "default", ed, kp⟩] X.env))) _ _ _
  refine wpAny_bind (ld_blt I gl ml (u := .builtin "max") (by decide +kernel) ?_)
  refine callWith_kw (id := "max") (kws := [⟨some "default", ed, kp⟩]) (args_cons (thn (ha.run pins s σ H _ I h) fun u s1 ⟨x, H1, I1, r1, q1⟩ => args_nil (kws_cons (thn (hd.run pins s1 σ H1 _ I1 q1) fun v s2 ⟨y, H2, I2, r2, q2⟩ => kws_nil ?_))) na) (by rw [na]; rfl) (by rw [na]; rfl) rfl rfl
  obtain ⟨a, ns, rfl, hs, q0, q⟩ := q2
  obtain ⟨its, rv, hl, _⟩ := I2.list hs
  cases r1
  have hi := rv.ints
  obtain ⟨xs, e⟩ := hi.allInts.items
  have hn : numsOf (intItems xs).toList = ns := by rw [← e]; exact hi.numsOf
  rw [nums_intItems] at hn
  have hl2 := hl.isList
  rw [e] at hl2
  refine mx_call (I2.ok.hd calm) hl2 fun w h' tk hw kp => ?_
  by_cases hz : 0 < xs.size
  · rw [if_pos hz] at hw
    obtain ⟨t, rfl⟩ := intItems_at hw
    obtain ⟨b1, b2⟩ := argBest_gt (numAt xs) (xs.size - 1)
    refine ⟨.int _, H2, I2.kept kp, ⟨_, rfl⟩, q _ ?_ fun k hk => ?_⟩
    · rw [← hn, numAt_eq]
      exact PySem.getD_mem (by rw [List.length_map, Array.length_toList]; omega)
    · rw [← hn] at hk
      obtain ⟨j, hj, rfl⟩ := mem_getD hk
      rw [List.length_map, Array.length_toList] at hj
      rw [← numAt_eq]
      exact b2 j (by omega)
  · rw [if_neg hz] at hw
    subst hw
    have h0 : ns = [] := by
      have : xs.size = 0 := by omega
      rw [← hn]
      simp [Array.toList_eq_nil_iff, Array.size_eq_zero_iff.mp this]
    exact ⟨y, H2, I2.kept kp, r2, q0 h0⟩
theorem maxD_ok {d : Int} : ∀ {x : Int} {xs : List Int}, maxD d (x :: xs) ∈ x :: xs ∧ ∀ k ∈ x :: xs, k ≤ maxD d (x :: xs) := by
  have go : ∀ (xs : List Int) (x : Int), (xs.foldl max x = x ∨ xs.foldl max x ∈ xs) ∧ x ≤ xs.foldl max x ∧ ∀ k ∈ xs, k ≤ xs.foldl max x := by
    intro xs
    induction xs with
    | nil => intro x; exact ⟨.inl rfl, Int.le_refl _, fun k h => by cases h⟩
    | cons y xs ih =>
      intro x
      obtain ⟨h1, h2, h3⟩ := ih (max x y)
      rw [List.foldl_cons]
      refine ⟨?_, by omega, fun k hk => ?_⟩
      · rcases h1 with h1 | h1
        · by_cases c : x ≤ y
          · exact .inr (by rw [h1, Int.max_eq_right c]; exact List.mem_cons_self ..)
          · exact .inl (by rw [h1, Int.max_eq_left (by omega)])
        · exact .inr (List.mem_cons_of_mem _ h1)
      · rcases List.mem_cons.mp hk with z | z
        · rw [z]; omega
        · exact h3 k z
  intro x xs
  obtain ⟨h1, h2, h3⟩ := go xs x
  refine ⟨?_, fun k hk => ?_⟩
  · rcases h1 with h1 | h1
    · show xs.foldl max x ∈ _
      rw [h1]; exact List.mem_cons_self ..
    · exact List.mem_cons_of_mem _ h1
  · rcases List.mem_cons.mp hk with z | z
    · rw [z]; exact h2
    · exact h3 k z
theorem s_mxd (c : Ctx free D n N sc X) {a d : CE} {np kp p : Pos} (g : glB sc "max" = true) (m : ("max" : Str) ∈ free) (ha : PE X a.py (tEv X.K D a)) (hd : PE X d.py (tEv X.K D d)) : PE X (CE.mxd np a d kp p).py (tEv X.K D (.mxd np a d kp p)) := by
  refine peBy (pe_mxd c.calm (c.gl g) (c.fre _ m) ha hd (star_cons a _ _)) fun σ H Q ⟨S, Hf, F, r, S', rel, he, q⟩ => ?_
  unfold ev at he
  rw [Option.bind_eq_some_iff] at he
  obtain ⟨⟨⟨m1, v1⟩, S1⟩, e1, he⟩ := he
  rw [gd_some] at he
  obtain ⟨l, he⟩ := he
  rw [Option.bind_eq_some_iff] at he
  obtain ⟨⟨⟨m2, v2⟩, S2⟩, e2, he⟩ := he
  cases v1 with
  | lst xs =>
    cases v2 with
    | int i =>
      have he : (intsOf xs).map (fun l => (((.own 0, .int (maxD i l)) : Res), S2)) = some (r, S') := he
      rw [Option.map_eq_some_iff] at he
      obtain ⟨ns, e3, he⟩ := he
      obtain ⟨rfl, rfl⟩ := Prod.mk.inj he
      refine two (Rr := fun x y H2 => _) rel e1 l e2 fun x y H2 Hf2 F2 rel2 st2 re1 re2 _ pu => ?_
      obtain rfl := re2.int_
      obtain ⟨ad, ys, rfl, hr, rl⟩ := re1.lst_
      obtain rfl := intsOf_ok rl e3
      have fin : ∀ w : Int, w = maxD i ns → Q (.int w) H2 := fun w hw => by
        subst hw
        exact q _ H2 Hf2 F2 (.frz rel2 st2 (.int _) (.inl rfl)) fun hp => pu (by unfold CE.pure at hp; exact hp)
      refine ⟨ad, ns, rfl, hr.sq, fun h0 => ?_, fun w hw hm => ?_⟩
      · subst h0
        exact fin i rfl
      · cases ns with
        | nil => cases hw
        | cons y ys =>
          obtain ⟨k1, k2⟩ := maxD_ok (d := i) (x := y) (xs := ys)
          exact fin w (Int.le_antisymm (k2 w hw) (hm _ k1))
    | _ => cases he
  | _ => cases he
end
end BV
/-! A star among the targets. -/
namespace BV
open PySem PySem.Spec PyProof.Rows L2
section
variable {prog : Program} {w : World} {A : Around} {E : Value → Shared → Prop} {s : Shared}
/-- what is left of a walk -/
theorem walks_on {I : Addr} {fp wr : List Addr} {n : Nat} {P : Nat → Value → Prop} {St : Nat → Heap → Prop} (W : Walks prog w A I fp wr n P St) (i : Nat) (hi : i ≤ n) :
    Walks prog w A I fp wr (n - i) (fun j v => P (i + j) v) (fun j h => St (i + j) h) where
  sub := W.sub
  frame := fun j => W.frame (i + j)
  item := fun j s Q E hj st k => W.item (i + j) s Q E (by omega) st k
  done := fun s Q E st k => W.done s Q E (by rw [show i + (n - i) = n by omega] at st; exact st) k
  self := fun j => W.self (i + j)
theorem star_items {t : Addr} {its : List Value} {n i : Nat} {Q : List Value → Shared → Prop} (hh : A.handled = none) (ht : IsTup s.heap t its.toArray) (hl : i + (n - 1 - i) ≤ its.length) (hz : its.length ≤ sizeLine)
    (k : ∀ h' tk p c, (∀ b o, s.heap.get? b = some o → h'.get? b = some o) → s.heap.get? p = none → h'.get? p = some { cls := .type "list", data := .seq ((its.drop i).take (its.length - i - (n - 1 - i))).toArray c } →
      Q (its.take i ++ .ref p :: its.drop (its.length - (n - 1 - i))) { s with heap := h', toks := tk }) : wpAny (model prog w) A (unpackItems (.ref t) n (some i)) Q E s := by
  have hlt : t ≠ s.heap.objs.size := by obtain ⟨o, ho, _⟩ := ht; exact Nat.ne_of_lt (Heap.lt_size ho)
  have ht' : s.heap.IsTuple t its.toArray := ht
  unfold unpackItems
  unfold notIterableAtAll
  refine wpAny_bind (wpAny_bind (wpAny_specialOf ht.typeIs slot_tuple_iter.lookup (wpAny_pure ?_)))
  simp only [Bool.false_eq_true, if_false]
  refine wpAny_bind (wpAny_holding (wpAny_pyIter_tuple ht' ?_))
  have hit : (s.heap.push { cls := .type "tuple_iterator", data := .fields #[.ref t, .int 0 0] }).IsTupleIter s.heap.objs.size t 0 := ⟨_, Heap.get?_push_size _ rfl, rfl, rfl⟩
  refine wpAny_bind (wpAny_holding (wpAny_draw_tuple hlt i 0 _ _ hit (ht'.push _) (by simp; omega) fun h1 hit1 same1 => ?_))
  have ht1 : h1.IsTuple t its.toArray := (ht'.push _).extBut same1.extBut hlt
  have hfirst : ((its.toArray.toList.drop 0).take i).length = i := by simp; omega
  rw [if_neg (by rw [hfirst]; exact Nat.lt_irrefl _)]
  have W := walks_on (Walks.tuple (prog := prog) (w := w) (A := A.in1) hh s.heap.objs.size t hlt its.toArray) i (by simp; omega)
  have sz1 : h1.objs.size = s.heap.objs.size + 1 := by rw [same1.1]; exact Heap.size_push _ _
  refine wpAny_bind (wpAny_holding (wpAny_collect_iter (T := "tuple_iterator") (.inr (.inr (.inr rfl))) W.toS (fun j s' st => st.1.typeIs) (⟨by rw [Nat.zero_add] at hit1; exact hit1, ht1⟩) (fun b hb => ?_) (by simp) (fun s2 acc mv hacc => ?_) (by simp; omega)))
  · show b < h1.objs.size
    rw [sz1]
    rcases List.mem_cons.mp hb with rfl | hb
    · exact Nat.lt_succ_self _
    · have : b = t := by simpa using hb
      subst this
      obtain ⟨o, ho, _⟩ := ht
      exact Nat.lt_succ_of_lt (Heap.lt_size ho)
  · have hal : acc.toList = its.drop i := by
      have hs := hacc.1
      apply List.ext_getElem?
      intro j
      by_cases hj : j < acc.size
      · have e1 : acc.toList[j]? = some acc[j] := by simp [hj]
        have e2 := hacc.2 j acc[j] (by simp [hj])
        rw [e1, List.getElem?_drop]
        simpa using e2.symm
      · rw [List.getElem?_eq_none (by simpa using hj), List.getElem?_eq_none (by rw [List.length_drop]; simp at hs; omega)]
    rw [hal]
    have hrest : (its.drop i).length = its.length - i := List.length_drop
    rw [if_neg (by rw [hrest]; omega)]
    refine wpAny_bind (wpAny_newList ?_ (by rw [List.length_take]; omega))
    refine wpAny_pure ?_
    obtain ⟨hp2, g2, d2, t2, os2⟩ := s2
    have eg : g2 = s.gens := mv.gens
    have ed : d2 = s.drawn := mv.drawn
    have eo : os2 = s.os := mv.os
    subst eg ed eo
    have keep : ∀ b o, s.heap.get? b = some o → hp2.get? b = some o := fun b o e => by
      have nb : b ≠ s.heap.objs.size := Nat.ne_of_lt (Heap.lt_size e)
      exact mv.heap b o (by simpa using nb) (same1.extBut b o nb (Heap.get?_push_of_some _ e))
    have hle : s.heap.get? hp2.objs.size = none := by
      cases q : s.heap.get? hp2.objs.size with
      | none => rfl
      | some o => exact absurd (Heap.lt_size (keep _ o q)) (Nat.lt_irrefl _)
    have eq1 : its.length - i - (n - 1 - i) = (its.drop i).length - (n - 1 - i) := by rw [hrest]
    have eq2 : (its.drop i).drop ((its.drop i).length - (n - 1 - i)) = its.drop (its.length - (n - 1 - i)) := by
      rw [List.drop_drop, hrest]
      congr 1
      omega
    have r := k (hp2.push { cls := .type "list", data := .seq ((its.drop i).take ((its.drop i).length - (n - 1 - i))).toArray }) t2 hp2.objs.size _ (fun b o e => Heap.get?_push_of_some _ (keep b o e)) hle (by rw [eq1]; exact Heap.get?_push_size _ rfl)
    rw [eq2]
    simpa using r
end
section
variable {free : List Str} {D : Den} {n : Nat} {N : List Str} {sc : Scope} {X : Cx}
def gStar (K : Frag) (i n : Nat) (t : TGs) : TG := fun v σ H Q => ∃ (a : Addr) (xs : List V), v = .ref a ∧ SqT K H a xs ∧ i + (n - 1 - i) ≤ xs.length ∧ ∀ p, H p = none → t (xs.take i ++ .ref p :: xs.drop (xs.length - (n - 1 - i))) σ (upd H p (.lst ((xs.drop i).take (xs.length - i - (n - 1 - i))))) Q
theorem vals_take : ∀ {xs : List V} {us : List Value} (k : Nat), Vals xs us → Vals (xs.take k) (us.take k)
  | _, _, 0, _ => by simp; exact .nil
  | _, _, _ + 1, .nil => by simp; exact .nil
  | _, _, k + 1, .cons h r => .cons h (vals_take k r)
theorem vals_drop : ∀ {xs : List V} {us : List Value} (k : Nat), Vals xs us → Vals (xs.drop k) (us.drop k)
  | _, _, 0, h => h
  | _, _, _ + 1, .nil => by simp; exact .nil
  | _, _, k + 1, .cons h r => vals_drop k r
theorem pg_star {es es' : List Expr} {k i n : Nat} {t : TGs} {pos : Pos} (hc : X.calm = true) (h : PGs X es' t) (hn : (assignEach es X.env).length = n) (hi : (assignEach es X.env).findIdx? (·.1) = some i) (hm : (assignEach es X.env).map (·.2) = (assignEach es' X.env).map (·.2)) :
    PG X (.Tuple es k pos) (gStar X.K i n t) := by
  refine ⟨fun pins s σ H v u Q I r hw => ?_⟩
  obtain ⟨a, xs, e1, hq, hl, hw⟩ := hw
  subst e1
  cases r
  obtain ⟨its, rv, ht, hz⟩ := I.tuple hq
  have len : its.length = xs.length := rv.length.symm
  rw [PyProof.Rows.assign_Tuple]
  refine wpAny_bind (wpAny_standAt ?_)
  unfold unpack
  rw [hn, hi]
  refine wpAny_bind (wpAny_holding (star_items (I.ok.hd hc) ht (by rw [len]; exact hl) (by rw [len]; exact hz) fun h' tk p c kp np hp => ?_))
  have hH : H p = none := I.hok.gone np
  have vm : Vals ((xs.drop i).take (xs.length - i - (n - 1 - i))) ((its.drop i).take (its.length - i - (n - 1 - i))) := by rw [len]; exact vals_take _ (vals_drop _ rv)
  have I1 : Inv X pins σ (upd H p (.lst ((xs.drop i).take (xs.length - i - (n - 1 - i))))) { s with heap := h', toks := tk } :=
    I.laidN kp np hH ⟨by rw [List.length_take, List.length_drop]; omega, _, c, vm, hp⟩
  rw [hm]
  refine h.run pins _ σ _ _ _ Q I1 ?_ (hw p hH)
  rw [len]
  exact (vals_take i rv).append (.cons rfl (vals_drop _ rv))
theorem app_py : ∀ (pre post : CTs), (pre.app post).py = pre.py ++ post.py
  | .nil, _ => rfl
  | .cons t ts, post => congrArg (t.py :: ·) (app_py ts post)
theorem each_app (env : Env) : ∀ (pre : CTs) (es : List Expr), assignEach (pre.py ++ es) env = assignEach pre.py env ++ assignEach es env
  | .nil, _ => rfl
  | .cons t ts, es => by
    show assignEach (t.py :: (ts.py ++ es)) env = assignEach (t.py :: ts.py) env ++ _
    rw [CT.each, CT.each, each_app env ts es]
    rfl
theorem star_each {pre post : CTs} {x : Str} {px ps : Pos} {i : Nat} (env : Env) : (assignEach (pre.py ++ .Starred (.Name x px) ps :: post.py) env).length = pre.len + post.len + 1 ∧
    (assignEach (pre.py ++ .Starred (.Name x px) ps :: post.py) env).findIdx? (·.1) = some pre.len ∧
    (assignEach (pre.py ++ .Starred (.Name x px) ps :: post.py) env).map (·.2) = (assignEach (pre.app (.cons (.name i x px) post)).py env).map (·.2) := by
  have es : assignEach (.Starred (.Name x px) ps :: post.py) env = (true, assign (.Name x px) env) :: assignEach post.py env := rfl
  have e2 : assignEach ((CTs.cons (.name i x px) post).py) env = (false, assign (.Name x px) env) :: assignEach post.py env := rfl
  have l1 := CTs.each_len pre env
  have l2 := CTs.each_len post env
  have e3 : assignEach (pre.app (.cons (.name i x px) post)).py env = assignEach pre.py env ++ ((false, assign (.Name x px) env) :: assignEach post.py env) := by rw [app_py, each_app, e2]
  rw [e3, each_app, es]
  refine ⟨by rw [List.length_append, List.length_cons, l1.1, l2.1]; omega, ?_, by simp⟩
  rw [List.findIdx?_append, l1.2, l1.1, List.findIdx?_cons]
  simp
theorem app_wf {N : List Str} {sc : Scope} {fb : Str → Bool} : ∀ {pre post : CTs}, (pre.app post).wf N sc fb = true ↔ pre.wf N sc fb = true ∧ post.wf N sc fb = true
  | .nil, post => by simp [CTs.app, CTs.wf]
  | .cons t ts, post => by
    show (t.wf N sc fb && (ts.app post).wf N sc fb) = true ↔ (t.wf N sc fb && ts.wf N sc fb) = true ∧ _
    rw [Bool.and_eq_true, Bool.and_eq_true, app_wf, and_assoc]
end
end BV
/-! dict(enumerate(a tuple)). -/
namespace BV
open PySem PySem.Spec PyProof.Rows L2
section
variable {prog : Program} {w : World} {A : Around} {E : Value → Shared → Prop} {s : Shared} {e it T : Addr} {fp : List Addr} {n i : Nat} {P : Nat → Value → Prop} {St : Nat → Heap → Prop} {old : Value} {f : Bool} {oT : Obj}
/-- a turn of enumerate while its last pair is held -/
theorem en_turn {Q : Value → Shared → Prop} (D : Draws prog w A it fp n P St) (he : IsEnumHeld s.heap e it i old T f) (hT : s.heap.get? T = some oT) (te : T ≠ e) (ti : T ≠ it) (st : St i s.heap) (lt : i < n) (ne : e ≠ it) (ef : e ∉ fp)
    (k : ∀ x h' u, P i x → IsEnumHeld h' e it ((i : Int) + 1) old T true → St (i + 1) h' → h'.get? s.heap.objs.size = some { cls := .type "tuple", data := .seq #[.int i u, x] } → (∀ b o, b ≠ e → b ≠ it → s.heap.get? b = some o → h'.get? b = some o) → Q (.ref s.heap.objs.size) { s with heap := h', toks := u + 1 }) :
    wpAny (model prog w) A (Builtin.«enumerate.__next__» ⟨[.ref e], []⟩) (fun fin s' => ∃ v, fin = .done (.ret v) ∧ Q v s') E s := by
  obtain ⟨hp, g, d, t0, os⟩ := s
  refine wpAny_bind (m := field (.ref e) 2) (wpAny_field he rfl (x := .ref it) rfl (wpAny_bind (D.item i _ _ _ lt st fun x q1 u px st1 s1 => ?_)))
  have s1 : Heap.SameBut it hp q1 := s1
  have e1 : IsEnumHeld q1 e it i old T f := (s1.2 e ne).trans he
  refine wpAny_bind (m := field (.ref e) 3) (wpAny_field (s := ⟨q1, g, d, u, os⟩) e1 rfl (x := rawInt i) rfl (wpAny_bind (m := field (.ref e) 4) (wpAny_field (s := ⟨q1, g, d, u, os⟩) e1 rfl (x := .none) rfl (wpAny_bind (m := mkInt i) (wpAny_mkInt ?_)))))
  refine wpAny_bind (m := setField (.ref e) 3 (rawInt ((i : Int) + 1))) (wpAny_setField_rec (s := ⟨q1, g, d, u + 1, os⟩) e1 (by simp) fun q2 e2 s2 => ?_)
  have s2 : Heap.SameBut e q1 q2 := s2
  have e2 : IsEnumHeld q2 e it ((i : Int) + 1) old T f := e2
  refine wpAny_bind (m := setField (.ref e) 4 .none) (wpAny_setField_rec (s := ⟨q2, g, d, u + 1, os⟩) e2 (by simp) fun q3 e3 s3 => ?_)
  have s3 : Heap.SameBut e q2 q3 := s3
  have e3 : IsEnumHeld q3 e it ((i : Int) + 1) old T f := e3
  refine wpAny_bind (m := newTuple [.int i u, x]) (wpAny_newTuple ?_)
  have sz : q3.objs.size = hp.objs.size := by rw [s3.1, s2.1, s1.1]
  have e4 : IsEnumHeld (q3.push { cls := .type "tuple", data := .seq #[.int i u, x] }) e it ((i : Int) + 1) old T f := Heap.get?_push_of_some _ e3
  have old3 : ∀ b o, b ≠ e → b ≠ it → hp.get? b = some o → (q3.push { cls := .type "tuple", data := .seq #[.int i u, x] }).get? b = some o := fun b o be bi h => Heap.get?_push_of_some _ (s3.extBut b o be (s2.extBut b o be (s1.extBut b o bi h)))
  have st4 : St (i + 1) (q3.push { cls := .type "tuple", data := .seq #[.int i u, x] }) := D.frame _ _ _ (D.over (D.over st1 s2 ef) s3 ef) fun b _ o h => Heap.get?_push_of_some _ h
  have new4 : (q3.push { cls := .type "tuple", data := .seq #[.int i u, x] }).get? hp.objs.size = some { cls := .type "tuple", data := .seq #[.int i u, x] } := by rw [← sz]; exact Heap.get?_push_size _ rfl
  have lt4 : e ≠ hp.objs.size := Nat.ne_of_lt (Heap.lt_size he)
  have arr : ([Value.int i u, x] : List Value).toArray = #[.int i u, x] := rfl
  refine wpAny_bind (m := Builtin.SmallTypes.ownedTupleIsFree (.ref e)) (wpAny_tupleHeld_enum (s := ⟨q3.push { cls := .type "tuple", data := .seq #[.int i u, x] }, g, d, u + 1, os⟩) e4 (old3 T oT te ti hT) fun q5 e5 s5 => ?_)
  have s5 : Heap.SameBut e (q3.push { cls := .type "tuple", data := .seq #[.int i u, x] }) q5 := s5
  simp only [Bool.false_eq_true, if_false]
  refine wpAny_pure ⟨_, rfl, ?_⟩
  have r := k x q5 u px e5 (D.over st4 s5 ef) (s5.extBut _ _ lt4.symm new4) fun b o be bi h => s5.extBut b o be (old3 b o be bi h)
  rw [sz]
  exact r
theorem en_next {Q : Option Value → Shared → Prop} (D : Draws prog w A.in1 it fp n P St) (he : IsEnumHeld s.heap e it i old T f) (hT : s.heap.get? T = some oT) (te : T ≠ e) (ti : T ≠ it) (st : St i s.heap) (lt : i < n) (ne : e ≠ it) (ef : e ∉ fp)
    (k : ∀ x h' u, P i x → IsEnumHeld h' e it ((i : Int) + 1) old T true → St (i + 1) h' → h'.get? s.heap.objs.size = some { cls := .type "tuple", data := .seq #[.int i u, x] } → (∀ b o, b ≠ e → b ≠ it → s.heap.get? b = some o → h'.get? b = some o) → Q (some (.ref s.heap.objs.size)) { s with heap := h', toks := u + 1 }) :
    wpAny (model prog w) A (pyNext (.ref e)) Q E s := by
  have ty : s.TypeIs (.ref e) "enumerate" := ⟨_, he, rfl⟩
  unfold pyNext
  exact wpAny_bind (wpAny_attempt (wpAny_callSpecial?_slot (name := Str.ofString "__next__") ty F.slot_enumerate_next (wpAny_call_entry F.slot_enumerate_next ty F.entry_enumerate_next (en_turn D he hT te ti st lt ne ef fun x h' u a b c d f => wpAny_pure (k x h' u a b c d f)) (F.args_enumerate_next_1 _))))
theorem en_end {Q : Option Value → Shared → Prop} {c0 c1 : Value} (D : Draws prog w A.in1 it fp n P St) (he : s.heap.get? e = some { cls := .type "enumerate", dict := none, data := .fields #[c0, c1, .ref it, rawInt i, .none, old], slots := #[] }) (st : St n s.heap) (k : ∀ h', Heap.ExtBut it s.heap h' → Q none { s with heap := h' }) :
    wpAny (model prog w) A (pyNext (.ref e)) Q E s := by
  have ty : s.TypeIs (.ref e) "enumerate" := ⟨_, he, rfl⟩
  unfold pyNext
  refine wpAny_bind (wpAny_attempt (wpAny_callSpecial?_slot (name := Str.ofString "__next__") ty F.slot_enumerate_next (wpAny_call_entry F.slot_enumerate_next ty F.entry_enumerate_next ?_ (F.args_enumerate_next_1 _))))
  refine wpAny_bind (m := field (.ref e) 2) (wpAny_field he rfl (x := .ref it) rfl (wpAny_bind (D.done _ _ _ st fun h' x ext ⟨o, ho, hc⟩ => ?_)))
  exact wpAny_bind (wpAny_isInstance (T := "StopIteration") (b := true) ⟨o, ho, hc⟩ isSubtype_stop (wpAny_pure (k _ ext)))
end
theorem pairs_enumT {prog : Program} {w : World} (e it t : Addr) (ei : e ≠ it) (et : t ≠ e) (ti : t ≠ it) (items : Array Value) :
    PairArg prog w "enumerate" e [e, it, t] [e, it] items.size (fun i k v => (∃ u, k = .int i u) ∧ items[i]? = some v) (fun h => (∃ old, IsEnum h e it 0 old) ∧ h.IsTupleIter it t 0 ∧ h.IsTuple t items) where
  type := fun s ok => let ⟨⟨_, he⟩, _⟩ := ok; ⟨_, he, rfl⟩
  notDict := by decide
  keep := fun h h' ok hk => by
    obtain ⟨⟨old, he⟩, ⟨o1, h1, r1⟩, ⟨o2, h2, r2⟩⟩ := ok
    exact ⟨⟨old, hk _ _ he⟩, ⟨o1, hk _ _ h1, r1⟩, ⟨o2, hk _ _ h2, r2⟩⟩
  there := fun h ok b hb => by
    obtain ⟨⟨old, he⟩, ⟨o1, h1, _⟩, ⟨o2, h2, _⟩⟩ := ok
    simp only [List.mem_cons, List.not_mem_nil, or_false] at hb
    rcases hb with z | z | z
    · exact ⟨_, z ▸ he⟩
    · exact ⟨_, z ▸ h1⟩
    · exact ⟨_, z ▸ h2⟩
  sub := fun b hb => by
    simp only [List.mem_cons, List.not_mem_nil, or_false] at hb ⊢
    exact hb.elim .inl fun z => .inr (.inl z)
  noKeys := fun A s Q E hA ok h => let ⟨⟨_, he⟩, _⟩ := ok; getAttrOr_miss_enumerate he rfl rfl rfl enumerate_no_keys (by decide +kernel) hA h
  iter := fun A s d Q E hA ok hd hdf h => by
    obtain ⟨⟨old, he⟩, hit, hl⟩ := ok
    simp only [List.mem_cons, List.not_mem_nil, or_false, not_or] at hdf
    obtain ⟨de, di, dt⟩ := hdf
    have D := Draws.tuple (prog := prog) (w := w) (A := A.in1) hA it t ti items
    have ef : e ∉ [it, t] := by simp only [List.mem_cons, List.not_mem_nil, or_false, not_or]; exact ⟨ei, et.symm⟩
    refine wpAny_pyIter_enum he (h e [e, it] (fun i h => (h.IsTupleIter it t i ∧ h.IsTuple t items) ∧ ((∃ old, IsEnum h e it i old) ∨ ∃ old T f oT, IsEnumHeld h e it i old T f ∧ h.get? T = some oT ∧ T ≠ e ∧ T ≠ it ∧ T ≠ d)) s.heap s.toks ?_ ⟨⟨hit, hl⟩, .inl ⟨old, he⟩⟩ (fun _ _ z => z) fun b hb => .inl hb)
    refine ⟨fun hm => ?_, fun i h1 h2 st hk => ?_, fun i s1 Q1 E1 hi st hds hQ => ?_, fun s1 Q1 E1 st hQ => ?_⟩
    · simp only [List.mem_cons, List.not_mem_nil, or_false] at hm
      exact hm.elim de di
    · obtain ⟨⟨⟨o1, a1, r1⟩, ⟨o2, a2, r2⟩⟩, hz⟩ := st
      refine ⟨⟨⟨o1, hk _ _ (Ne.symm di) a1, r1⟩, ⟨o2, hk _ _ (Ne.symm dt) a2, r2⟩⟩, ?_⟩
      rcases hz with ⟨old, hz⟩ | ⟨old, T, f, oT, hz, hT, z1, z2, z3⟩
      · exact .inl ⟨old, hk _ _ (Ne.symm de) hz⟩
      · exact .inr ⟨old, T, f, oT, hk _ _ (Ne.symm de) hz, hk _ _ z3 hT, z1, z2, z3⟩
    · obtain ⟨st, hz⟩ := st
      have ec : ((i + 1 : Nat) : Int) = (i : Int) + 1 := by omega
      have nit : s1.heap.objs.size ≠ it := let ⟨_, x, _⟩ := st.1; Nat.ne_of_gt (Heap.lt_size x)
      rcases hz with ⟨old, hz⟩ | ⟨old, T, f, oT, hz, hT, z1, z2, z3⟩
      · refine wpAny_pyNext_enum_itemC D hz st hi ei ef fun x h' u px ho st' hT _ hk => ?_
        refine hQ s1.heap.objs.size (.int i u) x h' (u + 1) ⟨⟨_, rfl⟩, px⟩ (.inl ⟨_, hT, rfl, _, rfl⟩) ⟨st', .inr ⟨x, s1.heap.objs.size, false, _, ?_, hT, Nat.ne_of_gt (Heap.lt_size hz), nit, Nat.ne_of_gt hds⟩⟩ fun b o hb z => hk b o (fun y => hb (by simp [y])) (fun y => hb (by simp [y])) z
        rw [ec]; exact ho
      · refine en_next D hz hT z1 z2 st hi ei ef fun x h' u px ho st' hT' hk => ?_
        refine hQ s1.heap.objs.size (.int i u) x h' (u + 1) ⟨⟨_, rfl⟩, px⟩ (.inl ⟨_, hT', rfl, _, rfl⟩) ⟨st', .inr ⟨old, T, true, oT, ?_, hk _ _ z1 z2 hT, z1, z2, z3⟩⟩ fun b o hb z => hk b o (fun y => hb (by simp [y])) (fun y => hb (by simp [y])) z
        rw [ec]; exact ho
    · obtain ⟨st, hz⟩ := st
      rcases hz with ⟨old, hz⟩ | ⟨old, T, f, oT, hz, hT, z1, z2, z3⟩
      · exact en_end D hz st fun h' hk => hQ h' s1.toks fun b o hb z => hk b o (fun y => hb (by simp [y])) z
      · exact en_end D hz st fun h' hk => hQ h' s1.toks fun b o hb z => hk b o (fun y => hb (by simp [y])) z
def enumK {α : Type} (i : Nat) : List α → List (Key × α)
  | [] => []
  | x :: xs => (.inl (i : Int), x) :: enumK (i + 1) xs
theorem enumK_len {α : Type} : ∀ (xs : List α) (i : Nat), (enumK i xs).length = xs.length
  | [], _ => rfl
  | _ :: xs, i => congrArg Nat.succ (enumK_len xs (i + 1))
theorem enumK_get {α : Type} : ∀ {xs : List α} {i j : Nat} {x : α}, xs[j]? = some x → (enumK i xs)[j]? = some (.inl ((i + j : Nat) : Int), x)
  | [], _, _, _, e => by simp at e
  | y :: xs, i, 0, x, e => by simp at e; subst e; simp [enumK]
  | y :: xs, i, j + 1, x, e => by
    show (enumK (i + 1) xs)[j]? = _
    rw [enumK_get (by simpa using e)]
    congr 3
    omega
theorem enumK_kv : ∀ {xs : List V} {us : List Value} (i : Nat), Vals xs us → KV (enumK i xs) (enumK i us)
  | _, _, _, .nil => .nil
  | _, _, i, .cons h r => .cons ⟨rfl, h⟩ (enumK_kv (i + 1) r)
theorem enumK_nodup {α : Type} : ∀ (xs : List α) (i : Nat), ((enumK i xs).map (·.1)).Nodup ∧ ∀ k ∈ (enumK i xs).map (·.1), ∃ j : Nat, i ≤ j ∧ k = .inl (j : Int)
  | [], _ => ⟨List.nodup_nil, fun k h => by cases h⟩
  | x :: xs, i => by
    obtain ⟨h1, h2⟩ := enumK_nodup xs (i + 1)
    refine ⟨?_, fun k hk => ?_⟩
    · show (Sum.inl (i : Int) :: (enumK (i + 1) xs).map (·.1)).Nodup
      rw [List.nodup_cons]
      refine ⟨fun h => ?_, h1⟩
      obtain ⟨j, hj, e⟩ := h2 _ h
      injection e with e
      omega
    · have hk : k ∈ Sum.inl (i : Int) :: (enumK (i + 1) xs).map (·.1) := hk
      rcases List.mem_cons.mp hk with z | z
      · exact ⟨i, Nat.le_refl _, z⟩
      · obtain ⟨j, hj, e⟩ := h2 k z
        exact ⟨j, by omega, e⟩
theorem enumD_K : ∀ (xs : List Val) (i : Nat), enumD i xs = enumK i xs
  | [], _ => rfl
  | x :: xs, i => congrArg (_ :: ·) (enumD_K xs (i + 1))
theorem enumK_rep {K : Frag} {H : Hp} : ∀ {vs : List Val} {xs : List V} (i : Nat), RepL K H vs xs → RepK K H (enumK i vs) (enumK i xs)
  | _, _, _, .nil => .nil
  | _, _, i, .cons h r => .cons h (enumK_rep (i + 1) r)
section
variable {free : List Str} {D : Den} {n : Nat} {N : List Str} {sc : Scope} {X : Cx}
def tDen (K : Frag) (ta : TE) : TE := fun σ H Q => ta σ H fun x H1 => ∃ (a : Addr) (xs : List V), x = .ref a ∧ SqT K H1 a xs ∧ ∀ p, H1 p = none → Q (.ref p) (upd H1 p (.dK (enumK 0 xs)))
theorem pe_den {ea : Expr} {ta : TE} {dp ep pe p : Pos} (calm : X.calm = true) (gd : Gl X "dict") (md : X.mg "dict" = none) (ge : Gl X "enumerate") (me : X.mg "enumerate" = none) (ha : PE X ea ta) (na : starEach [ea] X.env = (false, eval ea X.env) :: starEach [] X.env) :
    PE X (.Call (.Name "dict" dp) [.Call (.Name "enumerate" ep) [ea] [] pe] [] p) (tDen X.K ta) := by
  refine ⟨fun pins s σ H Q I h => ?_⟩
  refine Call_ (ld_blt I gd md PyProof.Rows.boot_dict (PyProof.Rows.callWith_type1 (args_cons ?_ rfl) rfl))
  have en : wpAny (model X.prog X.w) X.A (eval (.Call (.Name "enumerate" ep) [ea] [] pe) X.env) (fun z s' => wpAny (model X.prog X.w) X.A (call (.type "dict") [z]) (EP X pins σ Q) X.xe s') X.xe s := by
    refine Call_ (ld_blt I ge me boot_enumerate (PyProof.Rows.callWith_type1 (args_cons (thn (ha.run pins s σ H _ I h) fun u s1 ⟨x, H1, I1, r1, q1⟩ => args_nil ?_) na) na (by rfl)))
    obtain ⟨a, xs, rfl, hq, q⟩ := q1
    cases r1
    obtain ⟨its, rv, p', hz⟩ := I1.tuple hq
    obtain ⟨o1, ho1, _⟩ := id p'
    have lta := Heap.lt_size ho1
    refine call_enumerate_tup (show s1.heap.IsTuple a its.toArray from p') fun h' he hit hsz hk => ?_
    have len : its.length = xs.length := rv.length.symm
    have ht' : h'.IsTuple a its.toArray := by obtain ⟨o, ho, r⟩ := p'; exact ⟨o, hk _ _ ho, r⟩
    refine PySem.call_dict_pairs (knd := mixKind X.prog X.w) (kvs := enumK 0 its) (pairs_enumT (s1.heap.objs.size + 1) s1.heap.objs.size a (Nat.succ_ne_self _) (Nat.ne_of_lt (Nat.lt_succ_of_lt lta)) (Nat.ne_of_lt lta) its.toArray) (I1.ok.hd calm) ⟨⟨.none, he⟩, hit, ht'⟩ ⟨by rw [enumK_len]; simp, fun i key v hr => ?_⟩ (by simp; rw [len]; exact hz) fun h2 tk hd' kp => ?_
    · obtain ⟨⟨u, rfl⟩, hv⟩ := hr
      have hv : its[i]? = some v := by simpa using hv
      refine ⟨.inl (i : Int), ?_, ?_⟩
      · have := enumK_get (i := 0) hv
        rw [Nat.zero_add] at this
        exact this
      · show keyIs (.inl (i : Int)) (.int i u) = true
        unfold keyIs
        simp [Value.isInt]
    · have kall : ∀ b o, s1.heap.get? b = some o → h2.get? b = some o := fun b o e => by
        have lt := Heap.lt_size e
        refine kp b o (fun hm => ?_) (hk b o e)
        simp only [List.mem_cons, List.not_mem_nil, or_false] at hm
        rcases hm with z | z
        · exact Nat.lt_irrefl _ (Nat.lt_trans (Nat.lt_succ_self _) (z ▸ lt))
        · exact Nat.lt_irrefl _ (z ▸ lt)
      have hle : s1.heap.objs.size ≤ h'.objs.size := by rw [hsz]; exact Nat.le_add_right _ _
      have hm : (h'.objs.size == sysModules) = false := beq_eq_false_iff_ne.mpr (Nat.ne_of_gt (Nat.lt_of_lt_of_le I1.big hle))
      have nd := (enumK_nodup xs 0).1
      have em : mergeK [] (enumK 0 xs) = enumK 0 xs := by
        have := merge_nodup (enumK 0 xs) [] (by rw [List.map_nil, List.nil_append]; exact nd)
        simpa using this
      have kv : KV (enumK 0 xs) (merged [] (enumK 0 its)) := by
        have := KV.merge (enumK_kv 0 rv) .nil
        rw [em] at this
        exact this
      exact ⟨.ref h'.objs.size, upd H1 h'.objs.size (.dK (enumK 0 xs)), I1.laid (t' := tk) kall hle (show ObjOk X.prog X.w _ _ _ (.dK (enumK 0 xs)) from ⟨by rw [enumK_len]; exact hz, hm, merged [] (enumK 0 its), kv, hd'⟩), rfl, q _ (I1.hok.fresh hle)⟩
  exact thn en fun z s1 h1 => args_nil h1
theorem s_den (c : Ctx free D n N sc X) {a : CE} {dp ep pe p : Pos} (g1 : glB sc "dict" = true) (m1 : ("dict" : Str) ∈ free) (g2 : glB sc "enumerate" = true) (m2 : ("enumerate" : Str) ∈ free) (ha : PE X a.py (tEv X.K D a)) : PE X (CE.den dp ep a pe p).py (tEv X.K D (.den dp ep a pe p)) := by
  refine peBy (pe_den c.calm (c.gl g1) (c.fre _ m1) (c.gl g2) (c.fre _ m2) ha (star_cons a _ _)) fun σ H Q ⟨S, Hf, F, r, S', rel, he, q⟩ => ?_
  unfold ev at he
  rw [Option.bind_eq_some_iff] at he
  obtain ⟨⟨⟨m, v⟩, S1⟩, e1, he⟩ := he
  dsimp only at he
  split at he
  · rename_i d xs hq
    obtain ⟨rfl, rfl⟩ := Prod.mk.inj hq
    rw [gd_some] at he
    obtain ⟨_, he⟩ := he
    obtain ⟨rfl, rfl⟩ := Prod.mk.inj (Option.some.inj he)
    refine ⟨S, Hf, F, _, S1, rel, e1, fun x H1 Hf1 F1 g p1 => ?_⟩
    obtain ⟨Hf1', s1, rel1, st1, re1, rf1⟩ := g.opd
    cases rf1 d rfl with
    | tup hd l =>
      rename_i a ys
      refine ⟨a, ys, rfl, sqT_mono rel1.sub hd, fun b hb => ?_⟩
      have hbF : b ∉ F1 := fun h => by obtain ⟨o, e⟩ := rel1.dom b h; rw [e] at hb; cases hb
      have hbf : Hf1' b = none := by
        cases z : Hf1' b with
        | none => rfl
        | some o => rw [rel1.sub b o z] at hb; cases hb
      rw [enumD_K] at q
      refine q _ _ Hf1' F1 ⟨rel1.upd hb, st1.upd hb, [b], .dic (d := 0) upd_same (enumK_rep 0 l).ownK, ?_, ?_, ?_⟩ fun hp => (p1 (by unfold CE.pure at hp; exact hp)).trans (HSub.upd hb)
      · rw [List.nodup_append]
        refine ⟨rel1.nd, by simp, fun y hy z hz e => ?_⟩
        have : z = b := by simpa using hz
        exact hbF (this ▸ e ▸ hy)
      · intro y hy
        have : y = b := by simpa using hy
        rw [this]; exact hbf
      · intro y hy
        have : y = b := by simpa using hy
        rw [this]; exact st1.fresh hb
  · cases he
end
end BV
/-! tuple(d.values()). -/
namespace BV
open PySem PySem.Spec PyProof.Rows L2
section
open PySem.Calls PySem.W
variable {prog : Program} {w : World} {A : Around} {E : Value → Shared → Prop} {s : Shared} {r d : Addr} {κ : Type} [DecidableEq κ] {knd : PySem.KeyKind prog w κ} {kvs : List (κ × Value)} {ep : Nat}
theorem code_tuple_new_vals {Q₁ : Value → Shared → Prop} (hh : A.handled = none) (hok : s.heap.IsValuesView r d ∧ s.heap.DictAt knd d kvs ep) (hn : kvs.length ≤ sizeLine)
    (h : ∀ (h' : Heap) (tk : Nat) (acc : Array Value), (∀ b o, s.heap.get? b = some o → h'.get? b = some o) → ItemsOf (fun i v => ∃ k, kvs[i]? = some (k, v)) acc kvs.length →
      Q₁ (.ref h'.objs.size) { s with heap := h'.push { cls := .type "tuple", data := .seq acc }, toks := tk }) :
    codeAny (model prog w) A (.call (.builtin "tuple.__new__") ⟨[.type "tuple", .ref r], []⟩) (wants Q₁ E) s := by
  refine codeAny_of_tree ?_
  show wpAny _ A.in1 (do checkBuiltinCall "tuple.__new__" ⟨[.type "tuple", .ref r], []⟩; again (.builtin "tuple.__new__" ⟨[.type "tuple", .ref r], []⟩)) _ _ s
  refine wpAny_bind (wpAny_of_eq (F.newCall_tuple_1 _) (wpAny_pure ⟨plainId_quiet F.plain_tuple_new _, codeAny_builtin F.entry_tuple_new ?_⟩))
  rw [Around.under_plainId F.plain_tuple_new _]
  have hsub := sub_tuple_self
  have hinit := init_tuple_lookup
  have hmh := madeHere_tuple
  have hTI : s.TypeIs (.ref r) "dict_values" := let ⟨o, ho, hc, _⟩ := hok.1; ⟨o, ho, hc⟩
  have hh1 : A.in1.handled = none := hh
  wp_walk using wpAny_typeOf hTI, kdu_collect (A := A.in1) (kdl_values (knd := knd) (kvs := kvs) (ep := ep) (r := r) (d := d)) hh1 hok hn
  intro h' tk acc hk hacc
  show wpAny _ _ (Builtin.Tuple.tupleExact acc.toList.toArray >>= fun v => ret v) _ _ _
  unfold Builtin.Tuple.tupleExact
  refine wpAny_bind (wpAny_newObj_type ?_ (by show acc.toList.toArray.size ≤ sizeLine; simp only [Array.toArray_toList]; rw [hacc.1]; exact hn))
  refine wpAny_pure ?_
  have e : acc.toList.toArray = acc := by simp
  rw [e]
  exact h h' tk acc hk hacc
theorem call_tuple_vals {Q : Value → Shared → Prop} (hh : A.handled = none) (hok : s.heap.IsValuesView r d ∧ s.heap.DictAt knd d kvs ep) (hn : kvs.length ≤ sizeLine)
    (hQ : ∀ (h' : Heap) (tk : Nat) (acc : Array Value), (∀ b o, s.heap.get? b = some o → h'.get? b = some o) → ItemsOf (fun i v => ∃ k, kvs[i]? = some (k, v)) acc kvs.length →
      Q (.ref h'.objs.size) { s with heap := h'.push { cls := .type "tuple", data := .seq acc }, toks := tk }) :
    wpAny (model prog w) A (call (.type "tuple") [.ref r]) Q E s := by
  refine callType_codes (Q₁ := fun obj s₁ => s₁.TypeIs obj "tuple" ∧ Q obj s₁) F.called_tuple (F.typeCall_tuple_1 _) F.entry_object_init
    (code_tuple_new_vals (A := A.in1) (knd := knd) (ep := ep) hh hok hn fun h' tk acc hk hacc => ⟨⟨_, Heap.get?_push_size _ rfl, rfl⟩, hQ h' tk acc hk hacc⟩) fun obj s₁ h₁ => ?_
  exact ⟨h₁.1, F.args_object_init_2 obj _, object_init_meets F.called_tuple.init.lookup F.called_tuple.made (by decide) prog w A.in1 _ s₁ ⟨h₁.1, rfl, h₁.2⟩⟩
end
theorem kv_vals {κ : Type} : ∀ {kvs : List (κ × V)} {vs : List (κ × Value)}, KV kvs vs → Vals (kvs.map (·.2)) (vs.map (·.2))
  | _, _, .nil => .nil
  | _, _, .cons h r => .cons h.2 (kv_vals r)
section
variable {free : List Str} {D : Den} {n : Nat} {N : List Str} {sc : Scope} {X : Cx}
def tTvl (td : TE) : TE := fun σ H Q => td σ H fun x H1 => ∃ (a : Addr) (kvs : List (Key × V)), x = .ref a ∧ H1 a = some (.dK kvs) ∧ ∀ p, H1 p = none → Q (.ref p) (upd H1 p (.tup (kvs.map (·.2))))
theorem pe_tvl {o : Expr} {td : TE} {tp pa pc p : Pos} (hc : X.calm = true) (hg : Gl X "tuple") (hm : X.mg "tuple" = none) (hd : PE X o td) (hbase : attributeBase o "values" X.env (eval o X.env) = eval o X.env) (hline : (pa.endLine == pc.line) = true) :
    PE X (.Call (.Name "tuple" tp) [.Call (.Attribute o "values" pa) [] [] pc] [] p) (tTvl td) := by
  refine ⟨fun pins s σ H Q I h => ?_⟩
  refine Call_ (ld_blt I hg hm PyProof.Rows.boot_tuple (PyProof.Rows.callWith_type1 (args_cons ?_ rfl) rfl))
  have en : wpAny (model X.prog X.w) X.A (eval (.Call (.Attribute o "values" pa) [] [] pc) X.env) (fun z s' => wpAny (model X.prog X.w) X.A (call (.type "tuple") [z]) (EP X pins σ Q) X.xe s') X.xe s := by
    refine wpAny_Call_method0_late hbase hline (thn (hd.run pins s σ H _ I h) fun v s1 ⟨x, H1, I1, r1, a, kvs, ex, ha, q⟩ => ?_)
    subst ex
    obtain rfl : v = Value.ref a := r1
    obtain ⟨hz, hsys, vs, rel, dof⟩ := dk_of I1.hok ha
    obtain ⟨ep, dat⟩ := dof.dictAt
    have dat' := dat
    obtain ⟨ob, es, ho, ex, hdat, hko, hpr, hnd⟩ := dat'
    refine ⟨"dict", "dict.values", F.plainAttrs_dict, F.slot_dict_values, F.type_dict_values, ⟨ob, ho, ex.1⟩, fun b e => ?_, Calls.callWith_builtin rfl (PySem.evalArgs_none ?_)⟩
    · cases e
      exact ⟨ob, ho, ex.2.1⟩
    refine call_meetsIn F.slot_dict_values ⟨ob, ho, ex.1⟩ F.entry_dict_values (F.args_dict_values_1 _) (meets_dict_values (mixKind X.prog X.w) a hsys) ⟨⟨vs, dof⟩, ?_⟩
    have k1 : ∀ b u, s1.heap.get? b = some u → (s1.heap.push { cls := .type "dict_values", data := .fields #[.ref a] }).get? b = some u := fun b u e => Heap.get?_push_of_some _ e
    have dat1 : (s1.heap.push { cls := .type "dict_values", data := .fields #[.ref a] }).DictAt (mixKind X.prog X.w) a vs ep := dat.keep k1
    have hl : kvs.length = vs.length := KV.length rel
    refine call_tuple_vals (knd := mixKind X.prog X.w) (kvs := vs) (ep := ep) (r := s1.heap.objs.size) (d := a) (I1.ok.hd hc) ⟨⟨_, Heap.get?_push_size _ rfl, rfl, rfl⟩, dat1⟩ (by rw [← hl]; exact hz) fun h' tk acc hk hacc => ?_
    have ev : acc.toList = vs.map (·.2) := PySem.W.kdl_vals_eq acc.toList (by rw [Array.length_toList]; exact hacc.1) fun j v e => hacc.2 j v (by rw [← Array.getElem?_toList]; exact e)
    have ea : acc = (vs.map (·.2)).toArray := by rw [← ev]
    have kall : ∀ b u, s1.heap.get? b = some u → (h'.push { cls := .type "tuple", data := .seq acc }).get? b = some u := fun b u e => Heap.get?_push_of_some _ (hk b u (k1 b u e))
    have hle : s1.heap.objs.size ≤ h'.objs.size := by
      have : h'.get? s1.heap.objs.size = some _ := hk _ _ (Heap.get?_push_size _ rfl)
      exact Nat.le_of_lt (Heap.lt_size this)
    subst ea
    exact ⟨.ref h'.objs.size, upd H1 h'.objs.size (.tup (kvs.map (·.2))), I1.laid (t' := tk) kall hle (show ObjOk X.prog X.w _ _ _ (.tup (kvs.map (·.2))) from ⟨by rw [List.length_map]; exact hz, vs.map (·.2), kv_vals rel, IsTup.new _ _⟩), rfl, q _ (I1.hok.fresh hle)⟩
  exact thn en fun z s1 h1 => args_nil h1
theorem ownK_flat {K : Frag} {Hf H : Hp} {d : Nat} : ∀ {kvs : List (Key × Val)} {ks : List (Key × V)} {G : List Addr}, OwnK K Hf H d kvs ks G → (kvs.all fun z => z.2.flat) = true → RepL K Hf (kvs.map (·.2)) (ks.map (·.2))
  | _, _, _, .nil, _ => .nil
  | _, _, _, .cons h r, f => by
    rw [List.all_cons, Bool.and_eq_true] at f
    obtain ⟨rfl, ow0⟩ := h.flat (d' := 0) f.1
    cases ow0 with | frz _ r' => exact .cons r' (ownK_flat r f.2)
theorem own_dict' {K : Frag} {Hf H : Hp} {d : Nat} {kvs : List (Key × Val)} {y : V} {G : List Addr} (h : Own K Hf H (d + 1) (.dic kvs) y G) : ∃ a ks Gl, y = .ref a ∧ H a = some (.dK ks) ∧ G = a :: Gl ∧ OwnK K Hf H d kvs ks Gl := by
  cases h with
  | frz hd r => rcases hd with z | z <;> cases z
  | dic ha l => exact ⟨_, _, _, rfl, ha, rfl, l⟩
theorem s_tvl (c : Ctx free D n N sc X) {P : CP} {tp pa pc p : Pos} (g1 : glB sc "tuple" = true) (m1 : ("tuple" : Str) ∈ free) (hl : (pa.endLine == pc.line) = true) (hP : PE X P.py (tPl X.K D P)) : PE X (CE.tvl tp P pa pc p).py (tEv X.K D (.tvl tp P pa pc p)) := by
  refine peBy (pe_tvl (tp := tp) (p := p) c.calm (c.gl g1) (c.fre _ m1) hP (by cases P <;> rfl) hl) fun σ H Q ⟨S, Hf, F, r, S', rel, he, q⟩ => ?_
  unfold ev at he
  rw [Option.bind_eq_some_iff] at he
  obtain ⟨⟨i, pp⟩, e1, he⟩ := he
  dsimp only at he
  split at he
  · rename_i d v e2
    rw [Option.bind_eq_some_iff] at he
    obtain ⟨u, e3, he⟩ := he
    rw [gd_some] at he
    obtain ⟨hl, he⟩ := he
    have hl := of_decide_eq_true hl
    cases u with
    | dic kvs =>
      rw [gd_some] at he
      obtain ⟨fl, he⟩ := he
      obtain ⟨rfl, rfl⟩ := Prod.mk.inj (Option.some.inj he)
      refine ⟨S, Hf, F, i, pp, d, v, _, rel, e1, e2, e3, Nat.le_of_lt hl, fun x y H1 Hf1 F1 rel1 st1 sub1 hx wk => ?_⟩
      obtain ⟨x', y', A, Gc, B, F0, hx', wk', ow, _⟩ := rel1.dig e2 e3 (Nat.le_of_lt hl)
      rw [hx] at hx'
      cases hx'
      have ey := wk.det wk'
      subst ey
      obtain ⟨m, em⟩ : ∃ m, d - pp.length = m + 1 := ⟨d - pp.length - 1, by omega⟩
      rw [em] at ow
      obtain ⟨a, ks, Gl, rfl, ha, rfl, ow'⟩ := own_dict' ow
      refine ⟨a, ks, rfl, ha, fun b hb => ?_⟩
      have g := Gives.newT (Hf := Hf) (F := F) (H := H) rel1 st1 hb (ownK_flat ow' fl)
      exact q _ _ _ F1 g fun _ => sub1.trans (HSub.upd hb)
    | _ => cases he
  · cases he
/-- what changes nothing and gives an int leaves the slots as they were -/
theorem s_sme (c : Ctx free D n N sc X) {e : CE} {np p : Pos} (h : PE X (CE.blt .sum np (.cons e .nil) p).py (tEv X.K D (.blt .sum np (.cons e .nil) p))) : PE X (CE.sme np e p).py (tEv X.K D (.sme np e p)) := by
  refine peBy (show PE X (CE.sme np e p).py (tEv X.K D (.blt .sum np (.cons e .nil) p)) from h) fun σ H Q ⟨S, Hf, F, r, S', rel, he, q⟩ => ?_
  unfold ev at he
  rw [Option.bind_eq_some_iff] at he
  obtain ⟨⟨⟨m, v⟩, S1⟩, e1, he⟩ := he
  rw [gd_some] at he
  obtain ⟨pu, he⟩ := he
  dsimp only at he
  split at he
  · rename_i xs
    rw [Option.map_eq_some_iff] at he
    obtain ⟨l, e2, he⟩ := he
    obtain ⟨rfl, rfl⟩ := Prod.mk.inj he
    have ek : ev D (.blt .sum np (.cons e .nil) p) S = some ((.own 0, .int l.sum), S1) := by
      unfold ev
      rw [Option.bind_eq_some_iff]
      refine ⟨([.lst xs], S1), ?_, ?_⟩
      · unfold evo
        rw [e1, Option.bind_some]
        have : evo D .nil S1 = some ([], S1) := by unfold evo; rfl
        rw [this]
        cases m <;> rfl
      · show ((intsOf xs).map fun bs => ((0, .int bs.sum) : R)).map _ = _
        rw [e2]
        rfl
    refine ⟨S, Hf, F, _, S1, rel, ek, fun x H1 Hf1 F1 g p1 => ?_⟩
    have sub : HSub H H1 := p1 (by
      unfold CE.pure CEs.pure CEs.pure
      rw [pu]
      rfl)
    obtain ⟨Hf1', s1, rel1, st1, re1, rf1⟩ := g.opd
    obtain rfl := re1.int_
    exact q _ _ Hf F (.frz ⟨rel.sub.trans sub, rel.nd, rel.off, rel.plc.mono (HSub.refl _) fun a _ o e => sub a o e⟩ ⟨HSub.refl _, fun a o e _ => sub a o e, fun _ _ _ _ => rfl, fun a h => .inl h⟩ (.int _) (.inl rfl)) fun _ => sub
  · cases he
end
end BV
/-! Every expression that is well formed means what it means. -/
namespace BV
open PySem PySem.Spec PyProof.Rows L2
/-- the scope of a comprehension's block within a def's -/
def relC (sc scp : Scope) : Scope := { scp with names := scp.names.map fun (n, k) => if (k == .free && sc.kind == .function && sc.names.lookup n == some .cell) then (n, .cell) else (n, k) }
theorem relC_ok {sc scp : Scope} {env : Env} (h : env.scope = sc) (cl : List (Str × Addr)) (C : Addr) : (compEnvC scp cl C env).scope = relC sc scp := by
  subst h; rfl
def fbC (sc scp : Scope) (x : Str) : Bool := (scp.names.lookup x == some .cell) || ((relC sc scp).names.lookup x == some .local)
structure WT where
  free : List Str
  calls : List CallSh
def nm (N : List Str) (sc : Scope) (i : Nat) (x : Str) : Bool := decide (N[i]? = some x) && visB sc x && okName x
def tgOk : CI → CT → Bool
  | .enum .., .name .. => false
  | .zip .., .name .. => false
  | _, _ => true
def CDs.len : CDs → Nat
  | .nil => 0
  | .cons _ _ _ _ ds => ds.len + 1
theorem CDs.pyk_len : ∀ ds : CDs, ds.pyk.length = ds.len
  | .nil => rfl
  | .cons _ _ _ _ ds => congrArg Nat.succ (CDs.pyk_len ds)
mutual
def CE.wf (T : WT) (N : List Str) (sc : Scope) : CE → Bool
  | .cst .. => true
  | .var i x _ => nm N sc i x
  | .brw i x _ => nm N sc i x
  | .mov i x _ => nm N sc i x
  | .ref .. => false
  | .pth i x _ k _ => nm N sc i x && k.wf T N sc
  | .glb x _ => glB sc x && okName x
  | .tup es _ _ => es.wf T N sc
  | .lst es _ => es.wf T N sc
  | .dic0 _ => true
  | .bin _ a b _ => a.wf T N sc && b.wf T N sc
  | .neg a _ => a.wf T N sc
  | .nt a _ => a.wf T N sc
  | .bop _ es _ => decide (es.len ≠ 0) && es.wf T N sc
  | .cmp _ a b _ => a.wf T N sc && b.wf T N sc
  | .chn _ _ a b c _ => a.wf T N sc && b.wf T N sc && c.wf T N sc
  | .ifx c a b _ => c.wf T N sc && a.wf T N sc && b.wf T N sc
  | .isi a t _ _ _ => glB sc "isinstance" && glB sc (Str.ofString t.name) && decide (("isinstance" : Str) ∈ T.free) && decide (Str.ofString t.name ∈ T.free) && a.wf T N sc
  | .blt f _ es _ => glB sc f.name && decide (f.name ∈ T.free) && decide (es.len ≠ 0) && es.wf T N sc
  | .call c x _ es ks _ => (match T.calls[c]? with
    | some sh => decide (sh.x = x) && decide (es.len = sh.n) && decide (ks.names = sh.ks)
    | none => false) && glB sc x && okName x && es.wfA T N sc && ks.wf T N sc
  | .idx a i _ => a.wf T N sc && i.wf T N sc
  | .slc a lo hi _ _ => a.wf T N sc && lo.wf T N sc && hi.wf T N sc
  | .lc elt t it ifs scp own _ => blkC N sc scp own && (t.slots.all fun j => decide (j ∈ own.map (·.2))) && it.wf T N sc && tgOk it t && t.wf N (relC sc scp) (fbC sc scp) && decide (ifs.len ≤ 1) && ifs.wf T N (relC sc scp) && elt.wf T N (relC sc scp)
  | .lc2 elt t it ifs t1 it1 ifs1 scp own vs1 _ => blkC N sc scp own && (t.slots.all fun j => decide (j ∈ own.map (·.2))) && it.wf T N sc && tgOk it t && t.wf N (relC sc scp) (fbC sc scp) && decide (ifs.len ≤ 1) && ifs.wf T N (relC sc scp) &&
      (t1.slots.all fun j => decide (j ∈ vs1)) && (vs1.all fun j => decide (j ∈ own.map (·.2))) && it1.wf T N (relC sc scp) && tgOk it1 t1 && t1.wf N (relC sc scp) (fbC sc scp) && decide (ifs1.len ≤ 1) && ifs1.wf T N (relC sc scp) && elt.wf T N (relC sc scp)
  | .popAt i x _ _ _ _ pa p => nm N sc i x && (pa.endLine == p.line)
  | .dcm kx vx t it ifs scp own _ => blkC N sc scp own && (t.slots.all fun j => decide (j ∈ own.map (·.2))) && it.wf T N sc && tgOk it t && t.wf N (relC sc scp) (fbC sc scp) && decide (ifs.len ≤ 1) && ifs.wf T N (relC sc scp) && kx.wf T N (relC sc scp) && vx.wf T N (relC sc scp)
  | .lzip _ _ _ x y _ _ _ _ _ => glB sc "list" && decide (("list" : Str) ∈ T.free) && glB sc "zip" && decide (("zip" : Str) ∈ T.free) && x.wf T N sc && y.wf T N sc
  | .dcp _ _ x _ => glB sc "dict" && decide (("dict" : Str) ∈ T.free) && glB sc x && okName x
  | .rev a _ _ _ _ _ => a.wf T N sc
  | .ssc _ elt t it ifs t1 it1 ifs1 scp own vs1 _ _ => glB sc "sorted" && decide (("sorted" : Str) ∈ T.free) && (blkC N sc scp own && (t.slots.all fun j => decide (j ∈ own.map (·.2))) && it.wf T N sc && tgOk it t && t.wf N (relC sc scp) (fbC sc scp) && decide (ifs.len ≤ 1) && ifs.wf T N (relC sc scp) &&
      (t1.slots.all fun j => decide (j ∈ vs1)) && (vs1.all fun j => decide (j ∈ own.map (·.2))) && it1.wf T N (relC sc scp) && tgOk it1 t1 && t1.wf N (relC sc scp) (fbC sc scp) && decide (ifs1.len ≤ 1) && ifs1.wf T N (relC sc scp) && elt.wf T N (relC sc scp))
  | .lrng _ _ a b _ _ => glB sc "list" && decide (("list" : Str) ∈ T.free) && glB sc "range" && decide (("range" : Str) ∈ T.free) && a.wf T N sc && b.wf T N sc
  | .dsp ds _ => decide (ds.len ≠ 0) && decide (ds.len ≤ 15) && ds.wf T N sc
  | .plc P => P.wf T N sc
  | .mxd _ a d _ _ => glB sc "max" && decide (("max" : Str) ∈ T.free) && a.wf T N sc && d.wf T N sc
  | .den _ _ a _ _ => glB sc "dict" && decide (("dict" : Str) ∈ T.free) && glB sc "enumerate" && decide (("enumerate" : Str) ∈ T.free) && a.wf T N sc
  | .tvl _ P pa pc _ => glB sc "tuple" && decide (("tuple" : Str) ∈ T.free) && (pa.endLine == pc.line) && P.wf T N sc
  | .sme _ e _ => glB sc "sum" && decide (("sum" : Str) ∈ T.free) && e.wf T N sc
def CDs.wf (T : WT) (N : List Str) (sc : Scope) : CDs → Bool
  | .nil => true
  | .cons _ _ _ e ds => e.wf T N sc && ds.wf T N sc
def CP.wf (T : WT) (N : List Str) (sc : Scope) : CP → Bool
  | .rt i x _ => nm N sc i x
  | .sub P k _ => P.wf T N sc && k.wf T N sc
def CEs.wf (T : WT) (N : List Str) (sc : Scope) : CEs → Bool
  | .nil => true
  | .cons e es => e.wf T N sc && es.wf T N sc
def CEs.wfA (T : WT) (N : List Str) (sc : Scope) : CEs → Bool
  | .nil => true
  | .cons (.ref i x _) es => nm N sc i x && es.wfA T N sc
  | .cons e es => e.wf T N sc && es.wfA T N sc
def CKs.wf (T : WT) (N : List Str) (sc : Scope) : CKs → Bool
  | .nil => true
  | .cons _ e _ ks => e.wf T N sc && ks.wf T N sc
def CO.wf (T : WT) (N : List Str) (sc : Scope) : CO → Bool
  | .no => true
  | .is e => e.wf T N sc
def CI.wf (T : WT) (N : List Str) (sc : Scope) : CI → Bool
  | .seq e => e.wf T N sc
  | .rng1 _ a _ => glB sc "range" && decide (("range" : Str) ∈ T.free) && a.wf T N sc
  | .rng2 _ a b _ => glB sc "range" && decide (("range" : Str) ∈ T.free) && a.wf T N sc && b.wf T N sc
  | .enum _ a _ => glB sc "enumerate" && decide (("enumerate" : Str) ∈ T.free) && a.wf T N sc
  | .zip _ a b _ => glB sc "zip" && decide (("zip" : Str) ∈ T.free) && a.wf T N sc && b.wf T N sc
end
section
variable {T : WT} {D : Den} {n : Nat} {N : List Str}
theorem nm_ok {sc : Scope} {i : Nat} {x : Str} (h : nm N sc i x = true) : N[i]? = some x ∧ visB sc x = true ∧ okName x = true := by
  unfold nm at h
  simp only [Bool.and_eq_true] at h
  exact ⟨of_decide_eq_true h.1.1, h.1.2, h.2⟩
theorem Ctx.blk {free : List Str} {sc scp : Scope} {X : Cx} (c : Ctx free D n N sc X) (s : Shared) (H : Hp) (C : Addr) (cl : List (Str × Addr)) (fp : List Addr) : Ctx free D n N (relC sc scp) (X.blk s H scp (compEnvC scp cl C X.env) fp) :=
  ⟨c.hN, c.nd, relC_ok c.sc cl C, c.calm, rfl, c.gu, c.room, c.con, c.fre, fun i sh h => ⟨(c.cal i sh h).ex⟩, c.tab⟩
theorem fn_blk {sc scp : Scope} {X : Cx} (h : X.env.scope = sc) (s : Shared) (H : Hp) (C : Addr) (cl : List (Str × Addr)) (fp : List Addr) (x : Str) (e : fbC sc scp x = true) :
    (X.blk s H scp (compEnvC scp cl C X.env) fp).fn x = true ∨ (X.blk s H scp (compEnvC scp cl C X.env) fp).env.scope.names.lookup x = some .local := by
  unfold fbC at e
  rw [Bool.or_eq_true] at e
  rcases e with e | e
  · exact .inl e
  · right
    show (compEnvC scp cl C X.env).scope.names.lookup x = some .local
    rw [relC_ok h]
    exact beq_iff_eq.mp e
theorem tg_tup {it : CI} {t : CT} (h : tgOk it t = true) : (∀ np a p, it = .enum np a p → ∃ ts k p', t = .tup ts k p') ∧ ∀ np a b p, it = .zip np a b p → ∃ ts k p', t = .tup ts k p' := by
  refine ⟨fun np a p e => ?_, fun np a b p e => ?_⟩ <;> subst e <;> cases t with
  | name => cases h
  | tup ts k p' => exact ⟨ts, k, p', rfl⟩
/-- {} -/
theorem s_dic0 {D : Den} {X : Cx} {p : Pos} : PE X (CE.dic0 p).py (tEv X.K D (.dic0 p)) := by
  refine peBy pe_dnewK fun σ H Q ⟨S, Hf, F, r, S', rel, he, q⟩ => ?_
  unfold ev at he
  cases he
  intro a ha
  have hpF : a ∉ F := fun h => by obtain ⟨o, e⟩ := rel.dom a h; rw [e] at ha; cases ha
  have hf : Hf a = none := by
    cases z : Hf a with
    | none => rfl
    | some o => rw [rel.sub a o z] at ha; cases ha
  refine q _ _ Hf F ⟨rel.upd ha, (Step.refl Hf F H).upd ha, [a], .dic upd_same .nil, ?_, ?_, ?_⟩ fun _ => HSub.upd ha
  · rw [List.nodup_append]
    refine ⟨rel.nd, by simp, fun b hb c hc e => ?_⟩
    have : c = a := by simpa using hc
    exact hpF (this ▸ e ▸ hb)
  · intro b hb
    have : b = a := by simpa using hb
    rw [this]; exact hf
  · intro b hb
    have : b = a := by simpa using hb
    rw [this]; exact .inr ha
theorem rg_ints {K : Frag} {Hf : Hp} : ∀ (n : Nat) (i : Int), RepL K Hf (intsFrom i n) ((List.range n).map fun k => V.int (i + (k : Nat)))
  | 0, _ => .nil
  | n + 1, i => by
    rw [List.range_succ_eq_map, List.map_cons, List.map_map]
    refine .cons (by rw [show i + ((0 : Nat) : Int) = i by omega]; exact .int _) ?_
    have h := rg_ints (K := K) (Hf := Hf) n (i + 1)
    rw [show ((fun k : Nat => V.int (i + 1 + (k : Nat)))) = (fun k : Nat => V.int (i + (k : Nat))) ∘ Nat.succ from funext fun k => by show V.int _ = V.int _; congr 1; omega] at h
    exact h
/-- list(range(a, b)) -/
theorem s_lrng {free : List Str} {sc : Scope} {X : Cx} (c : Ctx free D n N sc X) {a b : CE} {lp rp pr p : Pos} (g1 : glB sc "list" = true) (m1 : ("list" : Str) ∈ free) (g2 : glB sc "range" = true) (m2 : ("range" : Str) ∈ free)
    (ha : PE X a.py (tEv X.K D a)) (hb : PE X b.py (tEv X.K D b)) : PE X (CE.lrng lp rp a b pr p).py (tEv X.K D (.lrng lp rp a b pr p)) := by
  refine peBy (pe_listRg c.calm (c.gl g1) (c.fre _ m1) (prg_2 (c.gl g2) (c.fre _ m2) ha hb (star_cons a _ _) (star_cons b _ _) (star_cons b _ _ ▸ rfl)) rfl) fun σ H Q ⟨S, Hf, F, r, S', rel, he, q⟩ => ?_
  unfold ev at he
  rw [Option.bind_eq_some_iff] at he
  obtain ⟨⟨⟨m, v⟩, S1⟩, e1, he⟩ := he
  rw [Option.bind_eq_some_iff] at he
  obtain ⟨⟨⟨m', v'⟩, S2⟩, e2, he⟩ := he
  cases v with
  | int i =>
    cases v' with
    | int j =>
      have he : gd (rngOk i j) (some (((.own 1, .lst (intsFrom i (j - i).toNat)) : Res), S2)) = some (r, S') := he
      rw [gd_some] at he
      obtain ⟨ok, he⟩ := he
      obtain ⟨rfl, rfl⟩ := Prod.mk.inj (Option.some.inj he)
      unfold rngOk at ok
      simp only [Bool.and_eq_true] at ok
      have i1 := of_decide_eq_true ok.1.1
      have i2 := of_decide_eq_true ok.1.2
      have i3 := of_decide_eq_true ok.2
      refine ⟨S, Hf, F, _, S1, rel, e1, fun x H1 Hf1 F1 g1 p1 => ?_⟩
      obtain ⟨Hf1', s1, rel1, st1, re1, rf1⟩ := g1.opd
      refine ⟨S1, Hf1', F1, _, S2, rel1, e2, fun y H2 Hf2 F2 g2 p2 => ?_⟩
      obtain ⟨Hf2', s2, rel2, st2, re2, rf2⟩ := g2.opd
      obtain rfl := re1.int_
      obtain rfl := re2.int_
      refine ⟨i, j, rfl, rfl, ⟨i1.1, i1.2, i2.1, i2.2, i3⟩, fun ad had => ?_⟩
      have g := Gives.newL (Hf := Hf) (F := F) (H := H) rel2 (st1.trans st2) had (rg_ints (K := X.K) (Hf := Hf2') (j - i).toNat i)
      refine q _ _ Hf2' F2 g fun hp => ?_
      unfold CE.pure at hp
      rw [Bool.and_eq_true] at hp
      exact (p1 hp.1).trans ((p2 hp.2).trans (HSub.upd had))
    | _ => cases he
  | _ => cases he
/-- a choice, as a test -/
def tChoose (t ta tb : TT) : TT := fun σ H Q => t σ H fun c H1 => if c = true then ta σ H1 Q else tb σ H1 Q
theorem pt_choose {X : Cx} {c a b : Expr} {pos : Pos} {tc ta tb : TT} (hc : PT X c tc) (ha : PT X a ta) (hb : PT X b tb) : PT X (.IfExp c a b pos) (tChoose tc ta tb) := by
  refine ⟨fun pins s σ H Q I h => isTrue_IfExp (thn (hc.run pins s σ H _ I h) fun d s1 ⟨H1, I1, q1⟩ => ?_)⟩
  cases d with
  | true => exact ha.run pins s1 σ H1 Q I1 q1
  | false => exact hb.run pins s1 σ H1 Q I1 q1
theorem t_ifx {D : Den} {X : Cx} {c a b : CE} {p : Pos} (hc : PT X c.py (tTs X.K D c)) (ha : PT X a.py (tTs X.K D a)) (hb : PT X b.py (tTs X.K D b)) : PT X (CE.ifx c a b p).py (tTs X.K D (.ifx c a b p)) := by
  refine ptBy (pt_choose hc ha hb) fun σ H Q ⟨S, Hf, F, bb, S', rel, ht, q⟩ => ?_
  obtain ⟨r, he, et⟩ := tst_some ht
  unfold ev at he
  rw [Option.bind_eq_some_iff] at he
  obtain ⟨⟨t, S1⟩, e1, he⟩ := he
  refine ⟨S, Hf, F, t, S1, rel, e1, fun H1 Hf1 F1 rel1 st1 p1 => ?_⟩
  have hp : ∀ e : CE, (CE.ifx c a b p).pure = true → c.pure = true ∧ a.pure = true ∧ b.pure = true := by
    intro _ hp
    unfold CE.pure at hp
    simp only [Bool.and_eq_true] at hp
    exact ⟨hp.1.1, hp.1.2, hp.2⟩
  cases t with
  | true =>
    show tTs X.K D a σ H1 Q
    exact ⟨S1, Hf1, F1, bb, S', rel1, by show tst (ev D a S1) = _; rw [show ev D a S1 = some (r, S') from he]; unfold tst; rw [Option.bind_some, et]; rfl, fun H2 Hf2 F2 rel2 st2 p2 => q H2 Hf2 F2 rel2 (st1.trans st2) fun h => (p1 (hp c h).1).trans (p2 (hp c h).2.1)⟩
  | false =>
    show tTs X.K D b σ H1 Q
    exact ⟨S1, Hf1, F1, bb, S', rel1, by show tst (ev D b S1) = _; rw [show ev D b S1 = some (r, S') from he]; unfold tst; rw [Option.bind_some, et]; rfl, fun H2 Hf2 F2 rel2 st2 p2 => q H2 Hf2 F2 rel2 (st1.trans st2) fun h => (p1 (hp c h).1).trans (p2 (hp c h).2.2)⟩
mutual
theorem both : ∀ (e : CE) (sc : Scope) (X : Cx), Ctx T.free D n N sc X → T.calls = D.calls → e.wf T N sc = true → PE X e.py (tEv X.K D e) ∧ PT X e.py (tTs X.K D e)
  | .cst c k p, sc, X, cx, hc, w => ⟨s_cst, t_val s_cst fun _ => rfl⟩
  | .var i x p, sc, X, cx, hc, w => by
    obtain ⟨a, b, c⟩ := nm_ok (show nm N sc i x = true from w)
    exact ⟨s_var cx a b c, t_val (s_var cx a b c) fun _ => rfl⟩
  | .brw i x p, sc, X, cx, hc, w => by
    obtain ⟨a, b, c⟩ := nm_ok (show nm N sc i x = true from w)
    exact ⟨s_brw cx a b c, t_val (s_brw cx a b c) fun _ => rfl⟩
  | .mov i x p, sc, X, cx, hc, w => by
    obtain ⟨a, b, c⟩ := nm_ok (show nm N sc i x = true from w)
    exact ⟨s_mov cx a b c, t_val (s_mov cx a b c) fun _ => rfl⟩
  | .ref i x p, sc, X, cx, hc, w => by cases (show false = true from w)
  | .pth i x px k p, sc, X, cx, hc, w => by
    have w : (nm N sc i x && k.wf T N sc) = true := w
    rw [Bool.and_eq_true] at w
    obtain ⟨a, b, c⟩ := nm_ok w.1
    have h := s_pth (px := px) (p := p) cx a b c (both k sc X cx hc w.2).1
    exact ⟨h, t_val h fun _ => rfl⟩
  | .glb x p, sc, X, cx, hc, w => by
    have w : (glB sc x && okName x) = true := w
    rw [Bool.and_eq_true] at w
    exact ⟨s_glb cx w.1 w.2, t_val (s_glb cx w.1 w.2) fun _ => rfl⟩
  | .tup es k p, sc, X, cx, hc, w => by
    have h := s_tup (k := k) (p := p) (all es sc X cx hc w).1
    exact ⟨h, t_val h fun _ => rfl⟩
  | .lst es p, sc, X, cx, hc, w => by
    have h := s_lst (p := p) (all es sc X cx hc w).1
    exact ⟨h, t_val h fun _ => rfl⟩
  | .dic0 p, sc, X, cx, hc, w => ⟨s_dic0, t_val s_dic0 fun _ => rfl⟩
  | .bin op a b p, sc, X, cx, hc, w => by
    have w : (a.wf T N sc && b.wf T N sc) = true := w
    rw [Bool.and_eq_true] at w
    have h := s_bin (op := op) (p := p) (both a sc X cx hc w.1).1 (both b sc X cx hc w.2).1
    exact ⟨h, t_val h fun _ => rfl⟩
  | .neg a p, sc, X, cx, hc, w => by
    have h := s_neg (p := p) (both a sc X cx hc w).1
    exact ⟨h, t_val h fun _ => rfl⟩
  | .nt a p, sc, X, cx, hc, w => ⟨s_nt (both a sc X cx hc w).1, t_nt (both a sc X cx hc w).2⟩
  | .bop o es p, sc, X, cx, hc, w => by
    have w : (decide (es.len ≠ 0) && es.wf T N sc) = true := w
    rw [Bool.and_eq_true] at w
    have h := (all es sc X cx hc w.2).2.2.2 (of_decide_eq_true w.1) o p
    exact ⟨s_bop h.1, t_bop h.2⟩
  | .cmp op a b p, sc, X, cx, hc, w => by
    have w : (a.wf T N sc && b.wf T N sc) = true := w
    rw [Bool.and_eq_true] at w
    have ha := (both a sc X cx hc w.1).1
    have hb := (both b sc X cx hc w.2).1
    exact ⟨s_cmp cx (no_marks op b) ha hb, t_cmp cx (no_marks op b) ha hb⟩
  | .chn op op' a b c p, sc, X, cx, hc, w => by
    have w : (a.wf T N sc && b.wf T N sc && c.wf T N sc) = true := w
    simp only [Bool.and_eq_true] at w
    have ha := (both a sc X cx hc w.1.1).1
    have hb := (both b sc X cx hc w.1.2).1
    have hd := (both c sc X cx hc w.2).1
    exact ⟨s_chn cx (no_marks op' c) ha hb hd, t_chn cx (no_marks op' c) ha hb hd⟩
  | .ifx c a b p, sc, X, cx, hc, w => by
    have w : (c.wf T N sc && a.wf T N sc && b.wf T N sc) = true := w
    simp only [Bool.and_eq_true] at w
    exact ⟨s_ifx (both c sc X cx hc w.1.1).2 (both a sc X cx hc w.1.2).1 (both b sc X cx hc w.2).1, t_ifx (both c sc X cx hc w.1.1).2 (both a sc X cx hc w.1.2).2 (both b sc X cx hc w.2).2⟩
  | .isi a t np tp p, sc, X, cx, hc, w => by
    have w : (glB sc "isinstance" && glB sc (Str.ofString t.name) && decide (("isinstance" : Str) ∈ T.free) && decide (Str.ofString t.name ∈ T.free) && a.wf T N sc) = true := w
    simp only [Bool.and_eq_true, decide_eq_true_eq] at w
    have h := s_isi (np := np) (tp := tp) (p := p) cx w.1.1.1.1 w.1.1.1.2 w.1.1.2 w.1.2 (both a sc X cx hc w.2).1
    exact ⟨h, t_val h fun _ => rfl⟩
  | .blt f np .nil p, sc, X, cx, hc, w => by
    have w : (glB sc f.name && decide (f.name ∈ T.free) && decide (CEs.nil.len ≠ 0) && CEs.nil.wf T N sc) = true := w
    simp only [Bool.and_eq_true, decide_eq_true_eq] at w
    exact absurd rfl w.1.2
  | .blt f np (.cons e es) p, sc, X, cx, hc, w => by
    have w : (glB sc f.name && decide (f.name ∈ T.free) && decide ((CEs.cons e es).len ≠ 0) && (CEs.cons e es).wf T N sc) = true := w
    simp only [Bool.and_eq_true, decide_eq_true_eq] at w
    have h := s_blt (np := np) (p := p) cx w.1.1.1 w.1.1.2 (all (.cons e es) sc X cx hc w.2).2.1
    exact ⟨h, t_val h fun _ => rfl⟩
  | .call ci x np es ks p, sc, X, cx, hc, w => by
    have w : ((match T.calls[ci]? with
      | some sh => decide (sh.x = x) && decide (es.len = sh.n) && decide (ks.names = sh.ks)
      | none => false) && glB sc x && okName x && es.wfA T N sc && ks.wf T N sc) = true := w
    simp only [Bool.and_eq_true] at w
    obtain ⟨⟨⟨⟨w1, w2⟩, w3⟩, w4⟩, w5⟩ := w
    rw [hc] at w1
    cases q : D.calls[ci]? with
    | none => rw [q] at w1; cases w1
    | some sh =>
      rw [q] at w1
      simp only [Bool.and_eq_true, decide_eq_true_eq] at w1
      have h := s_call (np := np) (p := p) cx q w1.1.1 w1.1.2 w1.2 w2 w3 (args es sc X cx hc w4) (kws ks sc X cx hc w5)
      exact ⟨h, t_val h fun _ => rfl⟩
  | .idx a i p, sc, X, cx, hc, w => by
    have w : (a.wf T N sc && i.wf T N sc) = true := w
    rw [Bool.and_eq_true] at w
    have h := s_idx (p := p) cx (both a sc X cx hc w.1).1 (both i sc X cx hc w.2).1
    exact ⟨h, t_val h fun _ => rfl⟩
  | .slc a lo hi sp p, sc, X, cx, hc, w => by
    have w : (a.wf T N sc && lo.wf T N sc && hi.wf T N sc) = true := w
    simp only [Bool.and_eq_true] at w
    have h := s_slc (sp := sp) (p := p) (both a sc X cx hc w.1.1).1 (opt lo sc X cx hc w.1.2) (opt hi sc X cx hc w.2)
    exact ⟨h, t_val h fun _ => rfl⟩
  | .lc elt t it ifs scp own p, sc, X, cx, hc, w => by
    have w : (blkC N sc scp own && (t.slots.all fun j => decide (j ∈ own.map (·.2))) && it.wf T N sc && tgOk it t && t.wf N (relC sc scp) (fbC sc scp) && decide (ifs.len ≤ 1) && ifs.wf T N (relC sc scp) && elt.wf T N (relC sc scp)) = true := w
    simp only [Bool.and_eq_true] at w
    obtain ⟨⟨⟨⟨⟨⟨⟨w1, w2⟩, w3⟩, w4⟩, w5⟩, w6⟩, w7⟩, w8⟩ := w
    obtain ⟨tl, h1, h2, _⟩ := s_lc (p := p) cx w1 (fun j hj => of_decide_eq_true (List.all_eq_true.mp w2 j hj)) (iters it sc X cx hc w3 t w4) (fun s H C cl fp => g_ct (cx.blk s H C cl fp) (fn_blk cx.sc s H C cl fp) t w5)
      (fun s H C cl fp => tests ifs _ _ (cx.blk s H C cl fp) hc w7 (of_decide_eq_true w6)) (fun s H C cl fp => (both elt _ _ (cx.blk s H C cl fp) hc w8).1)
    have h := peBy h2 h1
    exact ⟨h, t_val h fun _ => rfl⟩
  | .lc2 elt t it ifs t1 it1 ifs1 scp own vs1 p, sc, X, cx, hc, w => by
    have w : (blkC N sc scp own && (t.slots.all fun j => decide (j ∈ own.map (·.2))) && it.wf T N sc && tgOk it t && t.wf N (relC sc scp) (fbC sc scp) && decide (ifs.len ≤ 1) && ifs.wf T N (relC sc scp) &&
      (t1.slots.all fun j => decide (j ∈ vs1)) && (vs1.all fun j => decide (j ∈ own.map (·.2))) && it1.wf T N (relC sc scp) && tgOk it1 t1 && t1.wf N (relC sc scp) (fbC sc scp) && decide (ifs1.len ≤ 1) && ifs1.wf T N (relC sc scp) && elt.wf T N (relC sc scp)) = true := w
    simp only [Bool.and_eq_true] at w
    obtain ⟨⟨⟨⟨⟨⟨⟨⟨⟨⟨⟨⟨⟨⟨w1, w2⟩, w3⟩, w4⟩, w5⟩, w6⟩, w7⟩, w8⟩, w9⟩, w10⟩, w11⟩, w12⟩, w13⟩, w14⟩, w15⟩ := w
    obtain ⟨tl, h1, h2, _⟩ := s_lc2 (p := p) cx w1 (fun j hj => of_decide_eq_true (List.all_eq_true.mp w2 j hj)) (fun j hj => of_decide_eq_true (List.all_eq_true.mp w8 j hj)) (fun j hj => of_decide_eq_true (List.all_eq_true.mp w9 j hj))
      (iters it sc X cx hc w3 t w4) (fun s H C cl fp => g_ct (cx.blk s H C cl fp) (fn_blk cx.sc s H C cl fp) t w5)
      (fun s H C cl fp => tests ifs _ _ (cx.blk s H C cl fp) hc w7 (of_decide_eq_true w6)) (fun s H C cl fp => iters it1 _ _ (cx.blk s H C cl fp) hc w10 t1 w11) (fun s H C cl fp => g_ct (cx.blk s H C cl fp) (fn_blk cx.sc s H C cl fp) t1 w12)
      (fun s H C cl fp => tests ifs1 _ _ (cx.blk s H C cl fp) hc w14 (of_decide_eq_true w13)) (fun s H C cl fp => (both elt _ _ (cx.blk s H C cl fp) hc w15).1)
    have h := peBy h2 h1
    exact ⟨h, t_val h fun _ => rfl⟩
  | .popAt i x px k pk j pa p, sc, X, cx, hc, w => by
    have w : (nm N sc i x && (pa.endLine == p.line)) = true := w
    rw [Bool.and_eq_true] at w
    obtain ⟨a, b, c⟩ := nm_ok w.1
    have h := s_popAt (px := px) (pk := pk) (k := k) (j := j) cx a b c w.2
    exact ⟨h, t_val h fun _ => rfl⟩
  | .dcm kx vx t it ifs scp own p, sc, X, cx, hc, w => by
    have w : (blkC N sc scp own && (t.slots.all fun j => decide (j ∈ own.map (·.2))) && it.wf T N sc && tgOk it t && t.wf N (relC sc scp) (fbC sc scp) && decide (ifs.len ≤ 1) && ifs.wf T N (relC sc scp) && kx.wf T N (relC sc scp) && vx.wf T N (relC sc scp)) = true := w
    simp only [Bool.and_eq_true] at w
    obtain ⟨⟨⟨⟨⟨⟨⟨⟨w1, w2⟩, w3⟩, w4⟩, w5⟩, w6⟩, w7⟩, w8⟩, w9⟩ := w
    obtain ⟨tl, h1, h2, _⟩ := s_dc (p := p) cx w1 (fun j hj => of_decide_eq_true (List.all_eq_true.mp w2 j hj)) (iters it sc X cx hc w3 t w4) (fun s H C cl fp => g_ct (cx.blk s H C cl fp) (fn_blk cx.sc s H C cl fp) t w5)
      (fun s H C cl fp => tests ifs _ _ (cx.blk s H C cl fp) hc w7 (of_decide_eq_true w6)) (fun s H C cl fp => (both kx _ _ (cx.blk s H C cl fp) hc w8).1) (fun s H C cl fp => (both vx _ _ (cx.blk s H C cl fp) hc w9).1)
    have h := peBy h2 h1
    exact ⟨h, t_val h fun _ => rfl⟩
  | .lzip b lp zp x y kp cp kk pz p, sc, X, cx, hc, w => by
    have w : (glB sc "list" && decide (("list" : Str) ∈ T.free) && glB sc "zip" && decide (("zip" : Str) ∈ T.free) && x.wf T N sc && y.wf T N sc) = true := w
    simp only [Bool.and_eq_true, decide_eq_true_eq] at w
    obtain ⟨⟨⟨⟨⟨w1, w2⟩, w3⟩, w4⟩, w5⟩, w6⟩ := w
    have h := s_lzip (b := b) (lp := lp) (zp := zp) (kp := kp) (cp := cp) (kk := kk) (pz := pz) (p := p) cx w1 w2 w3 w4 (both x sc X cx hc w5).1 (both y sc X cx hc w6).1
    exact ⟨h, t_val h fun _ => rfl⟩
  | .dcp dp xp x p, sc, X, cx, hc, w => by
    have w : (glB sc "dict" && decide (("dict" : Str) ∈ T.free) && glB sc x && okName x) = true := w
    simp only [Bool.and_eq_true, decide_eq_true_eq] at w
    obtain ⟨⟨⟨w1, w2⟩, w3⟩, w4⟩ := w
    have h := s_dcp (dp := dp) (xp := xp) (p := p) cx w1 w2 w3 w4
    exact ⟨h, t_val h fun _ => rfl⟩
  | .rev a k p1 p2 p3 p, sc, X, cx, hc, w => by
    have h := s_rev (k := k) (p1 := p1) (p2 := p2) (p3 := p3) (p := p) (both a sc X cx hc w).1
    exact ⟨h, t_val h fun _ => rfl⟩
  | .ssc np elt t it ifs t1 it1 ifs1 scp own vs1 p q, sc, X, cx, hc, w => by
    have w : (glB sc "sorted" && decide (("sorted" : Str) ∈ T.free) && (blkC N sc scp own && (t.slots.all fun j => decide (j ∈ own.map (·.2))) && it.wf T N sc && tgOk it t && t.wf N (relC sc scp) (fbC sc scp) && decide (ifs.len ≤ 1) && ifs.wf T N (relC sc scp) &&
      (t1.slots.all fun j => decide (j ∈ vs1)) && (vs1.all fun j => decide (j ∈ own.map (·.2))) && it1.wf T N (relC sc scp) && tgOk it1 t1 && t1.wf N (relC sc scp) (fbC sc scp) && decide (ifs1.len ≤ 1) && ifs1.wf T N (relC sc scp) && elt.wf T N (relC sc scp))) = true := w
    simp only [Bool.and_eq_true] at w
    obtain ⟨⟨v1, v2⟩, ⟨⟨⟨⟨⟨⟨⟨⟨⟨⟨⟨⟨⟨⟨w1, w2⟩, w3⟩, w4⟩, w5⟩, w6⟩, w7⟩, w8⟩, w9⟩, w10⟩, w11⟩, w12⟩, w13⟩, w14⟩, w15⟩⟩ := w
    have h := s_ssc (np := np) (p := p) (q := q) cx v1 (of_decide_eq_true v2) w1 (fun j hj => of_decide_eq_true (List.all_eq_true.mp w2 j hj)) (fun j hj => of_decide_eq_true (List.all_eq_true.mp w8 j hj)) (fun j hj => of_decide_eq_true (List.all_eq_true.mp w9 j hj))
      (iters it sc X cx hc w3 t w4) (fun s H C cl fp => g_ct (cx.blk s H C cl fp) (fn_blk cx.sc s H C cl fp) t w5)
      (fun s H C cl fp => tests ifs _ _ (cx.blk s H C cl fp) hc w7 (of_decide_eq_true w6)) (fun s H C cl fp => iters it1 _ _ (cx.blk s H C cl fp) hc w10 t1 w11) (fun s H C cl fp => g_ct (cx.blk s H C cl fp) (fn_blk cx.sc s H C cl fp) t1 w12)
      (fun s H C cl fp => tests ifs1 _ _ (cx.blk s H C cl fp) hc w14 (of_decide_eq_true w13)) (fun s H C cl fp => (both elt _ _ (cx.blk s H C cl fp) hc w15).1)
    exact ⟨h, t_val h fun _ => rfl⟩
  | .lrng lp rp a b pr p, sc, X, cx, hc, w => by
    have w : (glB sc "list" && decide (("list" : Str) ∈ T.free) && glB sc "range" && decide (("range" : Str) ∈ T.free) && a.wf T N sc && b.wf T N sc) = true := w
    simp only [Bool.and_eq_true, decide_eq_true_eq] at w
    obtain ⟨⟨⟨⟨⟨w1, w2⟩, w3⟩, w4⟩, w5⟩, w6⟩ := w
    have h := s_lrng (lp := lp) (rp := rp) (pr := pr) (p := p) cx w1 w2 w3 w4 (both a sc X cx hc w5).1 (both b sc X cx hc w6).1
    exact ⟨h, t_val h fun _ => rfl⟩
  | .dsp ds p, sc, X, cx, hc, w => by
    have w : (decide (ds.len ≠ 0) && decide (ds.len ≤ 15) && ds.wf T N sc) = true := w
    simp only [Bool.and_eq_true, decide_eq_true_eq] at w
    have h := s_dsp (p := p) (X := X) (D := D) (ds := ds) (fun z => w.1.1 (by rw [← CDs.pyk_len, z]; rfl)) (by rw [CDs.pyk_len]; exact w.1.2) (dss ds sc X cx hc w.2)
    exact ⟨h, t_val h fun _ => rfl⟩
  | .plc P, sc, X, cx, hc, w => by
    have h := s_plc cx (plcs P sc X cx hc w) fun _ => trivial
    exact ⟨h, t_val h (fun _ => by cases P <;> rfl)⟩
  | .mxd np a d kp p, sc, X, cx, hc, w => by
    have w : (glB sc "max" && decide (("max" : Str) ∈ T.free) && a.wf T N sc && d.wf T N sc) = true := w
    simp only [Bool.and_eq_true, decide_eq_true_eq] at w
    have h := s_mxd (np := np) (kp := kp) (p := p) cx w.1.1.1 w.1.1.2 (both a sc X cx hc w.1.2).1 (both d sc X cx hc w.2).1
    exact ⟨h, t_val h fun _ => rfl⟩
  | .den dp ep a pe p, sc, X, cx, hc, w => by
    have w : (glB sc "dict" && decide (("dict" : Str) ∈ T.free) && glB sc "enumerate" && decide (("enumerate" : Str) ∈ T.free) && a.wf T N sc) = true := w
    simp only [Bool.and_eq_true, decide_eq_true_eq] at w
    obtain ⟨⟨⟨⟨w1, w2⟩, w3⟩, w4⟩, w5⟩ := w
    have h := s_den (dp := dp) (ep := ep) (pe := pe) (p := p) cx w1 w2 w3 w4 (both a sc X cx hc w5).1
    exact ⟨h, t_val h fun _ => rfl⟩
  | .tvl tp P pa pc p, sc, X, cx, hc, w => by
    have w : (glB sc "tuple" && decide (("tuple" : Str) ∈ T.free) && (pa.endLine == pc.line) && P.wf T N sc) = true := w
    simp only [Bool.and_eq_true, decide_eq_true_eq] at w
    obtain ⟨⟨⟨w1, w2⟩, w3⟩, w4⟩ := w
    have h := s_tvl (tp := tp) (p := p) cx w1 w2 w3 (plcs P sc X cx hc w4)
    exact ⟨h, t_val h fun _ => rfl⟩
  | .sme np e p, sc, X, cx, hc, w => by
    have w : (glB sc "sum" && decide (("sum" : Str) ∈ T.free) && e.wf T N sc) = true := w
    simp only [Bool.and_eq_true, decide_eq_true_eq] at w
    have h := s_sme cx (s_blt (f := .sum) (np := np) (p := p) cx w.1.1 w.1.2 (pa_consO (both e sc X cx hc w.2).1 pa_nilO))
    exact ⟨h, t_val h fun _ => rfl⟩
theorem dss : ∀ (ds : CDs) (sc : Scope) (X : Cx), Ctx T.free D n N sc X → T.calls = D.calls → ds.wf T N sc = true → ds.all fun e => PE X e.py (tEv X.K D e)
  | .nil, _, _, _, _, _ => trivial
  | .cons k kk kp e ds, sc, X, cx, hc, w => by
    have w : (e.wf T N sc && ds.wf T N sc) = true := w
    rw [Bool.and_eq_true] at w
    exact ⟨(both e sc X cx hc w.1).1, dss ds sc X cx hc w.2⟩
theorem plcs : ∀ (P : CP) (sc : Scope) (X : Cx), Ctx T.free D n N sc X → T.calls = D.calls → P.wf T N sc = true → PE X P.py (tPl X.K D P)
  | .rt i x p, sc, X, cx, hc, w => s_place cx _ (fun i' x' p' e => by cases e; exact nm_ok (show nm N sc i x = true from w)) fun _ _ _ e => by cases e
  | .sub P k p, sc, X, cx, hc, w => by
    have w : (P.wf T N sc && k.wf T N sc) = true := w
    rw [Bool.and_eq_true] at w
    exact s_place cx _ (fun _ _ _ e => by cases e) fun P' k' p' e => by
      cases e
      exact ⟨plcs P sc X cx hc w.1, (both k sc X cx hc w.2).1⟩
theorem all : ∀ (es : CEs) (sc : Scope) (X : Cx), Ctx T.free D n N sc X → T.calls = D.calls → es.wf T N sc = true → PA X es.py (tEvs X.K D es) ∧ PA X es.py (tEvo X.K D es) ∧ PA X es.py (tEva X.K D es) ∧
    (es.len ≠ 0 → ∀ o p, PE X (.BoolOp o es.py p) (tEb X.K D o es) ∧ PW X (.BoolOp o es.py p) (tEt X.K D (fun S => tst (evb D o es S)) es.pure))
  | .nil, sc, X, cx, hc, w => ⟨pa_nilT, pa_nilO, pa_nilA, fun h => absurd rfl h⟩
  | .cons e .nil, sc, X, cx, hc, w => by
    have w : (e.wf T N sc && true) = true := w
    rw [Bool.and_eq_true] at w
    have h := both e sc X cx hc w.1
    exact ⟨pa_consT h.1 pa_nilT, pa_consO h.1 pa_nilO, pa_consA (fun i x p z => by subst z; cases (show false = true from w.1)) h.1 pa_nilA, fun _ o p => ⟨b_one h.1, t_bop1 h.2⟩⟩
  | .cons e (.cons e2 es), sc, X, cx, hc, w => by
    have w : (e.wf T N sc && (CEs.cons e2 es).wf T N sc) = true := w
    rw [Bool.and_eq_true] at w
    have h := both e sc X cx hc w.1
    have r := all (.cons e2 es) sc X cx hc w.2
    refine ⟨pa_consT h.1 r.1, pa_consO h.1 r.2.1, pa_consA (fun i x p z => by subst z; cases (show false = true from w.1)) h.1 r.2.2.1, fun _ o p => ?_⟩
    have rr := r.2.2.2 (by unfold CEs.len; omega) o p
    exact ⟨b_more h.1 rr.1, t_bop2 h.2 rr.2⟩
theorem args : ∀ (es : CEs) (sc : Scope) (X : Cx), Ctx T.free D n N sc X → T.calls = D.calls → es.wfA T N sc = true → PA X es.py (tEva X.K D es)
  | .nil, sc, X, cx, hc, w => pa_nilA
  | .cons e es, sc, X, cx, hc, w => by
    by_cases hr : ∃ i x p, e = .ref i x p
    · obtain ⟨i, x, p, rfl⟩ := hr
      have w : (nm N sc i x && es.wfA T N sc) = true := w
      rw [Bool.and_eq_true] at w
      obtain ⟨a, b, c⟩ := nm_ok w.1
      exact pa_refA cx a b c (args es sc X cx hc w.2)
    · have w : (e.wf T N sc && es.wfA T N sc) = true := by
        cases e <;> first | exact w | exact absurd ⟨_, _, _, rfl⟩ hr
      rw [Bool.and_eq_true] at w
      exact pa_consA (fun i x p z => hr ⟨i, x, p, z⟩) (both e sc X cx hc w.1).1 (args es sc X cx hc w.2)
theorem kws : ∀ (ks : CKs) (sc : Scope) (X : Cx), Ctx T.free D n N sc X → T.calls = D.calls → ks.wf T N sc = true → PK X ks.py (tEvk X.K D ks)
  | .nil, sc, X, cx, hc, w => pk_nilA
  | .cons x e p ks, sc, X, cx, hc, w => by
    have w : (e.wf T N sc && ks.wf T N sc) = true := w
    rw [Bool.and_eq_true] at w
    exact pk_consA (both e sc X cx hc w.1).1 (kws ks sc X cx hc w.2)
theorem opt : ∀ (o : CO) (sc : Scope) (X : Cx), Ctx T.free D n N sc X → T.calls = D.calls → o.wf T N sc = true → ∀ e, o = .is e → PE X e.py (tEv X.K D e)
  | .no, sc, X, cx, hc, w, e, h => by cases h
  | .is e', sc, X, cx, hc, w, e, h => by
    cases h
    exact (both e' sc X cx hc w).1
theorem tests : ∀ (ifs : CEs) (sc : Scope) (X : Cx), Ctx T.free D n N sc X → T.calls = D.calls → ifs.wf T N sc = true → ifs.len ≤ 1 → PTs X ifs.py (tTests X.K D ifs)
  | .nil, sc, X, cx, hc, w, hl => pts_ce (fun e h => by cases h) hl
  | .cons e es, sc, X, cx, hc, w, hl => by
    have w : (e.wf T N sc && es.wf T N sc) = true := w
    rw [Bool.and_eq_true] at w
    refine pts_ce (fun e' h => ?_) hl
    cases h
    exact (both e sc X cx hc w.1).2
theorem iters : ∀ (it : CI) (sc : Scope) (X : Cx), Ctx T.free D n N sc X → T.calls = D.calls → it.wf T N sc = true → ∀ (t : CT), tgOk it t = true → PI X t.py it.py (tI X.K D it)
  | .seq e, sc, X, cx, hc, w, t, h => i_seq (both e sc X cx hc w).1
  | .rng1 np a p, sc, X, cx, hc, w, t, h => by
    have w : (glB sc "range" && decide (("range" : Str) ∈ T.free) && a.wf T N sc) = true := w
    simp only [Bool.and_eq_true, decide_eq_true_eq] at w
    exact i_rng1 cx w.1.1 w.1.2 (both a sc X cx hc w.2).1
  | .rng2 np a b p, sc, X, cx, hc, w, t, h => by
    have w : (glB sc "range" && decide (("range" : Str) ∈ T.free) && a.wf T N sc && b.wf T N sc) = true := w
    simp only [Bool.and_eq_true, decide_eq_true_eq] at w
    exact i_rng2 cx w.1.1.1 w.1.1.2 (both a sc X cx hc w.1.2).1 (both b sc X cx hc w.2).1
  | .enum np a p, sc, X, cx, hc, w, t, h => by
    have w : (glB sc "enumerate" && decide (("enumerate" : Str) ∈ T.free) && a.wf T N sc) = true := w
    simp only [Bool.and_eq_true, decide_eq_true_eq] at w
    obtain ⟨ts, k, p', rfl⟩ := (tg_tup h).1 np a p rfl
    exact i_enum cx w.1.1 w.1.2 (both a sc X cx hc w.2).1
  | .zip np a b p, sc, X, cx, hc, w, t, h => by
    have w : (glB sc "zip" && decide (("zip" : Str) ∈ T.free) && a.wf T N sc && b.wf T N sc) = true := w
    simp only [Bool.and_eq_true, decide_eq_true_eq] at w
    obtain ⟨ts, k, p', rfl⟩ := (tg_tup h).2 np a b p rfl
    exact i_zip cx w.1.1.1 w.1.1.2 (both a sc X cx hc w.1.2).1 (both b sc X cx hc w.2).1
end
end
end BV
/-! Statements. -/
namespace BV
open PySem PySem.Spec PyProof.Rows L2
def Kept (B : List Nat) (σ σ' : L2.St) : Prop := ∀ i ∈ B, σ'[i]? = σ[i]?
theorem Kept.refl (B : List Nat) (σ : L2.St) : Kept B σ σ := fun _ _ => rfl
theorem Kept.trans {B : List Nat} {σ σ1 σ2 : L2.St} (a : Kept B σ σ1) (b : Kept B σ1 σ2) : Kept B σ σ2 := fun i h => (b i h).trans (a i h)
theorem Kept.set {B : List Nat} {σ : L2.St} {i : Nat} {x : Option V} (h : i ∉ B) : Kept B σ (σ.set i x) := fun j hj => by
  rw [List.getElem?_set_ne]
  rintro rfl
  exact h hj
theorem wipe_out {σ : L2.St} : ∀ {l : List Nat} {i : Nat}, i ∉ l → (wipe σ l)[i]? = σ[i]?
  | [], _, _ => rfl
  | j :: l, i, h => by
    unfold wipe
    rw [List.getElem?_set_ne (fun e => h (by rw [e]; exact List.mem_cons_self ..))]
    exact wipe_out fun z => h (List.mem_cons_of_mem _ z)
def Fin (K : Frag) (B : List Nat) (Hf : Hp) (F : List Addr) (H : Hp) (σ : L2.St) (E : Ends) : Out → Prop
  | .nx S' => ∀ σ' H' Hf' F', Rel K Hf' F' S' σ' H' → Step Hf F H Hf' F' H' → Kept B σ σ' → E.nx σ' H'
  | .bk S' => ∀ σ' H' Hf' F', Rel K Hf' F' S' σ' H' → Step Hf F H Hf' F' H' → Kept B σ σ' → E.bk σ' H'
  | .ct S' => ∀ σ' H' Hf' F', Rel K Hf' F' S' σ' H' → Step Hf F H Hf' F' H' → Kept B σ σ' → E.ct σ' H'
  | .rt r S' => ∀ x σ' H' Hf' F', Gives K Hf F H S' σ' (.own r.1, r.2) x Hf' F' H' → Kept B σ σ' → E.rt x H'
theorem Fin.on {K : Frag} {B : List Nat} {Hf Hf1 H H1 : Hp} {F F1 : List Addr} {σ σ1 : L2.St} {E : Ends} {o : Out} (f : Fin K B Hf F H σ E o) (st : Step Hf F H Hf1 F1 H1) (k : Kept B σ σ1) : Fin K B Hf1 F1 H1 σ1 E o := by
  cases o with
  | nx S => exact fun σ' H' Hf' F' r s k' => f σ' H' Hf' F' r (st.trans s) (k.trans k')
  | bk S => exact fun σ' H' Hf' F' r s k' => f σ' H' Hf' F' r (st.trans s) (k.trans k')
  | ct S => exact fun σ' H' Hf' F' r s k' => f σ' H' Hf' F' r (st.trans s) (k.trans k')
  | rt r S => exact fun x σ' H' Hf' F' g k' => f x σ' H' Hf' F' (resTrans st g) (k.trans k')
def tX (K : Frag) (B : List Nat) (o : Slots → Option Out) : TS := fun E σ H => ∃ S Hf F out, Rel K Hf F S σ H ∧ o S = some out ∧ Fin K B Hf F H σ E out
theorem psBy {X : Cx} {st : Stmt} {t t' : TS} (h : PS X st t) (w : ∀ E σ H, t' E σ H → t E σ H) : PS X st t' := ⟨fun pins s σ H E I q => h.run pins s σ H E I (w E σ H q)⟩
theorem pssBy {X : Cx} {st : List Stmt} {t t' : TS} (h : PSs X st t) (w : ∀ E σ H, t' E σ H → t E σ H) : PSs X st t' := ⟨fun pins s σ H E I q => h.run pins s σ H E I (w E σ H q)⟩
/-- a thing is made to fit into a container of depth d within -/
theorem fit {K : Frag} {Hf H : Hp} {F G : List Addr} {S : Slots} {σ : L2.St} {d d' : Nat} {v : Val} {x : V} (rel : Rel K Hf F S σ H) (ow : Own K Hf H d' v x G) (nd : (F ++ G).Nodup) (off : ∀ a ∈ G, Hf a = none) (h : fitsIn d (d', v) = true) :
    ∃ Hf' G', HSub Hf Hf' ∧ Rel K Hf' F S σ H ∧ Own K Hf' H d v x G' ∧ (∀ a ∈ G', a ∈ G) ∧ (F ++ G').Nodup ∧ (∀ a ∈ G', Hf' a = none) ∧ ∀ a, a ∉ G → Hf' a = Hf a := by
  unfold fitsIn at h
  simp only [Bool.or_eq_true, beq_iff_eq] at h
  rcases h with (h | h) | h
  · obtain ⟨rfl, ow'⟩ := ow.flat (d' := d) h
    exact ⟨Hf, [], HSub.refl _, rel, ow', fun a h => h, nd, off, fun _ _ => rfl⟩
  · subst h
    have s1 := frzH_sub (H := H) off
    have dis : ∀ a ∈ F, a ∉ G := fun a ha hg => (List.nodup_append.mp nd).2.2 a ha a hg rfl
    exact ⟨frzH Hf H G, [], s1, rel.grow s1 (frzH_le rel.sub) fun a ha => by rw [frzH_out (dis a ha)]; exact rel.off a ha, .frz (.inl rfl) (ow.freeze off), fun a h => (by cases h), by simpa using rel.nd, fun a h => (by cases h), fun a h => frzH_out h⟩
  · have h : d' = d := h
    subst h
    exact ⟨Hf, G, HSub.refl _, rel, ow, fun a h => h, nd, off, fun _ _ => rfl⟩
theorem OwnL.snoc {K : Frag} {Hf H : Hp} {d : Nat} {v : Val} {x : V} {G' : List Addr} (h : Own K Hf H d v x G') : ∀ {xs : List Val} {ys : List V} {G : List Addr}, OwnL K Hf H d xs ys G → OwnL K Hf H d (xs ++ [v]) (ys ++ [x]) (G ++ G')
  | _, _, _, .nil => by simpa using OwnL.cons h .nil
  | _, _, _, .cons (F := F) (G := G) q r => by
    have := OwnL.cons q (OwnL.snoc h r)
    simpa using this
section
variable {free : List Str} {D : Den} {n : Nat} {N : List Str} {sc : Scope} {X : Cx} {B : List Nat}
theorem room_slot (c : Ctx free D n N sc X) {i : Nat} {x : Str} {pins : List (Addr × Obj)} {s : Shared} {σ : L2.St} {H Hf : Hp} {F : List Addr} {S : Slots} (hi : N[i]? = some x) (I : Inv X pins σ H s) {H' : Hp} (rel : Rel X.K Hf F S σ H') : i < S.length := by
  have e1 := I.len
  have e2 := rel.len
  have := lt_of_get hi
  rw [c.hN] at e1
  omega
/-- a thing goes into a slot -/
theorem Gives.put {K : Frag} {Hf H Hf1 H1 : Hp} {F F1 : List Addr} {S1 : Slots} {σ : L2.St} {d : Nat} {v : Val} {x : V} {i : Nat} (g : Gives K Hf F H S1 σ (.own d, v) x Hf1 F1 H1) (hi : i < S1.length) :
    ∃ F', Rel K Hf1 F' (S1.set i (some (d, v))) (σ.set i (some x)) H1 ∧ Step Hf F H Hf1 F' H1 := by
  obtain ⟨rel, st, G, ow, nd, off, fr⟩ := g
  obtain ⟨F', rel', sub⟩ := rel.put hi ow nd off
  exact ⟨F', rel', st.hf, st.fr, st.new, fun a ha => (sub a ha).elim (st.own a) (fr a)⟩
theorem x_name (c : Ctx free D n N sc X) {i : Nat} {x : Str} {px p : Pos} {e : CE} {tl : TE} (hi : N[i]? = some x) (hB : i ∉ B) (hp : PS X (.Assign [.Name x px] e.py p) (tAsg tl (gName i))) (w : ∀ σ H Q, tEv X.K D e σ H Q → tl σ H Q) :
    PS X (CS.asg (.name i x px) e p).py (tX X.K B (ex D (.asg (.name i x px) e p))) := by
  refine ⟨fun pins s σ H E I h => hp.run pins s σ H E I ?_⟩
  obtain ⟨S, Hf, F, out, rel, ho, fin⟩ := h
  unfold ex at ho
  rw [Option.bind_eq_some_iff] at ho
  obtain ⟨⟨⟨m, v⟩, S1⟩, e1, ho⟩ := ho
  cases m with
  | bor => cases ho
  | own d =>
    cases ho
    refine w σ H _ ⟨S, Hf, F, _, S1, rel, e1, fun y H1 Hf1 F1 g p1 => ?_⟩
    obtain ⟨F', rel', st'⟩ := g.put (room_slot c hi I g.rel)
    exact fin _ _ _ _ rel' st' (Kept.set hB)
/-- the names that could be stored in another order -/
def ownNames (sc : Scope) (l : List Expr) : List Str := l.filterMap fun
  | .Name id pos => if sc.names.lookup id == some .local && pos.line == (l.head?.map (·.pos.line)).getD 0 then some id else none
  | _ => none
/-- the stores come in their own order -/
def inTurn (sc : Scope) (ts : CTs) : CE → Bool
  | .tup es _ _ => !(ts.py.length == 2 || ts.py.length == 3) || es.py.length != ts.py.length || (ownNames sc ts.py).length != ts.py.length || (ownNames sc ts.py).eraseDups.length != (ownNames sc ts.py).length
  | _ => true
theorem inTurn_ok {sc : Scope} {ts : CTs} {k : Nat} {pt : Pos} {e : CE} {env : Env} (hs : env.scope = sc) (h : inTurn sc ts e = true) : swappedStores [(CT.tup ts k pt).py] e.py env = pure none := by
  subst hs
  cases e with
  | tup es k2 p2 =>
    show swappedStores [.Tuple ts.py k pt] (.Tuple es.py k2 p2) env = _
    unfold inTurn at h
    unfold swappedStores
    dsimp only
    split
    · rfl
    · rename_i c1
      split
      · rfl
      · split
        · rfl
        · rename_i c2
          exfalso
          simp only [Bool.or_eq_true] at h c1 c2
          have eq : ownNames env.scope ts.py = ts.py.filterMap (fun
            | .Name id pos => if env.kindOf id == some .local && pos.line == (ts.py.head?.map (·.pos.line)).getD 0 then some id else none
            | _ => none) := rfl
          rw [eq] at h
          rcases h with ((h | h) | h) | h
          · exact c1 (.inl (.inl h))
          · exact c1 (.inl (.inr h))
          · exact c2 (.inl h)
          · exact c2 (.inr h)
  | plc P => cases P <;> rfl
  | _ => rfl
theorem x_tup (c : Ctx free D n N sc X) {ts : CTs} {k : Nat} {pt p : Pos} {e : CE} (he : PE X e.py (tEv X.K D e)) (hg : PG X (CT.tup ts k pt).py (tT X.K (.tup ts k pt))) (hB : ∀ i ∈ B, i ∉ (CT.tup ts k pt).slots) (hn : inTurn sc ts e = true) :
    PS X (CS.asg (.tup ts k pt) e p).py (tX X.K B (ex D (.asg (.tup ts k pt) e p))) := by
  refine psBy (ps_asg he hg (by cases e <;> first | rfl | (rename_i P; cases P <;> rfl)) (inTurn_ok c.sc hn) rfl) fun E σ H ⟨S, Hf, F, out, rel, ho, fin⟩ => ?_
  unfold ex at ho
  rw [Option.bind_eq_some_iff] at ho
  obtain ⟨⟨⟨m, v⟩, S1⟩, e1, ho⟩ := ho
  cases m with
  | bor => cases ho
  | own d =>
    have ho : ((CT.tup ts k pt).set v S1).map Out.nx = some out := ho
    rw [Option.map_eq_some_iff] at ho
    obtain ⟨S2, e2, rfl⟩ := ho
    refine ⟨S, Hf, F, _, S1, rel, e1, fun y H1 Hf1 F1 g p1 => ?_⟩
    obtain ⟨Hf1', s1, rel1, st1, re1, rf1⟩ := g.opd
    refine ⟨S1, Hf1', F1, v, S2, rel1, rf1 d rfl, e2, fun σ' F' rel' sub wp => ?_⟩
    refine fin σ' H1 Hf1' F' rel' ⟨st1.hf, st1.fr, st1.new, fun a ha => st1.own a (sub a ha)⟩ fun i hi => ?_
    have q := wp (CT.tup ts k pt).slots fun _ h => h
    rw [← wipe_out (σ := σ') (hB i hi), q, wipe_out (hB i hi)]
theorem x_par (c : Ctx free D n N sc X) {i j : Nat} {x y : Str} {px py pt p2 p : Pos} {kt k2 : Nat} {a b : CE} (hi : N[i]? = some x) (hj : N[j]? = some y) (hij : i ≠ j) (iB : i ∉ B) (jB : j ∉ B) (hx : sc.names.lookup x = some .local) (hy : sc.names.lookup y = some .local)
    (h : PA X [a.py, b.py] (tEvs X.K D (.cons a (.cons b .nil)))) (hw : swappedStores [.Tuple [.Name x px, .Name y py] kt pt] (.Tuple [a.py, b.py] k2 p2) X.env = pure (some [x, y])) :
    PS X (CS.par i j x y px py kt pt a b k2 p2 p).py (tX X.K B (ex D (.par i j x y px py kt pt a b k2 p2 p))) := by
  have hp := ps_par (pos := p) c.calm (by rw [c.hN]; exact c.nd) (by rw [c.hN]; exact hi) (by rw [c.hN]; exact hj) hij (by rw [c.sc]; exact hx) (by rw [c.sc]; exact hy) h hw rfl
  refine ⟨fun pins s σ H E I h => hp.run pins s σ H E I ?_⟩
  obtain ⟨S, Hf, F, out, rel, ho, fin⟩ := h
  unfold ex at ho
  rw [Option.bind_eq_some_iff] at ho
  obtain ⟨⟨rs, S1⟩, e1, ho⟩ := ho
  dsimp only at ho
  split at ho
  · rename_i r r'
    cases ho
    refine ⟨S, Hf, F, _, S1, rel, e1, fun xs H1 Hf1 F1 g p1 => ?_⟩
    obtain ⟨rel1, st1, G, ow, nd, off, fr⟩ := g
    cases ow with
    | cons ow1 t1 =>
      cases t1 with
      | cons ow2 t2 =>
        cases t2
        rename_i d v u Ga d' v' u' Gb
        have l1 := room_slot c hi I rel1
        have l2 := room_slot c hj I rel1
        refine ⟨u, u', rfl, ?_⟩
        rw [List.append_nil] at nd off fr
        have ndp := nd
        simp only [List.nodup_append, List.mem_append] at ndp
        obtain ⟨F2, rel2, sub2⟩ := rel1.put (i := i) l1 ow1 (by simp only [List.nodup_append]; grind) fun a ha => off a (List.mem_append_left _ ha)
        have nd2 : (F2 ++ Gb).Nodup := by
          have h2 := rel2.nd
          simp only [List.nodup_append]
          grind
        obtain ⟨F3, rel3, sub3⟩ := rel2.put (i := j) (by rw [List.length_set]; exact l2) ow2 nd2 fun a ha => off a (List.mem_append_right _ ha)
        refine fin _ H1 Hf1 F3 rel3 ⟨st1.hf, st1.fr, st1.new, fun a ha => ?_⟩ ((Kept.set iB).trans (Kept.set jB))
        rcases sub3 a ha with z | z
        · rcases sub2 a z with z | z
          · exact st1.own a z
          · exact fr a (List.mem_append_left _ z)
        · exact fr a (List.mem_append_right _ z)
  · cases ho
theorem x_expr (c : Ctx free D n N sc X) {e : CE} {p : Pos} (he : PE X e.py (tEv X.K D e)) (hs : swapsWith e.py none p.line X.env = pure false) : PS X (CS.expr e p).py (tX X.K B (ex D (.expr e p))) := by
  refine psBy (ps_expr he hs) fun E σ H ⟨S, Hf, F, out, rel, ho, fin⟩ => ?_
  unfold ex at ho
  rw [Option.map_eq_some_iff] at ho
  obtain ⟨⟨r, S1⟩, e1, rfl⟩ := ho
  exact ⟨S, Hf, F, r, S1, rel, e1, fun y H1 Hf1 F1 g p1 => fin σ H1 Hf1 F1 g.rel g.st (Kept.refl _ _)⟩
theorem x_ret {e : CE} {p : Pos} (he : PE X e.py (tEv X.K D e)) : PS X (CS.ret e p).py (tX X.K B (ex D (.ret e p))) := by
  refine psBy (ps_ret he) fun E σ H ⟨S, Hf, F, out, rel, ho, fin⟩ => ?_
  unfold ex at ho
  rw [Option.bind_eq_some_iff] at ho
  obtain ⟨⟨⟨m, v⟩, S1⟩, e1, ho⟩ := ho
  cases m with
  | bor => cases ho
  | own d =>
    cases ho
    exact ⟨S, Hf, F, _, S1, rel, e1, fun y H1 Hf1 F1 g p1 => fin y σ H1 Hf1 F1 g (Kept.refl _ _)⟩
theorem x_retN {p : Pos} : PS X (CS.retN p).py (tX X.K B (ex D (.retN p))) := by
  refine psBy ps_retN fun E σ H ⟨S, Hf, F, out, rel, ho, fin⟩ => ?_
  cases ho
  exact fin .non σ H Hf F (.frz rel (Step.refl _ _ _) .non (.inl rfl)) (Kept.refl _ _)
theorem x_pass {p : Pos} : PS X (CS.pass p).py (tX X.K B (ex D (.pass p))) := by
  refine psBy ps_pass fun E σ H ⟨S, Hf, F, out, rel, ho, fin⟩ => ?_
  cases ho
  exact fin σ H Hf F rel (Step.refl _ _ _) (Kept.refl _ _)
theorem x_brk {p : Pos} : PS X (CS.brk p).py (tX X.K B (ex D (.brk p))) := by
  refine psBy ps_break fun E σ H ⟨S, Hf, F, out, rel, ho, fin⟩ => ?_
  cases ho
  exact fin σ H Hf F rel (Step.refl _ _ _) (Kept.refl _ _)
theorem x_cnt {p : Pos} : PS X (CS.cnt p).py (tX X.K B (ex D (.cnt p))) := by
  refine psBy ps_continue fun E σ H ⟨S, Hf, F, out, rel, ho, fin⟩ => ?_
  cases ho
  exact fin σ H Hf F rel (Step.refl _ _ _) (Kept.refl _ _)
theorem x_nvr {st : Stmt} : PS X (CS.nvr st).py (tX X.K B (ex D (.nvr st))) :=
  psBy ps_never fun E σ H ⟨S, Hf, F, out, rel, ho, fin⟩ => by cases ho
theorem x_ife {ce : CE} {a b : CSs} {p : Pos} (hc : PT X ce.py (tTs X.K D ce)) (ha : PSs X a.py (tX X.K B (exs D a))) (hb : PSs X b.py (tX X.K B (exs D b))) : PS X (CS.ife ce a b p).py (tX X.K B (ex D (.ife ce a b p))) := by
  refine psBy (ps_if hc ha hb) fun E σ H ⟨S, Hf, F, out, rel, ho, fin⟩ => ?_
  unfold ex at ho
  rw [Option.bind_eq_some_iff] at ho
  obtain ⟨⟨t, S1⟩, e1, ho⟩ := ho
  refine ⟨S, Hf, F, t, S1, rel, e1, fun H1 Hf1 F1 rel1 st1 p1 => ?_⟩
  cases t with
  | true => exact ⟨S1, Hf1, F1, out, rel1, ho, fin.on st1 (Kept.refl _ _)⟩
  | false => exact ⟨S1, Hf1, F1, out, rel1, ho, fin.on st1 (Kept.refl _ _)⟩
theorem xs_nil : PSs X CSs.nil.py (tX X.K B (exs D .nil)) := by
  refine pssBy pss_nil fun E σ H ⟨S, Hf, F, out, rel, ho, fin⟩ => ?_
  cases ho
  exact fin σ H Hf F rel (Step.refl _ _ _) (Kept.refl _ _)
theorem xs_cons {st : CS} {ss : CSs} (h1 : PS X st.py (tX X.K B (ex D st))) (h2 : PSs X ss.py (tX X.K B (exs D ss))) : PSs X (CSs.cons st ss).py (tX X.K B (exs D (.cons st ss))) := by
  refine pssBy (pss_cons h1 h2) fun E σ H ⟨S, Hf, F, out, rel, ho, fin⟩ => ?_
  unfold exs at ho
  refine ⟨S, Hf, F, ?_⟩
  split at ho
  · rename_i S1 e1
    exact ⟨.nx S1, rel, e1, fun σ' H' Hf' F' rel' st k => ⟨S1, Hf', F', out, rel', ho, fin.on st k⟩⟩
  · rename_i e1
    refine ⟨out, rel, ho, ?_⟩
    cases out with
    | nx S1 => exact absurd ho (e1 S1)
    | bk S1 => exact fin
    | ct S1 => exact fin
    | rt r S1 => exact fin
theorem x_aug (c : Ctx free D n N sc X) {i : Nat} {x : Str} {px p : Pos} {op : Operator} {e : CE} (hi : N[i]? = some x) (hl : locB sc x = true) (hB : i ∉ B) (hf : X.fn x = true) (he : PE X e.py (tEv X.K D e)) :
    PS X (CS.aug i x px op e p).py (tX X.K B (ex D (.aug i x px op e p))) := by
  have core : ∀ {ti : TIp}, PIp X op ti → (∀ (k v : Int) (S2 : Slots) (out : Out), (match op, Val.int v with
      | .Add, .int m => some (Out.nx (S2.set i (some (0, .int (k + m)))))
      | .Sub, .int m => some (.nx (S2.set i (some (0, .int (k - m)))))
      | _, _ => none) = some out → ∃ z, out = .nx (S2.set i (some (0, .int z))) ∧ ∀ H (Q : VK), Q (.int z) H → ti (.int k) (.int v) H Q) → PS X (CS.aug i x px op e p).py (tX X.K B (ex D (.aug i x px op e p))) := by
    intro ti hip hz
    have hp := ps_aug (pos := p) (pos' := px) (by rw [c.hN]; exact c.nd) (by rw [c.hN]; exact hi) (by rw [c.sc]; exact locB_ok hl) he hip (.inl hf)
    refine ⟨fun pins s σ H E I h => hp.run pins s σ H E I ?_⟩
    obtain ⟨S, Hf, F, out, rel, ho, fin⟩ := h
    unfold ex at ho
    split at ho
    · rename_i d k e0
      rw [Option.bind_eq_some_iff] at ho
      obtain ⟨⟨⟨m, v⟩, S1⟩, e1, ho⟩ := ho
      obtain ⟨y, G, hy, ow, _⟩ := rel.get e0
      have ey : y = .int k := by
        cases ow with
        | frz _ r => cases r; rfl
      subst ey
      refine ⟨_, hy, S, Hf, F, _, S1, rel, e1, fun z H1 Hf1 F1 g p1 => ?_⟩
      obtain ⟨Hf1', s1, rel1, st1, re1, rf1⟩ := g.opd
      cases v with
      | int v =>
        obtain ⟨w, rfl, q⟩ := hz k v S1 out ho
        have ez : z = .int v := by
          cases re1 with
          | flat _ r => cases r; rfl
        subst ez
        refine q _ _ ?_
        obtain ⟨F', rel', sub⟩ := rel1.put (i := i) (d := 0) (v := .int w) (x := .int w) (G := []) (room_slot c hi I rel1) (.frz (.inl rfl) (.int w)) (by simpa using rel1.nd) (fun a h => by cases h)
        exact fin _ H1 Hf1' F' rel' ⟨st1.hf, st1.fr, st1.new, fun a ha => (sub a ha).elim (st1.own a) fun z => by cases z⟩ (Kept.set hB)
      | _ => exfalso; revert ho; cases op <;> simp
    · cases ho
  cases op with
  | Add => exact core ip_add fun k v S2 out h => ⟨k + v, (Option.some.inj h).symm, fun H Q q => ⟨k, v, rfl, rfl, q⟩⟩
  | Sub => exact core ip_sub fun k v S2 out h => ⟨k - v, (Option.some.inj h).symm, fun H Q q => ⟨k, v, rfl, rfl, q⟩⟩
  | _ =>
    refine psBy ps_never fun E σ H ⟨S, Hf, F, out, rel, ho, fin⟩ => ?_
    unfold ex at ho
    split at ho
    · rw [Option.bind_eq_some_iff] at ho
      obtain ⟨q, e1, ho⟩ := ho
      cases ho
    · cases ho
theorem nd_app {F0 F1 Gl Gw : List Addr} {a : Addr} (nd0 : (F0 ++ a :: Gl).Nodup) (ndw : (F1 ++ Gw).Nodup) (sub : ∀ b, b ∈ F0 ∨ b ∈ a :: Gl → b ∈ F1) : (F0 ++ a :: (Gl ++ Gw)).Nodup := by
  have d : ∀ b ∈ Gw, ¬ (b ∈ F0 ∨ b ∈ a :: Gl) := fun b hb h => (List.nodup_append.mp ndw).2.2 b (sub b h) b hb rfl
  have w : Gw.Nodup := (List.nodup_append.mp ndw).2.1
  clear sub ndw
  simp only [List.nodup_append, List.nodup_cons, List.mem_append, List.mem_cons] at *
  grind
theorem nd_set {F0 F1 G1 Gm G3 Gw : List Addr} {a : Addr} (nd0 : (F0 ++ a :: (G1 ++ Gm ++ G3)).Nodup) (ndw : (F1 ++ Gw).Nodup) (sub : ∀ b, b ∈ F0 ∨ b ∈ a :: (G1 ++ Gm ++ G3) → b ∈ F1) : (F0 ++ a :: (G1 ++ Gw ++ G3)).Nodup := by
  have d : ∀ b ∈ Gw, ¬ (b ∈ F0 ∨ b ∈ a :: (G1 ++ Gm ++ G3)) := fun b hb h => (List.nodup_append.mp ndw).2.2 b (sub b h) b hb rfl
  have w : Gw.Nodup := (List.nodup_append.mp ndw).2.1
  clear sub ndw
  simp only [List.nodup_append, List.nodup_cons, List.mem_append, List.mem_cons] at *
  grind
/-- a list in a slot is changed in place -/
theorem Rel.relist {K : Frag} {Hf H : Hp} {F : List Addr} {S : Slots} {σ : L2.St} {i d : Nat} {xs xs' : List Val} {ys ys' : List V} {a : Addr} {G0 G G' Gx : List Addr} (rel0 : Rel K Hf G0 (S.set i Option.none) σ H) (hs : i < S.length) (hy : σ[i]? = some (some (.ref a)))
    (ow : OwnL K Hf (L2.upd H a (.lst ys')) d xs' ys' G') (nd : (G0 ++ a :: G').Nodup) (off : ∀ b ∈ a :: G', Hf b = Option.none) :
    ∃ F', Rel K Hf F' (S.set i (some (d + 1, .lst xs'))) σ (L2.upd H a (.lst ys')) ∧ ∀ b ∈ F', b ∈ G0 ∨ b ∈ a :: G' := by
  have ha : a ∉ G0 := fun z => by
    have := (List.nodup_append.mp nd).2.2 a z a (List.mem_cons_self ..)
    exact this rfl
  obtain ⟨F', relN, subN⟩ := (rel0.mut (p := a) (o := .lst ys') ha (off a (List.mem_cons_self ..))).put (i := i) (by rw [List.length_set]; exact hs) (Own.lst (d := d) upd_same ow) nd off
  rw [List.set_set, set_same hy] at relN
  exact ⟨F', relN, subN⟩
theorem x_app (c : Ctx free D n N sc X) {i : Nat} {x : Str} {px pa pc p : Pos} {e : CE} (hi : N[i]? = some x) (hv : visB sc x = true) (ok : okName x = true) (hl : (pa.endLine == pc.line) = true) (he : PE X e.py (tEv X.K D e)) :
    PS X (CS.app i x px pa e pc p).py (tX X.K B (ex D (.app i x px pa e pc p))) := by
  have h1 : PE X (.Name x px) (tVar i) := pe_var (i := i) (by rw [c.hN]; exact hi) (by rw [c.sc]; exact visB_ok hv) (okName_ok ok).1 (okName_ok ok).2.1
  have hs := star_cons e [] X.env
  have pe := pe_bm (cpos := pc) (apos := pa) PySem.F.plainAttrs_list PySem.F.slot_list_append PySem.F.type_list_append (mt_append (X := X)) h1 (pa_cons he pa_nil hs) rfl (by rw [hs]; rfl) hl hs rfl
  refine psBy (ps_expr (pos := p) pe rfl) fun E σ H ⟨S, Hf, F, out, rel, ho, fin⟩ => ?_
  unfold ex at ho
  split at ho
  · rename_i d0 xs0 e0
    rw [Option.bind_eq_some_iff] at ho
    obtain ⟨⟨⟨m, v⟩, S1⟩, e1, ho⟩ := ho
    dsimp only at ho
    split at ho
    · rename_i d xs d' e2
      rw [gd_some, Bool.and_eq_true] at ho
      obtain ⟨⟨hfit, hz⟩, ho⟩ := ho
      cases ho
      have hz := of_decide_eq_true hz
      obtain ⟨y, G, hy, ow, _⟩ := rel.get e0
      have ty : L2.tyV X.K "list" y H := by
        cases ow with
        | frz _ r => cases r with | lst h _ => exact .inl ⟨rfl, _, (rdL_mono rel.sub h).sq⟩
        | lst h _ => exact .inl ⟨rfl, _, .inl (.inl h)⟩
      refine ⟨_, hy, ty, S, Hf, F, _, S1, rel, e1, fun z H1 Hf1 F1 g p1 => ?_⟩
      obtain ⟨rel1, st1, Gv, owv, ndv, offv, frv⟩ := g
      obtain ⟨Hf2, Gw, s12, rel2, oww, subw, ndw, offw, same⟩ := fit rel1 owv ndv offv hfit
      obtain ⟨y2, G2, F0, hy2, ow2, rel0, nd0, iff0, off0⟩ := rel2.take e2
      rw [hy] at hy2
      cases hy2
      cases ow2 with
      | frz hd r => rcases hd with z | z <;> cases z
      | lst ha l =>
        rename_i a ys Gl
        refine ⟨a, ys, z, rfl, rfl, ha, by rw [l.length]; exact hz, ?_⟩
        have fresh : a ∉ Gw := fun h => (List.nodup_append.mp ndw).2.2 a ((iff0 a).mpr (.inr (List.mem_cons_self ..))) a h rfl
        have nda := nd0
        simp only [List.nodup_append, List.nodup_cons, List.mem_cons] at nda
        have keep : ∀ b, b ≠ a → ∀ o, H1 b = some o → upd H1 a (.lst (ys ++ [z])) b = some o := fun b n o e => by rw [upd_ne n]; exact e
        have l' : OwnL X.K Hf2 (upd H1 a (.lst (ys ++ [z]))) d (xs ++ [v]) (ys ++ [z]) (Gl ++ Gw) :=
          OwnL.snoc (oww.mono (HSub.refl _) fun b hb o e => keep b (fun q => fresh (q ▸ hb)) o e) (l.mono (HSub.refl _) fun b hb o e => keep b (fun q => by subst q; exact nda.2.1.1 hb) o e)
        obtain ⟨F', relN, subN⟩ := Rel.relist (G := []) (Gx := []) (F := []) (xs := xs) (ys := ys) rel0 (lt_of_get e2) hy l' (nd_app nd0 ndw fun b h => (iff0 b).mpr h) (fun b hb => by
          rcases List.mem_cons.mp hb with z | z
          · rw [z]; exact off0 a (List.mem_cons_self ..)
          · rcases List.mem_append.mp z with z | z
            · exact off0 b (List.mem_cons_of_mem _ z)
            · exact offw b z)
        have st2 : Step Hf F H Hf2 F1 H1 := ⟨st1.hf.trans s12, st1.fr, fun b o e nF => by
          rw [same b fun hg => (frv b hg).elim nF fun q => by rw [e] at q; cases q]
          exact st1.new b o e nF, st1.own⟩
        refine fin σ _ Hf2 F' relN ⟨st2.hf, fun b o e nF => keep b (fun q => ?_) o (st2.fr b o e nF), st2.new, fun b hb => ?_⟩ (Kept.refl _ _)
        · rcases st2.own a ((iff0 a).mpr (.inr (List.mem_cons_self ..))) with z | z
          · exact nF (q ▸ z)
          · rw [← q, e] at z; cases z
        · rcases subN b hb with z | z
          · exact st2.own b ((iff0 b).mpr (.inl z))
          · rcases List.mem_cons.mp z with z | z
            · rw [z]; exact st2.own a ((iff0 a).mpr (.inr (List.mem_cons_self ..)))
            · rcases List.mem_append.mp z with z | z
              · exact st2.own b ((iff0 b).mpr (.inr (List.mem_cons_of_mem _ z)))
              · exact frv b (subw b z)
    · cases ho
  · cases ho
theorem x_setI (c : Ctx free D n N sc X) {i : Nat} {x : Str} {px tp p : Pos} {k e : CE} (hi : N[i]? = some x) (hv : visB sc x = true) (ok : okName x = true) (hk : PE X k.py (tEv X.K D k)) (he : PE X e.py (tEv X.K D e)) :
    PS X (CS.setI i x px k e tp p).py (tX X.K B (ex D (.setI i x px k e tp p))) := by
  have h1 : PE X (.Name x px) (tVar i) := pe_var (i := i) (by rw [c.hN]; exact hi) (by rw [c.sc]; exact visB_ok hv) (okName_ok ok).1 (okName_ok ok).2.1
  refine psBy (ps_asg (pos := p) he (pg_sub (pos := tp) h1 hk (set_list (X := X)) (by intro _; cases k <;> first | rfl | (rename_i P; cases P <;> rfl))) (by cases e <;> first | rfl | (rename_i P; cases P <;> rfl)) (by cases e <;> first | rfl | (rename_i P; cases P <;> rfl)) rfl) fun E σ H ⟨S, Hf, F, out, rel, ho, fin⟩ => ?_
  unfold ex at ho
  rw [Option.bind_eq_some_iff] at ho
  obtain ⟨⟨⟨m, v⟩, S1⟩, e1, ho⟩ := ho
  dsimp only at ho
  split at ho
  · rename_i r0 e0
    rw [Option.bind_eq_some_iff] at ho
    obtain ⟨⟨⟨mk, kv⟩, S2⟩, e2, ho⟩ := ho
    dsimp only at ho
    split at ho
    · rename_i d xs mm d' e3
      rw [gd_some, Option.map_eq_some_iff] at ho
      obtain ⟨hfit, j, hj, rfl⟩ := ho
      refine ⟨S, Hf, F, _, S1, rel, e1, fun z H1 Hf1 F1 g p1 => ?_⟩
      obtain ⟨rel1, st1, Gv, owv, ndv, offv, frv⟩ := g
      obtain ⟨y, _, hy, _, _⟩ := rel1.get (d := r0.1) (v := r0.2) e0
      refine ⟨y, hy, S1, Hf1, F1, _, S2, rel1, e2, fun w H2 Hf2 F2 g2 p2 => ?_⟩
      have disv : ∀ a ∈ Gv, a ∉ F1 := fun a ha hf => (List.nodup_append.mp ndv).2.2 a hf a ha rfl
      obtain ⟨Hf2', s2, rel2, st2, re2, rf2⟩ := g2.opd
      obtain ⟨owv', disv', offv'⟩ := owv.held st2 disv offv
      have ndv' : (F2 ++ Gv).Nodup := by
        have := rel2.nd
        simp only [List.nodup_append] at ndv ⊢
        grind
      obtain ⟨Hf3, Gw, s23, rel3, oww, subw, ndw, offw, same⟩ := fit rel2 owv' ndv' offv' hfit
      have ew : w = .int mm := by
        cases re2 with
        | flat _ r => cases r; rfl
      subst ew
      obtain ⟨y2, G2, F0, hy2, ow2, rel0, nd0, iff0, off0⟩ := rel3.take e3
      rw [hy] at hy2
      cases hy2
      cases ow2 with
      | frz hd r => rcases hd with z | z <;> cases z
      | lst ha l =>
        rename_i a ys Gl _
        refine ⟨a, ys, mm, j, rfl, rfl, ha, by rw [l.length]; exact hj, ?_⟩
        have hjl : j < xs.length := by
          unfold ixN at hj
          grind
        obtain ⟨old, hold⟩ : ∃ u, xs[j]? = some u := ⟨xs[j], List.getElem?_eq_getElem hjl⟩
        obtain ⟨b0, G1, Gm, G3, eb, eG, owb, put⟩ := l.split hold
        subst eG
        have fresh : a ∉ Gw := fun h => (List.nodup_append.mp ndw).2.2 a ((iff0 a).mpr (.inr (List.mem_cons_self ..))) a h rfl
        have nda := nd0
        simp only [List.nodup_append, List.nodup_cons, List.mem_cons, List.mem_append] at nda
        have keep : ∀ b, b ≠ a → ∀ o, H2 b = some o → upd H2 a (.lst (ys.set j z)) b = some o := fun b n o e => by rw [upd_ne n]; exact e
        have l' : OwnL X.K Hf3 (upd H2 a (.lst (ys.set j z))) d (xs.set j v) (ys.set j z) (G1 ++ Gw ++ G3) :=
          put (fun b hb o e => keep b (fun q => by subst q; exact nda.2.1.1 (hb.elim (fun z => .inl (.inl z)) .inr)) o e) (oww.mono (HSub.refl _) fun b hb o e => keep b (fun q => fresh (q ▸ hb)) o e)
        obtain ⟨F', relN, subN⟩ := Rel.relist (G := []) (Gx := []) (F := []) (xs := xs) (ys := ys) rel0 (lt_of_get e3) hy l' (nd_set nd0 ndw fun b h => (iff0 b).mpr h) (fun b hb => by
          have : b ∈ a :: (G1 ++ Gm ++ G3) ∨ b ∈ Gw := by
            simp only [List.mem_append, List.mem_cons] at hb ⊢
            grind
          rcases this with z | z
          · exact off0 b z
          · exact offw b z)
        have st3 : Step Hf F H Hf3 F2 H2 := by
          have t := st1.trans st2
          refine ⟨t.hf.trans s23, t.fr, fun b o e nF => ?_, t.own⟩
          rw [same b fun hg => (frv b hg).elim nF fun q => by rw [e] at q; cases q]
          exact t.new b o e nF
        refine fin σ _ Hf3 F' relN ⟨st3.hf, fun b o e nF => keep b (fun q => ?_) o (st3.fr b o e nF), st3.new, fun b hb => ?_⟩ (Kept.refl _ _)
        · rcases st3.own a ((iff0 a).mpr (.inr (List.mem_cons_self ..))) with z | z
          · exact nF (q ▸ z)
          · rw [← q, e] at z; cases z
        · rcases subN b hb with z | z
          · exact st3.own b ((iff0 b).mpr (.inl z))
          · have : b ∈ a :: (G1 ++ Gm ++ G3) ∨ b ∈ Gw := by
              simp only [List.mem_append, List.mem_cons] at z ⊢
              grind
            rcases this with z | z
            · exact st3.own b ((iff0 b).mpr (.inr z))
            · exact frv b (subw b z)
    · cases ho
  · cases ho
/-! ### places -/
theorem Step.mutA {Hf Hf3 H H2 : Hp} {F F2 F' : List Addr} {a : Addr} {o : HO} (t : Step Hf F H Hf3 F2 H2) (ha : a ∈ F2) (sub : ∀ b ∈ F', b ∈ F2 ∨ (b ∈ F ∨ H b = none)) : Step Hf F H Hf3 F' (L2.upd H2 a o) := by
  refine ⟨t.hf, fun b u e nF => ?_, t.new, fun b hb => (sub b hb).elim (t.own b) id⟩
  rw [upd_ne]
  · exact t.fr b u e nF
  · rintro rfl
    rcases t.own b ha with z | z
    · exact nF z
    · rw [z] at e; cases e
theorem app_nd {Gl Gw : List Addr} {a : Addr} (h1 : (a :: Gl).Nodup) (h2 : Gw.Nodup) (h3 : ∀ b ∈ Gw, b ∉ a :: Gl) : (a :: (Gl ++ Gw)).Nodup := by
  rw [List.nodup_cons] at h1 ⊢
  refine ⟨fun z => ?_, ?_⟩
  · rcases List.mem_append.mp z with z | z
    · exact h1.1 z
    · exact h3 a z (List.mem_cons_self ..)
  · rw [List.nodup_append]
    exact ⟨h1.2, h2, fun x hx y hy e => h3 y hy (e ▸ List.mem_cons_of_mem _ hx)⟩
theorem okL_ok {S : Slots} {w : Nat × List Val} (h : okL S w = true) : ∃ d v xs, S[w.1]? = some (some (d, v)) ∧ getP v w.2 = some (.lst xs) ∧ w.2.length < d := by
  unfold okL at h
  split at h
  · rename_i d v e
    split at h
    · rename_i xs g
      exact ⟨d, v, xs, e, g, of_decide_eq_true h⟩
    · cases h
  · cases h
theorem own_list {K : Frag} {Hf H : Hp} {d : Nat} {xs : List Val} {y : V} {G : List Addr} (h : Own K Hf H (d + 1) (.lst xs) y G) : ∃ a ys Gl, y = .ref a ∧ H a = some (.lst ys) ∧ G = a :: Gl ∧ OwnL K Hf H d xs ys Gl := by
  cases h with
  | frz hd r => rcases hd with z | z <;> cases z
  | lst ha l => exact ⟨_, _, _, rfl, ha, rfl, l⟩
theorem own_dict {K : Frag} {Hf H : Hp} {d : Nat} {kvs : List (Key × Val)} {y : V} {G : List Addr} (h : Own K Hf H (d + 1) (.dic kvs) y G) : ∃ a ks Gl, y = .ref a ∧ H a = some (.dK ks) ∧ G = a :: Gl ∧ OwnK K Hf H d kvs ks Gl := by
  cases h with
  | frz hd r => rcases hd with z | z <;> cases z
  | dic ha l => exact ⟨_, _, _, rfl, ha, rfl, l⟩
theorem x_papp (c : Ctx free D n N sc X) {P : CP} {pa pc p : Pos} {e : CE} (hl : (pa.endLine == pc.line) = true) (hP : PE X P.py (tPl X.K D P)) (he : PE X e.py (tEv X.K D e)) :
    PS X (CS.papp P pa e pc p).py (tX X.K B (ex D (.papp P pa e pc p))) := by
  have hs := star_cons e [] X.env
  have pe := pe_bm (cpos := pc) (apos := pa) PySem.F.plainAttrs_list PySem.F.slot_list_append PySem.F.type_list_append (mt_append (X := X)) hP (pa_cons he pa_nil hs) (by cases P <;> rfl) (by rw [hs]; rfl) hl hs rfl
  refine psBy (ps_expr (pos := p) pe rfl) fun E σ H ⟨S, Hf, F, out, rel, ho, fin⟩ => ?_
  unfold ex at ho
  rw [Option.bind_eq_some_iff] at ho
  obtain ⟨⟨i, pp⟩, e1, ho⟩ := ho
  rw [gd_some, Bool.and_eq_true] at ho
  obtain ⟨⟨ok, pu⟩, ho⟩ := ho
  obtain ⟨d0, v0, xs0, s0, g0, l0⟩ := okL_ok ok
  rw [Option.bind_eq_some_iff] at ho
  obtain ⟨⟨⟨m, w⟩, S1⟩, e2, ho⟩ := ho
  dsimp only at ho s0 g0 l0
  split at ho
  · rename_i d v d' e3
    rw [Option.bind_eq_some_iff] at ho
    obtain ⟨cc, g1, ho⟩ := ho
    rw [gd_some] at ho
    obtain ⟨l1, ho⟩ := ho
    have l1 := of_decide_eq_true l1
    rw [Option.bind_eq_some_iff] at ho
    obtain ⟨c', g2, ho⟩ := ho
    cases ho
    unfold appV at g2
    cases cc with
    | lst xs =>
      dsimp only at g2
      rw [gd_some, Bool.and_eq_true] at g2
      obtain ⟨⟨hfit, hz⟩, g2⟩ := g2
      cases g2
      have hz := of_decide_eq_true hz
      refine ⟨S, Hf, F, i, pp, d0, v0, _, rel, e1, s0, g0, by omega, fun x y H1 Hf1 F1 rel1 st1 sub1 hx wk => ?_⟩
      obtain ⟨x', y', A1, Gc1, B1, F01, hx', wk', ow1, _⟩ := rel1.dig s0 g0 (by omega)
      rw [hx] at hx'
      cases hx'
      have ey := wk.det wk'
      subst ey
      obtain ⟨dd0, hd0⟩ : ∃ k, d0 - pp.length = k + 1 := ⟨d0 - pp.length - 1, by omega⟩
      rw [hd0] at ow1
      obtain ⟨a, ys0, _, rfl, ha1, _, _⟩ := own_list ow1
      refine ⟨.inl ⟨rfl, _, .inl (.inl ha1)⟩, S, Hf1, F1, _, S1, rel1, e2, fun z H2 Hf2 F2 g p2 => ?_⟩
      obtain ⟨rel2, st2, Gv, owv, ndv, offv, frv⟩ := g
      have sub2 := p2 pu
      obtain ⟨Hf3, Gw, s23, rel3, oww, subw, ndw, offw, same⟩ := fit rel2 owv ndv offv (d := d - pp.length - 1) hfit
      obtain ⟨x', y', A, Gc, Bb, F0, hx', wk2, ow, rel0, nd, iff, off, redo⟩ := rel3.dig e3 g1 (by omega)
      rw [hx] at hx'
      cases hx'
      have ey := (wk.mono sub2).det wk2
      subst ey
      obtain ⟨dd, hd⟩ : ∃ k, d - pp.length = k + 1 := ⟨d - pp.length - 1, by omega⟩
      have hdd : d - pp.length - 1 = dd := by omega
      rw [hd] at ow redo
      rw [hdd] at oww
      obtain ⟨a', ys, Gl, ea, ha, rfl, l⟩ := own_list ow
      cases ea
      have inF : ∀ b ∈ a :: Gl, b ∈ F2 := fun b hb => (iff b).mpr (.inr (by simp only [List.mem_append]; exact .inl (.inr hb)))
      have ndc : (a :: Gl).Nodup := by
        have := nd
        rw [List.nodup_append, List.nodup_append, List.nodup_append] at this
        exact this.2.1.1.2.1
      have outw : ∀ b ∈ Gw, b ∉ F2 := fun b hb hf => (List.nodup_append.mp ndw).2.2 b hf b hb rfl
      have keep : ∀ b, b ≠ a → ∀ o, H2 b = some o → L2.upd H2 a (.lst (ys ++ [z])) b = some o := fun b nb o e => by rw [upd_ne nb]; exact e
      have l' : OwnL X.K Hf3 (L2.upd H2 a (.lst (ys ++ [z]))) dd (xs ++ [w]) (ys ++ [z]) (Gl ++ Gw) :=
        OwnL.snoc (oww.mono (HSub.refl _) fun b hb o e => keep b (fun q => outw b hb (inF b (q ▸ List.mem_cons_self ..))) o e) (l.mono (HSub.refl _) fun b hb o e => keep b (fun q => (List.nodup_cons.mp ndc).1 (q ▸ hb)) o e)
      refine ⟨a, ys, z, rfl, rfl, ha, by rw [l.length]; exact hz, ?_⟩
      have offA : Hf3 a = none := off a (by simp only [List.mem_append]; exact .inl (.inr (List.mem_cons_self ..)))
      have hsub : HSub Hf3 (L2.upd H2 a (.lst (ys ++ [z]))) := fun b o e => keep b (fun q => by rw [q, offA] at e; cases e) o (rel3.sub b o e)
      have own' := redo (c' := .lst (xs ++ [w])) (HSub.refl _) (fun b hb o e => keep b (fun q => by
        have := nd
        rw [List.nodup_append, List.nodup_append, List.nodup_append] at this
        subst q
        rcases List.mem_append.mp hb with h | h
        · exact this.2.1.1.2.2 b h b (List.mem_cons_self ..) rfl
        · exact this.2.1.2.2 b (List.mem_append_right _ (List.mem_cons_self ..)) b h rfl) o e) (Own.lst (d := dd) upd_same l')
      obtain ⟨F', rel', sub'⟩ := Rel.redo (Gc' := a :: (Gl ++ Gw)) rel0 (lt_of_get e3) hx nd iff (HSub.refl _) hsub (fun b hb o e => keep b (fun q => hb (q ▸ List.mem_cons_self ..)) o e) own'
        (app_nd ndc (List.nodup_append.mp ndw).2.1 fun b hb h => outw b hb (inF b h))
        (fun b hb => by
          rcases List.mem_cons.mp hb with h | h
          · exact .inl (h ▸ List.mem_cons_self ..)
          · rcases List.mem_append.mp h with h | h
            · exact .inl (List.mem_cons_of_mem _ h)
            · exact .inr (outw b h))
        (fun b hb => by
          rcases List.mem_cons.mp hb with h | h
          · rw [h]; exact offA
          · rcases List.mem_append.mp h with h | h
            · exact off b (by simp only [List.mem_append]; exact .inl (.inr (List.mem_cons_of_mem _ h)))
            · exact offw b h)
        (fun b hb _ => rel3.off b hb)
      have t := st1.trans st2
      have st3 : Step Hf F H Hf3 F2 H2 := by
        refine ⟨t.hf.trans s23, t.fr, fun b o e nF => ?_, t.own⟩
        rw [same b fun hg => ?_]
        · exact t.new b o e nF
        · rcases frv b hg with z | z
          · rcases st1.own b z with q | q
            · exact nF q
            · rw [q] at e; cases e
          · rw [st1.fr b o e nF] at z; cases z
      refine fin σ _ Hf3 F' rel' (st3.mutA (inF a (List.mem_cons_self ..)) fun b hb => ?_) (Kept.refl _ _)
      rcases sub' b hb with h | h
      · exact .inl h
      · rcases List.mem_cons.mp h with h | h
        · exact .inl (inF b (h ▸ List.mem_cons_self ..))
        · rcases List.mem_append.mp h with h | h
          · exact .inl (inF b (List.mem_cons_of_mem _ h))
          · right
            rcases frv b (subw b h) with z | z
            · exact st1.own b z
            · by_cases hF : b ∈ F
              · exact .inl hF
              · cases q : H b with
                | none => exact .inr rfl
                | some o => rw [st1.fr b o q hF] at z; cases z
    | _ => cases g2
  · cases ho
/-- a container at a place, and how it is changed -/
theorem Rel.poke {K : Frag} {Hf H : Hp} {F : List Addr} {S : Slots} {σ : L2.St} {i d : Nat} {v c : Val} {pp : List Val} (rel : Rel K Hf F S σ H) (e : S[i]? = some (some (d, v))) (g : getP v pp = some c) (hl : pp.length < d) (hc : (∃ xs, c = .lst xs) ∨ ∃ kvs, c = .dic kvs) :
    ∃ x a Gl dd, σ[i]? = some (some x) ∧ WalkH H x pp (.ref a) ∧ d - pp.length = dd + 1 ∧ Own K Hf H (dd + 1) c (.ref a) (a :: Gl) ∧ (a :: Gl).Nodup ∧ (∀ b ∈ a :: Gl, b ∈ F) ∧ (∀ b ∈ a :: Gl, Hf b = Option.none) ∧
      ∀ {o' : HO} {c' : Val} {Gc' : List Addr}, Own K Hf (L2.upd H a o') (dd + 1) c' (.ref a) Gc' → Gc'.Nodup → (∀ b ∈ Gc', b ∈ a :: Gl ∨ b ∉ F) → (∀ b ∈ Gc', Hf b = Option.none) →
        ∃ F', Rel K Hf F' (S.set i (some (d, setP v pp c'))) σ (L2.upd H a o') ∧ ∀ b ∈ F', b ∈ F ∨ b ∈ Gc' := by
  obtain ⟨x, y, A, Gc, Bb, F0, hx, wk, ow, rel0, nd, iff, off, redo⟩ := rel.dig e g (by omega)
  obtain ⟨dd, hd⟩ : ∃ k, d - pp.length = k + 1 := ⟨d - pp.length - 1, by omega⟩
  rw [hd] at ow redo
  have sh : ∃ a Gl, y = .ref a ∧ Gc = a :: Gl := by
    rcases hc with ⟨xs, rfl⟩ | ⟨kvs, rfl⟩
    · obtain ⟨a, ys, Gl, h1, _, h2, _⟩ := own_list ow
      exact ⟨a, Gl, h1, h2⟩
    · obtain ⟨a, ys, Gl, h1, _, h2, _⟩ := own_dict ow
      exact ⟨a, Gl, h1, h2⟩
  obtain ⟨a, Gl, rfl, rfl⟩ := sh
  have nn := nd
  rw [List.nodup_append, List.nodup_append, List.nodup_append] at nn
  have inF : ∀ b ∈ a :: Gl, b ∈ F := fun b hb => (iff b).mpr (.inr (by simp only [List.mem_append]; exact .inl (.inr hb)))
  have offG : ∀ b ∈ a :: Gl, Hf b = Option.none := fun b hb => off b (by simp only [List.mem_append]; exact .inl (.inr hb))
  refine ⟨x, a, Gl, dd, hx, wk, hd, ow, nn.2.1.1.2.1, inF, offG, @fun o' c' Gc' ow' ndc fresh off' => ?_⟩
  have offA := offG a (List.mem_cons_self ..)
  have keep : ∀ b, b ≠ a → ∀ o, H b = some o → L2.upd H a o' b = some o := fun b nb o e => by rw [upd_ne nb]; exact e
  have hsub : HSub Hf (L2.upd H a o') := fun b o e => keep b (fun q => by rw [q, offA] at e; cases e) o (rel.sub b o e)
  have own' := redo (c' := c') (HSub.refl _) (fun b hb o e => keep b (fun q => by
    subst q
    rcases List.mem_append.mp hb with h | h
    · exact nn.2.1.1.2.2 b h b (List.mem_cons_self ..) rfl
    · exact nn.2.1.2.2 b (List.mem_append_right _ (List.mem_cons_self ..)) b h rfl) o e) ow'
  exact Rel.redo (Gc' := Gc') rel0 (lt_of_get e) hx nd iff (HSub.refl _) hsub (fun b hb o e => keep b (fun q => hb (q ▸ List.mem_cons_self ..)) o e) own' ndc fresh off' (fun b hb _ => rel.off b hb)
theorem OwnL.flats {K : Frag} {Hf H : Hp} {d : Nat} : ∀ {xs : List Val} {ys : List V} {G : List Addr}, OwnL K Hf H d xs ys G → xs.all Val.flat = true → RepL K Hf xs ys
  | _, _, _, .nil, _ => .nil
  | _, _, _, .cons h r, e => by
    rw [List.all_cons, Bool.and_eq_true] at e
    obtain ⟨_, ow0⟩ := h.flat (d' := 0) e.1
    exact .cons (by cases ow0 with | frz _ r => exact r) (OwnL.flats r e.2)
theorem RepL.ownF {K : Frag} {Hf H : Hp} {d : Nat} : ∀ {xs : List Val} {ys : List V}, RepL K Hf xs ys → xs.all Val.flat = true → OwnL K Hf H d xs ys []
  | _, _, .nil, _ => .nil
  | _, _, .cons h r, e => by
    rw [List.all_cons, Bool.and_eq_true] at e
    exact OwnL.cons (F := []) (G := []) (.frz (.inr e.1) h) (RepL.ownF r e.2)
theorem OwnL.append {K : Frag} {Hf H : Hp} {d : Nat} {xs' : List Val} {ys' : List V} {G' : List Addr} (q : OwnL K Hf H d xs' ys' G') : ∀ {xs : List Val} {ys : List V} {G : List Addr}, OwnL K Hf H d xs ys G → OwnL K Hf H d (xs ++ xs') (ys ++ ys') (G ++ G')
  | _, _, _, .nil => q
  | _, _, _, .cons h r => by simpa using OwnL.cons h (OwnL.append q r)
theorem x_pext (c : Ctx free D n N sc X) {P : CP} {pa pc p : Pos} {e : CE} (hl : (pa.endLine == pc.line) = true) (hP : PE X P.py (tPl X.K D P)) (he : PE X e.py (tEv X.K D e)) :
    PS X (CS.pext P pa e pc p).py (tX X.K B (ex D (.pext P pa e pc p))) := by
  have hs := star_cons e [] X.env
  have pe := pe_bm (cpos := pc) (apos := pa) PySem.F.plainAttrs_list PySem.F.slot_list_extend PySem.F.type_list_extend (mt_extend (X := X)) hP (pa_cons he pa_nil hs) (by cases P <;> rfl) (by rw [hs]; rfl) hl hs rfl
  refine psBy (ps_expr (pos := p) pe rfl) fun E σ H ⟨S, Hf, F, out, rel, ho, fin⟩ => ?_
  unfold ex at ho
  rw [Option.bind_eq_some_iff] at ho
  obtain ⟨⟨i, pp⟩, e1, ho⟩ := ho
  rw [gd_some, Bool.and_eq_true] at ho
  obtain ⟨⟨ok, pu⟩, ho⟩ := ho
  obtain ⟨d0, v0, xs0, s0, g0, l0⟩ := okL_ok ok
  rw [Option.bind_eq_some_iff] at ho
  obtain ⟨⟨⟨m, w⟩, S1⟩, e2, ho⟩ := ho
  dsimp only at ho s0 g0 l0
  split at ho
  · rename_i d v d' e3
    rw [Option.bind_eq_some_iff] at ho
    obtain ⟨cc, g1, ho⟩ := ho
    rw [gd_some] at ho
    obtain ⟨l1, ho⟩ := ho
    have l1 := of_decide_eq_true l1
    rw [Option.bind_eq_some_iff] at ho
    obtain ⟨c', g2, ho⟩ := ho
    cases ho
    unfold extV at g2
    split at g2
    · rename_i xs ws
      rw [gd_some, Bool.and_eq_true] at g2
      obtain ⟨⟨hfl, hz⟩, g2⟩ := g2
      cases g2
      have hz := of_decide_eq_true hz
      refine ⟨S, Hf, F, i, pp, d0, v0, _, rel, e1, s0, g0, by omega, fun x y H1 Hf1 F1 rel1 st1 sub1 hx wk => ?_⟩
      obtain ⟨x', a1, Gl1, dd1, hx', wk', _, ow1, _⟩ := rel1.poke s0 g0 l0 (.inl ⟨_, rfl⟩)
      rw [hx] at hx'
      cases hx'
      have ey := wk.det wk'
      subst ey
      obtain ⟨a1', ys0, _, ea1, ha1, _, _⟩ := own_list ow1
      cases ea1
      refine ⟨.inl ⟨rfl, _, .inl (.inl ha1)⟩, S, Hf1, F1, _, S1, rel1, e2, fun z H2 Hf2 F2 g p2 => ?_⟩
      obtain ⟨rel2, st2, Gv, owv, ndv, offv, frv⟩ := g
      have sub2 := p2 pu
      obtain ⟨b, zs, Gb, rfl, hb, rfl, lb⟩ := own_list owv
      obtain ⟨x', a, Gl, dd, hx', wk2, hd, ow, ndc, inF, offG, redo⟩ := rel2.poke e3 g1 l1 (.inl ⟨_, rfl⟩)
      rw [hx] at hx'
      cases hx'
      have ey := (wk.mono sub2).det wk2
      cases ey
      obtain ⟨a', ys, Gl', ea, ha, eG, l⟩ := own_list ow
      cases ea
      cases eG
      have rl := lb.flats hfl
      refine ⟨a1, b, ys, zs, rfl, rfl, ha, hb, by rw [l.length, rl.length]; exact hz, ?_⟩
      have keep : ∀ q, q ≠ a1 → ∀ o, H2 q = some o → L2.upd H2 a1 (.lst (ys ++ zs)) q = some o := fun q nb o e => by rw [upd_ne nb]; exact e
      have l' : OwnL X.K Hf2 (L2.upd H2 a1 (.lst (ys ++ zs))) dd (xs ++ ws) (ys ++ zs) (Gl ++ []) :=
        OwnL.append (rl.ownF hfl) (l.mono (HSub.refl _) fun q hq o e => keep q (fun z => (List.nodup_cons.mp ndc).1 (z ▸ hq)) o e)
      rw [List.append_nil] at l'
      obtain ⟨F', rel', sub'⟩ := redo (Own.lst (d := dd) upd_same l') ndc (fun q hq => .inl hq) offG
      refine fin σ _ Hf2 F' rel' ((st1.trans st2).mutA (inF a1 (List.mem_cons_self ..)) fun q hq => ?_) (Kept.refl _ _)
      rcases sub' q hq with h | h
      · exact .inl h
      · exact .inl (inF q h)
    · cases g2
  · cases ho
theorem pset_or {X : Cx} {t t' : TSet} (h : PSet X t) (h' : PSet X t') : PSet X (fun o i v H Q => t o i v H Q ∨ t' o i v H Q) := by
  intro pins s σ H o i v ov iv u Q I ro ri rv q
  rcases q with q | q
  · exact h pins s σ H o i v ov iv u Q I ro ri rv q
  · exact h' pins s σ H o i v ov iv u Q I ro ri rv q
theorem OwnK.keys {K : Frag} {Hf H : Hp} {d : Nat} {q : Key} : ∀ {kvs : List (Key × Val)} {ks : List (Key × V)} {G : List Addr}, OwnK K Hf H d kvs ks G → (kvs.any fun z => decide (z.1 = q)) = ks.any fun z => decide (z.1 = q)
  | _, _, _, .nil => rfl
  | _, _, _, .cons h r => by rw [List.any_cons, List.any_cons, OwnK.keys r]
theorem OwnK.len {K : Frag} {Hf H : Hp} {d : Nat} : ∀ {kvs : List (Key × Val)} {ks : List (Key × V)} {G : List Addr}, OwnK K Hf H d kvs ks G → ks.length = kvs.length
  | _, _, _, .nil => rfl
  | _, _, _, .cons h r => congrArg Nat.succ (OwnK.len r)
theorem OwnK.putM {K : Frag} {Hf H : Hp} {d : Nat} {q : Key} {w : Val} {z : V} (hw : Own K Hf H d w z []) : ∀ {kvs : List (Key × Val)} {ks : List (Key × V)} {G : List Addr}, OwnK K Hf H d kvs ks G →
    ∃ G', OwnK K Hf H d (kvs.map fun y => bif decide (y.1 = q) then (y.1, w) else y) (ks.map fun y => if y.1 = q then (y.1, z) else y) G' ∧ (∀ b ∈ G', b ∈ G) ∧ (G.Nodup → G'.Nodup)
  | _, _, _, .nil => ⟨[], .nil, fun b h => h, fun h => h⟩
  | _, _, _, .cons (k := k) (v := v) (x := x) (vs := vs) (xs := xs) (F := F) (G := G) h r => by
    obtain ⟨G', i1, i2, i3⟩ := OwnK.putM (q := q) hw r
    rw [List.map_cons, List.map_cons]
    by_cases c : k = q
    · subst c
      simp only [decide_true, cond_true, if_true]
      refine ⟨[] ++ G', .cons hw i1, fun b hb => List.mem_append_right _ (i2 b hb), fun nd => ?_⟩
      rw [List.nodup_append] at nd
      exact i3 nd.2.1
    · simp only [c, decide_false, cond_false, if_false]
      refine ⟨F ++ G', .cons h i1, fun b hb => ?_, fun nd => ?_⟩
      · rcases List.mem_append.mp hb with y | y
        · exact List.mem_append_left _ y
        · exact List.mem_append_right _ (i2 b y)
      · rw [List.nodup_append] at nd ⊢
        exact ⟨nd.1, i3 nd.2.1, fun a ha b hb => nd.2.2 a ha b (i2 b hb)⟩
theorem OwnK.snoc {K : Frag} {Hf H : Hp} {d : Nat} {q : Key} {w : Val} {z : V} (hw : Own K Hf H d w z []) : ∀ {kvs : List (Key × Val)} {ks : List (Key × V)} {G : List Addr}, OwnK K Hf H d kvs ks G → OwnK K Hf H d (kvs ++ [(q, w)]) (ks ++ [(q, z)]) G
  | _, _, _, .nil => OwnK.cons (F := []) (G := []) hw .nil
  | _, _, _, .cons h r => .cons h (OwnK.snoc hw r)
theorem OwnK.put {K : Frag} {Hf H : Hp} {d : Nat} {q : Key} {w : Val} {z : V} (hw : Own K Hf H d w z []) {kvs : List (Key × Val)} {ks : List (Key × V)} {G : List Addr} (h : OwnK K Hf H d kvs ks G) :
    ∃ G', OwnK K Hf H d (putD kvs q w) (putK ks q z) G' ∧ (∀ b ∈ G', b ∈ G) ∧ (G.Nodup → G'.Nodup) := by
  unfold putD putK
  rw [← h.keys (q := q)]
  cases c : (kvs.any fun z => decide (z.1 = q)) with
  | true =>
    simp only [cond_true, if_true]
    exact OwnK.putM hw h
  | false =>
    simp only [cond_false, Bool.false_eq_true, if_false]
    exact ⟨G, OwnK.snoc hw h, fun b hb => hb, fun nd => nd⟩
theorem x_pset (c : Ctx free D n N sc X) {P : CP} {tp p : Pos} {k e : CE} (hP : PE X P.py (tPl X.K D P)) (hk : PE X k.py (tEv X.K D k)) (he : PE X e.py (tEv X.K D e)) :
    PS X (CS.pset P k e tp p).py (tX X.K B (ex D (.pset P k e tp p))) := by
  have hu : X.A.units + 1 < cLine := by have := c.units; omega
  refine psBy (ps_asg (pos := p) he (pg_sub (pos := tp) hP hk (pset_or (set_list (X := X)) (set_dict hu)) (by intro _; cases k <;> first | rfl | (rename_i P; cases P <;> rfl))) (by cases e <;> first | rfl | (rename_i P; cases P <;> rfl)) (by cases e <;> first | rfl | (rename_i P; cases P <;> rfl)) rfl) fun E σ H ⟨S, Hf, F, out, rel, ho, fin⟩ => ?_
  unfold ex at ho
  rw [Option.bind_eq_some_iff] at ho
  obtain ⟨⟨⟨m, w⟩, S1⟩, e1, ho⟩ := ho
  rw [Option.bind_eq_some_iff] at ho
  obtain ⟨⟨i, pp⟩, e2, ho⟩ := ho
  rw [gd_some] at ho
  obtain ⟨st, ho⟩ := ho
  rw [Option.bind_eq_some_iff] at ho
  obtain ⟨⟨⟨mk, kv⟩, S2⟩, e3, ho⟩ := ho
  rw [gd_some] at ho
  obtain ⟨fl, ho⟩ := ho
  obtain ⟨rfl, pu⟩ := still_same k st e3 fl
  dsimp only at ho
  split at ho
  · rename_i d v d' e4
    rw [Option.bind_eq_some_iff] at ho
    obtain ⟨cc, g1, ho⟩ := ho
    rw [gd_some] at ho
    obtain ⟨l1, ho⟩ := ho
    have l1 := of_decide_eq_true l1
    rw [Option.bind_eq_some_iff] at ho
    obtain ⟨c', g2, ho⟩ := ho
    cases ho
    have hcc : (∃ xs, cc = .lst xs) ∨ ∃ kvs, cc = .dic kvs := by
      unfold storeV at g2
      cases cc with
      | lst xs => exact .inl ⟨_, rfl⟩
      | dic kvs => exact .inr ⟨_, rfl⟩
      | _ => cases g2
    have hfit : fitsIn (d - pp.length - 1) (d', w) = true := by
      unfold storeV at g2
      unfold fitsIn
      cases cc with
      | lst xs =>
        cases kv with
        | int mm => exact (gd_some.mp g2).1
        | _ => cases g2
      | dic kvs =>
        have := (gd_some.mp g2).1
        rw [Bool.and_eq_true] at this
        rw [this.1]; rfl
      | _ => cases g2
    refine ⟨S, Hf, F, _, S2, rel, e1, fun z H1 Hf1 F1 g p1 => ?_⟩
    obtain ⟨rel1, st1, Gv, owv, ndv, offv, frv⟩ := g
    refine ⟨S2, Hf1, F1, i, pp, d, v, cc, rel1, e2, e4, g1, by omega, fun x y H2 Hf2 F2 rel2 st2 sub2 hx wk => ?_⟩
    refine ⟨S2, Hf2, F2, _, S2, rel2, e3, fun kz H3 Hf3 F3 g3 p3 => ?_⟩
    obtain ⟨Hf3', s3, rel3, st3, re3, rf3⟩ := g3.opd
    have sub3 := p3 pu
    have disv : ∀ a ∈ Gv, a ∉ F1 := fun a ha hf => (List.nodup_append.mp ndv).2.2 a hf a ha rfl
    have st23 := st2.trans st3
    obtain ⟨owv3, disv3, offv3⟩ := owv.held st23 disv offv
    have ndv3 : (F3 ++ Gv).Nodup := by
      rw [List.nodup_append]
      exact ⟨rel3.nd, (List.nodup_append.mp ndv).2.1, fun a ha b hb e => disv3 b hb (e ▸ ha)⟩
    obtain ⟨Hf4, Gw, s4, rel4, oww, subw, ndw, offw, same⟩ := fit rel3 owv3 ndv3 offv3 hfit
    obtain ⟨x', a, Gl, dd, hx', wk2, hd, ow, ndc, inF, offG, redo⟩ := rel4.poke e4 g1 l1 hcc
    rw [hx] at hx'
    cases hx'
    have ey := (wk.mono sub3).det wk2
    subst ey
    have hdd : d - pp.length - 1 = dd := by omega
    rw [hdd] at oww g2
    have outw : ∀ b ∈ Gw, b ∉ F3 := fun b hb hf => (List.nodup_append.mp ndw).2.2 b hf b hb rfl
    have t := st1.trans st23
    have st4 : Step Hf F H Hf4 F3 H3 := by
      refine ⟨t.hf.trans s4, t.fr, fun b o e nF => ?_, t.own⟩
      rw [same b fun hg => ?_]
      · exact t.new b o e nF
      · rcases frv b hg with z | z
        · exact nF z
        · rw [z] at e; cases e
    have keep : ∀ (o' : HO) b, b ≠ a → ∀ o, H3 b = some o → L2.upd H3 a o' b = some o := fun o' b nb o e => by rw [upd_ne nb]; exact e
    have ends : ∀ {o' : HO} {c' : Val} {Gc' : List Addr}, Own X.K Hf4 (L2.upd H3 a o') (dd + 1) c' (.ref a) Gc' → Gc'.Nodup → (∀ b ∈ Gc', b ∈ a :: Gl ∨ b ∈ Gw) → Fin X.K B Hf F H σ E (.nx (S2.set i (some (d, setP v pp c')))) → E.nx σ (L2.upd H3 a o') := by
      intro o' c' Gc' own' ndc' sub fin
      obtain ⟨F', rel', sub'⟩ := redo own' ndc' (fun b hb => (sub b hb).imp id fun h => outw b h) fun b hb => (sub b hb).elim (offG b) (offw b)
      refine fin σ _ Hf4 F' rel' (st4.mutA (inF a (List.mem_cons_self ..)) fun b hb => ?_) (Kept.refl _ _)
      rcases sub' b hb with h | h
      · exact .inl h
      · rcases sub b h with h | h
        · exact .inl (inF b h)
        · exact .inr (frv b (subw b h))
    unfold storeV at g2
    cases cc with
    | lst xs =>
      cases kv with
      | int mm =>
        dsimp only at g2
        rw [gd_some, Option.map_eq_some_iff] at g2
        obtain ⟨_, j, hj, rfl⟩ := g2
        obtain ⟨a', ys, Gl', ea, ha, eG, l⟩ := own_list ow
        cases ea
        cases eG
        obtain rfl := re3.int_
        refine .inl ⟨a, ys, mm, j, rfl, rfl, ha, by rw [l.length]; exact hj, ?_⟩
        have hjl : j < xs.length := (ixN_seq hj).2.1
        obtain ⟨old, hold⟩ : ∃ u, xs[j]? = some u := ⟨xs[j], List.getElem?_eq_getElem hjl⟩
        obtain ⟨b0, G1, Gm, G3, eb, eG, owb, put⟩ := l.split hold
        subst eG
        have nda := List.nodup_cons.mp ndc
        have l' : OwnL X.K Hf4 (L2.upd H3 a (.lst (ys.set j z))) dd (xs.set j w) (ys.set j z) (G1 ++ Gw ++ G3) :=
          put (fun b hb o e => keep _ b (fun q => nda.1 (q ▸ by simp only [List.mem_append]; exact hb.elim (fun y => .inl (.inl y)) .inr)) o e) (oww.mono (HSub.refl _) fun b hb o e => keep _ b (fun q => outw b hb (inF b (q ▸ List.mem_cons_self ..))) o e)
        refine ends (Own.lst (d := dd) upd_same l') ?_ ?_ fin
        · have n1 := nda.2
          rw [List.nodup_append, List.nodup_append] at n1
          have fw : ∀ b ∈ Gw, b ∉ a :: (G1 ++ Gm ++ G3) := fun b hb h => outw b hb (inF b h)
          rw [List.nodup_cons, List.nodup_append, List.nodup_append]
          refine ⟨fun h => ?_, ⟨n1.1.1, (List.nodup_append.mp ndw).2.1, fun b hb q hq e => fw q hq (e ▸ List.mem_cons_of_mem _ (by simp only [List.mem_append]; exact .inl (.inl hb)))⟩, n1.2.1, fun b hb q hq e => ?_⟩
          · simp only [List.mem_append] at h
            rcases h with (h | h) | h
            · exact nda.1 (by simp only [List.mem_append]; exact .inl (.inl h))
            · exact fw a h (List.mem_cons_self ..)
            · exact nda.1 (by simp only [List.mem_append]; exact .inr h)
          · rcases List.mem_append.mp hb with h | h
            · exact n1.2.2 b (List.mem_append_left _ h) q hq e
            · exact fw b h (e ▸ List.mem_cons_of_mem _ (by simp only [List.mem_append]; exact .inr hq))
        · intro b hb
          rcases List.mem_cons.mp hb with h | h
          · exact .inl (h ▸ List.mem_cons_self ..)
          · simp only [List.mem_append] at h
            rcases h with (h | h) | h
            · exact .inl (List.mem_cons_of_mem _ (by simp only [List.mem_append]; exact .inl (.inl h)))
            · exact .inr h
            · exact .inl (List.mem_cons_of_mem _ (by simp only [List.mem_append]; exact .inr h))
      | _ => cases g2
    | dic kvs =>
      dsimp only at g2
      rw [gd_some, Bool.and_eq_true, Option.map_eq_some_iff] at g2
      obtain ⟨⟨hf, hz⟩, q, hq, rfl⟩ := g2
      have hz := of_decide_eq_true hz
      obtain ⟨a', ks, Gl', ea, ha, eG, l⟩ := own_dict ow
      cases ea
      cases eG
      obtain rfl := keyE re3 hq
      obtain ⟨eGw, ow0⟩ := oww.flat (d' := dd) hf
      refine .inr ⟨a, _, rfl, .inl ⟨ks, q, ha, rfl, by rw [l.len]; exact hz, rfl⟩, ?_⟩
      have nda := List.nodup_cons.mp ndc
      obtain ⟨G', l', sub, ndd⟩ := OwnK.put (q := q) (w := w) (z := z) (H := L2.upd H3 a (.dK (putK ks q z))) (ow0.mono (HSub.refl _) fun b hb => by cases hb) (l.mono (HSub.refl _) fun b hb o e => keep _ b (fun q => nda.1 (q ▸ hb)) o e)
      refine ends (Own.dic (d := dd) upd_same l') ?_ (fun b hb => .inl ?_) fin
      · rw [List.nodup_cons]
        exact ⟨fun h => nda.1 (sub a h), ndd nda.2⟩
      · rcases List.mem_cons.mp hb with h | h
        · exact h ▸ List.mem_cons_self ..
        · exact List.mem_cons_of_mem _ (sub b h)
    | _ => cases g2
  · cases ho
/-! ### while -/
theorem x_whl (c : Ctx free D n N sc X) {ce : CE} {body : CSs} {p : Pos} (hc : PT X ce.py (tTs X.K D ce)) (hb : PSs X body.py (tX X.K B (exs D body))) : PS X (CS.whl ce body p).py (tX X.K B (ex D (.whl ce body p))) := by
  refine psBy (ps_while (by rw [c.xe]; exact PassesOwn.never) hc hb) fun E σ H ⟨S, Hf, F, out, rel, ho, fin⟩ => ?_
  unfold ex at ho
  refine ⟨fun m σ1 H1 => ∃ S1 Hf1 F1, Rel X.K Hf1 F1 S1 σ1 H1 ∧ whlL (fun S => tst (ev D ce S)) (fun S => exs D body S) m S1 = some out ∧ Fin X.K B Hf1 F1 H1 σ1 E out, ⟨D.fuel, S, Hf, F, rel, ho, fin⟩, ?_⟩
  rintro m σ1 H1 ⟨S1, Hf1, F1, rel1, ho, fin⟩
  cases m with
  | zero => cases ho
  | succ m =>
    unfold whlL at ho
    rw [Option.bind_eq_some_iff] at ho
    obtain ⟨⟨t, S2⟩, e1, ho⟩ := ho
    refine ⟨S1, Hf1, F1, t, S2, rel1, e1, fun H2 Hf2 F2 rel2 st2 p2 => ?_⟩
    cases t with
    | true =>
      rw [if_pos rfl]
      have ho : (match exs D body S2 with
        | some (.nx S1) => whlL (fun S => tst (ev D ce S)) (fun S => exs D body S) m S1
        | some (.ct S1) => whlL (fun S => tst (ev D ce S)) (fun S => exs D body S) m S1
        | some (.bk S1) => some (.nx S1)
        | some (.rt r S1) => some (.rt r S1)
        | none => none) = some out := ho
      refine ⟨_, fun σ' H' h => ⟨m, Nat.lt_succ_self m, h⟩, ?_⟩
      cases eb : exs D body S2 with
      | none => rw [eb] at ho; cases ho
      | some o =>
        rw [eb] at ho
        refine ⟨S2, Hf2, F2, o, rel2, eb, ?_⟩
        cases o with
        | nx S3 => exact fun σ' H' Hf' F' r s k => ⟨S3, Hf', F', r, ho, fin.on (st2.trans s) k⟩
        | ct S3 => exact fun σ' H' Hf' F' r s k => ⟨S3, Hf', F', r, ho, fin.on (st2.trans s) k⟩
        | bk S3 =>
          cases ho
          exact fin.on st2 (Kept.refl _ _)
        | rt r S3 =>
          cases ho
          exact fin.on st2 (Kept.refl _ _)
    | false =>
      rw [if_neg (by decide)]
      have ho : some (Out.nx S2) = some out := ho
      cases ho
      exact fin σ1 H2 Hf2 F2 rel2 st2 (Kept.refl _ _)
def CE.isTup : CE → Bool
  | .tup .. => true
  | _ => false
theorem x_asgs (c : Ctx free D n N sc X) {pre post : CTs} {i k : Nat} {x : Str} {px ps pt p : Pos} {e : CE} (he : PE X e.py (tEv X.K D e)) (hg : PGs X (pre.app (.cons (.name i x px) post)).py (tTs' X.K (pre.app (.cons (.name i x px) post)))) (hB : ∀ j ∈ B, j ∉ (pre.app (.cons (.name i x px) post)).slots) (ht : e.isTup = false) :
    PS X (CS.asgs pre i x px ps post k pt e p).py (tX X.K B (ex D (.asgs pre i x px ps post k pt e p))) := by
  have sh := star_each (pre := pre) (post := post) (x := x) (px := px) (ps := ps) (i := i) X.env
  refine psBy (ps_asg (pos := p) he (pg_star c.calm hg sh.1 sh.2.1 sh.2.2) (by cases e <;> first | rfl | (rename_i P; cases P <;> rfl)) (by cases e <;> first | rfl | (cases ht; done) | (rename_i P _; cases P <;> rfl) | (rename_i P; cases P <;> rfl)) rfl) fun E σ H ⟨S, Hf, F, out, rel, ho, fin⟩ => ?_
  unfold ex at ho
  rw [Option.bind_eq_some_iff] at ho
  obtain ⟨⟨⟨m, v⟩, S1⟩, e1, ho⟩ := ho
  dsimp only at ho
  split at ho
  · rename_i d xs hq
    obtain ⟨rfl, rfl⟩ := Prod.mk.inj hq
    rw [gd_some, Bool.and_eq_true, Option.map_eq_some_iff] at ho
    obtain ⟨⟨h1, h2⟩, S2, e2, rfl⟩ := ho
    have h1 := of_decide_eq_true h1
    have h2 := of_decide_eq_true h2
    refine ⟨S, Hf, F, _, S1, rel, e1, fun y H1 Hf1 F1 g p1 => ?_⟩
    obtain ⟨Hf1', s1, rel1, st1, re1, rf1⟩ := g.opd
    have en : pre.len + post.len + 1 - 1 - pre.len = post.len := by omega
    cases rf1 d rfl with
    | tup hd l =>
      rename_i a ys
      refine ⟨a, ys, rfl, sqT_mono rel1.sub hd, by rw [en, l.length]; exact h1, fun q hq => ?_⟩
      rw [en, l.length]
      have g2 := Gives.newL (Hf := Hf) (F := F) (H := H) rel1 st1 hq ((l.drop pre.len).take (xs.length - pre.len - post.len))
      obtain ⟨Hf2, s2, rel2, st2, re2, rf2⟩ := g2.opd
      have rl := rf2 1 rfl
      refine ⟨S1, Hf2, F1, _, S2, rel2, ((l.take pre.len).mono s2).append (.cons rl ((l.drop (xs.length - post.len)).mono s2)), e2, fun σ' F' rel' sub wp => ?_⟩
      refine fin σ' _ Hf2 F' rel' ⟨st2.hf, st2.fr, st2.new, fun b hb => st2.own b (sub b hb)⟩ fun j hj => ?_
      have w := wp _ fun _ h => h
      rw [← wipe_out (σ := σ') (hB j hj), w, wipe_out (hB j hj)]
  · cases ho
theorem forL_step {f : Val → Slots → Option Out} {vs : List Val} {i : Nat} {v : Val} {S : Slots} (hv : vs[i]? = some v) : forL f (vs.drop i) S = match f v S with
    | some (.nx S1) => forL f (vs.drop (i + 1)) S1
    | some (.ct S1) => forL f (vs.drop (i + 1)) S1
    | some (.bk S1) => some (.nx S1)
    | some (.rt r S1) => some (.rt r S1)
    | none => none := by
  have hl := lt_of_get hv
  have e : vs.drop i = v :: vs.drop (i + 1) := by
    rw [List.drop_eq_getElem_cons hl]
    congr 1
    rw [List.getElem?_eq_getElem hl] at hv
    exact Option.some.inj hv
  rw [e]
  rfl
theorem Rel.item {K : Frag} {Hf Hfi H H' : Hp} {F : List Addr} {S : Slots} {σ : L2.St} {vs : List Val} {i : Nat} {x : V} (rel : Rel K Hf F S σ H) (s : HSub Hfi Hf) (y : YItem K Hfi vs i H x H') :
    ∃ v Hf', vs[i]? = some v ∧ Rel K Hf' F S σ H' ∧ Step Hf F H Hf' F H' ∧ Rep K Hf' v x := by
  obtain ⟨v, e, y⟩ := y
  rcases y with ⟨rfl, r⟩ | ⟨T, p, q, y1, y2, rfl, rfl, hT, rfl, r1, r2⟩
  · exact ⟨v, Hf, e, rel, Step.refl _ _ _, r.mono s⟩
  · have g := Gives.newT (Hf := Hf) (F := F) (H := H) rel (Step.refl _ _ _) hT (.cons (r1.mono s) (.cons (r2.mono s) .nil))
    obtain ⟨Hf', s1, rel', st', re, rf⟩ := g.opd
    exact ⟨_, Hf', e, rel', st', rf 0 rfl⟩
theorem x_for (c : Ctx free D n N sc X) {t : CT} {it : CI} {body : CSs} {p : Pos} (hi : PI X t.py it.py (tI X.K D it)) (hg : PG X t.py (tT X.K t)) (hB : ∀ i ∈ B, i ∉ t.slots) (hb : PSs X body.py (tX X.K B (exs D body))) :
    PS X (CS.forr t it body p).py (tX X.K B (ex D (.forr t it body p))) := by
  refine psBy (ps_for (pos := p) (by rw [c.xe]; exact PassesOwn.never) c.calm hi hg hb fun x => folded_not it _ x) fun E σ H ⟨S, Hf, F, out, rel, ho, fin⟩ => ?_
  unfold ex at ho
  rw [Option.bind_eq_some_iff] at ho
  obtain ⟨⟨vs, S1⟩, e1, ho⟩ := ho
  refine ⟨S, Hf, F, vs, S1, rel, e1, fun J H1 Hf1 F1 rel1 st1 p1 w => ?_⟩
  let f := fun v S1 => (t.set v S1).bind fun S2 => exs D body S2
  have ho : forL f vs S1 = some out := ho
  have fin1 := fin.on st1 (Kept.refl B σ)
  refine for_it w (fun i σ' H' => ∃ Si Hfi Fi, Rel X.K Hfi Fi Si σ' H' ∧ Step Hf1 F1 H1 Hfi Fi H' ∧ Kept B σ σ' ∧ forL f (vs.drop i) Si = some out) ?_ ?_ ?_ ?_
  · exact ⟨S1, Hf1, F1, rel1, Step.refl _ _ _, Kept.refl _ _, by rw [List.drop_zero]; exact ho⟩
  · rintro i σ' H' _ ⟨Si, Hfi, Fi, ri, si, _⟩
    exact si.hf.trans ri.sub
  · rintro i x σ' H2 H3 hlt ⟨Si, Hfi, Fi, ri, si, ki, fi⟩ yi
    obtain ⟨v, Hf3, hv, rel3, st3, rep3⟩ := ri.item si.hf yi
    rw [forL_step hv] at fi
    have go : ∃ S2 o2, t.set v Si = some S2 ∧ exs D body S2 = some o2 ∧ f v Si = some o2 := by
      cases q : f v Si with
      | none => rw [q] at fi; cases fi
      | some o2 =>
        have q' := q
        show ∃ S2 o2', _
        simp only [f, Option.bind_eq_some_iff] at q'
        obtain ⟨S2, a1, a2⟩ := q'
        exact ⟨S2, o2, a1, a2, rfl⟩
    obtain ⟨S2, o2, a1, a2, a3⟩ := go
    rw [a3] at fi
    refine ⟨Si, Hf3, Fi, v, S2, rel3, rep3, a1, fun σ2 F2 rel4 sub4 wp => ?_⟩
    have k2 : Kept B σ' σ2 := fun j hj => by
      have q := wp t.slots fun _ h => h
      rw [← wipe_out (σ := σ2) (hB j hj), q, wipe_out (hB j hj)]
    have st4 : Step Hf1 F1 H1 Hf3 F2 H3 := (si.trans st3).trans ⟨HSub.refl _, fun _ _ e _ => e, fun _ _ _ _ => rfl, fun a h => .inl (sub4 a h)⟩
    refine ⟨S2, Hf3, F2, o2, rel4, a2, ?_⟩
    cases o2 with
    | nx S5 => exact fun σ5 H5 Hf5 F5 rel5 st5 k5 => ⟨S5, Hf5, F5, rel5, st4.trans st5, (ki.trans k2).trans k5, fi⟩
    | ct S5 => exact fun σ5 H5 Hf5 F5 rel5 st5 k5 => ⟨S5, Hf5, F5, rel5, st4.trans st5, (ki.trans k2).trans k5, fi⟩
    | bk S5 =>
      cases fi
      exact fun σ5 H5 Hf5 F5 rel5 st5 k5 => fin1 σ5 H5 Hf5 F5 rel5 (st4.trans st5) ((ki.trans k2).trans k5)
    | rt r S5 =>
      cases fi
      exact fun x5 σ5 H5 Hf5 F5 g5 k5 => fin1 x5 σ5 H5 Hf5 F5 (resTrans st4 g5) ((ki.trans k2).trans k5)
  · rintro σ' H' ⟨Si, Hfi, Fi, ri, si, ki, fi⟩
    rw [List.drop_length] at fi
    cases fi
    exact fin1 σ' H' Hfi Fi ri si ki
end
/-! ### all of them -/
def swB (sc : Scope) (y : Str) (py : Pos) (pos : Pos) (scp : Scope) : Bool := (sc.names.lookup y == some .local) && (py.line == pos.line) && !(scp.names.any fun (n, k) => n == y && (k == .local || k == .cell))
theorem sw_at {elt : Expr} {gs : List Comprehension} {scp sc : Scope} {pos py : Pos} {y : Str} {l : Nat} {env : Env} (hs : env.scope = sc) (hk : sc.kind = .function) : swapsWith (.ListComp elt gs scp pos) (some (.Name y py)) l env = pure (swB sc y py pos scp) := by
  subst hs
  have hb : env.blockKind = .function := by unfold Env.blockKind; rw [hk]; rfl
  unfold swapsWith swB
  simp only [hb, Expr.pos]
  rfl
theorem sw_atD {kx vx : Expr} {gs : List Comprehension} {scp sc : Scope} {pos py : Pos} {y : Str} {l : Nat} {env : Env} (hs : env.scope = sc) (hk : sc.kind = .function) : swapsWith (.DictComp kx vx gs scp pos) (some (.Name y py)) l env = pure (swB sc y py pos scp) := by
  subst hs
  have hb : env.blockKind = .function := by
    unfold Env.blockKind
    rw [hk]
    rfl
  unfold swapsWith swB
  simp only [hb, Expr.pos]
  rfl
def CE.isLc : CE → Bool
  | .lc .. => true | .lc2 .. => true | .dcm .. => true | _ => false
def outB (B : List Nat) (t : CT) : Bool := B.all fun i => !(t.slots.contains i)
theorem outB_ok {B : List Nat} {t : CT} (h : outB B t = true) : ∀ i ∈ B, i ∉ t.slots := fun i hi z => by
  have := List.all_eq_true.mp h i hi
  simp [z] at this
def swPar (sc : Scope) (x y : Str) (px py : Pos) (a b : CE) : Bool := decide (x ≠ y) && (py.line == px.line) && !((foldedForSure 8 a.py) && (foldedForSure 8 b.py)) && !((constantsAlone 8 a.py) && (constantsAlone 8 b.py))
mutual
def CS.wf (T : WT) (N : List Str) (sc : Scope) (B : List Nat) : CS → Bool
  | .asg (.name i x _) e _ => decide (N[i]? = some x) && locB sc x && !(B.contains i) && e.wf T N sc
  | .asg (.tup ts k pt) e _ => inTurn sc ts e && (CT.tup ts k pt).wf N sc (fun _ => true) && outB B (.tup ts k pt) && e.wf T N sc
  | .par i j x y px py _ _ a b _ _ _ => decide (N[i]? = some x) && decide (N[j]? = some y) && decide (i ≠ j) && !(B.contains i) && !(B.contains j) && (sc.names.lookup x == some .local) && (sc.names.lookup y == some .local) && swPar sc x y px py a b && (CEs.cons a (.cons b .nil)).wf T N sc
  | .setI i x _ k e _ _ => nm N sc i x && k.wf T N sc && e.wf T N sc
  | .expr e _ => !e.isLc && e.wf T N sc
  | .app i x _ pa e pc _ => nm N sc i x && (pa.endLine == pc.line) && e.wf T N sc
  | .aug i x _ _ e _ => decide (N[i]? = some x) && locB sc x && !(B.contains i) && e.wf T N sc
  | .ife c a b _ => c.wf T N sc && a.wf T N sc B && b.wf T N sc B
  | .forr t it body _ => tgOk it t && t.wf N sc (fun _ => true) && outB B t && it.wf T N sc && body.wf T N sc B
  | .ret e _ => e.wf T N sc
  | .papp P pa e pc _ => P.wf T N sc && (pa.endLine == pc.line) && e.wf T N sc
  | .pext P pa e pc _ => P.wf T N sc && (pa.endLine == pc.line) && e.wf T N sc
  | .pset P k e _ _ => P.wf T N sc && k.wf T N sc && e.wf T N sc
  | .whl c body _ => c.wf T N sc && body.wf T N sc B
  | .asgs pre i x px _ post k pt e _ => !e.isTup && (pre.app (.cons (.name i x px) post)).wf N sc (fun _ => true) && outB B (.tup (pre.app (.cons (.name i x px) post)) k pt) && e.wf T N sc
  | _ => true
def CSs.wf (T : WT) (N : List Str) (sc : Scope) (B : List Nat) : CSs → Bool
  | .nil => true
  | .cons s ss => s.wf T N sc B && ss.wf T N sc B
end
theorem notB {B : List Nat} {i : Nat} (h : (!(B.contains i)) = true) : i ∉ B := fun z => by simp [z] at h
theorem sw_par {sc : Scope} {x y : Str} {px py pt p2 : Pos} {kt k2 : Nat} {a b : CE} {env : Env} (hs : env.scope = sc) (hk : sc.kind = .function) (hx : sc.names.lookup x = some .local) (hy : sc.names.lookup y = some .local) (h : swPar sc x y px py a b = true) :
    swappedStores [.Tuple [.Name x px, .Name y py] kt pt] (.Tuple [a.py, b.py] k2 p2) env = pure (some [x, y]) := by
  subst hs
  have hb : env.blockKind = .function := by unfold Env.blockKind; rw [hk]; rfl
  have kx : env.kindOf x = some .local := hx
  have ky : env.kindOf y = some .local := hy
  unfold swPar at h
  simp only [Bool.and_eq_true, decide_eq_true_eq, Bool.not_eq_true', ne_eq] at h
  obtain ⟨⟨⟨hn, hl⟩, hf⟩, hc⟩ := h
  have st : ∀ e : CE, (match e.py with | .Starred .. => true | _ => false) = false := fun e => by cases e <;> first | rfl | (rename_i P; cases P <;> rfl)
  have ne : (y == x) = false := by simpa using fun e => hn e.symm
  unfold swappedStores
  simp only [hb, kx, ky, List.any_cons, List.any_nil, st, List.all_cons, List.all_nil, Bool.and_true, hf, hc, List.filterMap_cons, List.filterMap_nil, List.head?_cons, Option.map_some, Option.getD_some, Expr.pos, hl, beq_self_eq_true, Bool.true_and, if_true, List.length_cons, List.length_nil, List.eraseDups_cons, List.filter_cons, List.filter_nil, ne]
  refine Eq.trans (if_neg (by decide)) (Eq.trans (if_neg fun h => ?_) rfl)
  rw [Bool.or_eq_true, Bool.or_eq_true] at h
  rcases h with h | h | h
  · exact Bool.noConfusion (h.symm.trans (st a))
  · exact Bool.noConfusion (h.symm.trans (st b))
  · cases h
section
variable {T : WT} {D : Den} {n : Nat} {N : List Str} {sc : Scope} {X : Cx} {B : List Nat}
theorem x_asg (cx : Ctx T.free D n N sc X) (hc : T.calls = D.calls) (hk : sc.kind = .function) (hfn : X.fn = fun _ => true) {i : Nat} {x : Str} {px p : Pos} (e : CE) (hi : N[i]? = some x) (hl : locB sc x = true) (hB : i ∉ B) (w : e.wf T N sc = true) :
    PS X (CS.asg (.name i x px) e p).py (tX X.K B (ex D (.asg (.name i x px) e p))) := by
  have plain : swapsWith e.py (some (.Name x px)) p.line X.env = pure false → PS X (CS.asg (.name i x px) e p).py (tX X.K B (ex D (.asg (.name i x px) e p))) := fun hs =>
    x_name cx hi hB (ps_set (by rw [cx.hN]; exact cx.nd) (by rw [cx.hN]; exact hi) (by rw [cx.sc]; exact locB_ok hl) (both e sc X cx hc w).1 hs (.inl (by rw [hfn]))) fun _ _ _ h => h
  cases e with
  | lc elt t it ifs scp own p' =>
    have sw := sw_at (elt := elt.py) (gs := [⟨t.py, it.py, ifs.py, 0⟩]) (scp := scp) (pos := p') (py := px) (y := x) (l := p.line) cx.sc hk
    cases q : swB sc x px p' scp with
    | false => rw [q] at sw; exact plain sw
    | true =>
      rw [q] at sw
      have hy : sc.names.lookup x = some .local := by
        unfold swB at q
        simp only [Bool.and_eq_true, beq_iff_eq] at q
        exact q.1.1
      have w : (blkC N sc scp own && (t.slots.all fun j => decide (j ∈ own.map (·.2))) && it.wf T N sc && tgOk it t && t.wf N (relC sc scp) (fbC sc scp) && decide (ifs.len ≤ 1) && ifs.wf T N (relC sc scp) && elt.wf T N (relC sc scp)) = true := w
      simp only [Bool.and_eq_true] at w
      obtain ⟨⟨⟨⟨⟨⟨⟨w1, w2⟩, w3⟩, w4⟩, w5⟩, w6⟩, w7⟩, w8⟩ := w
      obtain ⟨tl, h1, h2, h3⟩ := s_lc (p := p') cx w1 (fun j hj => of_decide_eq_true (List.all_eq_true.mp w2 j hj)) (iters it sc X cx hc w3 t w4) (fun s H C cl fp => g_ct (cx.blk s H C cl fp) (fn_blk cx.sc s H C cl fp) t w5)
        (fun s H C cl fp => tests ifs _ _ (cx.blk s H C cl fp) hc w7 (of_decide_eq_true w6)) (fun s H C cl fp => (both elt _ _ (cx.blk s H C cl fp) hc w8).1)
      exact x_name cx hi hB (h3 hi hy sw) h1
  | lc2 elt t it ifs t1 it1 ifs1 scp own vs1 p' =>
    have sw := sw_at (elt := elt.py) (gs := [⟨t.py, it.py, ifs.py, 0⟩, ⟨t1.py, it1.py, ifs1.py, 0⟩]) (scp := scp) (pos := p') (py := px) (y := x) (l := p.line) cx.sc hk
    cases q : swB sc x px p' scp with
    | false => rw [q] at sw; exact plain sw
    | true =>
      rw [q] at sw
      have hy : sc.names.lookup x = some .local := by
        unfold swB at q
        simp only [Bool.and_eq_true, beq_iff_eq] at q
        exact q.1.1
      have w : (blkC N sc scp own && (t.slots.all fun j => decide (j ∈ own.map (·.2))) && it.wf T N sc && tgOk it t && t.wf N (relC sc scp) (fbC sc scp) && decide (ifs.len ≤ 1) && ifs.wf T N (relC sc scp) &&
        (t1.slots.all fun j => decide (j ∈ vs1)) && (vs1.all fun j => decide (j ∈ own.map (·.2))) && it1.wf T N (relC sc scp) && tgOk it1 t1 && t1.wf N (relC sc scp) (fbC sc scp) && decide (ifs1.len ≤ 1) && ifs1.wf T N (relC sc scp) && elt.wf T N (relC sc scp)) = true := w
      simp only [Bool.and_eq_true] at w
      obtain ⟨⟨⟨⟨⟨⟨⟨⟨⟨⟨⟨⟨⟨⟨w1, w2⟩, w3⟩, w4⟩, w5⟩, w6⟩, w7⟩, w8⟩, w9⟩, w10⟩, w11⟩, w12⟩, w13⟩, w14⟩, w15⟩ := w
      obtain ⟨tl, h1, h2, h3⟩ := s_lc2 (p := p') cx w1 (fun j hj => of_decide_eq_true (List.all_eq_true.mp w2 j hj)) (fun j hj => of_decide_eq_true (List.all_eq_true.mp w8 j hj)) (fun j hj => of_decide_eq_true (List.all_eq_true.mp w9 j hj))
        (iters it sc X cx hc w3 t w4) (fun s H C cl fp => g_ct (cx.blk s H C cl fp) (fn_blk cx.sc s H C cl fp) t w5)
        (fun s H C cl fp => tests ifs _ _ (cx.blk s H C cl fp) hc w7 (of_decide_eq_true w6)) (fun s H C cl fp => iters it1 _ _ (cx.blk s H C cl fp) hc w10 t1 w11) (fun s H C cl fp => g_ct (cx.blk s H C cl fp) (fn_blk cx.sc s H C cl fp) t1 w12)
        (fun s H C cl fp => tests ifs1 _ _ (cx.blk s H C cl fp) hc w14 (of_decide_eq_true w13)) (fun s H C cl fp => (both elt _ _ (cx.blk s H C cl fp) hc w15).1)
      exact x_name cx hi hB (h3 hi hy sw) h1
  | dcm kx vx t it ifs scp own p' =>
    have sw := sw_atD (kx := kx.py) (vx := vx.py) (gs := [⟨t.py, it.py, ifs.py, 0⟩]) (scp := scp) (pos := p') (py := px) (y := x) (l := p.line) cx.sc hk
    cases q : swB sc x px p' scp with
    | false => rw [q] at sw; exact plain sw
    | true =>
      rw [q] at sw
      have hy : sc.names.lookup x = some .local := by
        unfold swB at q
        rw [Bool.and_eq_true, Bool.and_eq_true, beq_iff_eq] at q
        exact q.1.1
      have w : (blkC N sc scp own && (t.slots.all fun j => decide (j ∈ own.map (·.2))) && it.wf T N sc && tgOk it t && t.wf N (relC sc scp) (fbC sc scp) && decide (ifs.len ≤ 1) && ifs.wf T N (relC sc scp) && kx.wf T N (relC sc scp) && vx.wf T N (relC sc scp)) = true := w
      simp only [Bool.and_eq_true] at w
      obtain ⟨⟨⟨⟨⟨⟨⟨⟨w1, w2⟩, w3⟩, w4⟩, w5⟩, w6⟩, w7⟩, w8⟩, w9⟩ := w
      obtain ⟨tl, h1, h2, h3⟩ := s_dc (p := p') cx w1 (fun j hj => of_decide_eq_true (List.all_eq_true.mp w2 j hj)) (iters it sc X cx hc w3 t w4) (fun s H C cl fp => g_ct (cx.blk s H C cl fp) (fn_blk cx.sc s H C cl fp) t w5)
        (fun s H C cl fp => tests ifs _ _ (cx.blk s H C cl fp) hc w7 (of_decide_eq_true w6)) (fun s H C cl fp => (both kx _ _ (cx.blk s H C cl fp) hc w8).1) (fun s H C cl fp => (both vx _ _ (cx.blk s H C cl fp) hc w9).1)
      exact x_name cx hi hB (h3 hi hy sw) h1
  | plc P => exact plain (by cases P <;> rfl)
  | _ => exact plain rfl
mutual
theorem stm (cx : Ctx T.free D n N sc X) (hc : T.calls = D.calls) (hk : sc.kind = .function) (hfn : X.fn = fun _ => true) : ∀ (s : CS), s.wf T N sc B = true → PS X s.py (tX X.K B (ex D s))
  | .asg (.name i x px) e p, w => by
    have w : (decide (N[i]? = some x) && locB sc x && !(B.contains i) && e.wf T N sc) = true := w
    simp only [Bool.and_eq_true] at w
    exact x_asg cx hc hk hfn e (of_decide_eq_true w.1.1.1) w.1.1.2 (notB w.1.2) w.2
  | .asg (.tup ts k pt) e p, w => by
    have w : (inTurn sc ts e && (CT.tup ts k pt).wf N sc (fun _ => true) && outB B (.tup ts k pt) && e.wf T N sc) = true := w
    simp only [Bool.and_eq_true] at w
    exact x_tup cx (both e sc X cx hc w.2).1 (g_ct cx (fun x _ => .inl (by rw [hfn])) _ w.1.1.2) (outB_ok w.1.2) w.1.1.1
  | .par i j x y px py kt pt a b k2 p2 p, w => by
    have w : (decide (N[i]? = some x) && decide (N[j]? = some y) && decide (i ≠ j) && !(B.contains i) && !(B.contains j) && (sc.names.lookup x == some .local) && (sc.names.lookup y == some .local) && swPar sc x y px py a b && (CEs.cons a (.cons b .nil)).wf T N sc) = true := w
    simp only [Bool.and_eq_true] at w
    obtain ⟨⟨⟨⟨⟨⟨⟨⟨w1, w2⟩, w3⟩, w4⟩, w5⟩, w6⟩, w7⟩, w8⟩, w9⟩ := w
    have w6 := beq_iff_eq.mp w6
    have w7 := beq_iff_eq.mp w7
    exact x_par cx (of_decide_eq_true w1) (of_decide_eq_true w2) (of_decide_eq_true w3) (notB w4) (notB w5) w6 w7 (all _ sc X cx hc w9).1 (sw_par cx.sc hk w6 w7 w8)
  | .setI i x px k e tp p, w => by
    have w : (nm N sc i x && k.wf T N sc && e.wf T N sc) = true := w
    simp only [Bool.and_eq_true] at w
    obtain ⟨a, b, c⟩ := nm_ok w.1.1
    exact x_setI cx a b c (both k sc X cx hc w.1.2).1 (both e sc X cx hc w.2).1
  | .expr e p, w => by
    have w : (!e.isLc && e.wf T N sc) = true := w
    rw [Bool.and_eq_true] at w
    exact x_expr cx (both e sc X cx hc w.2).1 (by have q := w.1; cases e <;> first | rfl | (rename_i P _; cases P <;> rfl) | (rename_i P; cases P <;> rfl) | cases q)
  | .app i x px pa e pc p, w => by
    have w : (nm N sc i x && (pa.endLine == pc.line) && e.wf T N sc) = true := w
    simp only [Bool.and_eq_true] at w
    obtain ⟨a, b, c⟩ := nm_ok w.1.1
    exact x_app cx a b c w.1.2 (both e sc X cx hc w.2).1
  | .aug i x px op e p, w => by
    have w : (decide (N[i]? = some x) && locB sc x && !(B.contains i) && e.wf T N sc) = true := w
    simp only [Bool.and_eq_true] at w
    exact x_aug cx (of_decide_eq_true w.1.1.1) w.1.1.2 (notB w.1.2) (by rw [hfn]) (both e sc X cx hc w.2).1
  | .ife c a b p, w => by
    have w : (c.wf T N sc && a.wf T N sc B && b.wf T N sc B) = true := w
    simp only [Bool.and_eq_true] at w
    exact x_ife (both c sc X cx hc w.1.1).2 (stms cx hc hk hfn a w.1.2) (stms cx hc hk hfn b w.2)
  | .forr t it body p, w => by
    have w : (tgOk it t && t.wf N sc (fun _ => true) && outB B t && it.wf T N sc && body.wf T N sc B) = true := w
    simp only [Bool.and_eq_true] at w
    obtain ⟨⟨⟨⟨w1, w2⟩, w3⟩, w4⟩, w5⟩ := w
    exact x_for cx (iters it sc X cx hc w4 t w1) (g_ct cx (fun x _ => .inl (by rw [hfn])) t w2) (outB_ok w3) (stms cx hc hk hfn body w5)
  | .ret e p, w => x_ret (both e sc X cx hc w).1
  | .retN p, w => x_retN
  | .pass p, w => x_pass
  | .brk p, w => x_brk
  | .cnt p, w => x_cnt
  | .nvr st, w => x_nvr
  | .papp P pa e pc p, w => by
    have w : (P.wf T N sc && (pa.endLine == pc.line) && e.wf T N sc) = true := w
    simp only [Bool.and_eq_true] at w
    exact x_papp cx w.1.2 (plcs P sc X cx hc w.1.1) (both e sc X cx hc w.2).1
  | .pext P pa e pc p, w => by
    have w : (P.wf T N sc && (pa.endLine == pc.line) && e.wf T N sc) = true := w
    simp only [Bool.and_eq_true] at w
    exact x_pext cx w.1.2 (plcs P sc X cx hc w.1.1) (both e sc X cx hc w.2).1
  | .pset P k e tp p, w => by
    have w : (P.wf T N sc && k.wf T N sc && e.wf T N sc) = true := w
    simp only [Bool.and_eq_true] at w
    exact x_pset cx (plcs P sc X cx hc w.1.1) (both k sc X cx hc w.1.2).1 (both e sc X cx hc w.2).1
  | .whl c body p, w => by
    have w : (c.wf T N sc && body.wf T N sc B) = true := w
    rw [Bool.and_eq_true] at w
    exact x_whl cx (both c sc X cx hc w.1).2 (stms cx hc hk hfn body w.2)
  | .asgs pre i x px ps post k pt e p, w => by
    have w : (!e.isTup && (pre.app (.cons (.name i x px) post)).wf N sc (fun _ => true) && outB B (.tup (pre.app (.cons (.name i x px) post)) k pt) && e.wf T N sc) = true := w
    simp only [Bool.and_eq_true, Bool.not_eq_true'] at w
    exact x_asgs cx (both e sc X cx hc w.2).1 (g_cts cx (fun x _ => .inl (by rw [hfn])) _ w.1.1.2) (outB_ok w.1.2) w.1.1.1
theorem stms (cx : Ctx T.free D n N sc X) (hc : T.calls = D.calls) (hk : sc.kind = .function) (hfn : X.fn = fun _ => true) : ∀ (ss : CSs), ss.wf T N sc B = true → PSs X ss.py (tX X.K B (exs D ss))
  | .nil, _ => xs_nil
  | .cons s ss, w => by
    have w : (s.wf T N sc B && ss.wf T N sc B) = true := w
    rw [Bool.and_eq_true] at w
    exact xs_cons (stm cx hc hk hfn s w.1) (stms cx hc hk hfn ss w.2)
end
end
end BV
/-! Defs, programs. -/
namespace BV
open PySem PySem.Spec PyProof.Rows L2
/-- a def: its name, parameters, all its names, the parameters by reference, its scope, its body -/
structure Df where
  x : Str
  ps : List Str
  N : List Str
  B : List Nat
  sc : Scope
  body : CSs
structure Pg where
  defs : List Df
  calls : List CallSh
  const : List (Str × Val)
  free : List Str
  tabs : List (Str × List (Str × Val)) := []
def Df.start (d : Df) (rs : List R) : Slots := rs.map some ++ List.replicate (d.N.length - rs.length) none
/-- the parameters' slots behind the body -/
def backP (B : List Nat) : Nat → Nat → Slots → Slots
  | _, 0, _ => []
  | i, n + 1, S => (bif B.contains i then (match S with | p :: _ => p | [] => none) else none) :: backP B (i + 1) n (S.drop 1)
def Df.outc (d : Df) : Option Out → Option (R × Slots)
  | some (.rt r S) => some (r, backP d.B 0 d.ps.length S)
  | some (.nx S) => some ((0, .non), backP d.B 0 d.ps.length S)
  | _ => none
/-- turns that a while may take -/
def wFuel : Nat := 100000
def Pg.den (P : Pg) : Nat → Den
  | 0 => ⟨fun x => P.const.lookup x, P.calls, fun _ _ => none, fun x => P.tabs.lookup x, wFuel⟩
  | n + 1 => ⟨fun x => P.const.lookup x, P.calls, fun f rs => match P.defs[f]? with
    | some d => gd (rs.length == d.ps.length) (d.outc (exs (P.den n) d.body (d.start rs)))
    | none => none, fun x => P.tabs.lookup x, wFuel⟩
def scB (d : Df) : Bool := decide (d.sc.kind = .function) && !d.sc.isCoroutine && !d.sc.isGenerator && decide d.N.Nodup && decide (d.N.take d.ps.length = d.ps) && (d.ps.all fun x => locB d.sc x) && (d.sc.names.all fun y => decide (y.2 ≠ .free))
def Df.wf (P : Pg) (d : Df) : Bool := scB d && d.body.wf ⟨P.free, P.calls⟩ d.N d.sc d.B
def Pg.wf (P : Pg) : Bool := P.defs.all fun d => d.wf P
theorem scB_ok {d : Df} (h : scB d = true) : FnScope d.N d.ps d.sc := by
  unfold scB at h
  simp only [Bool.and_eq_true, Bool.not_eq_true', decide_eq_true_eq] at h
  obtain ⟨⟨⟨⟨⟨⟨h1, h2⟩, h3⟩, h4⟩, h5⟩, h6⟩, h7⟩ := h
  refine ⟨h1, h2, h3, h4, h5, fun x hx => ?_, fun y hy => of_decide_eq_true (List.all_eq_true.mp h7 y hy)⟩
  exact locB_ok (List.all_eq_true.mp h6 x hx)
/-! ### the frame of a call -/
theorem Plcs.nones {K : Frag} {Hf H : Hp} : ∀ (n : Nat), Plcs K Hf H (List.replicate n none) (List.replicate n none) []
  | 0 => .nil
  | n + 1 => Plcs.cons (F := []) (G := []) .no (Plcs.nones n)
theorem Rel.begin {K : Frag} {Hf H : Hp} {F : List Addr} {rs : List R} {xs : List V} {d : Df} (r : Rel K Hf F (rs.map some) (xs.map some) H) : Rel K Hf F (d.start rs) (L2.start d.N xs) H := by
  have hl := r.len
  rw [List.length_map, List.length_map] at hl
  unfold Df.start L2.start
  rw [hl]
  have p := r.plc.append (Plcs.nones (K := K) (Hf := Hf) (H := H) (d.N.length - rs.length))
  rw [List.append_nil] at p
  exact ⟨r.sub, r.nd, r.off, p⟩
theorem Plcs.back {K : Frag} {Hf H : Hp} {B : List Nat} : ∀ {n i : Nat} {S : Slots} {σ : L2.St} {F : List Addr} {xs : List V}, Plcs K Hf H S σ F → xs.length = n → (∀ j, (i + j) ∈ B → j < n → σ[j]? = (xs.map some)[j]?) →
    ∃ F', Plcs K Hf H (backP B i n S) (xs.map some) F' ∧ F'.Sublist F
  | 0, i, S, σ, F, xs, p, hl, h => by
    have : xs = [] := List.length_eq_zero_iff.mp hl
    subst this
    exact ⟨[], .nil, List.nil_sublist _⟩
  | n + 1, i, S, σ, F, xs, p, hl, h => by
    obtain ⟨x, ys, rfl⟩ : ∃ x ys, xs = x :: ys := by
      cases xs with
      | nil => cases hl
      | cons x ys => exact ⟨x, ys, rfl⟩
    have hl' : ys.length = n := by simpa using hl
    cases p with
    | nil =>
      obtain ⟨F', p', s'⟩ := Plcs.back (i := i + 1) (B := B) (xs := ys) (Plcs.nil (K := K) (Hf := Hf) (H := H)) hl' (fun j hj hn => by
        have := h (j + 1) (by rw [show i + (j + 1) = i + 1 + j by omega]; exact hj) (by omega)
        simpa using this)
      refine ⟨F', ?_, s'⟩
      unfold backP
      have : (bif B.contains i then (none : Option R) else none) = none := by cases B.contains i <;> rfl
      show Plcs K Hf H ((bif B.contains i then none else none) :: backP B (i + 1) n []) (some x :: ys.map some) F'
      rw [this]
      exact Plcs.cons (F := []) (G := F') .no p'
    | cons p1 p2 =>
      rename_i p0 y S0 σ0 F0 G0
      obtain ⟨F', p', s'⟩ := Plcs.back (i := i + 1) (B := B) (xs := ys) p2 hl' (fun j hj hn => by
        have := h (j + 1) (by rw [show i + (j + 1) = i + 1 + j by omega]; exact hj) (by omega)
        simpa using this)
      unfold backP
      cases q : B.contains i with
      | false => exact ⟨F', Plcs.cons (F := []) (G := F') .no p', s'.trans (List.sublist_append_right _ _)⟩
      | true =>
        have e := h 0 (by simpa using q) (by omega)
        have e : y = some x := by simpa using e
        subst e
        exact ⟨F0 ++ F', Plcs.cons p1 p', s'.append_left F0⟩
theorem Rel.back {K : Frag} {Hf H : Hp} {F : List Addr} {S : Slots} {σ : L2.St} {xs : List V} {B : List Nat} (r : Rel K Hf F S σ H) (h : ∀ j ∈ B, j < xs.length → σ[j]? = (xs.map some)[j]?) : ∃ F', Rel K Hf F' (backP B 0 xs.length S) (xs.map some) H ∧ ∀ a ∈ F', a ∈ F := by
  obtain ⟨F', p, s⟩ := r.plc.back (B := B) (i := 0) (xs := xs) rfl (fun j hj hn => h j (by simpa using hj) hn)
  exact ⟨F', ⟨r.sub, s.nodup r.nd, fun a ha => r.off a (s.subset ha), p⟩, fun a ha => s.subset ha⟩
/-! ### what the head tells -/
/-- the def d stands at fa -/
def DefAt (K : Frag) (d : Df) (fa : Addr) (fd : FuncData) : Prop := ∃ qual params dvs kws, FunD K d.x qual params d.body.py d.sc dvs kws fa fd
structure Lk (P : Pg) (K : Frag) (w : World) (mg : Str → Option Value) : Prop where
  con : ∀ x v, P.const.lookup x = some v → ∃ u y, mg x = some u ∧ RelV y u ∧ Rep K (fun _ => none) v y
  fre : ∀ x ∈ P.free, mg x = none
  cal : ∀ (c : Nat) (sh : CallSh), P.calls[c]? = some sh → ∃ (d : Df) (fa : Addr) (fd : FuncData) (ds : List Value) (dvs : List V), P.defs[sh.f]? = some d ∧ mg sh.x = some (.ref fa) ∧ DefAt K d fa fd ∧ Vals dvs ds ∧ RepL K (fun _ => none) sh.dv dvs ∧
    ∀ (s : Shared) (us ws : List Value), K.In s.heap → us.length = sh.n → ws.length = sh.ks.length → ∃ zs, arrange us ws ds sh.ar = some zs ∧ BindsTo s fd ⟨us, sh.ks.zip ws⟩ (d.ps.zip zs)
  tab : ∀ x kvs, P.tabs.lookup x = some kvs → TabAt K w mg x kvs
theorem Pg.go {P : Pg} {Pr : Program} {w : World} {K : Frag} {mg : Str → Option Value} {base : Heap} (L : Lk P K w mg) (wf : P.wf = true) : ∀ (n f : Nat) (d : Df) (fa : Addr) (fd : FuncData), P.defs[f]? = some d → DefAt K d fa fd →
    FnG Pr w K mg base n fa fd d.ps (spOf K ((P.den n).fn f))
  | 0, f, d, fa, fd, hd, F => FnG.idle fun vs H Q E ⟨Hf, F, rs, r, fin, rel, e, _⟩ => by cases e
  | n + 1, f, d, fa, fd, hd, F => by
    obtain ⟨qual, params, dvs, kws, FD⟩ := F
    have wd := List.all_eq_true.mp wf d (List.mem_of_getElem? hd)
    unfold Df.wf at wd
    rw [Bool.and_eq_true] at wd
    have S := scB_ok wd.1
    have fnEq : ∀ rs, (P.den (n + 1)).fn f rs = gd (rs.length == d.ps.length) (d.outc (exs (P.den n) d.body (d.start rs))) := fun rs => by
      show (match P.defs[f]? with
        | some d => gd (rs.length == d.ps.length) (d.outc (exs (P.den n) d.body (d.start rs)))
        | none => none) = _
      rw [hd]
    refine FnG.of FD S (fun vs H Q E ⟨Hf, F, rs, r, fin, rel, e, _⟩ => ?_) fun X h1 h2 h3 h4 h5 h6 h7 h8 h9 h10 h11 h12 H vs Q E ⟨Hf, F, rs, r, fin, rel, e, q⟩ => ?_
    · rw [fnEq, gd_some] at e
      have := rel.len
      simp only [List.length_map] at this
      rw [this]
      simpa using e.1
    · subst h2 h3 h4 h5
      have hden : (P.den n).const = (fun x => P.const.lookup x) ∧ (P.den n).calls = P.calls := by cases n <;> exact ⟨rfl, rfl⟩
      have htab : (P.den n).tab = fun x => P.tabs.lookup x := by cases n <;> rfl
      have cx : Ctx P.free (P.den n) n d.N d.sc X := by
        refine ⟨h6, S.nd, h7, h8, h9, h10, h11, fun x v e => L.con x v (by rw [hden.1] at e; exact e), L.fre, fun c sh hc => ?_, fun x kvs e => L.tab x kvs (by rw [htab] at e; exact e)⟩
        rw [hden.2] at hc
        obtain ⟨d', fa', fd', ds, dvs', e1, e2, e3, e4, e5, e6⟩ := L.cal c sh hc
        have go := Pg.go (Pr := X.prog) (w := X.w) (base := X.base) L wf n sh.f d' fa' fd' e1 e3
        obtain ⟨_, _, _, _, F'⟩ := e3
        exact ⟨fa', fd', d'.ps, ds, dvs', e2, F'.kp, go, e4, e5, e6⟩
      have ps := stms (T := ⟨P.free, P.calls⟩) (B := d.B) cx hden.2.symm S.kind h12 d.body wd.2
      refine ⟨_, ps, ?_⟩
      rw [fnEq, gd_some] at e
      obtain ⟨hl, e⟩ := e
      have hlen : vs.length = d.ps.length := by
        have := rel.len
        simp only [List.length_map] at this
        rw [this]; simpa using hl
      cases q2 : exs (P.den n) d.body (d.start rs) with
      | none => rw [q2] at e; cases e
      | some out =>
        rw [q2] at e
        refine ⟨d.start rs, Hf, F, out, rel.begin, q2, ?_⟩
        have keep : ∀ {σ' : L2.St}, Kept d.B (L2.start d.N vs) σ' → ∀ j ∈ d.B, j < vs.length → σ'[j]? = (vs.map some)[j]? := fun k j hj hjl => by
          rw [k j hj]
          unfold L2.start
          rw [List.getElem?_append_left (by rw [List.length_map]; exact hjl)]
        cases out with
        | bk S' => cases e
        | ct S' => cases e
        | nx S' =>
          obtain ⟨rfl, rfl⟩ := Prod.mk.inj (Option.some.inj e)
          intro σ' H' Hf' F' rel' st' k'
          obtain ⟨F2, rel2, sub2⟩ := rel'.back (xs := vs) (keep k')
          rw [hlen] at rel2
          exact q .non H' Hf' F2 (.frz rel2 ⟨st'.hf, st'.fr, st'.new, fun a ha => st'.own a (sub2 a ha)⟩ .non (.inl rfl))
        | rt r' S' =>
          obtain ⟨rfl, rfl⟩ := Prod.mk.inj (Option.some.inj e)
          intro x σ' H' Hf' F' g' k'
          obtain ⟨rel', st', G, ow, nd, off, fr⟩ := g'
          obtain ⟨F2, rel2, sub2⟩ := rel'.back (xs := vs) (keep k')
          rw [hlen] at rel2
          refine q x H' Hf' F2 ⟨rel2, ⟨st'.hf, st'.fr, st'.new, fun a ha => st'.own a (sub2 a ha)⟩, G, ow, ?_, off, fr⟩
          have nd2 := rel2.nd
          rw [List.nodup_append] at nd ⊢
          exact ⟨nd2, nd.2.1, fun a ha b hb => nd.2.2 a (sub2 a ha) b hb⟩
end BV
/-! What the head tells of defs, defaults, constants; the law's end. -/
namespace BV
open PySem PySem.Spec PyProof.Rows L2
/-! ### a call's binding -/
def Bd (K : Frag) (fd : FuncData) (ps : List Str) (sh : CallSh) : Prop := ∃ (ds : List Value) (dvs : List V), Vals dvs ds ∧ RepL K (fun _ => none) sh.dv dvs ∧
  ∀ (s : Shared) (us ws : List Value), K.In s.heap → us.length = sh.n → ws.length = sh.ks.length → ∃ zs, arrange us ws ds sh.ar = some zs ∧ BindsTo s fd ⟨us, sh.ks.zip ws⟩ (ps.zip zs)
section
variable {K : Frag} {x qual : Str} {params : Arguments} {body : List Stmt} {scope : Scope} {dvs : List V} {kws : List (Str × V)} {f : Addr} {fd : FuncData} {ps : List Str} {sh : CallSh}
/-- nothing is left to defaults, and there are none by place -/
theorem bindA (F : FunD K x qual params body scope [] kws f fd) (hd : sh.dv = [])
    (h : ∀ (kV doc pm : Value) (an : Option Addr) (cdv ct : Value) (us ws : List Value), us.length = sh.n → ws.length = sh.ks.length →
      ∃ zs, arrange us ws [] sh.ar = some zs ∧ bindArgs (PySem.W.fnOf x qual params body scope .none kV doc pm an cdv ct) ⟨us, sh.ks.zip ws⟩ = pure (ps.zip zs)) : Bd K fd ps sh := by
  obtain ⟨oc, od, dV, kV, doc, pm, an, cdv, ct, osl, rfl, lk, hcd, hD, hK⟩ := F.ex
  rcases hD with ⟨_, rfl⟩ | ⟨e, _⟩
  · refine ⟨[], [], .nil, by rw [hd]; exact .nil, fun s us ws X l1 l2 => ?_⟩
    obtain ⟨zs, e1, e2⟩ := h kV doc pm an cdv ct us ws l1 l2
    exact ⟨zs, e1, .of_eq e2⟩
  · exact absurd rfl e
/-- defaults of keyword-only parameters alone -/
theorem bindB (F : FunD K x qual params body scope [] kws f fd) (ms : List (Str × V)) (hne : kws ≠ []) (hms : ∀ q ∈ ms, q ∈ kws) (hr : RepL K (fun _ => none) sh.dv (ms.map (·.2)))
    (h : ∀ (D : Addr) (doc pm : Value) (an : Option Addr) (cdv ct : Value) (us mv ws : List Value), us.length = sh.n → mv.length = ms.length → ws.length = sh.ks.length →
      ∃ zs, arrange us ws mv sh.ar = some zs ∧ KwChain D ((ms.map (·.1)).zip mv) (bindArgs (PySem.W.fnOf x qual params body scope .none (.ref D) doc pm an cdv ct) ⟨us, sh.ks.zip ws⟩) (ps.zip zs)) : Bd K fd ps sh := by
  obtain ⟨oc, od, dV, kV, doc, pm, an, cdv, ct, osl, rfl, lk, hcd, hD, hK⟩ := F.ex
  rcases hD with ⟨_, rfl⟩ | ⟨e, _⟩
  · rcases hK with e | ⟨D, rfl, hq⟩
    · exact absurd e hne
    · obtain ⟨mv, hl, rk, hks⟩ := kwd_vals (ms := ms) fun q hm => hq q (hms q hm)
      refine ⟨mv, ms.map (·.2), rk, hr, fun s us ws X l1 l2 => ?_⟩
      obtain ⟨zs, e1, e2⟩ := h D doc pm an cdv ct us mv ws l1 hl l2
      exact ⟨zs, e1, BindsTo.of_looks fun M => KwChain.looks X hks e2⟩
  · exact absurd rfl e
/-- defaults by place alone -/
theorem bindC (F : FunD K x qual params body scope dvs kws f fd) (hne : dvs ≠ []) (hr : RepL K (fun _ => none) sh.dv dvs)
    (h : ∀ (T : Addr) (kV doc pm : Value) (an : Option Addr) (cdv ct : Value) (us its ws : List Value), us.length = sh.n → its.length = dvs.length → ws.length = sh.ks.length →
      ∃ zs k, arrange us ws its sh.ar = some zs ∧ bindArgs (PySem.W.fnOf x qual params body scope (.ref T) kV doc pm an cdv ct) ⟨us, sh.ks.zip ws⟩ = seqItems? (.ref T) >>= k ∧ k (some its.toArray) = pure (ps.zip zs)) : Bd K fd ps sh := by
  obtain ⟨oc, od, dV, kV, doc, pm, an, cdv, ct, osl, rfl, lk, hcd, hD, hK⟩ := F.ex
  rcases hD with ⟨e, _⟩ | ⟨_, T, o, its, m, rfl, lT, oT, rT⟩
  · exact absurd e hne
  · refine ⟨its, dvs, rT, hr, fun s us ws X l1 l2 => ?_⟩
    obtain ⟨zs, k, e1, e2, e3⟩ := h T kV doc pm an cdv ct us its ws l1 rT.length.symm l2
    refine ⟨zs, e1, BindsTo.of_looks fun M => ?_⟩
    rw [e2]
    exact looks_items X lT oT (.of_pure e3)
/-- both -/
theorem bindD (F : FunD K x qual params body scope dvs kws f fd) (ms : List (Str × V)) (hne : dvs ≠ []) (hnk : kws ≠ []) (hms : ∀ q ∈ ms, q ∈ kws) (hr : RepL K (fun _ => none) sh.dv (dvs ++ ms.map (·.2)))
    (h : ∀ (T D : Addr) (doc pm : Value) (an : Option Addr) (cdv ct : Value) (us its mv ws : List Value), us.length = sh.n → its.length = dvs.length → mv.length = ms.length → ws.length = sh.ks.length →
      ∃ zs k, arrange us ws (its ++ mv) sh.ar = some zs ∧ bindArgs (PySem.W.fnOf x qual params body scope (.ref T) (.ref D) doc pm an cdv ct) ⟨us, sh.ks.zip ws⟩ = seqItems? (.ref T) >>= k ∧ KwChain D ((ms.map (·.1)).zip mv) (k (some its.toArray)) (ps.zip zs)) : Bd K fd ps sh := by
  obtain ⟨oc, od, dV, kV, doc, pm, an, cdv, ct, osl, rfl, lk, hcd, hD, hK⟩ := F.ex
  rcases hD with ⟨e, _⟩ | ⟨_, T, o, its, m, rfl, lT, oT, rT⟩
  · exact absurd e hne
  · rcases hK with e | ⟨D, rfl, hq⟩
    · exact absurd e hnk
    · obtain ⟨mv, hl, rk, hks⟩ := kwd_vals (ms := ms) fun q hm => hq q (hms q hm)
      refine ⟨its ++ mv, dvs ++ ms.map (·.2), rT.append rk, hr, fun s us ws X l1 l2 => ?_⟩
      obtain ⟨zs, k, e1, e2, e3⟩ := h T D doc pm an cdv ct us its mv ws l1 rT.length.symm hl l2
      refine ⟨zs, e1, BindsTo.of_looks fun M => ?_⟩
      rw [e2]
      exact looks_items X lT oT (KwChain.looks X hks e3)
end
/-! ### constants -/
mutual
def repB (K : Frag) : Val → Value → Bool
  | .non, .none => true
  | .bl b, .bool c => b == c
  | .int i, .int j _ => decide (i = j)
  | .str x, .str y _ => decide (x = y)
  | .tup xs, .ref a => (match K.lookup a with
    | some ⟨.type c, _, .seq its _, _⟩ => decide (c = "tuple") && (decide (its.size ≤ sizeLine) && repBs K xs its.toList)
    | _ => false)
  | .lst xs, .ref a => (match K.lookup a with
    | some ⟨.type c, none, .seq its _, sl⟩ => decide (c = "list") && (sl.isEmpty && (decide (its.size ≤ sizeLine) && repBs K xs its.toList))
    | _ => false)
  | _, _ => false
def repBs (K : Frag) : List Val → List Value → Bool
  | [], [] => true
  | v :: vs, u :: us => repB K v u && repBs K vs us
  | _, _ => false
end
mutual
theorem repB_ok {K : Frag} : ∀ (v : Val) (u : Value), repB K v u = true → ∃ y, RelV y u ∧ Rep K (fun _ => none) v y
  | .non, u, h => by
    cases u with
    | none => exact ⟨.non, rfl, .non⟩
    | _ => cases h
  | .bl b, u, h => by
    cases u with
    | bool c =>
      have e : b = c := eq_of_beq (show (b == c) = true from h)
      exact ⟨.bl b, by rw [e]; rfl, .bl b⟩
    | _ => cases h
  | .int i, u, h => by
    cases u with
    | int j t =>
      have e : i = j := of_decide_eq_true h
      exact ⟨.int i, ⟨t, by rw [e]⟩, .int i⟩
    | _ => cases h
  | .str i, u, h => by
    cases u with
    | str j t =>
      have e : i = j := of_decide_eq_true h
      exact ⟨.str i, ⟨t, by rw [e]⟩, .str i⟩
    | _ => cases h
  | .tup xs, u, h => by
    cases u with
    | ref a =>
      have h : (match K.lookup a with
        | some ⟨.type c, _, .seq its _, _⟩ => decide (c = "tuple") && (decide (its.size ≤ sizeLine) && repBs K xs its.toList)
        | _ => false) = true := by unfold repB at h; exact h
      cases q : K.lookup a with
      | none => rw [q] at h; cases h
      | some o =>
        obtain ⟨oc, od, dt, osl⟩ := o
        rw [q] at h
        cases oc with
        | type c =>
          cases dt with
          | seq its n =>
            have h : (decide (c = "tuple") && (decide (its.size ≤ sizeLine) && repBs K xs its.toList)) = true := h
            simp only [Bool.and_eq_true, decide_eq_true_eq] at h
            obtain ⟨ys, r1, r2⟩ := repBs_ok xs its.toList h.2.2
            exact ⟨.ref a, rfl, .tup (.inr ⟨_, its, n, q, congrArg Value.type h.1, rfl, h.2.1, r1⟩) r2⟩
          | _ => cases h
        | _ => cases dt <;> cases h
    | _ => cases h
  | .lst xs, u, h => by
    cases u with
    | ref a =>
      have h : (match K.lookup a with
        | some ⟨.type c, none, .seq its _, sl⟩ => decide (c = "list") && (sl.isEmpty && (decide (its.size ≤ sizeLine) && repBs K xs its.toList))
        | _ => false) = true := by unfold repB at h; exact h
      cases q : K.lookup a with
      | none => rw [q] at h; cases h
      | some o =>
        obtain ⟨oc, od, dt, osl⟩ := o
        rw [q] at h
        cases oc with
        | type c =>
          cases od with
          | some d => cases dt <;> cases h
          | none =>
            cases dt with
            | seq its n =>
              have h : (decide (c = "list") && (osl.isEmpty && (decide (its.size ≤ sizeLine) && repBs K xs its.toList))) = true := h
              simp only [Bool.and_eq_true, decide_eq_true_eq] at h
              obtain ⟨ys, r1, r2⟩ := repBs_ok xs its.toList h.2.2.2
              refine ⟨.ref a, rfl, .lst (.inr ⟨its.toList, n, ?_, ?_, r1⟩) r2⟩
              · rw [q, h.1, Array.isEmpty_iff.mp h.2.1]
              · rw [r1.length]
                simpa using h.2.2.1
            | _ => cases h
        | _ => cases od <;> cases dt <;> cases h
    | _ => cases h
  | .dic kvs, u, h => by unfold repB at h; cases u <;> cases h
theorem repBs_ok {K : Frag} : ∀ (vs : List Val) (us : List Value), repBs K vs us = true → ∃ ys, Vals ys us ∧ RepL K (fun _ => none) vs ys
  | [], us, h => by
    cases us with
    | nil => exact ⟨[], .nil, .nil⟩
    | cons u us => cases h
  | v :: vs, us, h => by
    cases us with
    | nil => cases h
    | cons u us =>
      have h : (repB K v u && repBs K vs us) = true := by unfold repBs at h; exact h
      rw [Bool.and_eq_true] at h
      obtain ⟨y, r1, r2⟩ := repB_ok v u h.1
      obtain ⟨ys, s1, s2⟩ := repBs_ok vs us h.2
      exact ⟨y :: ys, .cons r1 s1, .cons r2 s2⟩
end
def conB (K : Frag) (q : Str × Val) : Bool := match PySem.W.nsIn K mainGlobals q.1 with
  | some (some u) => repB K q.2 u
  | _ => false
theorem conB_ok {K : Frag} {h : Heap} {mg : Str → Option Value} (X : K.In h) (G : h.Ns mainGlobals mg) {q : Str × Val} (c : conB K q = true) : ∃ u y, mg q.1 = some u ∧ RelV y u ∧ Rep K (fun _ => none) q.2 y := by
  unfold conB at c
  split at c
  · rename_i u e
    obtain ⟨y, r1, r2⟩ := repB_ok q.2 u c
    exact ⟨u, y, PySem.W.mg_of X G e, r1, r2⟩
  · cases c
def exB (cs : List (Str × Val)) (K : Frag) : Bool := cs.all fun q => conB K q
theorem lookup_mem' {α : Type} {x : Str} {v : α} : ∀ {l : List (Str × α)}, l.lookup x = some v → (x, v) ∈ l
  | [], h => by cases h
  | (y, u) :: r, h => by
    rw [List.lookup_cons] at h
    cases q : (x == y) with
    | true =>
      rw [q] at h
      have e : u = v := Option.some.inj h
      rw [beq_iff_eq.mp q, e]
      exact List.mem_cons_self
    | false =>
      rw [q] at h
      exact List.mem_cons_of_mem _ (lookup_mem' h)
theorem exB_ok {K : Frag} {h : Heap} {mg : Str → Option Value} (X : K.In h) (G : h.Ns mainGlobals mg) {cs : List (Str × Val)} (c : exB cs K = true) (x : Str) (v : Val) (e : cs.lookup x = some v) : ∃ u y, mg x = some u ∧ RelV y u ∧ Rep K (fun _ => none) v y :=
  conB_ok X G (List.all_eq_true.mp c (x, v) (lookup_mem' e))
/-! ### tables of the module -/
def tabLB (K : Frag) : List (Str × Val) → List DictEntry → Bool
  | [], [] => true
  | (k, v) :: r, e :: es => (match e.key with
    | .str j _ => decide (j = k) && (repB K v e.val && tabLB K r es)
    | _ => false)
  | _, _ => false
theorem tabLB_ok {K : Frag} : ∀ (kvs : List (Str × Val)) (es : List DictEntry), tabLB K kvs es = true → TabL K kvs es
  | [], es, h => by
    cases es with
    | nil => exact .nil
    | cons e es => cases h
  | (k, v) :: r, es, h => by
    cases es with
    | nil => cases h
    | cons e es =>
      have h : (match e.key with
        | .str j _ => decide (j = k) && (repB K v e.val && tabLB K r es)
        | _ => false) = true := by unfold tabLB at h; exact h
      cases q : e.key with
      | str j t =>
        rw [q] at h
        have h : (decide (j = k) && (repB K v e.val && tabLB K r es)) = true := h
        simp only [Bool.and_eq_true, decide_eq_true_eq] at h
        obtain ⟨y, r1, r2⟩ := repB_ok v e.val h.2.1
        exact .cons (t := t) (by rw [q, h.1]) r1 r2 (tabLB_ok r es h.2.2)
      | _ => rw [q] at h; cases h
def tabB (K : Frag) (q : Str × List (Str × Val)) : Bool := (match K.lookup (He.ga K q.1) with
  | some ⟨_, _, .dict es _, _⟩ => tabLB K q.2 es.toList
  | _ => false) && (decide (q.2.map (·.1)).Nodup && decide (q.2.length ≤ 1000))
theorem tabB_ok {K : Frag} {w : World} {q : Str × List (Str × Val)} {es : Array DictEntry} {n : Nat} (D : KDict K w (He.ga K q.1) es n) (h : tabB K q = true) : TabL K q.2 es.toList ∧ (q.2.map (·.1)).Nodup ∧ q.2.length ≤ 1000 := by
  unfold tabB at h
  rw [D.at_] at h
  have h : (tabLB K q.2 es.toList && (decide (q.2.map (·.1)).Nodup && decide (q.2.length ≤ 1000))) = true := h
  simp only [Bool.and_eq_true, decide_eq_true_eq] at h
  exact ⟨tabLB_ok _ _ h.1, h.2.1, h.2.2⟩
def exP (P : Pg) (K : Frag) : Bool := exB P.const K && P.tabs.all fun q => tabB K q
/-! ### the end -/
theorem reps_ints {K : Frag} {H : Hp} : ∀ (ns : List Int), RepL K H (ns.map Val.int) (ns.map V.int)
  | [] => .nil
  | i :: r => .cons (.int i) (reps_ints r)
theorem law_end {l : PySem.W.OpenLaw} {m n : Nat} {q : Program} {loose : List Str} {XP : (Str → Option Value) → Heap → Prop} {YP : World → Heap → Prop} {d : DefRec} {x : Str} {P : Pg} {f : Nat} {df : Df}
    (hn : l.most = some m) (hn2 : m ≤ sizeLine) (hdf : d.params.defaults = []) (hr : Room n callerA) (wf : P.wf = true) (hd : P.defs[f]? = some df) (hps : df.ps = [x])
    (F : ∀ (w : World) (mg : Str → Option Value) (fa : Addr) (h : Heap), YP w h → h.Ns mainGlobals mg → mg d.name = some (.ref fa) →
      ∃ (K : Frag) (fd : FuncData), K.In h ∧ Lk P K w mg ∧ DefAt K df fa fd ∧ ∀ (s : Shared) (u : Value), BindsTo s fd ⟨[u], []⟩ [(x, u)])
    (law : ∀ ns : List Int, ns.length ≤ m → (∀ k ∈ ns, Builtin.Int.intBits k ≤ 1048576) → ∃ dd fin, (P.den n).fn f [(0, .lst (ns.map Val.int))] = some ((dd, .bl true), fin)) :
    PySem.W.WalkO q loose XP YP l.row.toRowW d [] (fun f vs => PySem.call f vs) := by
  refine Att.attach_callB hn hdf fun w s₀ s₁ mg mb fa o pm cd doc a vs ns G Y ho hdd hcd hmg hobj hints hlen hbits hg => ?_
  obtain ⟨K, fd, KX, L, at_, hb⟩ := F w mg fa _ Y G.T.g hmg
  obtain ⟨dd, fin, e⟩ := law ns hlen hbits
  refine law_callG (k := n) (x := x) (sp := spOf K ((P.den n).fn f)) KX G.T.g G.T.b G.T.builtins G.T.nolimit hg hobj hints (Nat.le_trans hlen hn2) hr (fun base _ _ => ?_) hb fun H hS => ?_
  · rw [← hps]
    exact Pg.go L wf n f df fa fd hd at_
  · refine ⟨H, [], [(0, .lst (ns.map Val.int))], _, fin, ⟨HSub.refl _, List.nodup_nil, fun a h => (by cases h), ?_⟩, e, fun y H' Hf' F' g => ?_⟩
    · exact Plcs.cons (F := []) (G := []) (.is (.frz (.inl rfl) (.lst hS (reps_ints ns)))) .nil
    · obtain ⟨_, _, G, ow, _⟩ := g
      cases ow with
      | frz _ r => cases r; rfl
end BV
/-! The head's facts of all defs at once. -/
namespace BV
open PySem PySem.Spec PyProof.Rows L2
structure Dx where
  df : Df
  params : Arguments
  dfl : List He.Dv := []
  kwd : List (Str × He.Dv) := []
def Dx.dd (e : Dx) : He.DefD := ⟨(e.df.x, none), e.df.x, e.df.x, e.params, e.df.body.py, e.df.sc, e.dfl, e.kwd⟩
def faOf (P : Pg) : List He.Fa := P.defs.map (fun d => He.Fa.glo d.x) ++ (P.free.map He.Fa.free ++ P.tabs.map fun q => He.Fa.glo q.1)
def tabsOf (P : Pg) : List He.Tab := P.tabs.map fun q => (fun K => He.ga K q.1, q.2.map (·.1))
theorem glo_in {P : Pg} {fn : List He.DefD} {K : Frag} (c : He.SaysD (faOf P) fn K) (f : Nat) {d : Df} (h : P.defs[f]? = some d) : (He.Fa.glo d.x).ok K = true :=
  c.facts (List.mem_append_left _ (List.mem_map.mpr ⟨d, List.mem_of_getElem? h, rfl⟩))
theorem head_lk {P : Pg} {dx : List Dx} {K : Frag} {h : Heap} {w : World} {mg : Str → Option Value} (hdx : dx.map Dx.df = P.defs) (X : K.In h) (G : h.Ns mainGlobals mg)
    (c : He.SaysX (faOf P) (dx.map Dx.dd) (tabsOf P) [] (exP P) w h K)
    (cal : ∀ (c : Nat) (sh : CallSh), P.calls[c]? = some sh → ∃ e : Dx, dx[sh.f]? = some e ∧ e.df.x = sh.x ∧ ∀ (a : Addr) (fd : FuncData), FunD K e.df.x e.df.x e.params e.df.body.py e.df.sc (e.dd.dvs K) (e.dd.kws K) a fd → Bd K fd e.df.ps sh) :
    Lk P K w mg ∧ ∀ (f : Nat) (e : Dx), dx[f]? = some e → ∃ fd, FunD K e.df.x e.df.x e.params e.df.body.py e.df.sc (e.dd.dvs K) (e.dd.kws K) (He.ga K e.df.x) fd := by
  have fnd : ∀ (f : Nat) (e : Dx), dx[f]? = some e → ∃ fd, FunD K e.df.x e.df.x e.params e.df.body.py e.df.sc (e.dd.dvs K) (e.dd.kws K) (He.ga K e.df.x) fd := fun f e he =>
    c.t.d.defs (d := e.dd) (List.mem_map.mpr ⟨e, List.mem_of_getElem? he, rfl⟩)
  have dfs : ∀ (f : Nat) (e : Dx), dx[f]? = some e → P.defs[f]? = some e.df := fun f e he => by
    rw [← hdx, List.getElem?_map, he]; rfl
  have more : exB P.const K = true ∧ (P.tabs.all fun q => tabB K q) = true := by
    have m : (exB P.const K && P.tabs.all fun q => tabB K q) = true := c.more
    rwa [Bool.and_eq_true] at m
  refine ⟨⟨fun x v e => exB_ok X G more.1 x v e, fun x hx => He.free_ok X G (c.t.d.facts (List.mem_append_right _ (List.mem_append_left _ (List.mem_map.mpr ⟨x, hx, rfl⟩)))), fun i sh hc => ?_, fun x kvs e => ?_⟩, fnd⟩
  rotate_left
  · have hm := lookup_mem' e
    obtain ⟨i, hi, ei⟩ := List.mem_iff_getElem.mp hm
    obtain ⟨es, n, D⟩ := c.t.tab i (t := (fun K => He.ga K x, kvs.map (·.1))) (by
      unfold tabsOf
      rw [List.getElem?_map, List.getElem?_eq_getElem hi, ei]; rfl)
    have g := He.glo_ok X G (c.t.d.facts (List.mem_append_right _ (List.mem_append_right _ (List.mem_map.mpr ⟨(x, kvs), hm, rfl⟩))))
    exact ⟨_, es, n, g, D, tabB_ok (q := (x, kvs)) D (List.all_eq_true.mp more.2 _ hm)⟩
  obtain ⟨e, h1, h2, h3⟩ := cal i sh hc
  obtain ⟨fd, F⟩ := fnd sh.f e h1
  obtain ⟨ds, dvs, b1, b2, b3⟩ := h3 _ fd F
  refine ⟨e.df, _, fd, ds, dvs, dfs _ _ h1, ?_, ⟨_, _, _, _, F⟩, b1, b2, b3⟩
  rw [← h2]
  exact He.glo_ok X G (glo_in c.t.d sh.f (dfs _ _ h1))
end BV
/-! The meaning, equation by equation, for the simplifier. -/
namespace BV
open PySem PySem.Spec PyProof.Rows L2

@[simp] theorem q_ev_0 {c : _} {z1 : _} {z2 : _} {D : Den} {S : Slots} : ev D (.cst c z1 z2) S = (cstV c).map fun v => ((.own 0, v), S) := rfl
@[simp] theorem q_ev_1 {i : _} {z1 : _} {z2 : _} {D : Den} {S : Slots} : ev D (.var i z1 z2) S = match S[i]? with
    | some (some (_, v)) => some ((.own 0, v), S.set i (some (0, v)))
    | _ => none := rfl
@[simp] theorem q_ev_2 {i : _} {z1 : _} {z2 : _} {D : Den} {S : Slots} : ev D (.brw i z1 z2) S = match S[i]? with
    | some (some (d, v)) => some (bif v.flat then ((.own 0, v), S) else bif decide (d ≤ 1) || v.inner then ((.bor, v), S) else ((.own 0, v), S.set i (some (0, v))))
    | _ => none := rfl
@[simp] theorem q_ev_3 {i : _} {z1 : _} {z2 : _} {D : Den} {S : Slots} : ev D (.mov i z1 z2) S = match S[i]? with
    | some (some (d, v)) => some ((.own d, v), S.set i none)
    | _ => none := rfl
@[simp] theorem q_ev_4 {z1 : _} {z2 : _} {z3 : _} {D : Den} {S : Slots} : ev D (.ref z1 z2 z3) S = none := rfl
@[simp] theorem q_ev_5 {i : _} {z1 : _} {z2 : _} {k : _} {z3 : _} {D : Den} {S : Slots} : ev D (.pth i z1 z2 k z3) S = match S[i]? with
    | some (some _) => (ev D k S).bind fun q => match q.2[i]? with
      | some (some (_, v)) => (getS v q.1.2).bind fun u => bif u.flat then some ((.own 0, u), q.2) else gd u.inner (some ((.bor, u), q.2))
      | _ => none
    | _ => none := rfl
@[simp] theorem q_ev_6 {x : _} {z1 : _} {D : Den} {S : Slots} : ev D (.glb x z1) S = (D.const x).map fun v => ((.own 0, v), S) := rfl
@[simp] theorem q_ev_7 {es : _} {z1 : _} {z2 : _} {D : Den} {S : Slots} : ev D (.tup es z1 z2) S = (evs D es S).bind fun q => gd (fitsLine q.1.length) (some ((.own 0, .tup (q.1.map (·.2))), q.2)) := rfl
@[simp] theorem q_ev_8 {es : _} {z1 : _} {D : Den} {S : Slots} : ev D (.lst es z1) S = (evs D es S).bind fun q => gd (fitsLine q.1.length) (some ((.own (dispD q.1), .lst (q.1.map (·.2))), q.2)) := rfl
@[simp] theorem q_ev_9 {z1 : _} {D : Den} {S : Slots} : ev D (.dic0 z1) S = some ((.own 1, .dic []), S) := rfl
@[simp] theorem q_ev_10 {op : _} {a : _} {b : _} {z1 : _} {D : Den} {S : Slots} : ev D (.bin op a b z1) S = (ev D a S).bind fun q => gd (q.1.1.lets b.pure) ((ev D b q.2).bind fun t => (binV op q.1.2 t.1.2).map fun r => ((.own r.1, r.2), t.2)) := rfl
@[simp] theorem q_ev_11 {a : _} {z1 : _} {D : Den} {S : Slots} : ev D (.neg a z1) S = (ev D a S).bind fun q => match q.1.2 with
    | .int i => some ((.own 0, .int (-i)), q.2)
    | _ => none := rfl
@[simp] theorem q_ev_12 {a : _} {z1 : _} {D : Den} {S : Slots} : ev D (.nt a z1) S = (tst (ev D a S)).map fun q => ((.own 0, .bl (!q.1)), q.2) := rfl
@[simp] theorem q_ev_13 {o : _} {es : _} {z1 : _} {D : Den} {S : Slots} : ev D (.bop o es z1) S = evb D o es S := rfl
@[simp] theorem q_ev_14 {op : _} {a : _} {b : _} {z1 : _} {D : Den} {S : Slots} : ev D (.cmp op a b z1) S = (ev D a S).bind fun q => gd (q.1.1.lets b.pure) ((ev D b q.2).bind fun t => (cmpV op q.1.2 t.1.2).map fun r => ((.own 0, .bl r), t.2)) := rfl
@[simp] theorem q_ev_15 {op : _} {op' : _} {a : _} {b : _} {c : _} {z1 : _} {D : Den} {S : Slots} : ev D (.chn op op' a b c z1) S = (ev D a S).bind fun q => gd (q.1.1.lets b.pure) ((ev D b q.2).bind fun t => (cmpV op q.1.2 t.1.2).bind fun r =>
      bif r then gd (t.1.1.lets c.pure) ((ev D c t.2).bind fun u => (cmpV op' t.1.2 u.1.2).map fun r' => ((.own 0, .bl r'), u.2)) else some ((.own 0, .bl false), t.2)) := rfl
@[simp] theorem q_ev_16 {c : _} {a : _} {b : _} {z1 : _} {D : Den} {S : Slots} : ev D (.ifx c a b z1) S = (tst (ev D c S)).bind fun q => bif q.1 then ev D a q.2 else ev D b q.2 := rfl
@[simp] theorem q_ev_17 {a : _} {T : _} {z1 : _} {z2 : _} {z3 : _} {D : Den} {S : Slots} : ev D (.isi a T z1 z2 z3) S = (ev D a S).map fun q => ((.own 0, .bl (isiV q.1.2 T)), q.2) := rfl
@[simp] theorem q_ev_18 {f : _} {z1 : _} {es : _} {z2 : _} {D : Den} {S : Slots} : ev D (.blt f z1 es z2) S = (evo D es S).bind fun q => (bltV f q.1).map fun r => ((.own r.1, r.2), q.2) := rfl
theorem q_ev_19 {c : _} {z1 : _} {z2 : _} {es : _} {ks : _} {z3 : _} {D : Den} {S : Slots} : ev D (.call c z1 z2 es ks z3) S = D.calls[c]?.bind fun sh => (eva D es S).bind fun q => (evk D ks q.2).bind fun t => (arrange q.1 t.1 (sh.dv.map .val) sh.ar).bind fun as => (argRs t.2 as).bind fun rs => gd (decide (refsOf as).Nodup) ((D.fn sh.f rs).bind fun w => (backS (wipeS t.2 (refsOf as)) as w.2).map fun S' => ((.own w.1.1, w.1.2), S')) := rfl
@[simp] theorem q_ev_20 {a : _} {i : _} {z1 : _} {D : Den} {S : Slots} : ev D (.idx a i z1) S = (ev D a S).bind fun q => gd (q.1.1.lets i.pure) ((ev D i q.2).bind fun t => (getV q.1.2 t.1.2).map fun u => ((.own 0, u), t.2)) := rfl
@[simp] theorem q_ev_21 {a : _} {lo : _} {hi : _} {z1 : _} {z2 : _} {D : Den} {S : Slots} : ev D (.slc a lo hi z1 z2) S = (ev D a S).bind fun q => gd (q.1.1.lets (lo.pure && hi.pure)) ((evi D lo q.2).bind fun t => (evi D hi t.2).bind fun u => (slcV q.1.2 t.1 u.1).map fun r => ((.own r.1, r.2), u.2)) := rfl
@[simp] theorem q_ev_22 {elt : _} {t : _} {it : _} {ifs : _} {z1 : _} {own : _} {z2 : _} {D : Den} {S : Slots} : ev D (.lc elt t it ifs z1 own z2) S = (evI D it S).bind fun q => (compL (fun v S1 => (t.set v S1).bind fun S2 => (evts D ifs S2).bind fun b => bif b.1 then (ev D elt b.2).bind fun r => match r.1.1 with
      | .own _ => some ([r.1.2], wipeS r.2 (own.map (·.2)))
      | .bor => none else some ([], wipeS b.2 (own.map (·.2)))) q.1 (wipeS q.2 (own.map (·.2)))).bind fun u => gd (fitsLine u.1.length) (some ((.own 1, .lst u.1), u.2)) := rfl
@[simp] theorem q_ev_23 {elt : _} {t : _} {it : _} {ifs : _} {t1 : _} {it1 : _} {ifs1 : _} {z1 : _} {own : _} {vs1 : _} {z2 : _} {D : Den} {S : Slots} : ev D (.lc2 elt t it ifs t1 it1 ifs1 z1 own vs1 z2) S = (evI D it S).bind fun q => (compL (fun v S1 => (t.set v S1).bind fun S2 => (evts D ifs S2).bind fun b => bif b.1 then (evI D it1 b.2).bind fun q1 =>
      (compL (fun v1 S3 => (t1.set v1 S3).bind fun S4 => (evts D ifs1 S4).bind fun b1 => bif b1.1 then (ev D elt b1.2).bind fun r => match r.1.1 with
        | .own _ => some ([r.1.2], wipeS r.2 vs1)
        | .bor => none else some ([], wipeS b1.2 vs1)) q1.1 (wipeS q1.2 vs1)).map fun z => (z.1, wipeS z.2 (own.map (·.2))) else some ([], wipeS b.2 (own.map (·.2)))) q.1 (wipeS q.2 (own.map (·.2)))).bind fun u => gd (fitsLine u.1.length) (some ((.own 1, .lst u.1), u.2)) := rfl
@[simp] theorem q_ev_24 {i : _} {z1 : _} {z2 : _} {k : _} {z3 : _} {j : _} {z4 : _} {z5 : _} {D : Den} {S : Slots} : ev D (.popAt i z1 z2 k z3 j z4 z5) S = match S[i]?, k, j with
    | some (some (d + 2, .lst xs)), .cst (.int m) _ _, .cst (.int 0) _ _ => (ixN xs.length m).bind fun n => match xs[n]? with
      | some (.lst (w :: ws)) => gd w.flat (some ((.own 0, w), S.set i (some (d + 2, .lst (xs.set n (.lst ws))))))
      | _ => none
    | _, _, _ => none := rfl
@[simp] theorem q_ev_25 {kx : _} {vx : _} {t : _} {it : _} {ifs : _} {z1 : _} {own : _} {z2 : _} {D : Den} {S : Slots} : ev D (.dcm kx vx t it ifs z1 own z2) S = (evI D it S).bind fun q => (compL (fun v S1 => (t.set v S1).bind fun S2 => (evts D ifs S2).bind fun b => bif b.1 then (ev D kx b.2).bind fun r => (ev D vx r.2).bind fun u => match r.1.1, u.1.1 with
      | .own _, .own _ => some ([.tup [r.1.2, u.1.2]], wipeS u.2 (own.map (·.2)))
      | _, _ => none else some ([], wipeS b.2 (own.map (·.2)))) q.1 (wipeS q.2 (own.map (·.2)))).bind fun u => gd (fitsLine u.1.length) ((putAll [] u.1).map fun kvs => ((.own 1, .dic kvs), u.2)) := rfl
@[simp] theorem q_ev_26 {z1 : _} {elt : _} {t : _} {it : _} {ifs : _} {t1 : _} {it1 : _} {ifs1 : _} {z2 : _} {own : _} {vs1 : _} {z3 : _} {z4 : _} {D : Den} {S : Slots} : ev D (.ssc z1 elt t it ifs t1 it1 ifs1 z2 own vs1 z3 z4) S = (evI D it S).bind fun q => (compL (fun v S1 => (t.set v S1).bind fun S2 => (evts D ifs S2).bind fun b => bif b.1 then (evI D it1 b.2).bind fun q1 =>
      (compL (fun v1 S3 => (t1.set v1 S3).bind fun S4 => (evts D ifs1 S4).bind fun b1 => bif b1.1 then (ev D elt b1.2).bind fun r => match r.1.1 with
        | .own _ => some ([r.1.2], wipeS r.2 vs1)
        | .bor => none else some ([], wipeS b1.2 vs1)) q1.1 (wipeS q1.2 vs1)).map fun z => (z.1, wipeS z.2 (own.map (·.2))) else some ([], wipeS b.2 (own.map (·.2)))) q.1 (wipeS q.2 (own.map (·.2)))).bind fun u => (intsOf u.1).bind fun ks => gd (decide (ks.length ≤ 4000)) (some ((.own 1, .lst ((sortU ks).map .int)), u.2)) := rfl
@[simp] theorem q_ev_27 {z1 : _} {z2 : _} {z3 : _} {x : _} {y : _} {z4 : _} {z5 : _} {z6 : _} {z7 : _} {z8 : _} {D : Den} {S : Slots} : ev D (.lzip z1 z2 z3 x y z4 z5 z6 z7 z8) S = (ev D x S).bind fun q => (ev D y q.2).bind fun t => match q.1, t.1 with
    | (.own _, .lst xs), (.own _, .lst ys) => gd (xs.length == ys.length) (some ((.own 1, .lst (pairUp xs ys)), t.2))
    | (.own _, .tup xs), (.own _, .tup ys) => gd (xs.length == ys.length) (some ((.own 1, .lst (pairUp xs ys)), t.2))
    | _, _ => none := rfl
@[simp] theorem q_ev_28 {z1 : _} {z2 : _} {x : _} {z3 : _} {D : Den} {S : Slots} : ev D (.dcp z1 z2 x z3) S = (D.tab x).map fun kvs => ((.own 1, .dic (kvs.map fun q => (.inr q.1, q.2))), S) := rfl
@[simp] theorem q_ev_29 {a : _} {z1 : _} {z2 : _} {z3 : _} {z4 : _} {z5 : _} {D : Den} {S : Slots} : ev D (.rev a z1 z2 z3 z4 z5) S = (ev D a S).bind fun q => match q.1 with
    | (.own _, .lst xs) => some ((.own 1, .lst xs.reverse), q.2)
    | (.own _, .tup xs) => some ((.own 0, .tup xs.reverse), q.2)
    | _ => none := rfl
@[simp] theorem q_ev_30 {z1 : _} {z2 : _} {a : _} {b : _} {z3 : _} {z4 : _} {D : Den} {S : Slots} : ev D (.lrng z1 z2 a b z3 z4) S = (ev D a S).bind fun q => (ev D b q.2).bind fun t => match q.1.2, t.1.2 with
    | .int i, .int j => gd (rngOk i j) (some ((.own 1, .lst (intsFrom i (j - i).toNat)), t.2))
    | _, _ => none := rfl
@[simp] theorem q_ev_31 {ds : _} {z1 : _} {D : Den} {S : Slots} : ev D (.dsp ds z1) S = (evd D ds S).bind fun q => gd (decide (q.1.length ≤ 15) && decide (q.1.map (·.1)).Nodup) (some ((.own (dispD (q.1.map (·.2))), .dic (q.1.map fun z => (.inr z.1, z.2.2))), q.2)) := rfl
@[simp] theorem q_ev_32 {P : _} {D : Den} {S : Slots} : ev D (.plc P) S = (evP D P S).bind fun q => match S[q.1]? with
    | some (some (d, v)) => (getP v q.2).bind fun u => gd (decide (q.2.length ≤ d)) (bif u.flat || d == q.2.length then some ((.own 0, u), S) else gd u.inner (some ((.bor, u), S)))
    | _ => none := rfl
@[simp] theorem q_ev_33 {z1 : _} {a : _} {d : _} {z2 : _} {z3 : _} {D : Den} {S : Slots} : ev D (.mxd z1 a d z2 z3) S = (ev D a S).bind fun q => gd (q.1.1.lets d.pure) ((ev D d q.2).bind fun t => match q.1.2, t.1.2 with
    | .lst xs, .int i => (intsOf xs).map fun l => ((.own 0, .int (maxD i l)), t.2)
    | _, _ => none) := rfl
@[simp] theorem q_ev_34 {z1 : _} {z2 : _} {a : _} {z3 : _} {z4 : _} {D : Den} {S : Slots} : ev D (.den z1 z2 a z3 z4) S = (ev D a S).bind fun q => match q.1 with
    | (.own _, .tup xs) => gd (decide (xs.length ≤ 2000)) (some ((.own 1, .dic (enumD 0 xs)), q.2))
    | _ => none := rfl
@[simp] theorem q_ev_35 {z1 : _} {P : _} {z2 : _} {z3 : _} {z4 : _} {D : Den} {S : Slots} : ev D (.tvl z1 P z2 z3 z4) S = (evP D P S).bind fun q => match S[q.1]? with
    | some (some (d, v)) => (getP v q.2).bind fun u => gd (decide (q.2.length < d)) (match u with
      | .dic kvs => gd (kvs.all fun z => z.2.flat) (some ((.own 0, .tup (kvs.map (·.2))), S))
      | _ => none)
    | _ => none := rfl
@[simp] theorem q_ev_36 {z1 : _} {e : _} {z2 : _} {D : Den} {S : Slots} : ev D (.sme z1 e z2) S = (ev D e S).bind fun q => gd e.pure (match q.1.2 with
    | .lst xs => (intsOf xs).map fun l => ((.own 0, .int l.sum), S)
    | _ => none) := rfl
@[simp] theorem q_evd_0  {D : Den} {S : Slots} : evd D (.nil) S = some ([], S) := rfl
@[simp] theorem q_evd_1 {k : _} {z1 : _} {z2 : _} {e : _} {ds : _} {D : Den} {S : Slots} : evd D (.cons k z1 z2 e ds) S = (ev D e S).bind fun q => match q.1.1 with
    | .own d => (evd D ds q.2).map fun t => ((k, (d, q.1.2)) :: t.1, t.2)
    | .bor => none := rfl
@[simp] theorem q_evP_0 {i : _} {z1 : _} {z2 : _} {D : Den} {S : Slots} : evP D (.rt i z1 z2) S = some (i, []) := rfl
@[simp] theorem q_evP_1 {P : _} {k : _} {z1 : _} {D : Den} {S : Slots} : evP D (.sub P k z1) S = (evP D P S).bind fun q => gd k.still ((ev D k S).bind fun t => gd t.1.2.flat (some (q.1, q.2 ++ [t.1.2]))) := rfl
@[simp] theorem q_evs_0  {D : Den} {S : Slots} : evs D (.nil) S = some ([], S) := rfl
@[simp] theorem q_evs_1 {e : _} {es : _} {D : Den} {S : Slots} : evs D (.cons e es) S = (ev D e S).bind fun q => match q.1.1 with
    | .own d => (evs D es q.2).map fun t => ((d, q.1.2) :: t.1, t.2)
    | .bor => none := rfl
@[simp] theorem q_evo_0  {D : Den} {S : Slots} : evo D (.nil) S = some ([], S) := rfl
@[simp] theorem q_evo_1 {e : _} {es : _} {D : Den} {S : Slots} : evo D (.cons e es) S = (ev D e S).bind fun q => gd (q.1.1.lets es.pure) ((evo D es q.2).map fun t => (q.1.2 :: t.1, t.2)) := rfl
@[simp] theorem q_evi_0  {D : Den} {S : Slots} : evi D (.no) S = some (none, S) := rfl
@[simp] theorem q_evi_1 {e : _} {D : Den} {S : Slots} : evi D (.is e) S = (ev D e S).bind fun q => match q.1.2 with
    | .int i => some (some i, q.2)
    | _ => none := rfl
@[simp] theorem q_evk_0  {D : Den} {S : Slots} : evk D (.nil) S = some ([], S) := rfl
@[simp] theorem q_evk_1 {z1 : _} {e : _} {z2 : _} {es : _} {D : Den} {S : Slots} : evk D (.cons z1 e z2 es) S = (ev D e S).bind fun q => match q.1.1 with
    | .own _ => (evk D es q.2).map fun t => (.val q.1.2 :: t.1, t.2)
    | .bor => none := rfl
@[simp] theorem q_evI_0 {e : _} {D : Den} {S : Slots} : evI D (.seq e) S = (ev D e S).bind fun q => match q.1.1 with
    | .own _ => (itemsV q.1.2).map fun xs => (xs, q.2)
    | .bor => none := rfl
@[simp] theorem q_evI_1 {z1 : _} {a : _} {z2 : _} {D : Den} {S : Slots} : evI D (.rng1 z1 a z2) S = (ev D a S).bind fun q => match q.1.2 with
    | .int i => gd (inRange i) (some (intsFrom 0 i.toNat, q.2))
    | _ => none := rfl
@[simp] theorem q_evI_2 {z1 : _} {a : _} {b : _} {z2 : _} {D : Den} {S : Slots} : evI D (.rng2 z1 a b z2) S = (ev D a S).bind fun q => (ev D b q.2).bind fun t => match q.1.2, t.1.2 with
    | .int i, .int j => gd (inRange i && inRange j) (some (intsFrom i (j - i).toNat, t.2))
    | _, _ => none := rfl
@[simp] theorem q_evI_3 {z1 : _} {a : _} {z2 : _} {D : Den} {S : Slots} : evI D (.enum z1 a z2) S = (ev D a S).bind fun q => match q.1.1, q.1.2 with
    | .own _, v => (itemsV v).map fun xs => (numbered 0 xs, q.2)
    | _, _ => none := rfl
@[simp] theorem q_evI_4 {z1 : _} {a : _} {b : _} {z2 : _} {D : Den} {S : Slots} : evI D (.zip z1 a b z2) S = (ev D a S).bind fun q => (ev D b q.2).bind fun t => match q.1, t.1 with
    | (.own _, .lst xs), (.own _, .lst ys) => some (pairUp xs ys, t.2)
    | (.own _, .tup xs), (.own _, .tup ys) => some (pairUp xs ys, t.2)
    | _, _ => none := rfl
@[simp] theorem q_ex_asgn {i x p e p' : _} {D : Den} {S : Slots} : ex D (.asg (.name i x p) e p') S = (ev D e S).bind fun q => match q.1.1 with
    | .own d => some (.nx (q.2.set i (some (d, q.1.2))))
    | .bor => none := by
  show (ev D e S).bind _ = _
  congr 1
  funext q
  rcases q with ⟨⟨m, v⟩, S1⟩
  cases m <;> rfl
@[simp] theorem q_ex_asgt {ts k p e p' : _} {D : Den} {S : Slots} : ex D (.asg (.tup ts k p) e p') S = (ev D e S).bind fun q => match q.1.1 with
    | .own _ => ((CT.tup ts k p).set q.1.2 q.2).map .nx
    | .bor => none := by
  show (ev D e S).bind _ = _
  congr 1
  funext q
  rcases q with ⟨⟨m, v⟩, S1⟩
  cases m <;> rfl
@[simp] theorem q_ex_1 {i : _} {j : _} {z1 : _} {z2 : _} {z3 : _} {z4 : _} {z5 : _} {z6 : _} {a : _} {b : _} {z7 : _} {z8 : _} {z9 : _} {D : Den} {S : Slots} : ex D (.par i j z1 z2 z3 z4 z5 z6 a b z7 z8 z9) S = (evs D (.cons a (.cons b .nil)) S).bind fun q => match q.1 with
    | [r, r'] => some (.nx ((q.2.set i (some r)).set j (some r')))
    | _ => none := rfl
@[simp] theorem q_ex_2 {i : _} {z1 : _} {z2 : _} {k : _} {e : _} {z3 : _} {z4 : _} {D : Den} {S : Slots} : ex D (.setI i z1 z2 k e z3 z4) S = (ev D e S).bind fun q => match q.2[i]? with
    | some (some _) => (ev D k q.2).bind fun t => match t.2[i]?, t.1.2, q.1.1 with
      | some (some (d + 1, .lst xs)), .int m, .own d' => gd (fitsIn d (d', q.1.2)) ((ixN xs.length m).map fun n => .nx (t.2.set i (some (d + 1, .lst (xs.set n q.1.2)))))
      | _, _, _ => none
    | _ => none := rfl
@[simp] theorem q_ex_3 {e : _} {z1 : _} {D : Den} {S : Slots} : ex D (.expr e z1) S = (ev D e S).map fun q => .nx q.2 := rfl
@[simp] theorem q_ex_4 {i : _} {z1 : _} {z2 : _} {z3 : _} {e : _} {z4 : _} {z5 : _} {D : Den} {S : Slots} : ex D (.app i z1 z2 z3 e z4 z5) S = match S[i]? with
    | some (some (_, .lst _)) => (ev D e S).bind fun q => match q.2[i]?, q.1.1 with
      | some (some (d + 1, .lst xs)), .own d' => gd (fitsIn d (d', q.1.2) && decide (xs.length < sizeLine)) (some (.nx (q.2.set i (some (d + 1, .lst (xs ++ [q.1.2]))))))
      | _, _ => none
    | _ => none := rfl
@[simp] theorem q_ex_5 {i : _} {z1 : _} {z2 : _} {op : _} {e : _} {z3 : _} {D : Den} {S : Slots} : ex D (.aug i z1 z2 op e z3) S = match S[i]? with
    | some (some (_, .int k)) => (ev D e S).bind fun q => match op, q.1.2 with
      | .Add, .int m => some (.nx (q.2.set i (some (0, .int (k + m)))))
      | .Sub, .int m => some (.nx (q.2.set i (some (0, .int (k - m)))))
      | _, _ => none
    | _ => none := rfl
@[simp] theorem q_ex_6 {c : _} {a : _} {b : _} {z1 : _} {D : Den} {S : Slots} : ex D (.ife c a b z1) S = (tst (ev D c S)).bind fun q => bif q.1 then exs D a q.2 else exs D b q.2 := rfl
@[simp] theorem q_ex_7 {t : _} {it : _} {body : _} {z1 : _} {D : Den} {S : Slots} : ex D (.forr t it body z1) S = (evI D it S).bind fun q => forL (fun v S1 => (t.set v S1).bind fun S2 => exs D body S2) q.1 q.2 := rfl
@[simp] theorem q_ex_8 {e : _} {z1 : _} {D : Den} {S : Slots} : ex D (.ret e z1) S = (ev D e S).bind fun q => match q.1.1 with
    | .own d => some (.rt (d, q.1.2) q.2)
    | .bor => none := rfl
@[simp] theorem q_ex_9 {z1 : _} {D : Den} {S : Slots} : ex D (.retN z1) S = some (.rt (0, .non) S) := rfl
@[simp] theorem q_ex_10 {z1 : _} {D : Den} {S : Slots} : ex D (.pass z1) S = some (.nx S) := rfl
@[simp] theorem q_ex_11 {z1 : _} {D : Den} {S : Slots} : ex D (.brk z1) S = some (.bk S) := rfl
@[simp] theorem q_ex_12 {z1 : _} {D : Den} {S : Slots} : ex D (.cnt z1) S = some (.ct S) := rfl
@[simp] theorem q_ex_13 {z1 : _} {D : Den} {S : Slots} : ex D (.nvr z1) S = none := rfl
@[simp] theorem q_ex_14 {P : _} {z1 : _} {e : _} {z2 : _} {z3 : _} {D : Den} {S : Slots} : ex D (.papp P z1 e z2 z3) S = (evP D P S).bind fun w => gd (okL S w && e.pure) ((ev D e S).bind fun q => match q.2[w.1]?, q.1.1 with
    | some (some (d, v)), .own d' => (getP v w.2).bind fun c => gd (decide (w.2.length < d)) ((appV (d - w.2.length - 1) c (d', q.1.2)).bind fun c' => some (.nx (q.2.set w.1 (some (d, setP v w.2 c')))))
    | _, _ => none) := rfl
@[simp] theorem q_ex_15 {P : _} {z1 : _} {e : _} {z2 : _} {z3 : _} {D : Den} {S : Slots} : ex D (.pext P z1 e z2 z3) S = (evP D P S).bind fun w => gd (okL S w && e.pure) ((ev D e S).bind fun q => match q.2[w.1]?, q.1.1 with
    | some (some (d, v)), .own (_ + 1) => (getP v w.2).bind fun c => gd (decide (w.2.length < d)) ((extV c q.1.2).bind fun c' => some (.nx (q.2.set w.1 (some (d, setP v w.2 c')))))
    | _, _ => none) := rfl
@[simp] theorem q_ex_16 {P : _} {k : _} {e : _} {z1 : _} {z2 : _} {D : Den} {S : Slots} : ex D (.pset P k e z1 z2) S = (ev D e S).bind fun q => (evP D P q.2).bind fun w => gd k.still ((ev D k q.2).bind fun t => gd t.1.2.flat (match q.2[w.1]?, q.1.1 with
    | some (some (d, v)), .own d' => (getP v w.2).bind fun c => gd (decide (w.2.length < d)) ((storeV (d - w.2.length - 1) c t.1.2 (d', q.1.2)).bind fun c' => some (.nx (q.2.set w.1 (some (d, setP v w.2 c')))))
    | _, _ => none)) := rfl
@[simp] theorem q_ex_17 {c : _} {body : _} {z1 : _} {D : Den} {S : Slots} : ex D (.whl c body z1) S = whlL (fun S1 => tst (ev D c S1)) (fun S1 => exs D body S1) D.fuel S := rfl
@[simp] theorem q_ex_18 {pre : _} {i : _} {x : _} {px : _} {z1 : _} {post : _} {z2 : _} {z3 : _} {e : _} {z4 : _} {D : Den} {S : Slots} : ex D (.asgs pre i x px z1 post z2 z3 e z4) S = (ev D e S).bind fun q => match q.1 with
    | (.own _, .tup xs) => gd (decide (pre.len + post.len ≤ xs.length) && decide (xs.length ≤ 1000)) (((pre.app (.cons (.name i x px) post)).set (xs.take pre.len ++ .lst ((xs.drop pre.len).take (xs.length - pre.len - post.len)) :: xs.drop (xs.length - post.len)) q.2).map .nx)
    | _ => none := rfl
@[simp] theorem q_exs_0  {D : Den} {S : Slots} : exs D (.nil) S = some (.nx S) := rfl
@[simp] theorem q_exs_1 {s : _} {ss : _} {D : Den} {S : Slots} : exs D (.cons s ss) S = match ex D s S with
    | some (.nx S1) => exs D ss S1
    | o => o := rfl
def CE.isRef : CE → Bool
  | .ref .. => true | _ => false
@[simp] theorem q_eva_0 {D : Den} {S : Slots} : eva D .nil S = some ([], S) := rfl
@[simp] theorem q_eva_1 {i x p es : _} {D : Den} {S : Slots} : eva D (.cons (.ref i x p) es) S = match S[i]? with
    | some (some _) => (eva D es S).map fun t => (.byRef i :: t.1, t.2)
    | _ => none := rfl
theorem q_eva_2 {e : CE} {es : CEs} {D : Den} {S : Slots} (h : e.isRef = false) : eva D (.cons e es) S = (ev D e S).bind fun q => match q.1.1 with
    | .own _ => (eva D es q.2).map fun t => (.val q.1.2 :: t.1, t.2)
    | .bor => none := by cases e <;> first | rfl | cases h
@[simp] theorem q_eva_cst {a0 : _} {a1 : _} {a2 : _} {es : CEs} {D : Den} {S : Slots} : eva D (.cons (.cst a0 a1 a2) es) S = (ev D (.cst a0 a1 a2) S).bind fun q => match q.1.1 with | .own _ => (eva D es q.2).map fun t => (.val q.1.2 :: t.1, t.2) | .bor => none := rfl
@[simp] theorem q_eva_var {a0 : _} {a1 : _} {a2 : _} {es : CEs} {D : Den} {S : Slots} : eva D (.cons (.var a0 a1 a2) es) S = (ev D (.var a0 a1 a2) S).bind fun q => match q.1.1 with | .own _ => (eva D es q.2).map fun t => (.val q.1.2 :: t.1, t.2) | .bor => none := rfl
@[simp] theorem q_eva_brw {a0 : _} {a1 : _} {a2 : _} {es : CEs} {D : Den} {S : Slots} : eva D (.cons (.brw a0 a1 a2) es) S = (ev D (.brw a0 a1 a2) S).bind fun q => match q.1.1 with | .own _ => (eva D es q.2).map fun t => (.val q.1.2 :: t.1, t.2) | .bor => none := rfl
@[simp] theorem q_eva_mov {a0 : _} {a1 : _} {a2 : _} {es : CEs} {D : Den} {S : Slots} : eva D (.cons (.mov a0 a1 a2) es) S = (ev D (.mov a0 a1 a2) S).bind fun q => match q.1.1 with | .own _ => (eva D es q.2).map fun t => (.val q.1.2 :: t.1, t.2) | .bor => none := rfl
@[simp] theorem q_eva_pth {a0 : _} {a1 : _} {a2 : _} {a3 : _} {a4 : _} {es : CEs} {D : Den} {S : Slots} : eva D (.cons (.pth a0 a1 a2 a3 a4) es) S = (ev D (.pth a0 a1 a2 a3 a4) S).bind fun q => match q.1.1 with | .own _ => (eva D es q.2).map fun t => (.val q.1.2 :: t.1, t.2) | .bor => none := rfl
@[simp] theorem q_eva_glb {a0 : _} {a1 : _} {es : CEs} {D : Den} {S : Slots} : eva D (.cons (.glb a0 a1) es) S = (ev D (.glb a0 a1) S).bind fun q => match q.1.1 with | .own _ => (eva D es q.2).map fun t => (.val q.1.2 :: t.1, t.2) | .bor => none := rfl
@[simp] theorem q_eva_tup {a0 : _} {a1 : _} {a2 : _} {es : CEs} {D : Den} {S : Slots} : eva D (.cons (.tup a0 a1 a2) es) S = (ev D (.tup a0 a1 a2) S).bind fun q => match q.1.1 with | .own _ => (eva D es q.2).map fun t => (.val q.1.2 :: t.1, t.2) | .bor => none := rfl
@[simp] theorem q_eva_lst {a0 : _} {a1 : _} {es : CEs} {D : Den} {S : Slots} : eva D (.cons (.lst a0 a1) es) S = (ev D (.lst a0 a1) S).bind fun q => match q.1.1 with | .own _ => (eva D es q.2).map fun t => (.val q.1.2 :: t.1, t.2) | .bor => none := rfl
@[simp] theorem q_eva_dic0 {a0 : _} {es : CEs} {D : Den} {S : Slots} : eva D (.cons (.dic0 a0) es) S = (ev D (.dic0 a0) S).bind fun q => match q.1.1 with | .own _ => (eva D es q.2).map fun t => (.val q.1.2 :: t.1, t.2) | .bor => none := rfl
@[simp] theorem q_eva_bin {a0 : _} {a1 : _} {a2 : _} {a3 : _} {es : CEs} {D : Den} {S : Slots} : eva D (.cons (.bin a0 a1 a2 a3) es) S = (ev D (.bin a0 a1 a2 a3) S).bind fun q => match q.1.1 with | .own _ => (eva D es q.2).map fun t => (.val q.1.2 :: t.1, t.2) | .bor => none := rfl
@[simp] theorem q_eva_neg {a0 : _} {a1 : _} {es : CEs} {D : Den} {S : Slots} : eva D (.cons (.neg a0 a1) es) S = (ev D (.neg a0 a1) S).bind fun q => match q.1.1 with | .own _ => (eva D es q.2).map fun t => (.val q.1.2 :: t.1, t.2) | .bor => none := rfl
@[simp] theorem q_eva_nt {a0 : _} {a1 : _} {es : CEs} {D : Den} {S : Slots} : eva D (.cons (.nt a0 a1) es) S = (ev D (.nt a0 a1) S).bind fun q => match q.1.1 with | .own _ => (eva D es q.2).map fun t => (.val q.1.2 :: t.1, t.2) | .bor => none := rfl
@[simp] theorem q_eva_bop {a0 : _} {a1 : _} {a2 : _} {es : CEs} {D : Den} {S : Slots} : eva D (.cons (.bop a0 a1 a2) es) S = (ev D (.bop a0 a1 a2) S).bind fun q => match q.1.1 with | .own _ => (eva D es q.2).map fun t => (.val q.1.2 :: t.1, t.2) | .bor => none := rfl
@[simp] theorem q_eva_cmp {a0 : _} {a1 : _} {a2 : _} {a3 : _} {es : CEs} {D : Den} {S : Slots} : eva D (.cons (.cmp a0 a1 a2 a3) es) S = (ev D (.cmp a0 a1 a2 a3) S).bind fun q => match q.1.1 with | .own _ => (eva D es q.2).map fun t => (.val q.1.2 :: t.1, t.2) | .bor => none := rfl
@[simp] theorem q_eva_chn {a0 : _} {a1 : _} {a2 : _} {a3 : _} {a4 : _} {a5 : _} {es : CEs} {D : Den} {S : Slots} : eva D (.cons (.chn a0 a1 a2 a3 a4 a5) es) S = (ev D (.chn a0 a1 a2 a3 a4 a5) S).bind fun q => match q.1.1 with | .own _ => (eva D es q.2).map fun t => (.val q.1.2 :: t.1, t.2) | .bor => none := rfl
@[simp] theorem q_eva_ifx {a0 : _} {a1 : _} {a2 : _} {a3 : _} {es : CEs} {D : Den} {S : Slots} : eva D (.cons (.ifx a0 a1 a2 a3) es) S = (ev D (.ifx a0 a1 a2 a3) S).bind fun q => match q.1.1 with | .own _ => (eva D es q.2).map fun t => (.val q.1.2 :: t.1, t.2) | .bor => none := rfl
@[simp] theorem q_eva_isi {a0 : _} {a1 : _} {a2 : _} {a3 : _} {a4 : _} {es : CEs} {D : Den} {S : Slots} : eva D (.cons (.isi a0 a1 a2 a3 a4) es) S = (ev D (.isi a0 a1 a2 a3 a4) S).bind fun q => match q.1.1 with | .own _ => (eva D es q.2).map fun t => (.val q.1.2 :: t.1, t.2) | .bor => none := rfl
@[simp] theorem q_eva_blt {a0 : _} {a1 : _} {a2 : _} {a3 : _} {es : CEs} {D : Den} {S : Slots} : eva D (.cons (.blt a0 a1 a2 a3) es) S = (ev D (.blt a0 a1 a2 a3) S).bind fun q => match q.1.1 with | .own _ => (eva D es q.2).map fun t => (.val q.1.2 :: t.1, t.2) | .bor => none := rfl
@[simp] theorem q_eva_call {a0 : _} {a1 : _} {a2 : _} {a3 : _} {a4 : _} {a5 : _} {es : CEs} {D : Den} {S : Slots} : eva D (.cons (.call a0 a1 a2 a3 a4 a5) es) S = (ev D (.call a0 a1 a2 a3 a4 a5) S).bind fun q => match q.1.1 with | .own _ => (eva D es q.2).map fun t => (.val q.1.2 :: t.1, t.2) | .bor => none := rfl
@[simp] theorem q_eva_idx {a0 : _} {a1 : _} {a2 : _} {es : CEs} {D : Den} {S : Slots} : eva D (.cons (.idx a0 a1 a2) es) S = (ev D (.idx a0 a1 a2) S).bind fun q => match q.1.1 with | .own _ => (eva D es q.2).map fun t => (.val q.1.2 :: t.1, t.2) | .bor => none := rfl
@[simp] theorem q_eva_slc {a0 : _} {a1 : _} {a2 : _} {a3 : _} {a4 : _} {es : CEs} {D : Den} {S : Slots} : eva D (.cons (.slc a0 a1 a2 a3 a4) es) S = (ev D (.slc a0 a1 a2 a3 a4) S).bind fun q => match q.1.1 with | .own _ => (eva D es q.2).map fun t => (.val q.1.2 :: t.1, t.2) | .bor => none := rfl
@[simp] theorem q_eva_lc {a0 : _} {a1 : _} {a2 : _} {a3 : _} {a4 : _} {a5 : _} {a6 : _} {es : CEs} {D : Den} {S : Slots} : eva D (.cons (.lc a0 a1 a2 a3 a4 a5 a6) es) S = (ev D (.lc a0 a1 a2 a3 a4 a5 a6) S).bind fun q => match q.1.1 with | .own _ => (eva D es q.2).map fun t => (.val q.1.2 :: t.1, t.2) | .bor => none := rfl
@[simp] theorem q_eva_lc2 {a0 : _} {a1 : _} {a2 : _} {a3 : _} {a4 : _} {a5 : _} {a6 : _} {a7 : _} {a8 : _} {a9 : _} {a10 : _} {es : CEs} {D : Den} {S : Slots} : eva D (.cons (.lc2 a0 a1 a2 a3 a4 a5 a6 a7 a8 a9 a10) es) S = (ev D (.lc2 a0 a1 a2 a3 a4 a5 a6 a7 a8 a9 a10) S).bind fun q => match q.1.1 with | .own _ => (eva D es q.2).map fun t => (.val q.1.2 :: t.1, t.2) | .bor => none := rfl
@[simp] theorem q_eva_popAt {a0 : _} {a1 : _} {a2 : _} {a3 : _} {a4 : _} {a5 : _} {a6 : _} {a7 : _} {es : CEs} {D : Den} {S : Slots} : eva D (.cons (.popAt a0 a1 a2 a3 a4 a5 a6 a7) es) S = (ev D (.popAt a0 a1 a2 a3 a4 a5 a6 a7) S).bind fun q => match q.1.1 with | .own _ => (eva D es q.2).map fun t => (.val q.1.2 :: t.1, t.2) | .bor => none := rfl
@[simp] theorem q_eva_dcm {a0 : _} {a1 : _} {a2 : _} {a3 : _} {a4 : _} {a5 : _} {a6 : _} {a7 : _} {es : CEs} {D : Den} {S : Slots} : eva D (.cons (.dcm a0 a1 a2 a3 a4 a5 a6 a7) es) S = (ev D (.dcm a0 a1 a2 a3 a4 a5 a6 a7) S).bind fun q => match q.1.1 with | .own _ => (eva D es q.2).map fun t => (.val q.1.2 :: t.1, t.2) | .bor => none := rfl
@[simp] theorem q_eva_lrng {a0 : _} {a1 : _} {a2 : _} {a3 : _} {a4 : _} {a5 : _} {es : CEs} {D : Den} {S : Slots} : eva D (.cons (.lrng a0 a1 a2 a3 a4 a5) es) S = (ev D (.lrng a0 a1 a2 a3 a4 a5) S).bind fun q => match q.1.1 with | .own _ => (eva D es q.2).map fun t => (.val q.1.2 :: t.1, t.2) | .bor => none := rfl
@[simp] theorem q_eva_lzip {a0 : _} {a1 : _} {a2 : _} {a3 : _} {a4 : _} {a5 : _} {a6 : _} {a7 : _} {a8 : _} {a9 : _} {es : CEs} {D : Den} {S : Slots} : eva D (.cons (.lzip a0 a1 a2 a3 a4 a5 a6 a7 a8 a9) es) S = (ev D (.lzip a0 a1 a2 a3 a4 a5 a6 a7 a8 a9) S).bind fun q => match q.1.1 with | .own _ => (eva D es q.2).map fun t => (.val q.1.2 :: t.1, t.2) | .bor => none := rfl
@[simp] theorem q_eva_dcp {a0 : _} {a1 : _} {a2 : _} {a3 : _} {es : CEs} {D : Den} {S : Slots} : eva D (.cons (.dcp a0 a1 a2 a3) es) S = (ev D (.dcp a0 a1 a2 a3) S).bind fun q => match q.1.1 with | .own _ => (eva D es q.2).map fun t => (.val q.1.2 :: t.1, t.2) | .bor => none := rfl
@[simp] theorem q_eva_rev {a0 : _} {a1 : _} {a2 : _} {a3 : _} {a4 : _} {a5 : _} {es : CEs} {D : Den} {S : Slots} : eva D (.cons (.rev a0 a1 a2 a3 a4 a5) es) S = (ev D (.rev a0 a1 a2 a3 a4 a5) S).bind fun q => match q.1.1 with | .own _ => (eva D es q.2).map fun t => (.val q.1.2 :: t.1, t.2) | .bor => none := rfl
@[simp] theorem q_eva_ssc {a0 : _} {a1 : _} {a2 : _} {a3 : _} {a4 : _} {a5 : _} {a6 : _} {a7 : _} {a8 : _} {a9 : _} {a10 : _} {a11 : _} {a12 : _} {es : CEs} {D : Den} {S : Slots} : eva D (.cons (.ssc a0 a1 a2 a3 a4 a5 a6 a7 a8 a9 a10 a11 a12) es) S = (ev D (.ssc a0 a1 a2 a3 a4 a5 a6 a7 a8 a9 a10 a11 a12) S).bind fun q => match q.1.1 with | .own _ => (eva D es q.2).map fun t => (.val q.1.2 :: t.1, t.2) | .bor => none := rfl
@[simp] theorem q_eva_dsp {a0 : _} {a1 : _} {es : CEs} {D : Den} {S : Slots} : eva D (.cons (.dsp a0 a1) es) S = (ev D (.dsp a0 a1) S).bind fun q => match q.1.1 with | .own _ => (eva D es q.2).map fun t => (.val q.1.2 :: t.1, t.2) | .bor => none := rfl
@[simp] theorem q_eva_plc {a0 : _} {es : CEs} {D : Den} {S : Slots} : eva D (.cons (.plc a0) es) S = (ev D (.plc a0) S).bind fun q => match q.1.1 with | .own _ => (eva D es q.2).map fun t => (.val q.1.2 :: t.1, t.2) | .bor => none := rfl
@[simp] theorem q_eva_mxd {a0 : _} {a1 : _} {a2 : _} {a3 : _} {a4 : _} {es : CEs} {D : Den} {S : Slots} : eva D (.cons (.mxd a0 a1 a2 a3 a4) es) S = (ev D (.mxd a0 a1 a2 a3 a4) S).bind fun q => match q.1.1 with | .own _ => (eva D es q.2).map fun t => (.val q.1.2 :: t.1, t.2) | .bor => none := rfl
@[simp] theorem q_eva_den {a0 : _} {a1 : _} {a2 : _} {a3 : _} {a4 : _} {es : CEs} {D : Den} {S : Slots} : eva D (.cons (.den a0 a1 a2 a3 a4) es) S = (ev D (.den a0 a1 a2 a3 a4) S).bind fun q => match q.1.1 with | .own _ => (eva D es q.2).map fun t => (.val q.1.2 :: t.1, t.2) | .bor => none := rfl
@[simp] theorem q_eva_tvl {a0 : _} {a1 : _} {a2 : _} {a3 : _} {a4 : _} {es : CEs} {D : Den} {S : Slots} : eva D (.cons (.tvl a0 a1 a2 a3 a4) es) S = (ev D (.tvl a0 a1 a2 a3 a4) S).bind fun q => match q.1.1 with | .own _ => (eva D es q.2).map fun t => (.val q.1.2 :: t.1, t.2) | .bor => none := rfl
@[simp] theorem q_eva_sme {a0 : _} {a1 : _} {a2 : _} {es : CEs} {D : Den} {S : Slots} : eva D (.cons (.sme a0 a1 a2) es) S = (ev D (.sme a0 a1 a2) S).bind fun q => match q.1.1 with | .own _ => (eva D es q.2).map fun t => (.val q.1.2 :: t.1, t.2) | .bor => none := rfl
@[simp] theorem q_evb_1 {o e : _} {D : Den} {S : Slots} : evb D o (.cons e .nil) S = ev D e S := rfl
@[simp] theorem q_evb_2 {e e2 es : _} {D : Den} {S : Slots} : evb D .And (.cons e (.cons e2 es)) S = (ev D e S).bind fun q => (truV q.1.2).bind fun b => bif b then evb D .And (.cons e2 es) q.2 else some q := rfl
@[simp] theorem q_evb_3 {e e2 es : _} {D : Den} {S : Slots} : evb D .Or (.cons e (.cons e2 es)) S = (ev D e S).bind fun q => (truV q.1.2).bind fun b => bif b then some q else evb D .Or (.cons e2 es) q.2 := rfl
@[simp] theorem q_evts_0 {D : Den} {S : Slots} : evts D .nil S = some (true, S) := rfl
@[simp] theorem q_evts_1 {e : _} {D : Den} {S : Slots} : evts D (.cons e .nil) S = tst (ev D e S) := rfl
@[simp] theorem q_tst {r : Res} {S : Slots} : tst (some (r, S)) = (truV r.2).map fun b => (b, S) := rfl
@[simp] theorem q_tst0 : tst none = none := rfl
@[simp] theorem q_gd1 {a : Type} {o : Option a} : gd true o = o := rfl
@[simp] theorem q_gd0 {a : Type} {o : Option a} : gd false o = none := rfl
@[simp] theorem q_set1 {i x p v : _} {S : Slots} : (CT.name i x p).set v S = some (S.set i (some (0, v))) := rfl
@[simp] theorem q_set2 {ts k p xs : _} {S : Slots} : (CT.tup ts k p).set (.tup xs) S = ts.set xs S := rfl
@[simp] theorem q_set3 {ts k p xs : _} {S : Slots} : (CT.tup ts k p).set (.lst xs) S = ts.set xs S := rfl
@[simp] theorem q_sets0 {S : Slots} : CTs.nil.set [] S = some S := rfl
@[simp] theorem q_sets1 {t ts x xs : _} {S : Slots} : (CTs.cons t ts).set (x :: xs) S = (t.set x S).bind fun S1 => ts.set xs S1 := rfl
@[simp] theorem q_compL0 {f : Val → Slots → Option (List Val × Slots)} {S : Slots} : compL f [] S = some ([], S) := rfl
@[simp] theorem q_forL0 {f : Val → Slots → Option Out} {S : Slots} : forL f [] S = some (.nx S) := rfl
theorem q_compL1 {f : Val → Slots → Option (List Val × Slots)} {v : Val} {vs : List Val} {S : Slots} : compL f (v :: vs) S = (f v S).bind fun q => (compL f vs q.2).map fun t => (q.1 ++ t.1, t.2) := rfl
@[simp] theorem q_wipe0 {S : Slots} : wipeS S [] = S := rfl
@[simp] theorem q_wipe1 {S : Slots} {v : Nat} {vs : List Nat} : wipeS S (v :: vs) = (wipeS S vs).set v none := rfl
@[simp] theorem q_arr0 {a : Type} {as bs ds : List a} : arrange as bs ds [] = some [] := rfl
@[simp] theorem q_arr1 {a : Type} {as bs ds : List a} {i r : _} : arrange as bs ds (.pos i :: r) = as[i]?.bind fun a => (arrange as bs ds r).map (a :: ·) := rfl
@[simp] theorem q_arr2 {a : Type} {as bs ds : List a} {i r : _} : arrange as bs ds (.kw i :: r) = bs[i]?.bind fun a => (arrange as bs ds r).map (a :: ·) := rfl
@[simp] theorem q_arr3 {a : Type} {as bs ds : List a} {i r : _} : arrange as bs ds (.dfl i :: r) = ds[i]?.bind fun a => (arrange as bs ds r).map (a :: ·) := rfl
@[simp] theorem q_argR0 {S : Slots} {i : Nat} : argR S (.byRef i) = match S[i]? with
    | some (some r) => some r
    | _ => none := rfl
@[simp] theorem q_argR1 {S : Slots} {v : Val} : argR S (.val v) = some (0, v) := rfl
@[simp] theorem q_argRs0 {S : Slots} : argRs S [] = some [] := rfl
@[simp] theorem q_argRs1 {S : Slots} {a r : _} : argRs S (a :: r) = (argR S a).bind fun x => (argRs S r).map (x :: ·) := rfl
@[simp] theorem q_back0 {S fin : Slots} : backS S [] fin = some S := rfl
@[simp] theorem q_back1 {S fin : Slots} {v r : _} : backS S (.val v :: r) fin = backS S r (fin.drop 1) := rfl
@[simp] theorem q_back2 {S fin : Slots} {i r : _} : backS S (.byRef i :: r) fin = match fin[0]? with
    | some (some x) => backS (S.set i (some x)) r (fin.drop 1)
    | _ => none := rfl
@[simp] theorem q_refs0 : refsOf [] = [] := rfl
@[simp] theorem q_refs1 {v r : _} : refsOf (.val v :: r) = refsOf r := rfl
@[simp] theorem q_refs2 {i r : _} : refsOf (.byRef i :: r) = i :: refsOf r := rfl
@[simp] theorem q_lets1 {d b : _} : (Mode.own d).lets b = true := rfl
@[simp] theorem q_lets2 {b : _} : Mode.bor.lets b = b := rfl
@[simp] theorem q_outc1 {d : Df} {r S : _} : d.outc (some (.rt r S)) = some (r, backP d.B 0 d.ps.length S) := rfl
@[simp] theorem q_outc2 {d : Df} {S : _} : d.outc (some (.nx S)) = some ((0, .non), backP d.B 0 d.ps.length S) := rfl
@[simp] theorem q_backP0 {B i S : _} : backP B i 0 S = [] := rfl
@[simp] theorem q_backP1 {B i n p S : _} : backP B i (n + 1) (p :: S) = (bif B.contains i then p else none) :: backP B (i + 1) n S := rfl
@[simp] theorem q_cst0 : cstV .none = some .non := rfl
@[simp] theorem q_cst1 {b : _} : cstV (.bool b) = some (.bl b) := rfl
@[simp] theorem q_cst2 {b : _} : cstV (.int b) = some (.int b) := rfl
@[simp] theorem q_cst3 {b : _} : cstV (.str b) = some (.str b) := rfl
@[simp] theorem q_add {i j : Int} : binV .Add (.int i) (.int j) = some (0, .int (i + j)) := rfl
@[simp] theorem q_sub {i j : Int} : binV .Sub (.int i) (.int j) = some (0, .int (i - j)) := rfl
@[simp] theorem q_mul_r {i j : Int} (h : -18446744073709551616 < j ∧ j < 18446744073709551616) : binV .Mult (.int i) (.int j) = some (0, .int (i * j)) := by
  show gd (decide ((-(2 ^ 64) < i ∧ i < 2 ^ 64) ∨ (-(2 ^ 64) < j ∧ j < 2 ^ 64))) _ = _
  rw [decide_eq_true (by omega)]; rfl
@[simp] theorem q_mul_l {i j : Int} (h : -18446744073709551616 < i ∧ i < 18446744073709551616) : binV .Mult (.int i) (.int j) = some (0, .int (i * j)) := by
  show gd (decide ((-(2 ^ 64) < i ∧ i < 2 ^ 64) ∨ (-(2 ^ 64) < j ∧ j < 2 ^ 64))) _ = _
  rw [decide_eq_true (by omega)]; rfl
@[simp] theorem q_mod {i j : Int} (h : 0 < j) : binV .Mod (.int i) (.int j) = some (0, .int (i % j)) := by
  show gd (decide (0 < j)) _ = _
  rw [decide_eq_true h]; rfl
@[simp] theorem q_div {i j : Int} (h : 0 < j ∧ j < 1073741824) : binV .FloorDiv (.int i) (.int j) = some (0, .int (i / j)) := by
  show gd (decide (0 < j ∧ j < 1073741824)) _ = _
  rw [decide_eq_true h]; rfl
@[simp] theorem q_pow {i j : Int} (h : 0 ≤ j ∧ j ≤ 1000000 ∧ -18446744073709551616 < i ∧ i < 18446744073709551616) : binV .Pow (.int i) (.int j) = some (0, .int (i ^ j.toNat)) := by
  show gd (decide (0 ≤ j ∧ j ≤ 1000000 ∧ i.natAbs < 2 ^ 64)) _ = _
  rw [decide_eq_true (by omega)]; rfl
@[simp] theorem q_addS {a b : Str} : binV .Add (.str a) (.str b) = gd (fitsLine (a.length + b.length)) (some (0, .str (a ++ b))) := rfl
@[simp] theorem q_addL {xs ys : List Val} : binV .Add (.lst xs) (.lst ys) = gd (fitsLine (xs.length + ys.length)) (some (1, .lst (xs ++ ys))) := rfl
@[simp] theorem q_addT {xs ys : List Val} : binV .Add (.tup xs) (.tup ys) = gd (fitsLine (xs.length + ys.length)) (some (0, .tup (xs ++ ys))) := rfl
@[simp] theorem q_mulL {xs : List Val} {k : Int} (h : -100000 ≤ k ∧ k ≤ 100000 ∧ xs.length * k.toNat ≤ 100000) : binV .Mult (.lst xs) (.int k) = some (1, .lst (flatRep k xs)) := by
  show gd (decide (-(2 ^ 63) ≤ k ∧ k < 2 ^ 63 ∧ xs.length * k.toNat ≤ sizeLine)) _ = _
  rw [decide_eq_true ⟨by omega, by omega, Nat.le_trans h.2.2 (by decide)⟩]; rfl
@[simp] theorem q_mulT {xs : List Val} {k : Int} (h : -100000 ≤ k ∧ k ≤ 100000 ∧ xs.length ≤ 100) : binV .Mult (.tup xs) (.int k) = some (0, .tup (flatRep k xs)) := by
  show gd (decide (k ≤ 100000 ∧ -100000 ≤ k ∧ xs.length ≤ 100)) _ = _
  rw [decide_eq_true (by omega)]; rfl
@[simp] theorem q_fits {n : Nat} (h : n ≤ 100000) : fitsLine n = true := decide_eq_true (Nat.le_trans h (by decide))
@[simp] theorem q_in {a b : Val} : cmpV .In a b = inS a b := rfl
@[simp] theorem q_nin {a b : Val} : cmpV .NotIn a b = (inS a b).map (!·) := rfl
@[simp] theorem q_lt {i j : Int} : cmpV .Lt (.int i) (.int j) = some (decide (i < j)) := rfl
@[simp] theorem q_le {i j : Int} : cmpV .LtE (.int i) (.int j) = some (decide (i ≤ j)) := rfl
@[simp] theorem q_gt {i j : Int} : cmpV .Gt (.int i) (.int j) = some (decide (j < i)) := rfl
@[simp] theorem q_ge {i j : Int} : cmpV .GtE (.int i) (.int j) = some (decide (j ≤ i)) := rfl
@[simp] theorem q_eq {a b : Val} : cmpV .Eq a b = eqS a b := rfl
@[simp] theorem q_ne {a b : Val} : cmpV .NotEq a b = (eqS a b).map (!·) := rfl
@[simp] theorem q_eqI {i j : Int} : eqS (.int i) (.int j) = some (decide (i = j)) := rfl
@[simp] theorem q_eqStr {i j : Str} : eqS (.str i) (.str j) = some (decide (i = j)) := rfl
@[simp] theorem q_eqB {i j : Bool} : eqS (.bl i) (.bl j) = some (decide (i = j)) := rfl
@[simp] theorem q_is0 : cmpV .Is .non .non = some true := rfl
@[simp] theorem q_isB {a b : Bool} : cmpV .Is (.bl a) (.bl b) = some (decide (a = b)) := rfl
@[simp] theorem q_isn0 : cmpV .IsNot .non .non = some false := rfl
@[simp] theorem q_isnB {a b : Bool} : cmpV .IsNot (.bl a) (.bl b) = some (!decide (a = b)) := rfl
@[simp] theorem q_tru0 : truV .non = some false := rfl
@[simp] theorem q_tru1 {b : _} : truV (.bl b) = some b := rfl
@[simp] theorem q_tru2 {i : Int} : truV (.int i) = some (i != 0) := rfl
@[simp] theorem q_tru3 {xs : _} : truV (.lst xs) = some (!xs.isEmpty) := rfl
@[simp] theorem q_tru4 {xs : _} : truV (.tup xs) = some (!xs.isEmpty) := rfl
@[simp] theorem q_tru5 {xs : _} : truV (.dic xs) = some (!xs.isEmpty) := rfl
@[simp] theorem q_len1 {xs : _} : bltV .len [.lst xs] = some (0, .int xs.length) := rfl
@[simp] theorem q_len2 {xs : _} : bltV .len [.tup xs] = some (0, .int xs.length) := rfl
@[simp] theorem q_len3 {s : Str} : bltV .len [.str s] = gd (fitsLine s.length) (some (0, .int s.length)) := rfl
@[simp] theorem q_repr {v : _} : bltV .repr [v] = (reprV v).map fun s => (0, .str s) := rfl
@[simp] theorem q_all {xs : _} : bltV .all [.lst xs] = (boolsOf xs).map fun bs => (0, .bl (bs.all id)) := rfl
@[simp] theorem q_any {xs : _} : bltV .any [.lst xs] = (boolsOf xs).map fun bs => (0, .bl (bs.any id)) := rfl
@[simp] theorem q_sum {xs : _} : bltV .sum [.lst xs] = (intsOf xs).map fun bs => (0, .int bs.sum) := rfl
@[simp] theorem q_sorted {xs : _} : bltV .sorted [.lst xs] = (intsOf xs).map fun l => (1, .lst ((sortI l).map .int)) := rfl
@[simp] theorem q_tuple1 {xs : _} : bltV .tuple [.lst xs] = some (0, .tup xs) := rfl
@[simp] theorem q_tuple2 {xs : _} : bltV .tuple [.tup xs] = some (0, .tup xs) := rfl
@[simp] theorem q_list1 {xs : _} : bltV .list [.lst xs] = some (1, .lst xs) := rfl
@[simp] theorem q_list2 {xs : _} : bltV .list [.tup xs] = some (1, .lst xs) := rfl
@[simp] theorem q_min {i j : Int} : bltV .min2 [.int i, .int j] = some (0, .int (if j < i then j else i)) := rfl
@[simp] theorem q_max {i j : Int} : bltV .max2 [.int i, .int j] = some (0, .int (if j > i then j else i)) := rfl
@[simp] theorem q_int1 {i : Int} : bltV .int [.int i] = some (0, .int i) := rfl
@[simp] theorem q_abs {i : Int} : bltV .abs [.int i] = some (0, .int (if i < 0 then -i else i)) := rfl
@[simp] theorem q_get1 {xs : _} {i : Int} : getV (.lst xs) (.int i) = (ixN xs.length i).bind fun j => xs[j]? := rfl
@[simp] theorem q_get2 {xs : _} {i : Int} : getV (.tup xs) (.int i) = (ixN xs.length i).bind fun j => xs[j]? := rfl
@[simp] theorem q_gets1 {xs : _} {i : Int} : getS (.lst xs) (.int i) = (ixN xs.length i).bind fun j => xs[j]? := rfl
@[simp] theorem q_gets2 {xs : _} {i : Int} : getS (.tup xs) (.int i) = (ixN xs.length i).bind fun j => xs[j]? := rfl
@[simp] theorem q_get3 {kvs k : _} : getV (.dic kvs) k = (keyOf k).bind fun q => (kvs.find? fun z => decide (z.1 = q)).map (·.2) := by cases k <;> rfl
@[simp] theorem q_key1 {i : _} : keyOf (.int i) = some (.inl i) := rfl
@[simp] theorem q_key2 {i : _} : keyOf (.str i) = some (.inr i) := rfl
@[simp] theorem q_inStr {i j : Str} : inS (.str i) (.str j) = some (!(Builtin.Str.occurrences j i 0 j.length 1).isEmpty) := rfl
@[simp] theorem q_inD {x kvs : _} : inS x (.dic kvs) = (keyOf x).map fun k => kvs.any fun q => decide (q.1 = k) := by cases x <;> rfl
@[simp] theorem q_slc1 {xs lo hi : _} : slcV (.lst xs) lo hi = some (1, .lst (cutL xs lo hi)) := rfl
@[simp] theorem q_slc2 {xs lo hi : _} : slcV (.tup xs) lo hi = some (0, .tup (cutL xs lo hi)) := rfl
@[simp] theorem q_items1 {xs : _} : itemsV (.lst xs) = some xs := rfl
@[simp] theorem q_items2 {xs : _} : itemsV (.tup xs) = some xs := rfl
@[simp] theorem q_items3 {s : _} : itemsV (.str s) = some (signs s) := rfl
@[simp] theorem q_flat1 {i : _} : (Val.int i).flat = true := rfl
@[simp] theorem q_flat2 {i : _} : (Val.str i).flat = true := rfl
@[simp] theorem q_flat3 {i : _} : (Val.bl i).flat = true := rfl
@[simp] theorem q_flat4 : Val.non.flat = true := rfl
@[simp] theorem q_flat5 {i : _} : (Val.tup i).flat = true := rfl
@[simp] theorem q_flat6 {i : _} : (Val.lst i).flat = false := rfl
@[simp] theorem q_flat7 {i : _} : (Val.dic i).flat = false := rfl
@[simp] theorem q_inner1 {i : _} : (Val.lst i).inner = i.all Val.flat := rfl
@[simp] theorem q_inner2 {i : _} : (Val.int i).inner = true := rfl
@[simp] theorem q_inner3 {i : _} : (Val.str i).inner = true := rfl
@[simp] theorem q_inner4 {i : _} : (Val.bl i).inner = true := rfl
@[simp] theorem q_inner5 {i : _} : (Val.tup i).inner = true := rfl
@[simp] theorem q_inner6 : Val.non.inner = true := rfl
@[simp] theorem q_isi1 {v : _} : isiV v .int = match v with | .int _ => true | .bl _ => true | _ => false := by cases v <;> rfl
@[simp] theorem q_isi2 {v : _} : isiV v .bool = match v with | .bl _ => true | _ => false := by cases v <;> rfl
@[simp] theorem q_isi3 {v : _} : isiV v .str = match v with | .str _ => true | _ => false := by cases v <;> rfl
@[simp] theorem q_isi4 {v : _} : isiV v .tuple = match v with | .tup _ => true | _ => false := by cases v <;> rfl
@[simp] theorem q_isi5 {v : _} : isiV v .list = match v with | .lst _ => true | _ => false := by cases v <;> rfl
@[simp] theorem q_isi6 {v : _} : isiV v .dict = match v with | .dic _ => true | _ => false := by cases v <;> rfl
@[simp] theorem q_bools0 : boolsOf [] = some [] := rfl
@[simp] theorem q_bools1 {b r : _} : boolsOf (.bl b :: r) = (boolsOf r).map (b :: ·) := rfl
@[simp] theorem q_ints0 : intsOf [] = some [] := rfl
@[simp] theorem q_ints1 {b r : _} : intsOf (.int b :: r) = (intsOf r).map (b :: ·) := rfl

@[simp] theorem q_pure_cst {a0 : _} {a1 : _} {a2 : _} : (CE.cst a0 a1 a2).pure = true := rfl
@[simp] theorem q_pure_var {a0 : _} {a1 : _} {a2 : _} : (CE.var a0 a1 a2).pure = true := rfl
@[simp] theorem q_pure_brw {a0 : _} {a1 : _} {a2 : _} : (CE.brw a0 a1 a2).pure = true := rfl
@[simp] theorem q_pure_mov {a0 : _} {a1 : _} {a2 : _} : (CE.mov a0 a1 a2).pure = true := rfl
@[simp] theorem q_pure_ref {a0 : _} {a1 : _} {a2 : _} : (CE.ref a0 a1 a2).pure = false := rfl
@[simp] theorem q_pure_glb {a0 : _} {a1 : _} : (CE.glb a0 a1).pure = true := rfl
@[simp] theorem q_pure_dic0 {a0 : _} : (CE.dic0 a0).pure = true := rfl
@[simp] theorem q_pure_popAt {a0 : _} {a1 : _} {a2 : _} {a3 : _} {a4 : _} {a5 : _} {a6 : _} {a7 : _} : (CE.popAt a0 a1 a2 a3 a4 a5 a6 a7).pure = false := rfl
@[simp] theorem q_pure_pth {a0 : _} {a1 : _} {a2 : _} {a3 : _} {a4 : _} : (CE.pth a0 a1 a2 a3 a4).pure = a3.pure := rfl
@[simp] theorem q_pure_tup {a0 : _} {a1 : _} {a2 : _} : (CE.tup a0 a1 a2).pure = a0.pure := rfl
@[simp] theorem q_pure_lst {a0 : _} {a1 : _} : (CE.lst a0 a1).pure = a0.pure := rfl
@[simp] theorem q_pure_bin {a0 : _} {a1 : _} {a2 : _} {a3 : _} : (CE.bin a0 a1 a2 a3).pure = (a1.pure && a2.pure) := rfl
@[simp] theorem q_pure_neg {a0 : _} {a1 : _} : (CE.neg a0 a1).pure = a0.pure := rfl
@[simp] theorem q_pure_nt {a0 : _} {a1 : _} : (CE.nt a0 a1).pure = a0.pure := rfl
@[simp] theorem q_pure_bop {a0 : _} {a1 : _} {a2 : _} : (CE.bop a0 a1 a2).pure = a1.pure := rfl
@[simp] theorem q_pure_cmp {a0 : _} {a1 : _} {a2 : _} {a3 : _} : (CE.cmp a0 a1 a2 a3).pure = (a1.pure && a2.pure) := rfl
@[simp] theorem q_pure_chn {a0 : _} {a1 : _} {a2 : _} {a3 : _} {a4 : _} {a5 : _} : (CE.chn a0 a1 a2 a3 a4 a5).pure = (a2.pure && a3.pure && a4.pure) := rfl
@[simp] theorem q_pure_ifx {a0 : _} {a1 : _} {a2 : _} {a3 : _} : (CE.ifx a0 a1 a2 a3).pure = (a0.pure && a1.pure && a2.pure) := rfl
@[simp] theorem q_pure_isi {a0 : _} {a1 : _} {a2 : _} {a3 : _} {a4 : _} : (CE.isi a0 a1 a2 a3 a4).pure = a0.pure := rfl
@[simp] theorem q_pure_blt {a0 : _} {a1 : _} {a2 : _} {a3 : _} : (CE.blt a0 a1 a2 a3).pure = a2.pure := rfl
@[simp] theorem q_pure_call {a0 : _} {a1 : _} {a2 : _} {a3 : _} {a4 : _} {a5 : _} : (CE.call a0 a1 a2 a3 a4 a5).pure = (a3.pure && a4.pure) := rfl
@[simp] theorem q_pure_idx {a0 : _} {a1 : _} {a2 : _} : (CE.idx a0 a1 a2).pure = (a0.pure && a1.pure) := rfl
@[simp] theorem q_pure_slc {a0 : _} {a1 : _} {a2 : _} {a3 : _} {a4 : _} : (CE.slc a0 a1 a2 a3 a4).pure = (a0.pure && a1.pure && a2.pure) := rfl
@[simp] theorem q_pure_lc {a0 : _} {a1 : _} {a2 : _} {a3 : _} {a4 : _} {a5 : _} {a6 : _} : (CE.lc a0 a1 a2 a3 a4 a5 a6).pure = (a0.pure && a2.pure && a3.pure) := rfl
@[simp] theorem q_pure_lc2 {a0 : _} {a1 : _} {a2 : _} {a3 : _} {a4 : _} {a5 : _} {a6 : _} {a7 : _} {a8 : _} {a9 : _} {a10 : _} : (CE.lc2 a0 a1 a2 a3 a4 a5 a6 a7 a8 a9 a10).pure = (a0.pure && a2.pure && a3.pure && a5.pure && a6.pure) := rfl
@[simp] theorem q_pure_dcm {a0 : _} {a1 : _} {a2 : _} {a3 : _} {a4 : _} {a5 : _} {a6 : _} {a7 : _} : (CE.dcm a0 a1 a2 a3 a4 a5 a6 a7).pure = (a0.pure && a1.pure && a3.pure && a4.pure) := rfl
@[simp] theorem q_pure_lrng {a0 : _} {a1 : _} {a2 : _} {a3 : _} {a4 : _} {a5 : _} : (CE.lrng a0 a1 a2 a3 a4 a5).pure = (a2.pure && a3.pure) := rfl
@[simp] theorem q_pure_lzip {a0 : _} {a1 : _} {a2 : _} {a3 : _} {a4 : _} {a5 : _} {a6 : _} {a7 : _} {a8 : _} {a9 : _} : (CE.lzip a0 a1 a2 a3 a4 a5 a6 a7 a8 a9).pure = (a3.pure && a4.pure) := rfl
@[simp] theorem q_pure_dcp {a0 : _} {a1 : _} {a2 : _} {a3 : _} : (CE.dcp a0 a1 a2 a3).pure = true := rfl
@[simp] theorem q_pure_rev {a0 : _} {a1 : _} {a2 : _} {a3 : _} {a4 : _} {a5 : _} : (CE.rev a0 a1 a2 a3 a4 a5).pure = a0.pure := rfl
@[simp] theorem q_pure_ssc {a0 : _} {a1 : _} {a2 : _} {a3 : _} {a4 : _} {a5 : _} {a6 : _} {a7 : _} {a8 : _} {a9 : _} {a10 : _} {a11 : _} {a12 : _} : (CE.ssc a0 a1 a2 a3 a4 a5 a6 a7 a8 a9 a10 a11 a12).pure = (a1.pure && a3.pure && a4.pure && a6.pure && a7.pure) := rfl
@[simp] theorem q_pure_dsp {a0 : _} {a1 : _} : (CE.dsp a0 a1).pure = a0.pure := rfl
@[simp] theorem q_pure_plc {a0 : _} : (CE.plc a0).pure = a0.pure := rfl
@[simp] theorem q_pure_mxd {a0 : _} {a1 : _} {a2 : _} {a3 : _} {a4 : _} : (CE.mxd a0 a1 a2 a3 a4).pure = (a1.pure && a2.pure) := rfl
@[simp] theorem q_pure_den {a0 : _} {a1 : _} {a2 : _} {a3 : _} {a4 : _} : (CE.den a0 a1 a2 a3 a4).pure = a2.pure := rfl
@[simp] theorem q_pure_tvl {a0 : _} {a1 : _} {a2 : _} {a3 : _} {a4 : _} : (CE.tvl a0 a1 a2 a3 a4).pure = a1.pure := rfl
@[simp] theorem q_pure_sme {a0 : _} {a1 : _} {a2 : _} : (CE.sme a0 a1 a2).pure = a1.pure := rfl
@[simp] theorem q_pures0 : CEs.nil.pure = true := rfl
@[simp] theorem q_pures1 {e es : _} : (CEs.cons e es).pure = (e.pure && es.pure) := rfl
@[simp] theorem q_purek0 : CKs.nil.pure = true := rfl
@[simp] theorem q_purek1 {x e p es : _} : (CKs.cons x e p es).pure = (e.pure && es.pure) := rfl
@[simp] theorem q_pureo0 : CO.no.pure = true := rfl
@[simp] theorem q_pureo1 {e : _} : (CO.is e).pure = e.pure := rfl
@[simp] theorem q_purei0 {e : _} : (CI.seq e).pure = e.pure := rfl
@[simp] theorem q_purei1 {np a p : _} : (CI.rng1 np a p).pure = a.pure := rfl
@[simp] theorem q_purei2 {np a b p : _} : (CI.rng2 np a b p).pure = (a.pure && b.pure) := rfl
@[simp] theorem q_purei3 {np a p : _} : (CI.enum np a p).pure = a.pure := rfl
@[simp] theorem q_purei4 {np a b p : _} : (CI.zip np a b p).pure = (a.pure && b.pure) := rfl
@[simp] theorem q_getC1 {xs : List Val} {i : Int} : getC (.lst xs) (.int i) = (ixN xs.length i).bind fun j => xs[j]? := rfl
@[simp] theorem q_getC2 {kvs : List (Key × Val)} {k : Val} : getC (.dic kvs) k = (keyOf k).bind fun q => (kvs.find? fun z => decide (z.1 = q)).map (·.2) := by cases k <;> rfl
@[simp] theorem q_getP0 {v : Val} : getP v [] = some v := rfl
@[simp] theorem q_getP1 {v k : Val} {r : List Val} : getP v (k :: r) = (getC v k).bind fun u => getP u r := rfl
@[simp] theorem q_setP0 {v w : Val} : setP v [] w = w := rfl
@[simp] theorem q_setP1 {v k w : Val} {r : List Val} : setP v (k :: r) w = match getC v k with
    | some u => setC v k (setP u r w)
    | none => v := rfl
@[simp] theorem q_setC1 {xs : List Val} {m : Int} {u : Val} : setC (.lst xs) (.int m) u = match ixN xs.length m with
      | some n => .lst (xs.set n u)
      | none => .lst xs := rfl
@[simp] theorem q_setC2 {kvs : List (Key × Val)} {m : Int} {u : Val} : setC (.dic kvs) (.int m) u = .dic (putF kvs (.inl m) u) := rfl
@[simp] theorem q_setC3 {kvs : List (Key × Val)} {m : Str} {u : Val} : setC (.dic kvs) (.str m) u = .dic (putF kvs (.inr m) u) := rfl
@[simp] theorem q_putF0 {k : Key} {v : Val} : putF [] k v = [] := rfl
theorem q_putF1 {z : Key × Val} {r : List (Key × Val)} {k : Key} {v : Val} : putF (z :: r) k v = bif decide (z.1 = k) then (z.1, v) :: r else z :: putF r k v := rfl
@[simp] theorem q_store1 {d : Nat} {xs : List Val} {m : Int} {r : R} : storeV d (.lst xs) (.int m) r = gd (r.2.flat || d == 0 || r.1 == d) ((ixN xs.length m).map fun n => .lst (xs.set n r.2)) := rfl
@[simp] theorem q_store2 {d : Nat} {kvs : List (Key × Val)} {k : Val} {r : R} : storeV d (.dic kvs) k r = gd (r.2.flat && decide (kvs.length < sizeLine)) ((keyOf k).map fun q => .dic (putD kvs q r.2)) := rfl
@[simp] theorem q_appV {d : Nat} {xs : List Val} {r : R} : appV d (.lst xs) r = gd ((r.2.flat || d == 0 || r.1 == d) && decide (xs.length < sizeLine)) (some (.lst (xs ++ [r.2]))) := rfl
@[simp] theorem q_extV {xs ys : List Val} : extV (.lst xs) (.lst ys) = gd (ys.all Val.flat && decide (xs.length + ys.length ≤ sizeLine)) (some (.lst (xs ++ ys))) := rfl
@[simp] theorem q_ctl0 : CTs.nil.len = 0 := rfl
@[simp] theorem q_ctl1 {t ts : _} : (CTs.cons t ts).len = ts.len + 1 := rfl
@[simp] theorem q_cta0 {us : CTs} : CTs.nil.app us = us := rfl
@[simp] theorem q_cta1 {t ts us : _} : (CTs.cons t ts).app us = .cons t (ts.app us) := rfl
@[simp] theorem q_st1 {a b c : _} : (CE.cst a b c).still = true := rfl
@[simp] theorem q_st2 {a b c : _} : (CE.brw a b c).still = true := rfl
@[simp] theorem q_st3 {o a b p : _} : (CE.bin o a b p).still = (a.still && b.still) := rfl
@[simp] theorem q_st4 {a p : _} : (CE.neg a p).still = a.still := rfl
@[simp] theorem q_purep0 {i x p : _} : (CP.rt i x p).pure = true := rfl
@[simp] theorem q_purep1 {P k p : _} : (CP.sub P k p).pure = (P.pure && k.pure) := rfl
@[simp] theorem q_pured0 : CDs.nil.pure = true := rfl
@[simp] theorem q_pured1 {k kk kp e ds : _} : (CDs.cons k kk kp e ds).pure = (e.pure && ds.pure) := rfl
def callV (D : Den) (f : Nat) (ar : List Src) (dv : List Val) (es : CEs) (ks : CKs) (S : Slots) : Option (Res × Slots) :=
  (eva D es S).bind fun q => (evk D ks q.2).bind fun t => (arrange q.1 t.1 (dv.map .val) ar).bind fun as => (argRs t.2 as).bind fun rs => gd (decide (refsOf as).Nodup) ((D.fn f rs).bind fun w => (backS (wipeS t.2 (refsOf as)) as w.2).map fun S' => ((.own w.1.1, w.1.2), S'))
theorem ev_call {D : Den} {c x np es ks p S : _} {sh : CallSh} (h : D.calls[c]? = some sh) : ev D (.call c x np es ks p) S = callV D sh.f sh.ar sh.dv es ks S := by
  show D.calls[c]?.bind _ = _
  rw [h]
  rfl
end BV
/-! Facts of plain data: places, equality, repr. -/
namespace BV
open PySem PySem.Spec PyProof.Rows L2
@[simp] theorem q_fit {d : Nat} {r : R} : fitsIn d r = (r.2.flat || d == 0 || r.1 == d) := rfl
theorem ix_in {n : Nat} {i : Int} (h0 : 0 ≤ i) (h1 : i < n) : ixN n i = some i.toNat := by
  unfold ixN
  rw [if_pos h0, if_pos h1]
theorem ix_back {n : Nat} {i : Int} (h0 : i < 0) (h1 : -(n : Int) ≤ i) : ixN n i = some (i + n).toNat := by
  unfold ixN
  rw [if_neg (by omega), if_pos h1]
@[simp] theorem ix_lit0 {n : Nat} (h : 0 < n) : ixN n 0 = some 0 := ix_in (by decide) (by omega)
@[simp] theorem ix_lit2 {n : Nat} (h : 2 < n) : ixN n 2 = some 2 := ix_in (by decide) (by omega)
@[simp] theorem ix_lit3 {n : Nat} (h : 3 < n) : ixN n 3 = some 3 := ix_in (by decide) (by omega)
@[simp] theorem ix_lit4 {n : Nat} (h : 4 < n) : ixN n 4 = some 4 := ix_in (by decide) (by omega)
@[simp] theorem ix_lit5 {n : Nat} (h : 5 < n) : ixN n 5 = some 5 := ix_in (by decide) (by omega)
@[simp] theorem ix_lit6 {n : Nat} (h : 6 < n) : ixN n 6 = some 6 := ix_in (by decide) (by omega)
@[simp] theorem ix_lit7 {n : Nat} (h : 7 < n) : ixN n 7 = some 7 := ix_in (by decide) (by omega)
@[simp] theorem ix_lit8 {n : Nat} (h : 8 < n) : ixN n 8 = some 8 := ix_in (by decide) (by omega)
@[simp] theorem ix_lit9 {n : Nat} (h : 9 < n) : ixN n 9 = some 9 := ix_in (by decide) (by omega)
@[simp] theorem ix_lit1 {n : Nat} (h : 1 < n) : ixN n 1 = some 1 := ix_in (by decide) (by omega)
/-! ### equality -/
theorem eqv_ints : ∀ (l m : List Int), PyData.eqvAll (toDs (l.map .int)) (toDs (m.map .int)) = decide (l = m)
  | [], [] => rfl
  | [], _ :: _ => rfl
  | _ :: _, [] => rfl
  | a :: l, b :: m => by
    show (a == b && PyData.eqvAll (toDs (l.map .int)) (toDs (m.map .int))) = _
    rw [eqv_ints l m]
    by_cases h : a = b <;> simp [h]
theorem shaped_ints (l : List Int) : SeqAt.shaped (Val.lst (l.map .int)).toD = true := by
  have a : ∀ l : List Int, PyData.canLayAll0 (toDs (l.map .int)) = true ∧ PyData.depthAll (toDs (l.map .int)) = 0 := by
    intro l
    induction l with
    | nil => exact ⟨by simp [toDs, PyData.canLayAll0], by simp [toDs, PyData.depthAll]⟩
    | cons i l ih => exact ⟨by simp [toDs, Val.toD, PyData.canLayAll0, PyData.canLay0, ih.1], by simp [toDs, Val.toD, PyData.depthAll, PyData.depth, ih.2]⟩
  obtain ⟨h1, h2⟩ := a l
  unfold SeqAt.shaped
  simp [Val.toD, PyData.canLay0, PyData.depth, h1, h2]
theorem eqS_lst (xs ys : List Val) : eqS (.lst xs) (.lst ys) = bif xs.length != ys.length then some false else eqV (.lst xs) (.lst ys) := by
  show ((bif xs.length != ys.length then some false else none : Option Bool).orElse fun _ => eqV (.lst xs) (.lst ys)) = _
  cases xs.length != ys.length <;> rfl
theorem eq_ints (l m : List Int) : eqS (.lst (l.map .int)) (.lst (m.map .int)) = some (decide (l = m)) := by
  rw [eqS_lst]
  cases h : ((l.map Val.int).length != (m.map Val.int).length) with
  | true =>
    have : l ≠ m := fun e => by rw [e] at h; simp at h
    simp [this]
  | false =>
    show eqV _ _ = _
    unfold eqV
    rw [shaped_ints, shaped_ints]
    show some (PyData.eqvAll (toDs (l.map .int)) (toDs (m.map .int))) = _
    rw [eqv_ints]
@[simp] theorem eq_nil (xs : List Val) : eqS (.lst xs) (.lst []) = some xs.isEmpty := by
  cases xs with
  | nil => exact eq_ints [] []
  | cons x xs => rfl
/-! ### repr -/
mutual
def rsz : Val → Nat
  | .non => 4
  | .bl _ => 5
  | .int i => i.natAbs.log2 + 3
  | .str x => (reprText x).length
  | .tup xs => rszs xs + 4
  | .lst xs => rszs xs + 4
  | .dic kvs => (PyData.shown (Val.dic kvs).toD).length
def rszs : List Val → Nat
  | [] => 0
  | x :: xs => rsz x + 2 + rszs xs
end
theorem textFrom_le : ∀ (ts : List Str) (k : Nat) (acc : Str), (textFrom k acc ts).length ≤ acc.length + (ts.map fun t => t.length + 2).sum
  | [], k, acc => by show acc.length ≤ acc.length + 0; omega
  | t :: r, k, acc => by
    have ih := textFrom_le r (k + 1) (acc ++ (if k > 0 then ", " else "" : String) ++ t)
    have e : (acc ++ (if k > 0 then ", " else "" : String) ++ t).length = acc.length + (if k > 0 then 2 else 0) + t.length := by
      rw [strLen_append, strLen_append]
      split <;> rfl
    rw [e] at ih
    show (textFrom (k + 1) (acc ++ (if k > 0 then ", " else "" : String) ++ t) r).length ≤ _
    rw [List.map_cons, List.sum_cons]
    have : (if k > 0 then 2 else 0) ≤ 2 := by split <;> omega
    omega
theorem join_le : ∀ (ts : List Str), (Str.join ", " ts).length ≤ (ts.map fun t => t.length + 2).sum
  | [] => by show (0 : Nat) ≤ _; omega
  | [x] => by show x.length ≤ _; simp
  | x :: y :: r => by
    have ih := join_le (y :: r)
    have e : (Str.join ", " (x :: y :: r)) = x ++ ", " ++ Str.join ", " (y :: r) := rfl
    rw [e, strLen_append, strLen_append, List.map_cons, List.sum_cons]
    have e2 : ((", " : String) : Str).length = 2 := rfl
    rw [e2]
    omega
mutual
theorem shown_le : ∀ v : Val, (PyData.shown v.toD).length ≤ rsz v
  | .non => by show (Str.ofString "None").length ≤ 4; decide
  | .bl b => by cases b <;> decide
  | .int i => by
    have := int_text_length_le (a := i) (k := i.natAbs.log2 + 1) (by omega) (by omega)
    show (Str.ofString (toString i)).length ≤ i.natAbs.log2 + 3
    have e : (Str.ofString (toString i)).length = (toString i).length := PySem.ofString_length _
    omega
  | .str x => Nat.le_of_eq rfl
  | .tup xs => by
    have h := showns_le xs
    have j := join_le (PyData.shownAll (toDs xs))
    show (tupleText (PyData.shownAll (toDs xs))).length ≤ rszs xs + 4
    unfold tupleText
    rw [strLen_append, strLen_append]
    have e1 : (("(" : String) : Str).length = 1 := rfl
    have e2 : ((if (PyData.shownAll (toDs xs)).length == 1 then ",)" else ")" : String) : Str).length ≤ 2 := by split <;> decide
    rw [e1]
    omega
  | .lst xs => by
    have h := showns_le xs
    have j := textFrom_le (PyData.shownAll (toDs xs)) 0 "["
    show (listText (PyData.shownAll (toDs xs))).length ≤ rszs xs + 4
    unfold listText
    rw [strLen_append]
    have e1 : (("[" : String) : Str).length = 1 := rfl
    have e2 : (("]" : String) : Str).length = 1 := rfl
    rw [e1] at j
    rw [e2]
    omega
  | .dic kvs => Nat.le_of_eq rfl
theorem showns_le : ∀ vs : List Val, ((PyData.shownAll (toDs vs)).map fun t => t.length + 2).sum ≤ rszs vs
  | [] => by show (0 : Nat) ≤ _; omega
  | v :: vs => by
    have a := shown_le v
    have b := showns_le vs
    show (((PyData.shown v.toD :: PyData.shownAll (toDs vs))).map fun t => t.length + 2).sum ≤ rsz v + 2 + rszs vs
    rw [List.map_cons, List.sum_cons]
    omega
end
/-- what repr asks of a value -/
structure Shows (v : Val) : Prop where
  a : PyData.showable v.toD = true
  b : rsz v ≤ 1000000
  c : v.toD.depth ≤ 64
  d : (!v.toD.hasDict || v.plainD) = true
theorem reprs {v : Val} (h : Shows v) : reprV v = some (PyData.shown v.toD) := by
  unfold reprV
  have e : fitsLine (PyData.shown v.toD).length = true := decide_eq_true (Nat.le_trans (shown_le v) (Nat.le_trans h.b (by decide)))
  rw [h.a, e, decide_eq_true h.c, h.d]
  rfl
end BV
/-! Runs of blocks, loops, comprehensions. -/
namespace BV
open PySem PySem.Spec PyProof.Rows L2
@[simp] theorem flatRep_len {k : Int} {xs : List Val} : (flatRep k xs).length = k.toNat * xs.length := by
  unfold flatRep
  induction k.toNat with
  | zero => simp
  | succ n ih => rw [List.replicate_succ, List.flatten_cons, List.length_append, ih, Nat.succ_mul, Nat.add_comm]
theorem flatRep_mem {k : Int} {xs : List Val} {x : Val} (h : x ∈ flatRep k xs) : x ∈ xs := by
  unfold flatRep at h
  obtain ⟨l, hl, hx⟩ := List.mem_flatten.mp h
  rw [List.eq_of_mem_replicate hl] at hx
  exact hx
def Runs (D : Den) (ss : CSs) (S : Slots) (Q : Out → Prop) : Prop := ∃ o, exs D ss S = some o ∧ Q o
section
variable {D : Den} {S S' : Slots} {Q : Out → Prop} {s : CS} {ss : CSs}
theorem Runs.nil (h : Q (.nx S)) : Runs D .nil S Q := ⟨_, rfl, h⟩
theorem Runs.step (h : ex D s S = some (.nx S')) (k : Runs D ss S' Q) : Runs D (.cons s ss) S Q := by
  obtain ⟨o, e, q⟩ := k
  refine ⟨o, ?_, q⟩
  show (match ex D s S with
    | some (.nx S1) => exs D ss S1
    | o => o) = _
  rw [h]
  exact e
theorem Runs.ends {o : Out} (h : ex D s S = some o) (hn : ∀ S', o ≠ .nx S') (q : Q o) : Runs D (.cons s ss) S Q := by
  refine ⟨o, ?_, q⟩
  show (match ex D s S with
    | some (.nx S1) => exs D ss S1
    | o => o) = _
  rw [h]
  cases o with
  | nx S1 => exact absurd rfl (hn S1)
  | _ => rfl
theorem Runs.ret {r : R} (h : ex D s S = some (.rt r S')) (q : Q (.rt r S')) : Runs D (.cons s ss) S Q := Runs.ends h (fun _ e => by cases e) q
theorem Runs.if1 {c : CE} {a b : CSs} {p : Pos} (h : tst (ev D c S) = some (true, S')) (k : Runs D a S' fun o => match o with
    | .nx S2 => Runs D ss S2 Q
    | o => Q o) : Runs D (.cons (.ife c a b p) ss) S Q := by
  obtain ⟨o, e, q⟩ := k
  have hx : ex D (.ife c a b p) S = some o := by
    show (tst (ev D c S)).bind _ = _
    rw [h]
    exact e
  cases o with
  | nx S2 => exact Runs.step hx q
  | _ => exact Runs.ends hx (fun _ e => by cases e) q
theorem Runs.if0 {c : CE} {a b : CSs} {p : Pos} (h : tst (ev D c S) = some (false, S')) (k : Runs D b S' fun o => match o with
    | .nx S2 => Runs D ss S2 Q
    | o => Q o) : Runs D (.cons (.ife c a b p) ss) S Q := by
  obtain ⟨o, e, q⟩ := k
  have hx : ex D (.ife c a b p) S = some o := by
    show (tst (ev D c S)).bind _ = _
    rw [h]
    exact e
  cases o with
  | nx S2 => exact Runs.step hx q
  | _ => exact Runs.ends hx (fun _ e => by cases e) q
theorem forL_inv {f : Val → Slots → Option Out} (I : Nat → Slots → Prop) : ∀ (vs : List Val) (k : Nat) (S : Slots), (∀ i v S, vs[i]? = some v → I (k + i) S → ∃ S', (f v S = some (.nx S') ∨ f v S = some (.ct S')) ∧ I (k + i + 1) S') → I k S → ∃ S', forL f vs S = some (.nx S') ∧ I (k + vs.length) S'
  | [], k, S, _, h0 => ⟨S, rfl, h0⟩
  | v :: vs, k, S, h, h0 => by
    obtain ⟨S1, e1, i1⟩ := h 0 v S rfl h0
    obtain ⟨S2, e2, i2⟩ := forL_inv I vs (k + 1) S1 (fun i u S hu hi => by
      have := h (i + 1) u S (by simpa using hu) (by rw [show k + (i + 1) = k + 1 + i by omega]; exact hi)
      rw [show k + (i + 1) + 1 = k + 1 + i + 1 by omega] at this
      exact this) i1
    refine ⟨S2, ?_, by rw [List.length_cons, show k + (vs.length + 1) = k + 1 + vs.length by omega]; exact i2⟩
    rcases e1 with e1 | e1
    · show (match f v S with
        | some (.nx S1) => forL f vs S1
        | some (.ct S1) => forL f vs S1
        | some (.bk S1) => some (.nx S1)
        | some (.rt r S1) => some (.rt r S1)
        | none => none) = _
      rw [e1]; exact e2
    · show (match f v S with
        | some (.nx S1) => forL f vs S1
        | some (.ct S1) => forL f vs S1
        | some (.bk S1) => some (.nx S1)
        | some (.rt r S1) => some (.rt r S1)
        | none => none) = _
      rw [e1]; exact e2
theorem Runs.loop {t : CT} {it : CI} {body : CSs} {p : Pos} {vs : List Val} {S1 : Slots} (I : Nat → Slots → Prop) (h : evI D it S = some (vs, S1)) (h0 : I 0 S1)
    (turn : ∀ i v S, vs[i]? = some v → I i S → ∃ S2, t.set v S = some S2 ∧ Runs D body S2 fun o => match o with
      | .nx S' => I (i + 1) S'
      | .ct S' => I (i + 1) S'
      | _ => False) (k : ∀ S', I vs.length S' → Runs D ss S' Q) : Runs D (.cons (.forr t it body p) ss) S Q := by
  obtain ⟨S2, e2, i2⟩ := forL_inv (f := fun v S1 => (t.set v S1).bind fun S2 => exs D body S2) I vs 0 S1 (fun i v S hv hi => by
    rw [Nat.zero_add] at hi ⊢
    obtain ⟨S2, a, o, b, c⟩ := turn i v S hv hi
    cases o with
    | nx S' => exact ⟨S', .inl (by show (t.set v S).bind _ = _; rw [a]; exact b), c⟩
    | ct S' => exact ⟨S', .inr (by show (t.set v S).bind _ = _; rw [a]; exact b), c⟩
    | bk S' => exact c.elim
    | rt r S' => exact c.elim) h0
  rw [Nat.zero_add] at i2
  refine Runs.step (S' := S2) ?_ (k S2 i2)
  show (evI D it S).bind _ = _
  rw [h]
  exact e2
/-- the block of a def -/
theorem Runs.fn {P : Pg} {n f : Nat} {d : Df} {rs : List R} {Q : R → Slots → Prop} (hd : P.defs[f]? = some d) (hl : rs.length = d.ps.length) (k : Runs (P.den n) d.body (d.start rs) fun o => match o with
    | .rt r S => Q r (backP d.B 0 d.ps.length S)
    | .nx S => Q (0, .non) (backP d.B 0 d.ps.length S)
    | _ => False) : ∃ r fin, (P.den (n + 1)).fn f rs = some (r, fin) ∧ Q r fin := by
  obtain ⟨o, e, q⟩ := k
  have h : (P.den (n + 1)).fn f rs = d.outc (some o) := by
    show (match P.defs[f]? with
      | some d => gd (rs.length == d.ps.length) (d.outc (exs (P.den n) d.body (d.start rs)))
      | none => none) = _
    rw [hd]
    show gd (rs.length == d.ps.length) (d.outc (exs (P.den n) d.body (d.start rs))) = _
    rw [e, hl, beq_self_eq_true]
    rfl
  cases o with
  | nx S => exact ⟨_, _, h, q⟩
  | rt r S => exact ⟨_, _, h, q⟩
  | bk S => exact q.elim
  | ct S => exact q.elim
/-- a comprehension, each turn with its things -/
theorem compL_inv {f : Val → Slots → Option (List Val × Slots)} (I : Nat → List Val → Slots → Prop) : ∀ (vs : List Val) (k : Nat) (done : List Val) (S : Slots), (∀ i v done S, vs[i]? = some v → I (k + i) done S → ∃ o S', f v S = some (o, S') ∧ I (k + i + 1) (done ++ o) S') → I k done S →
    ∃ ws S', compL f vs S = some (ws, S') ∧ I (k + vs.length) (done ++ ws) S'
  | [], k, done, S, _, h0 => ⟨[], S, rfl, by rw [List.append_nil]; exact h0⟩
  | v :: vs, k, done, S, h, h0 => by
    obtain ⟨o, S1, e1, i1⟩ := h 0 v done S rfl h0
    obtain ⟨ws, S2, e2, i2⟩ := compL_inv I vs (k + 1) (done ++ o) S1 (fun i u d S hu hi => by
      have := h (i + 1) u d S (by simpa using hu) (by rw [show k + (i + 1) = k + 1 + i by omega]; exact hi)
      rw [show k + (i + 1) + 1 = k + 1 + i + 1 by omega] at this
      exact this) i1
    refine ⟨o ++ ws, S2, ?_, by rw [List.length_cons, show k + (vs.length + 1) = k + 1 + vs.length by omega, ← List.append_assoc]; exact i2⟩
    rw [q_compL1, e1]
    show (compL f vs S1).map _ = _
    rw [e2]
    rfl
theorem lc_inv {elt : CE} {t : CT} {it : CI} {ifs : CEs} {scp : Scope} {own : List (Str × Nat)} {p : Pos} {vs : List Val} {S1 : Slots} (I : Nat → List Val → Slots → Prop) (h : evI D it S = some (vs, S1)) (h0 : I 0 [] (wipeS S1 (own.map (·.2))))
    (turn : ∀ i v done S, vs[i]? = some v → I i done S → ∃ o S', lcTurn D elt t ifs (own.map (·.2)) v S = some (o, S') ∧ I (i + 1) (done ++ o) S') (hz : ∀ ws S', I vs.length ws S' → ws.length ≤ 100000) :
    ∃ ws S', ev D (.lc elt t it ifs scp own p) S = some ((.own 1, .lst ws), S') ∧ I vs.length ws S' := by
  obtain ⟨ws, S2, e2, i2⟩ := compL_inv (f := lcTurn D elt t ifs (own.map (·.2))) I vs 0 [] _ (fun i v d S hv hi => by
    rw [Nat.zero_add] at hi ⊢
    exact turn i v d S hv hi) h0
  rw [Nat.zero_add, List.nil_append] at i2
  refine ⟨ws, S2, ?_, i2⟩
  show (evI D it S).bind _ = _
  rw [h]
  show (compL (lcTurn D elt t ifs (own.map (·.2))) vs (wipeS S1 (own.map (·.2)))).bind _ = _
  rw [e2]
  show gd (fitsLine ws.length) _ = _
  rw [q_fits (hz ws S2 i2)]
  rfl
end
/-! ### slices -/
theorem cut_pre {xs : List Val} {k : Int} (h : 0 ≤ k) : cutL xs none (some k) = xs.take k.toNat := by
  obtain ⟨n, rfl⟩ : ∃ n : Nat, k = n := ⟨k.toNat, by omega⟩
  unfold cutL
  rw [HT.sIx_nat, HT.sIx_none, Int.toNat_natCast, List.drop_zero, Nat.sub_zero, List.take_eq_take_iff]
  omega
theorem cut_suf {xs : List Val} {k : Int} (h : 0 ≤ k) : cutL xs (some k) none = xs.drop k.toNat := by
  obtain ⟨n, rfl⟩ : ∃ n : Nat, k = n := ⟨k.toNat, by omega⟩
  unfold cutL
  rw [HT.sIx_nat, HT.sIx_none, Int.toNat_natCast]
  by_cases hn : n ≤ xs.length
  · rw [Nat.min_eq_left hn, List.take_of_length_le (by rw [List.length_drop]; omega)]
  · rw [Nat.min_eq_right (by omega), List.drop_eq_nil_of_le (by omega), List.drop_eq_nil_of_le (by omega)]
    simp
theorem ints_get {n : Nat} {lo : Int} {i : Nat} {v : Val} (h : (intsFrom lo n)[i]? = some v) : v = .int (lo + i) ∧ i < n := by
  have hl : i < n := by
    have := lt_of_get h
    rw [intsFrom_len] at this
    exact this
  rw [intsFrom_get hl] at h
  exact ⟨(Option.some.inj h).symm, hl⟩
/-! ### what repr asks, of sequences -/
structure Sm (x : Val) : Prop where
  a : PyData.showable x.toD = true
  b : rsz x ≤ 300
  c : x.toD.depth ≤ 4
theorem sm_all : ∀ (xs : List Val), (∀ x ∈ xs, Sm x) → PyData.showableAll (toDs xs) = true ∧ rszs xs ≤ 302 * xs.length ∧ PyData.depthAll (toDs xs) ≤ 4
  | [], _ => ⟨by simp [toDs, PyData.showableAll], by simp [rszs], by simp [toDs, PyData.depthAll]⟩
  | x :: xs, h => by
    obtain ⟨h1, h2, h3⟩ := sm_all xs fun y hy => h y (List.mem_cons_of_mem _ hy)
    have hx := h x (List.mem_cons_self ..)
    refine ⟨by simp [toDs, PyData.showableAll, hx.a, h1], ?_, ?_⟩
    · have := hx.b
      simp only [rszs, List.length_cons]
      omega
    · have := hx.c
      simp only [toDs, PyData.depthAll]
      omega
theorem noDict_all : ∀ (xs : List Val), (∀ x ∈ xs, x.toD.hasDict = false) → PyData.hasDictAll (toDs xs) = false
  | [], _ => by simp [toDs, PyData.hasDictAll]
  | x :: xs, h => by simp [toDs, PyData.hasDictAll, h x (List.mem_cons_self ..), noDict_all xs fun y hy => h y (List.mem_cons_of_mem _ hy)]
theorem plain_all : ∀ (xs : List Val), (∀ x ∈ xs, x.plainD = true) → plainDs xs = true
  | [], _ => rfl
  | x :: xs, h => by simp [plainDs, h x (List.mem_cons_self ..), plain_all xs fun y hy => h y (List.mem_cons_of_mem _ hy)]
theorem shows_tup {xs : List Val} (h : ∀ x ∈ xs, Sm x) (hl : xs.length ≤ 3000) (hd : (∀ x ∈ xs, x.toD.hasDict = false) ∨ ∀ x ∈ xs, x.plainD = true) : Shows (.tup xs) := by
  obtain ⟨h1, h2, h3⟩ := sm_all xs h
  refine ⟨by simpa [Val.toD, PyData.showable] using h1, by simp only [rsz]; omega, by simp only [Val.toD, PyData.depth]; omega, ?_⟩
  rcases hd with hd | hd
  · simp [Val.toD, PyData.hasDict, noDict_all xs hd]
  · simp [Val.plainD, plain_all xs hd]
theorem shows_lst {xs : List Val} (h : ∀ x ∈ xs, Sm x) (hl : xs.length ≤ 3000) (hd : ∀ x ∈ xs, x.toD.hasDict = false) : Shows (.lst xs) := by
  obtain ⟨h1, h2, h3⟩ := sm_all xs h
  exact ⟨by simpa [Val.toD, PyData.showable] using h1, by simp only [rsz]; omega, by simp only [Val.toD, PyData.depth]; omega, by simp [Val.toD, PyData.hasDict, noDict_all xs hd]⟩
theorem log_le {i : Int} (h0 : -(10 ^ 40) ≤ i) (h1 : i ≤ 10 ^ 40) : i.natAbs.log2 < 200 := by
  by_cases h : i.natAbs = 0
  · rw [h]; decide
  · rw [Nat.log2_lt h]
    have : (10 : Nat) ^ 40 < 2 ^ 200 := by decide
    omega
theorem sm_int {i : Int} (h0 : -(10 ^ 40) ≤ i) (h1 : i ≤ 10 ^ 40) : Sm (.int i) := by
  have := log_le h0 h1
  exact ⟨by simp only [Val.toD, PyData.showable, decide_eq_true_eq]; omega, by simp only [rsz]; omega, by simp [Val.toD, PyData.depth]⟩
theorem shows_int {i : Int} (h0 : -(10 ^ 40) ≤ i) (h1 : i ≤ 10 ^ 40) : Shows (.int i) := by
  have := sm_int h0 h1
  exact ⟨this.a, Nat.le_trans this.b (by decide), by simp [Val.toD, PyData.depth], by simp [Val.toD, PyData.hasDict]⟩
end BV
/-! Expressions, forwards. -/
namespace BV
open PySem PySem.Spec PyProof.Rows L2
def EvW (D : Den) (e : CE) (S : Slots) (Q : Res → Slots → Prop) : Prop := ∃ r S', ev D e S = some (r, S') ∧ Q r S'
section
variable {D : Den} {S S' : Slots}
theorem EvW.of {e : CE} {r : Res} {Q : Res → Slots → Prop} (h : ev D e S = some (r, S')) (q : Q r S') : EvW D e S Q := ⟨r, S', h, q⟩
theorem EvW.blt1 {f : BF} {np p : Pos} {e : CE} {Q : Res → Slots → Prop} (h : EvW D e S fun r S' => ∃ w, bltV f [r.2] = some w ∧ Q (.own w.1, w.2) S') : EvW D (.blt f np (.cons e .nil) p) S Q := by
  obtain ⟨r, S', e1, w, e2, q⟩ := h
  refine ⟨_, S', ?_, q⟩
  obtain ⟨m, v⟩ := r
  have : evo D (.cons e .nil) S = some ([v], S') := by
    show (ev D e S).bind _ = _
    rw [e1]
    cases m <;> rfl
  show (evo D (.cons e .nil) S).bind _ = _
  rw [this]
  show (bltV f [v]).map _ = _
  rw [e2]
  rfl
theorem EvW.lc {elt : CE} {t : CT} {it : CI} {ifs : CEs} {scp : Scope} {own : List (Str × Nat)} {p : Pos} {vs : List Val} {S1 : Slots} {Q : Res → Slots → Prop} (I : Nat → List Val → Slots → Prop) (h : evI D it S = some (vs, S1)) (h0 : I 0 [] (wipeS S1 (own.map (·.2))))
    (turn : ∀ i v done S, vs[i]? = some v → I i done S → ∃ o S', lcTurn D elt t ifs (own.map (·.2)) v S = some (o, S') ∧ I (i + 1) (done ++ o) S') (hz : ∀ ws S', I vs.length ws S' → ws.length ≤ 100000)
    (k : ∀ ws S', I vs.length ws S' → Q (.own 1, .lst ws) S') : EvW D (.lc elt t it ifs scp own p) S Q := by
  obtain ⟨ws, S2, e, i⟩ := lc_inv (scp := scp) (p := p) I h h0 turn hz
  exact ⟨_, _, e, k ws S2 i⟩
theorem Runs.asgW {i : Nat} {x : Str} {p p' : Pos} {e : CE} {ss : CSs} {Q : Out → Prop} (h : EvW D e S fun r S' => ∃ d, r.1 = .own d ∧ Runs D ss (S'.set i (some (d, r.2))) Q) : Runs D (.cons (.asg (.name i x p) e p') ss) S Q := by
  obtain ⟨⟨m, v⟩, S', e1, d, e2, q⟩ := h
  have e2 : m = .own d := e2
  subst e2
  refine Runs.step ?_ q
  rw [q_ex_asgn, e1]
  rfl
theorem Runs.retW {p : Pos} {e : CE} {ss : CSs} {Q : Out → Prop} (h : EvW D e S fun r S' => ∃ d, r.1 = .own d ∧ Q (.rt (d, r.2) S')) : Runs D (.cons (.ret e p) ss) S Q := by
  obtain ⟨⟨m, v⟩, S', e1, d, e2, q⟩ := h
  have e2 : m = .own d := e2
  subst e2
  refine Runs.ret ?_ q
  show (ev D e S).bind _ = _
  rw [e1]
  rfl
end
end BV
/-! Plain facts for the laws: comprehensions without effects, rising ints, sizes of texts, equality, tables. -/
namespace BV
open PySem PySem.Spec PyProof.Rows L2
theorem compL_map {f : Val → Slots → Option (List Val × Slots)} {g : Val → Val} {S : Slots} : ∀ {xs : List Val}, (∀ v ∈ xs, f v S = some ([g v], S)) → compL f xs S = some (xs.map g, S)
  | [], _ => rfl
  | v :: xs, h => by
    rw [q_compL1, h v (List.mem_cons_self ..)]
    show (compL f xs S).map _ = _
    rw [compL_map fun u hu => h u (List.mem_cons_of_mem _ hu)]
    rfl
theorem compL_filter {f : Val → Slots → Option (List Val × Slots)} {p : Val → Bool} {S : Slots} : ∀ {xs : List Val}, (∀ v ∈ xs, f v S = some (bif p v then [v] else [], S)) → compL f xs S = some (xs.filter p, S)
  | [], _ => rfl
  | v :: xs, h => by
    rw [q_compL1, h v (List.mem_cons_self ..)]
    show (compL f xs S).map _ = _
    rw [compL_filter fun u hu => h u (List.mem_cons_of_mem _ hu)]
    cases e : p v <;> simp [List.filter_cons, e]
theorem compL_flat {f : Val → Slots → Option (List Val × Slots)} {g : Val → List Val} {S : Slots} : ∀ {xs : List Val}, (∀ v ∈ xs, f v S = some (g v, S)) → compL f xs S = some (xs.flatMap g, S)
  | [], _ => rfl
  | v :: xs, h => by
    rw [q_compL1, h v (List.mem_cons_self ..)]
    show (compL f xs S).map _ = _
    rw [compL_flat fun u hu => h u (List.mem_cons_of_mem _ hu)]
    rfl
/-- over things made of plain ones -/
theorem compL_of {α : Type} {f : Val → Slots → Option (List Val × Slots)} {k : α → Val} {g : α → List Val} {S : Slots} {l : List α} (h : ∀ a ∈ l, f (k a) S = some (g a, S)) : compL f (l.map k) S = some (l.flatMap g, S) := by
  induction l with
  | nil => rfl
  | cons a l ih =>
    rw [List.map_cons, q_compL1, h a (List.mem_cons_self ..)]
    show (compL f (l.map k) S).map _ = _
    rw [ih fun b hb => h b (List.mem_cons_of_mem _ hb)]
    rfl
theorem compL_of1 {α : Type} {f : Val → Slots → Option (List Val × Slots)} {k g : α → Val} {S : Slots} {l : List α} (h : ∀ a ∈ l, f (k a) S = some ([g a], S)) : compL f (l.map k) S = some (l.map g, S) := by
  rw [compL_of (g := fun a => [g a]) h]
  congr 2
  induction l with
  | nil => rfl
  | cons a l ih => simp [ih fun b hb => h b (List.mem_cons_of_mem _ hb)]
theorem compL_ofF {α : Type} {f : Val → Slots → Option (List Val × Slots)} {k : α → Val} {p : α → Bool} {S : Slots} {l : List α} (h : ∀ a ∈ l, f (k a) S = some (bif p a then [k a] else [], S)) : compL f (l.map k) S = some ((l.filter p).map k, S) := by
  induction l with
  | nil => rfl
  | cons a l ih =>
    rw [List.map_cons, q_compL1, h a (List.mem_cons_self ..)]
    show (compL f (l.map k) S).map _ = _
    rw [ih fun b hb => h b (List.mem_cons_of_mem _ hb)]
    cases e : p a <;> simp [List.filter_cons, e]
theorem q_forL1 {f : Val → Slots → Option Out} {v : Val} {vs : List Val} {S : Slots} : forL f (v :: vs) S = match f v S with
    | some (.nx S1) => forL f vs S1
    | some (.ct S1) => forL f vs S1
    | some (.bk S1) => some (.nx S1)
    | some (.rt r S1) => some (.rt r S1)
    | none => none := rfl
theorem bools_map {g : Val → Bool} : ∀ (xs : List Val), boolsOf (xs.map fun x => .bl (g x)) = some (xs.map g)
  | [] => rfl
  | x :: xs => by
    show (boolsOf (xs.map fun x => .bl (g x))).map _ = _
    rw [bools_map xs]
    rfl
theorem bools_of {α : Type} {g : α → Bool} : ∀ (xs : List α), boolsOf (xs.map fun x => .bl (g x)) = some (xs.map g)
  | [] => rfl
  | x :: xs => by
    show (boolsOf (xs.map fun x => .bl (g x))).map _ = _
    rw [bools_of xs]
    rfl
/-! ### rising ints -/
theorem rng_ok {i j : Int} (h : -100000 ≤ i ∧ i ≤ 100000 ∧ -100000 ≤ j ∧ j ≤ 100000) : rngOk i j = true := by
  have a : inRange i = true := decide_eq_true (by omega)
  have b : inRange j = true := decide_eq_true (by omega)
  have c : decide ((j - i).toNat ≤ 2 ^ 24) = true := decide_eq_true (by omega)
  unfold rngOk
  rw [a, b, c]
  rfl
def iota (lo : Int) : Nat → List Int
  | 0 => []
  | n + 1 => lo :: iota (lo + 1) n
theorem ints_iota : ∀ (n : Nat) (lo : Int), intsFrom lo n = (iota lo n).map .int
  | 0, _ => rfl
  | n + 1, lo => congrArg (Val.int lo :: ·) (ints_iota n (lo + 1))
@[simp] theorem iota_len : ∀ (n : Nat) (lo : Int), (iota lo n).length = n
  | 0, _ => rfl
  | n + 1, lo => congrArg Nat.succ (iota_len n (lo + 1))
theorem mem_iota {x : Int} : ∀ {n : Nat} {lo : Int}, x ∈ iota lo n ↔ lo ≤ x ∧ x < lo + n
  | 0, lo => ⟨fun h => (by cases h), fun h => (by omega)⟩
  | n + 1, lo => by
    rw [iota, List.mem_cons, mem_iota]
    omega
theorem iota_add (lo d : Int) : ∀ (n : Nat) (a : Int), (iota a n).map (fun x => lo + d + x) = iota (lo + d + a) n
  | 0, _ => rfl
  | n + 1, a => by
    rw [iota, List.map_cons, iota_add lo d n (a + 1), iota]
    congr 2
    omega
theorem iota_map (lo : Int) : ∀ (n : Nat) (a : Int), (iota a n).map (fun x => lo + x) = iota (lo + a) n
  | 0, _ => rfl
  | n + 1, a => by
    rw [iota, List.map_cons, iota_map lo n (a + 1), iota]
    congr 2
    omega
theorem iota_split (m : Nat) : ∀ (n : Nat) (a : Int), iota a (n + m) = iota a n ++ iota (a + n) m
  | 0, a => by simp [iota]
  | n + 1, a => by
    rw [show n + 1 + m = n + m + 1 by omega, iota, iota_split m n (a + 1), iota, List.cons_append]
    congr 3
    omega
/-! ### how long texts get -/
structure Sz (v : Val) (m d : Nat) : Prop where
  a : PyData.showable v.toD = true
  b : rsz v ≤ m
  c : v.toD.depth ≤ d
  e : v.toD.hasDict = false
structure Szs (v : List Val) (m d : Nat) : Prop where
  a : PyData.showableAll (toDs v) = true
  b : rszs v ≤ m
  c : PyData.depthAll (toDs v) ≤ d
  e : PyData.hasDictAll (toDs v) = false
theorem Sz.shows {v : Val} {m d : Nat} (h : Sz v m d) (hm : m ≤ 1000000) (hd : d ≤ 64) : Shows v := ⟨h.a, Nat.le_trans h.b hm, Nat.le_trans h.c hd, by rw [h.e]; rfl⟩
theorem Sz.mono {v : Val} {m d m' d' : Nat} (h : Sz v m d) (hm : m ≤ m') (hd : d ≤ d') : Sz v m' d' := ⟨h.a, Nat.le_trans h.b hm, Nat.le_trans h.c hd, h.e⟩
theorem sz_non {d : Nat} : Sz .non 4 d := ⟨by simp [Val.toD, PyData.showable], by simp [rsz], by simp [Val.toD, PyData.depth], by simp [Val.toD, PyData.hasDict]⟩
theorem sz_bl {b : Bool} {d : Nat} : Sz (.bl b) 5 d := ⟨by simp [Val.toD, PyData.showable], by simp [rsz], by simp [Val.toD, PyData.depth], by simp [Val.toD, PyData.hasDict]⟩
theorem sz_int {i : Int} {d : Nat} (h : i.natAbs < 2 ^ 40) : Sz (.int i) 43 d := by
  have : i.natAbs.log2 < 40 := by
    by_cases e : i.natAbs = 0
    · rw [e]; decide
    · exact (Nat.log2_lt e).mpr h
  exact ⟨by simp only [Val.toD, PyData.showable, decide_eq_true_eq]; omega, by simp only [rsz]; omega, by simp [Val.toD, PyData.depth], by simp [Val.toD, PyData.hasDict]⟩
theorem sz_str {s : Str} {m d : Nat} (h : (reprText s).length ≤ m) : Sz (.str s) m d := ⟨by simp [Val.toD, PyData.showable], by simpa [rsz] using h, by simp [Val.toD, PyData.depth], by simp [Val.toD, PyData.hasDict]⟩
theorem szs_nil {d : Nat} : Szs [] 0 d := ⟨by simp [toDs, PyData.showableAll], by simp [rszs], by simp [toDs, PyData.depthAll], by simp [toDs, PyData.hasDictAll]⟩
theorem szs_cons {x : Val} {xs : List Val} {m k d : Nat} (h : Sz x m d) (r : Szs xs k d) : Szs (x :: xs) (m + 2 + k) d := by
  have := h.b
  have := h.c
  have := r.b
  have := r.c
  exact ⟨by simp [toDs, PyData.showableAll, h.a, r.a], by simp only [rszs]; omega, by simp only [toDs, PyData.depthAll]; omega, by simp [toDs, PyData.hasDictAll, h.e, r.e]⟩
theorem szs_all {m d : Nat} : ∀ {xs : List Val}, (∀ x ∈ xs, Sz x m d) → Szs xs ((m + 2) * xs.length) d
  | [], _ => szs_nil
  | x :: xs, h => by
    have := szs_cons (h x (List.mem_cons_self ..)) (szs_all fun y hy => h y (List.mem_cons_of_mem _ hy))
    rw [List.length_cons, Nat.mul_succ, Nat.add_comm]
    exact this
theorem szs_app {xs ys : List Val} {m k d : Nat} (h : Szs xs m d) (r : Szs ys k d) : Szs (xs ++ ys) (m + k) d := by
  have z : ∀ (xs : List Val), toDs (xs ++ ys) = toDs xs ++ toDs ys ∧ rszs (xs ++ ys) = rszs xs + rszs ys := by
    intro xs
    induction xs with
    | nil => exact ⟨rfl, by simp [rszs]⟩
    | cons x xs ih => exact ⟨by simp [toDs, ih.1], by simp [rszs, ih.2]; omega⟩
  have z2 : ∀ (a b : List PyData), PyData.showableAll (a ++ b) = (PyData.showableAll a && PyData.showableAll b) ∧ PyData.depthAll (a ++ b) = max (PyData.depthAll a) (PyData.depthAll b) ∧ PyData.hasDictAll (a ++ b) = (PyData.hasDictAll a || PyData.hasDictAll b) := by
    intro a b
    induction a with
    | nil => simp [PyData.showableAll, PyData.depthAll, PyData.hasDictAll]
    | cons x a ih => simp [PyData.showableAll, PyData.depthAll, PyData.hasDictAll, ih.1, ih.2.1, ih.2.2, Bool.and_assoc, Bool.or_assoc, Nat.max_assoc]
  obtain ⟨e1, e2⟩ := z xs
  obtain ⟨f1, f2, f3⟩ := z2 (toDs xs) (toDs ys)
  have := h.b
  have := r.b
  have := h.c
  have := r.c
  exact ⟨by rw [e1, f1, h.a, r.a]; rfl, by omega, by rw [e1, f2]; omega, by rw [e1, f3, h.e, r.e]; rfl⟩
theorem Szs.tup {xs : List Val} {m d : Nat} (h : Szs xs m d) : Sz (.tup xs) (m + 4) (d + 1) := by
  have := h.b
  have := h.c
  exact ⟨by simpa [Val.toD, PyData.showable] using h.a, by simp only [rsz]; omega, by simp only [Val.toD, PyData.depth]; omega, by simpa [Val.toD, PyData.hasDict] using h.e⟩
theorem Szs.lst {xs : List Val} {m d : Nat} (h : Szs xs m d) : Sz (.lst xs) (m + 4) (d + 1) := by
  have := h.b
  have := h.c
  exact ⟨by simpa [Val.toD, PyData.showable] using h.a, by simp only [rsz]; omega, by simp only [Val.toD, PyData.depth]; omega, by simpa [Val.toD, PyData.hasDict] using h.e⟩
/-! ### equality where there are no truths -/
mutual
def Val.nb : Val → Bool
  | .non => true
  | .bl _ => false
  | .int _ => true
  | .str s => PyData.strOk s
  | .tup xs => nbs xs
  | .lst xs => nbs xs
  | .dic _ => false
def nbs : List Val → Bool
  | [] => true
  | x :: xs => x.nb && nbs xs
end
theorem nbs_all : ∀ {xs : List Val}, (∀ x ∈ xs, x.nb = true) → nbs xs = true
  | [], _ => rfl
  | x :: xs, h => by
    unfold nbs
    rw [h x (List.mem_cons_self ..), nbs_all fun y hy => h y (List.mem_cons_of_mem _ hy)]
    rfl
theorem nbs_ints (l : List Int) : nbs (l.map .int) = true := nbs_all fun x hx => by
  obtain ⟨i, _, rfl⟩ := List.mem_map.mp hx
  rfl
mutual
theorem nb_lay : ∀ v : Val, v.nb = true → PyData.canLay0 v.toD = true
  | .non, _ => by simp [Val.toD, PyData.canLay0]
  | .bl _, h => by cases h
  | .int _, _ => by simp [Val.toD, PyData.canLay0]
  | .str s, h => by
    have h : PyData.strOk s = true := h
    simp [Val.toD, PyData.canLay0, h]
  | .tup xs, h => by
    have := nbs_lay xs h
    simp [Val.toD, PyData.canLay0, this]
  | .lst xs, h => by
    have := nbs_lay xs h
    simp [Val.toD, PyData.canLay0, this]
  | .dic _, h => by cases h
theorem nbs_lay : ∀ vs : List Val, nbs vs = true → PyData.canLayAll0 (toDs vs) = true
  | [], _ => by simp [toDs, PyData.canLayAll0]
  | v :: vs, h => by
    have h : (v.nb && nbs vs) = true := h
    rw [Bool.and_eq_true] at h
    simp [toDs, PyData.canLayAll0, nb_lay v h.1, nbs_lay vs h.2]
end
mutual
theorem eqv_nb : ∀ a b : Val, a.nb = true → b.nb = true → (PyData.eqv a.toD b.toD = true ↔ a = b)
  | .non, b, _, hb => by cases b <;> simp_all [Val.toD, PyData.eqv, Val.nb]
  | .bl _, _, h, _ => by cases h
  | .int i, b, _, hb => by cases b <;> simp_all [Val.toD, PyData.eqv, Val.nb]
  | .str i, b, _, hb => by cases b <;> simp_all [Val.toD, PyData.eqv, Val.nb]
  | .tup xs, .tup ys, ha, hb => by
    have := eqv_nbs xs ys ha hb
    simp [Val.toD, PyData.eqv, this]
  | .lst xs, .lst ys, ha, hb => by
    have := eqv_nbs xs ys ha hb
    simp [Val.toD, PyData.eqv, this]
  | .tup xs, .lst ys, ha, hb => by simp [Val.toD, PyData.eqv]
  | .lst xs, .tup ys, ha, hb => by simp [Val.toD, PyData.eqv]
  | .tup xs, .non, ha, hb => by simp [Val.toD, PyData.eqv]
  | .tup xs, .int _, ha, hb => by simp [Val.toD, PyData.eqv]
  | .tup xs, .str _, ha, hb => by simp [Val.toD, PyData.eqv]
  | .tup xs, .bl _, ha, hb => by cases hb
  | .tup xs, .dic _, ha, hb => by cases hb
  | .lst xs, .non, ha, hb => by simp [Val.toD, PyData.eqv]
  | .lst xs, .int _, ha, hb => by simp [Val.toD, PyData.eqv]
  | .lst xs, .str _, ha, hb => by simp [Val.toD, PyData.eqv]
  | .lst xs, .bl _, ha, hb => by cases hb
  | .lst xs, .dic _, ha, hb => by cases hb
  | .dic _, _, h, _ => by cases h
theorem eqv_nbs : ∀ a b : List Val, nbs a = true → nbs b = true → (PyData.eqvAll (toDs a) (toDs b) = true ↔ a = b)
  | [], [], _, _ => by simp [toDs, PyData.eqvAll]
  | [], _ :: _, _, _ => by simp [toDs, PyData.eqvAll]
  | _ :: _, [], _, _ => by simp [toDs, PyData.eqvAll]
  | x :: xs, y :: ys, ha, hb => by
    have ha : (x.nb && nbs xs) = true := ha
    have hb : (y.nb && nbs ys) = true := hb
    rw [Bool.and_eq_true] at ha hb
    have h1 := eqv_nb x y ha.1 hb.1
    have h2 := eqv_nbs xs ys ha.2 hb.2
    simp [toDs, PyData.eqvAll, h1, h2]
end
theorem eqV_nb {a b : Val} (ha : a.nb = true) (hb : b.nb = true) (da : a.toD.depth ≤ 64) (db : b.toD.depth ≤ 64) {t : Bool} (h : t = true ↔ a = b) : eqV a b = some t := by
  unfold eqV SeqAt.shaped
  rw [nb_lay a ha, nb_lay b hb, decide_eq_true da, decide_eq_true db]
  show some _ = some t
  congr 1
  have := eqv_nb a b ha hb
  cases q : PyData.eqv a.toD b.toD <;> cases t <;> simp_all
theorem eqS_nb {a b : Val} (ha : a.nb = true) (hb : b.nb = true) (da : a.toD.depth ≤ 64) (db : b.toD.depth ≤ 64) {t : Bool} (h : t = true ↔ a = b) : eqS a b = some t := by
  have e := eqV_nb ha hb da db h
  unfold eqS
  have z : scalar a b = none ∨ scalar a b = some t := by
    cases a <;> cases b <;> first | exact .inl rfl | (right; simp only [scalar]; cases t <;> simp_all; done) | (cases ha; done) | skip
    · rename_i xs ys
      show (bif xs.length != ys.length then some false else none) = none ∨ (bif xs.length != ys.length then some false else none) = some t
      cases q : xs.length != ys.length with
      | false => exact .inl rfl
      | true =>
        right
        cases t with
        | false => rfl
        | true =>
          have := h.mp rfl
          cases this
          simp at q
  rcases z with z | z
  · rw [z]; exact e
  · rw [z]; rfl
theorem eqS_same {a : Val} (ha : a.nb = true) (da : a.toD.depth ≤ 64) : eqS a a = some true := eqS_nb ha ha da da (by simp)
theorem depth_flatI : ∀ (l : List Int), PyData.depthAll (toDs (l.map .int)) = 0
  | [] => by simp [toDs, PyData.depthAll]
  | i :: l => by simp [toDs, Val.toD, PyData.depthAll, PyData.depth, depth_flatI l]
theorem eq_tints (l m : List Int) : eqS (.tup (l.map .int)) (.tup (m.map .int)) = some (decide (l = m)) := by
  refine eqS_nb (a := .tup (l.map .int)) (b := .tup (m.map .int)) (nbs_ints l) (nbs_ints m) (by simp [Val.toD, PyData.depth, depth_flatI]) (by simp [Val.toD, PyData.depth, depth_flatI]) ?_
  rw [decide_eq_true_eq]
  constructor
  · rintro rfl; rfl
  · intro h
    have h : l.map Val.int = m.map Val.int := by injection h
    exact List.map_inj_right (fun a b e => by injection e) |>.mp h
/-! ### in -/
theorem in_ints (i : Int) (l : List Int) : inS (.int i) (.lst (l.map .int)) = some (decide (i ∈ l)) ∧ inS (.int i) (.tup (l.map .int)) = some (decide (i ∈ l)) := by
  have a : ∀ l : List Int, flatSs (l.map .int) = some (l.map V.int) := by
    intro l
    induction l with
    | nil => rfl
    | cons j l ih =>
      show (flatS (.int j)).bind (fun u => (flatSs (l.map .int)).map (u :: ·)) = _
      rw [ih]; rfl
  have b : ∀ l : List Int, inV (.int i) (l.map V.int) = decide (i ∈ l) := by
    intro l
    induction l with
    | nil => rfl
    | cons j l ih =>
      have ih : (l.map V.int).any (fun y => L2.eqV y (.int i)) = decide (i ∈ l) := ih
      show (L2.eqV (.int j) (.int i) || (l.map V.int).any fun y => L2.eqV y (.int i)) = _
      rw [ih]
      have : L2.eqV (.int j) (.int i) = decide (j = i) := by simp [L2.eqV]; rfl
      rw [this]
      by_cases e : j = i <;> by_cases m : i ∈ l <;> simp [e, m]
      exact fun z => absurd z.symm e
  constructor
  · show (flatS (.int i)).bind (fun u => (flatSs (l.map .int)).map fun us => inV u us) = _
    rw [a]
    show some (inV (.int i) (l.map V.int)) = _
    rw [b]
  · show (flatS (.int i)).bind (fun u => (flatSs (l.map .int)).map fun us => inV u us) = _
    rw [a]
    show some (inV (.int i) (l.map V.int)) = _
    rw [b]
@[simp] theorem in_ints1 (i : Int) (l : List Int) : inS (.int i) (.lst (l.map .int)) = some (decide (i ∈ l)) := (in_ints i l).1
@[simp] theorem in_ints2 (i : Int) (l : List Int) : inS (.int i) (.tup (l.map .int)) = some (decide (i ∈ l)) := (in_ints i l).2
theorem any_put (kvs : List (Key × Val)) (k k' : Key) (v : Val) : ((putD kvs k v).any fun q => decide (q.1 = k')) = (decide (k = k') || kvs.any fun q => decide (q.1 = k')) := by
  have hm : ∀ kvs : List (Key × Val), ((kvs.map fun q => bif decide (q.1 = k) then (q.1, v) else q).any fun q => decide (q.1 = k')) = kvs.any fun q => decide (q.1 = k') := by
    intro kvs
    induction kvs with
    | nil => rfl
    | cons q r ih =>
      rw [List.map_cons, List.any_cons, List.any_cons, ih]
      cases decide (q.1 = k) <;> rfl
  unfold putD
  cases h : kvs.any fun q => decide (q.1 = k) with
  | false =>
    show ((kvs ++ [(k, v)]).any _) = _
    rw [List.any_append, List.any_cons, List.any_nil, Bool.or_false, Bool.or_comm]
  | true =>
    show ((kvs.map _).any _) = _
    rw [hm]
    by_cases e : k = k'
    · subst e; rw [h]; simp
    · simp [e]
theorem put_ints (v : Val) : ∀ (l : List Int) (acc : List (Key × Val)), ∃ kvs, putAll acc (l.map fun i => .tup [.int i, v]) = some kvs ∧ ∀ i : Int, (kvs.any fun q => decide (q.1 = .inl i)) = (decide (i ∈ l) || acc.any fun q => decide (q.1 = .inl i))
  | [], acc => ⟨acc, rfl, fun i => by simp⟩
  | j :: l, acc => by
    obtain ⟨kvs, e, h⟩ := put_ints v l (putD acc (.inl j) v)
    refine ⟨kvs, e, fun i => ?_⟩
    rw [h, any_put]
    by_cases c : i = j
    · subst c; simp
    · have c2 : ¬ (Sum.inl j : Key) = .inl i := fun z => c (by injection z with z; exact z.symm)
      simp [c, c2]
theorem in_dic (i : Int) (kvs : List (Key × Val)) : inS (.int i) (.dic kvs) = some (kvs.any fun q => decide (q.1 = .inl i)) := rfl
end BV
/-! Loops that may end by a return; rows of pairs. -/
namespace BV
open PySem PySem.Spec PyProof.Rows L2
section
variable {D : Den} {S : Slots} {ss : CSs} {Q : Out → Prop}
theorem forL_invR {f : Val → Slots → Option Out} (I : Nat → Slots → Prop) (E : R → Slots → Prop) : ∀ (vs : List Val) (k : Nat) (S : Slots), (∀ i v S, vs[i]? = some v → I (k + i) S → ∃ o, f v S = some o ∧ match o with
      | .nx S' => I (k + i + 1) S'
      | .ct S' => I (k + i + 1) S'
      | .rt r S' => E r S'
      | .bk _ => False) → I k S → ∃ o, forL f vs S = some o ∧ match o with
      | .nx S' => I (k + vs.length) S'
      | .rt r S' => E r S'
      | _ => False
  | [], k, S, _, h0 => ⟨.nx S, rfl, h0⟩
  | v :: vs, k, S, h, h0 => by
    obtain ⟨o, e1, i1⟩ := h 0 v S rfl h0
    have go : ∀ S1, I (k + 1) S1 → ∃ o, forL f vs S1 = some o ∧ match o with
        | .nx S' => I (k + (v :: vs).length) S'
        | .rt r S' => E r S'
        | _ => False := fun S1 h1 => by
      obtain ⟨o, e2, i2⟩ := forL_invR I E vs (k + 1) S1 (fun i u S hu hi => by
        have := h (i + 1) u S (by simpa using hu) (by rw [show k + (i + 1) = k + 1 + i by omega]; exact hi)
        rw [show k + (i + 1) + 1 = k + 1 + i + 1 by omega] at this
        exact this) h1
      rw [List.length_cons, show k + (vs.length + 1) = k + 1 + vs.length by omega]
      exact ⟨o, e2, i2⟩
    rw [q_forL1, e1]
    cases o with
    | nx S1 => exact go S1 i1
    | ct S1 => exact go S1 i1
    | bk S1 => exact i1.elim
    | rt r S1 => exact ⟨_, rfl, i1⟩
theorem Runs.loopR {t : CT} {it : CI} {body : CSs} {p : Pos} {vs : List Val} {S1 : Slots} (I : Nat → Slots → Prop) (E : R → Slots → Prop) (h : evI D it S = some (vs, S1)) (h0 : I 0 S1)
    (turn : ∀ i v S, vs[i]? = some v → I i S → ∃ S2, t.set v S = some S2 ∧ Runs D body S2 fun o => match o with
      | .nx S' => I (i + 1) S'
      | .ct S' => I (i + 1) S'
      | .rt r S' => E r S'
      | .bk _ => False) (hE : ∀ r S', E r S' → Q (.rt r S')) (k : ∀ S', I vs.length S' → Runs D ss S' Q) : Runs D (.cons (.forr t it body p) ss) S Q := by
  obtain ⟨o, e2, i2⟩ := forL_invR (f := fun v S1 => (t.set v S1).bind fun S2 => exs D body S2) I E vs 0 S1 (fun i v S hv hi => by
    rw [Nat.zero_add] at hi ⊢
    obtain ⟨S2, a, o, b, c⟩ := turn i v S hv hi
    exact ⟨o, by show (t.set v S).bind _ = _; rw [a]; exact b, c⟩) h0
  rw [Nat.zero_add] at i2
  have hx : ex D (.forr t it body p) S = some o := by
    show (evI D it S).bind _ = _
    rw [h]
    exact e2
  cases o with
  | nx S' => exact Runs.step hx (k S' i2)
  | rt r S' => exact Runs.ret hx (hE r S' i2)
  | bk S' => exact i2.elim
  | ct S' => exact i2.elim
end
theorem numbered_map {α : Type} (f : α → Val) : ∀ (l : List α) (k : Nat), numbered k (l.map f) = (l.zipIdx k).map fun q => .tup [.int (q.2 : Int), f q.1]
  | [], _ => rfl
  | a :: l, k => by
    rw [List.map_cons, List.zipIdx_cons, List.map_cons, ← numbered_map f l (k + 1)]
    rfl
theorem pairUp_ints : ∀ (l m : List Int), pairUp (l.map .int) (m.map .int) = (l.zip m).map fun q => .tup [.int q.1, .int q.2]
  | [], _ => rfl
  | _ :: _, [] => rfl
  | a :: l, b :: m => by
    show Val.tup [.int a, .int b] :: pairUp (l.map .int) (m.map .int) = _
    rw [pairUp_ints l m]; rfl
@[simp] theorem str_inj {a b : String} : (Str.ofString a = Str.ofString b) ↔ a = b := by
  constructor
  · intro h
    rw [Str.ofString_eq_toList, Str.ofString_eq_toList] at h
    have h1 : (a.toList.map Char.toNat).toArray = (b.toList.map Char.toNat).toArray := Str.mk.inj h
    have h2 := congrArg Array.toList h1
    rw [List.toList_toArray, List.toList_toArray] at h2
    have h3 : a.toList = b.toList := (List.map_inj_right fun x y e => Char.toNat_inj.mp e).mp h2
    exact String.toList_inj.mp h3
  · rintro rfl; rfl
theorem eqV_str (a b : Str) : L2.eqV (.str a) (.str b) = decide (a = b) := by simp [L2.eqV]; rfl
@[simp] theorem in_str2 {s a b : Str} : inS (.str s) (.tup [.str a, .str b]) = some (decide (a = s) || decide (b = s)) := by
  show some (L2.eqV (.str a) (.str s) || (L2.eqV (.str b) (.str s) || false)) = _
  rw [eqV_str, eqV_str, Bool.or_false]
@[simp] theorem in_str3 {s a b c : Str} : inS (.str s) (.tup [.str a, .str b, .str c]) = some (decide (a = s) || (decide (b = s) || decide (c = s))) := by
  show some (L2.eqV (.str a) (.str s) || (L2.eqV (.str b) (.str s) || (L2.eqV (.str c) (.str s) || false))) = _
  rw [eqV_str, eqV_str, eqV_str, Bool.or_false]
example : decide ((Str.ofString "add") = (Str.ofString "copy")) = false := by simp
end BV
namespace K09
open PySem PySem.Spec PyProof.Rows L2 BV
abbrev prog : Program := PySem.Challenge.pw_haulring_k09_steps_done
def top (i : Nat) : Stmt := prog.main.body.getD i (.Pass ⟨0, 0, 0, 0⟩)
/-- is_whole: 0 thing, 1 least, 2 most -/
def d_is_whole_b : CSs := (.cons (.ret (.bop .And (.cons (.isi (.brw 0 "thing" ⟨20, 22, 20, 27⟩) .int ⟨20, 11, 20, 21⟩ ⟨20, 29, 20, 32⟩ ⟨20, 11, 20, 33⟩) (.cons (.nt (.isi (.brw 0 "thing" ⟨20, 54, 20, 59⟩) .bool ⟨20, 43, 20, 53⟩ ⟨20, 61, 20, 65⟩ ⟨20, 43, 20, 66⟩) ⟨20, 39, 20, 66⟩) (.cons (.chn .LtE .LtE (.brw 1 "least" ⟨20, 73, 20, 78⟩) (.brw 0 "thing" ⟨20, 82, 20, 87⟩) (.brw 2 "most" ⟨20, 91, 20, 95⟩) ⟨20, 73, 20, 95⟩) .nil))) ⟨20, 11, 20, 96⟩) ⟨20, 4, 20, 96⟩)
  .nil)
def d_is_whole : Df := ⟨"is_whole", ["thing", "least", "most"], ["thing", "least", "most"], [], defScope (top 9), d_is_whole_b⟩
/-- is_byte: 0 thing -/
def d_is_byte_b : CSs := (.cons (.ret (.call 0 "is_whole" ⟨22, 11, 22, 19⟩ (.cons (.var 0 "thing" ⟨22, 20, 22, 25⟩) .nil) (.cons "most" (.glb "GREATEST_BYTE" ⟨22, 32, 22, 45⟩) ⟨22, 27, 22, 45⟩ .nil) ⟨22, 11, 22, 46⟩) ⟨22, 4, 22, 46⟩)
  .nil)
def d_is_byte : Df := ⟨"is_byte", ["thing"], ["thing"], [], defScope (top 10), d_is_byte_b⟩
/-- is_flag: 0 thing -/
def d_is_flag_b : CSs := (.cons (.ret (.call 0 "is_whole" ⟨24, 11, 24, 19⟩ (.cons (.var 0 "thing" ⟨24, 20, 24, 25⟩) .nil) (.cons "most" (.bin .Sub (.glb "FLAGS" ⟨24, 32, 24, 37⟩) (.cst (.int 1) 0 ⟨24, 40, 24, 41⟩) ⟨24, 32, 24, 41⟩) ⟨24, 27, 24, 41⟩ .nil) ⟨24, 11, 24, 42⟩) ⟨24, 4, 24, 42⟩)
  .nil)
def d_is_flag : Df := ⟨"is_flag", ["thing"], ["thing"], [], defScope (top 11), d_is_flag_b⟩
def d_is_memory_c0 : CE := (.lc (.call 1 "is_byte" ⟨28, 16, 28, 23⟩ (.cons (.var 1 "one" ⟨28, 24, 28, 27⟩) .nil) .nil ⟨28, 16, 28, 28⟩) (.name 1 "one" ⟨28, 33, 28, 36⟩) (.seq (.var 0 "thing" ⟨28, 40, 28, 45⟩)) .nil { kind := PySem.ScopeKind.function, names := [ (PySem.Str.ofString ".0", PySem.NameKind.local), (PySem.Str.ofString "one", PySem.NameKind.local), (PySem.Str.ofString "is_byte", PySem.NameKind.globalImplicit)], isGenerator := false, isCoroutine := false, more := [] : PySem.Scope } [("one", 1)] ⟨28, 15, 28, 46⟩)
@[simp] theorem d_is_memory_c0_p : d_is_memory_c0.pure = true := rfl
@[simp] theorem d_is_memory_c0_a {D : Den} {es : CEs} {S : Slots} : eva D (.cons d_is_memory_c0 es) S = (ev D d_is_memory_c0 S).bind fun q => match q.1.1 with | .own _ => (eva D es q.2).map fun t => (.val q.1.2 :: t.1, t.2) | .bor => none := rfl
/-- is_memory: 0 thing, 1 one -/
def d_is_memory_b : CSs := (.cons (.ife (.bop .Or (.cons (.nt (.isi (.brw 0 "thing" ⟨26, 22, 26, 27⟩) .tuple ⟨26, 11, 26, 21⟩ ⟨26, 29, 26, 34⟩ ⟨26, 11, 26, 35⟩) ⟨26, 7, 26, 35⟩) (.cons (.nt (.chn .LtE .LtE (.cst (.int 1) 0 ⟨26, 43, 26, 44⟩) (.blt .len ⟨26, 48, 26, 51⟩ (.cons (.brw 0 "thing" ⟨26, 52, 26, 57⟩) .nil) ⟨26, 48, 26, 58⟩) (.glb "MOST_CELLS" ⟨26, 62, 26, 72⟩) ⟨26, 43, 26, 72⟩) ⟨26, 39, 26, 72⟩) .nil)) ⟨26, 7, 26, 72⟩) (.cons (.ret (.cst (.bool false) 0 ⟨27, 15, 27, 20⟩) ⟨27, 8, 27, 20⟩)
    .nil) .nil ⟨26, 4, 27, 20⟩)
  (.cons (.ret (.blt .all ⟨28, 11, 28, 14⟩ (.cons d_is_memory_c0 .nil) ⟨28, 11, 28, 47⟩) ⟨28, 4, 28, 47⟩)
  .nil))
def d_is_memory : Df := ⟨"is_memory", ["thing"], ["thing", "one"], [], defScope (top 12), d_is_memory_b⟩
def d_area_wrong_l0 : CSs := (.cons (.ife (.nt (.call 2 "is_whole" ⟨37, 15, 37, 23⟩ (.cons (.idx (.brw 0 "thing" ⟨37, 24, 37, 29⟩) (.brw 2 "number" ⟨37, 30, 37, 36⟩) ⟨37, 24, 37, 37⟩) .nil) (.cons "least" (.var 3 "least" ⟨37, 45, 37, 50⟩) ⟨37, 39, 37, 50⟩ (.cons "most" (.var 4 "most" ⟨37, 57, 37, 61⟩) ⟨37, 52, 37, 61⟩ .nil)) ⟨37, 15, 37, 62⟩) ⟨37, 11, 37, 62⟩) (.cons (.ret (.lst (.cons (.var 2 "number" ⟨38, 20, 38, 26⟩) .nil) ⟨38, 19, 38, 27⟩) ⟨38, 12, 38, 27⟩)
    .nil) .nil ⟨37, 8, 38, 27⟩)
    .nil)
/-- area_wrong: 0 thing, 1 bounds, 2 number, 3 least, 4 most, 5 start, 6 count, 7 rows, 8 pitch, 9 is_beyond -/
def d_area_wrong_b : CSs := (.cons (.ife (.bop .Or (.cons (.nt (.isi (.brw 0 "thing" ⟨33, 22, 33, 27⟩) .tuple ⟨33, 11, 33, 21⟩ ⟨33, 29, 33, 34⟩ ⟨33, 11, 33, 35⟩) ⟨33, 7, 33, 35⟩) (.cons (.cmp .NotEq (.blt .len ⟨33, 39, 33, 42⟩ (.cons (.brw 0 "thing" ⟨33, 43, 33, 48⟩) .nil) ⟨33, 39, 33, 49⟩) (.cst (.int 4) 0 ⟨33, 53, 33, 54⟩) ⟨33, 39, 33, 54⟩) .nil)) ⟨33, 7, 33, 54⟩) (.cons (.ret (.lst (.cons (.cst .none 0 ⟨34, 16, 34, 20⟩) .nil) ⟨34, 15, 34, 21⟩) ⟨34, 8, 34, 21⟩)
    .nil) .nil ⟨33, 4, 34, 21⟩)
  (.cons (.asg (.name 1 "bounds" ⟨35, 4, 35, 10⟩) (.tup (.cons (.tup (.cons (.cst (.int 0) 0 ⟨35, 15, 35, 16⟩) (.cons (.glb "GREATEST_CELL" ⟨35, 18, 35, 31⟩) .nil)) 0 ⟨35, 14, 35, 32⟩) (.cons (.tup (.cons (.cst (.int 1) 0 ⟨35, 35, 35, 36⟩) (.cons (.glb "MOST_AREA" ⟨35, 38, 35, 47⟩) .nil)) 0 ⟨35, 34, 35, 48⟩) (.cons (.tup (.cons (.cst (.int 1) 0 ⟨35, 51, 35, 52⟩) (.cons (.glb "MOST_AREA" ⟨35, 54, 35, 63⟩) .nil)) 0 ⟨35, 50, 35, 64⟩) (.cons (.tup (.cons (.cst (.int 1) 0 ⟨35, 67, 35, 68⟩) (.cons (.glb "GREATEST_CELL" ⟨35, 70, 35, 83⟩) .nil)) 0 ⟨35, 66, 35, 84⟩) .nil)))) 0 ⟨35, 13, 35, 85⟩) ⟨35, 4, 35, 85⟩)
  (.cons (.forr (.tup (.cons (.name 2 "number" ⟨36, 8, 36, 14⟩) (.cons (.tup (.cons (.name 3 "least" ⟨36, 17, 36, 22⟩) (.cons (.name 4 "most" ⟨36, 24, 36, 28⟩) .nil)) 0 ⟨36, 16, 36, 29⟩) .nil)) 0 ⟨36, 8, 36, 29⟩) (.enum ⟨36, 33, 36, 42⟩ (.var 1 "bounds" ⟨36, 43, 36, 49⟩) ⟨36, 33, 36, 50⟩) d_area_wrong_l0 ⟨36, 4, 38, 27⟩)
  (.cons (.asg (.tup (.cons (.name 5 "start" ⟨39, 4, 39, 9⟩) (.cons (.name 6 "count" ⟨39, 11, 39, 16⟩) (.cons (.name 7 "rows" ⟨39, 18, 39, 22⟩) (.cons (.name 8 "pitch" ⟨39, 24, 39, 29⟩) .nil)))) 0 ⟨39, 4, 39, 29⟩) (.var 0 "thing" ⟨39, 32, 39, 37⟩) ⟨39, 4, 39, 37⟩)
  (.cons (.ife (.bop .Or (.cons (.cmp .Lt (.brw 8 "pitch" ⟨40, 7, 40, 12⟩) (.brw 6 "count" ⟨40, 15, 40, 20⟩) ⟨40, 7, 40, 20⟩) (.cons (.bop .And (.cons (.cmp .Eq (.brw 7 "rows" ⟨40, 25, 40, 29⟩) (.cst (.int 1) 0 ⟨40, 33, 40, 34⟩) ⟨40, 25, 40, 34⟩) (.cons (.cmp .NotEq (.brw 8 "pitch" ⟨40, 39, 40, 44⟩) (.brw 6 "count" ⟨40, 48, 40, 53⟩) ⟨40, 39, 40, 53⟩) .nil)) ⟨40, 25, 40, 53⟩) .nil)) ⟨40, 7, 40, 54⟩) (.cons (.ret (.lst (.cons (.cst (.int 3) 0 ⟨41, 16, 41, 17⟩) .nil) ⟨41, 15, 41, 18⟩) ⟨41, 8, 41, 18⟩)
    .nil) .nil ⟨40, 4, 41, 18⟩)
  (.cons (.asg (.name 9 "is_beyond" ⟨42, 4, 42, 13⟩) (.cmp .Gt (.bin .Add (.bin .Add (.brw 5 "start" ⟨42, 16, 42, 21⟩) (.bin .Mult (.bin .Sub (.brw 7 "rows" ⟨42, 25, 42, 29⟩) (.cst (.int 1) 0 ⟨42, 32, 42, 33⟩) ⟨42, 25, 42, 33⟩) (.brw 8 "pitch" ⟨42, 37, 42, 42⟩) ⟨42, 24, 42, 42⟩) ⟨42, 16, 42, 42⟩) (.brw 6 "count" ⟨42, 45, 42, 50⟩) ⟨42, 16, 42, 50⟩) (.glb "MOST_CELLS" ⟨42, 53, 42, 63⟩) ⟨42, 16, 42, 63⟩) ⟨42, 4, 42, 63⟩)
  (.cons (.ret (.ifx (.bop .Or (.cons (.brw 9 "is_beyond" ⟨43, 20, 43, 29⟩) (.cons (.cmp .Gt (.bin .Mult (.brw 7 "rows" ⟨43, 33, 43, 37⟩) (.brw 6 "count" ⟨43, 40, 43, 45⟩) ⟨43, 33, 43, 45⟩) (.glb "MOST_AREA" ⟨43, 48, 43, 57⟩) ⟨43, 33, 43, 57⟩) .nil)) ⟨43, 20, 43, 57⟩) (.lst (.cons (.glb "END" ⟨43, 12, 43, 15⟩) .nil) ⟨43, 11, 43, 16⟩) (.lst .nil ⟨43, 63, 43, 65⟩) ⟨43, 11, 43, 65⟩) ⟨43, 4, 43, 65⟩)
  .nil)))))))
def d_area_wrong : Df := ⟨"area_wrong", ["thing"], ["thing", "bounds", "number", "least", "most", "start", "count", "rows", "pitch", "is_beyond"], [], defScope (top 16), d_area_wrong_b⟩
/-- own_size: 0 area, 1 start, 2 count, 3 rows, 4 pitch -/
def d_own_size_b : CSs := (.cons (.asg (.tup (.cons (.name 1 "start" ⟨45, 4, 45, 9⟩) (.cons (.name 2 "count" ⟨45, 11, 45, 16⟩) (.cons (.name 3 "rows" ⟨45, 18, 45, 22⟩) (.cons (.name 4 "pitch" ⟨45, 24, 45, 29⟩) .nil)))) 0 ⟨45, 4, 45, 29⟩) (.var 0 "area" ⟨45, 32, 45, 36⟩) ⟨45, 4, 45, 36⟩)
  (.cons (.ret (.bin .Mult (.brw 2 "count" ⟨46, 11, 46, 16⟩) (.brw 3 "rows" ⟨46, 19, 46, 23⟩) ⟨46, 11, 46, 23⟩) ⟨46, 4, 46, 23⟩)
  .nil))
def d_own_size : Df := ⟨"own_size", ["area"], ["area", "start", "count", "rows", "pitch"], [], defScope (top 17), d_own_size_b⟩
/-- is_thing: 0 thing, 1 kind -/
def d_is_thing_b : CSs := (.cons (.ife (.cmp .Eq (.brw 1 "kind" ⟨60, 7, 60, 11⟩) (.cst (.str "A") 0 ⟨60, 15, 60, 18⟩) ⟨60, 7, 60, 18⟩) (.cons (.ret (.cmp .Eq (.call 3 "area_wrong" ⟨61, 15, 61, 25⟩ (.cons (.var 0 "thing" ⟨61, 26, 61, 31⟩) .nil) .nil ⟨61, 15, 61, 32⟩) (.lst .nil ⟨61, 36, 61, 38⟩) ⟨61, 15, 61, 38⟩) ⟨61, 8, 61, 38⟩)
    .nil) .nil ⟨60, 4, 61, 38⟩)
  (.cons (.ife (.cmp .Eq (.brw 1 "kind" ⟨62, 7, 62, 11⟩) (.cst (.str "B") 0 ⟨62, 15, 62, 18⟩) ⟨62, 7, 62, 18⟩) (.cons (.ret (.call 1 "is_byte" ⟨63, 15, 63, 22⟩ (.cons (.var 0 "thing" ⟨63, 23, 63, 28⟩) .nil) .nil ⟨63, 15, 63, 29⟩) ⟨63, 8, 63, 29⟩)
    .nil) .nil ⟨62, 4, 63, 29⟩)
  (.cons (.ife (.cmp .Eq (.brw 1 "kind" ⟨64, 7, 64, 11⟩) (.cst (.str "C") 0 ⟨64, 15, 64, 18⟩) ⟨64, 7, 64, 18⟩) (.cons (.ret (.call 0 "is_whole" ⟨65, 15, 65, 23⟩ (.cons (.var 0 "thing" ⟨65, 24, 65, 29⟩) .nil) (.cons "most" (.glb "GREATEST_CELL" ⟨65, 36, 65, 49⟩) ⟨65, 31, 65, 49⟩ .nil) ⟨65, 15, 65, 50⟩) ⟨65, 8, 65, 50⟩)
    .nil) .nil ⟨64, 4, 65, 50⟩)
  (.cons (.ife (.cmp .Eq (.brw 1 "kind" ⟨66, 7, 66, 11⟩) (.cst (.str "F") 0 ⟨66, 15, 66, 18⟩) ⟨66, 7, 66, 18⟩) (.cons (.ret (.call 4 "is_flag" ⟨67, 15, 67, 22⟩ (.cons (.var 0 "thing" ⟨67, 23, 67, 28⟩) .nil) .nil ⟨67, 15, 67, 29⟩) ⟨67, 8, 67, 29⟩)
    .nil) .nil ⟨66, 4, 67, 29⟩)
  (.cons (.ife (.cmp .Eq (.brw 1 "kind" ⟨68, 7, 68, 11⟩) (.cst (.str "H") 0 ⟨68, 15, 68, 18⟩) ⟨68, 7, 68, 18⟩) (.cons (.ret (.call 0 "is_whole" ⟨69, 15, 69, 23⟩ (.cons (.var 0 "thing" ⟨69, 24, 69, 29⟩) .nil) (.cons "most" (.cst (.int 1) 0 ⟨69, 36, 69, 37⟩) ⟨69, 31, 69, 37⟩ .nil) ⟨69, 15, 69, 38⟩) ⟨69, 8, 69, 38⟩)
    .nil) .nil ⟨68, 4, 69, 38⟩)
  (.cons (.ife (.cmp .Eq (.brw 1 "kind" ⟨70, 7, 70, 11⟩) (.cst (.str "N") 0 ⟨70, 15, 70, 18⟩) ⟨70, 7, 70, 18⟩) (.cons (.ret (.call 2 "is_whole" ⟨71, 15, 71, 23⟩ (.cons (.var 0 "thing" ⟨71, 24, 71, 29⟩) .nil) (.cons "least" (.cst (.int 1) 0 ⟨71, 37, 71, 38⟩) ⟨71, 31, 71, 38⟩ (.cons "most" (.glb "MOST_NOTED" ⟨71, 45, 71, 55⟩) ⟨71, 40, 71, 55⟩ .nil)) ⟨71, 15, 71, 56⟩) ⟨71, 8, 71, 56⟩)
    .nil) .nil ⟨70, 4, 71, 56⟩)
  (.cons (.ret (.bop .Or (.cons (.cmp .Eq (.brw 1 "kind" ⟨72, 11, 72, 15⟩) (.cst (.str "S") 0 ⟨72, 19, 72, 22⟩) ⟨72, 11, 72, 22⟩) (.cons (.cmp .Eq (.call 5 "list_wrong" ⟨72, 26, 72, 36⟩ (.cons (.var 0 "thing" ⟨72, 37, 72, 42⟩) .nil) .nil ⟨72, 26, 72, 43⟩) (.lst .nil ⟨72, 47, 72, 49⟩) ⟨72, 26, 72, 49⟩) .nil)) ⟨72, 11, 72, 49⟩) ⟨72, 4, 72, 49⟩)
  .nil)))))))
def d_is_thing : Df := ⟨"is_thing", ["thing", "kind"], ["thing", "kind"], [], defScope (top 30), d_is_thing_b⟩
/-- form_of: 0 thing, 1 forms, 2 kinds -/
def d_form_of_b : CSs := (.cons (.ife (.bop .Or (.cons (.nt (.isi (.brw 0 "thing" ⟨74, 22, 74, 27⟩) .tuple ⟨74, 11, 74, 21⟩ ⟨74, 29, 74, 34⟩ ⟨74, 11, 74, 35⟩) ⟨74, 7, 74, 35⟩) (.cons (.cmp .Eq (.brw 0 "thing" ⟨74, 39, 74, 44⟩) (.tup .nil 0 ⟨74, 48, 74, 50⟩) ⟨74, 39, 74, 50⟩) (.cons (.nt (.isi (.idx (.brw 0 "thing" ⟨74, 70, 74, 75⟩) (.cst (.int 0) 0 ⟨74, 76, 74, 77⟩) ⟨74, 70, 74, 78⟩) .str ⟨74, 59, 74, 69⟩ ⟨74, 80, 74, 83⟩ ⟨74, 59, 74, 84⟩) ⟨74, 55, 74, 84⟩) (.cons (.cmp .NotIn (.idx (.brw 0 "thing" ⟨74, 90, 74, 95⟩) (.cst (.int 0) 0 ⟨74, 96, 74, 97⟩) ⟨74, 90, 74, 98⟩) (.brw 1 "forms" ⟨74, 106, 74, 111⟩) ⟨74, 90, 74, 111⟩) .nil)))) ⟨74, 7, 74, 112⟩) (.cons (.ret (.lst .nil ⟨75, 15, 75, 17⟩) ⟨75, 8, 75, 17⟩)
    .nil) .nil ⟨74, 4, 75, 17⟩)
  (.cons (.asg (.name 2 "kinds" ⟨76, 4, 76, 9⟩) (.idx (.brw 1 "forms" ⟨76, 12, 76, 17⟩) (.idx (.brw 0 "thing" ⟨76, 18, 76, 23⟩) (.cst (.int 0) 0 ⟨76, 24, 76, 25⟩) ⟨76, 18, 76, 26⟩) ⟨76, 12, 76, 27⟩) ⟨76, 4, 76, 27⟩)
  (.cons (.ret (.ifx (.cmp .Eq (.blt .len ⟨77, 22, 77, 25⟩ (.cons (.brw 0 "thing" ⟨77, 26, 77, 31⟩) .nil) ⟨77, 22, 77, 32⟩) (.bin .Add (.blt .len ⟨77, 36, 77, 39⟩ (.cons (.brw 2 "kinds" ⟨77, 40, 77, 45⟩) .nil) ⟨77, 36, 77, 46⟩) (.cst (.int 1) 0 ⟨77, 49, 77, 50⟩) ⟨77, 36, 77, 50⟩) ⟨77, 22, 77, 50⟩) (.lst (.cons (.var 2 "kinds" ⟨77, 12, 77, 17⟩) .nil) ⟨77, 11, 77, 18⟩) (.lst .nil ⟨77, 56, 77, 58⟩) ⟨77, 11, 77, 58⟩) ⟨77, 4, 77, 58⟩)
  .nil)))
def d_form_of : Df := ⟨"form_of", ["thing", "forms"], ["thing", "forms", "kinds"], [], defScope (top 31), d_form_of_b⟩
def d_things_wrong_c0 : CE := (.lc (.bin .Add (.brw 2 "number" ⟨79, 12, 79, 18⟩) (.cst (.int 1) 0 ⟨79, 21, 79, 22⟩) ⟨79, 12, 79, 22⟩) (.tup (.cons (.name 2 "number" ⟨79, 27, 79, 33⟩) (.cons (.name 3 "kind" ⟨79, 35, 79, 39⟩) .nil)) 0 ⟨79, 27, 79, 39⟩) (.enum ⟨79, 43, 79, 52⟩ (.var 1 "kinds" ⟨79, 53, 79, 58⟩) ⟨79, 43, 79, 59⟩) (.cons (.nt (.call 6 "is_thing" ⟨79, 67, 79, 75⟩ (.cons (.idx (.brw 0 "thing" ⟨79, 76, 79, 81⟩) (.bin .Add (.brw 2 "number" ⟨79, 82, 79, 88⟩) (.cst (.int 1) 0 ⟨79, 91, 79, 92⟩) ⟨79, 82, 79, 92⟩) ⟨79, 76, 79, 93⟩) (.cons (.var 3 "kind" ⟨79, 95, 79, 99⟩) .nil)) .nil ⟨79, 67, 79, 100⟩) ⟨79, 63, 79, 100⟩) .nil) { kind := PySem.ScopeKind.function, names := [ (PySem.Str.ofString ".0", PySem.NameKind.local), (PySem.Str.ofString "number", PySem.NameKind.local), (PySem.Str.ofString "kind", PySem.NameKind.local), (PySem.Str.ofString "is_thing", PySem.NameKind.globalImplicit), (PySem.Str.ofString "thing", PySem.NameKind.free)], isGenerator := false, isCoroutine := false, more := [] : PySem.Scope } [("number", 2), ("kind", 3)] ⟨79, 11, 79, 101⟩)
@[simp] theorem d_things_wrong_c0_p : d_things_wrong_c0.pure = true := rfl
@[simp] theorem d_things_wrong_c0_a {D : Den} {es : CEs} {S : Slots} : eva D (.cons d_things_wrong_c0 es) S = (ev D d_things_wrong_c0 S).bind fun q => match q.1.1 with | .own _ => (eva D es q.2).map fun t => (.val q.1.2 :: t.1, t.2) | .bor => none := rfl
/-- things_wrong: 0 thing, 1 kinds, 2 number, 3 kind -/
def d_things_wrong_b : CSs := (.cons (.ret (.slc d_things_wrong_c0 .no (.is (.cst (.int 1) 0 ⟨79, 103, 79, 104⟩)) ⟨79, 102, 79, 104⟩ ⟨79, 11, 79, 105⟩) ⟨79, 4, 79, 105⟩)
  .nil)
def d_things_wrong : Df := ⟨"things_wrong", ["thing", "kinds"], ["thing", "kinds", "number", "kind"], [], defScope (top 32), d_things_wrong_b⟩
def d_step_wrong_l0 : CSs := (.cons (.asg (.name 2 "wrong" ⟨82, 8, 82, 13⟩) (.call 7 "things_wrong" ⟨82, 16, 82, 28⟩ (.cons (.var 0 "thing" ⟨82, 29, 82, 34⟩) (.cons (.var 1 "kinds" ⟨82, 36, 82, 41⟩) .nil)) .nil ⟨82, 16, 82, 42⟩) ⟨82, 8, 82, 42⟩)
    (.cons (.ife (.bop .Or (.cons (.cmp .NotEq (.brw 2 "wrong" ⟨83, 11, 83, 16⟩) (.lst .nil ⟨83, 20, 83, 22⟩) ⟨83, 11, 83, 22⟩) (.cons (.cmp .NotIn (.idx (.brw 0 "thing" ⟨83, 26, 83, 31⟩) (.cst (.int 0) 0 ⟨83, 32, 83, 33⟩) ⟨83, 26, 83, 34⟩) (.tup (.cons (.glb "COPY_steps" ⟨83, 43, 83, 53⟩) (.cons (.glb "FILL_steps" ⟨83, 55, 83, 65⟩) .nil)) 0 ⟨83, 42, 83, 66⟩) ⟨83, 26, 83, 66⟩) .nil)) ⟨83, 11, 83, 66⟩) (.cons (.ret (.var 2 "wrong" ⟨84, 19, 84, 24⟩) ⟨84, 12, 84, 24⟩)
    .nil) .nil ⟨83, 8, 84, 24⟩)
    (.cons (.ife (.bop .And (.cons (.cmp .Eq (.idx (.brw 0 "thing" ⟨85, 11, 85, 16⟩) (.cst (.int 0) 0 ⟨85, 17, 85, 18⟩) ⟨85, 11, 85, 19⟩) (.glb "COPY_steps" ⟨85, 23, 85, 33⟩) ⟨85, 11, 85, 33⟩) (.cons (.cmp .NotEq (.call 8 "own_size" ⟨85, 38, 85, 46⟩ (.cons (.idx (.brw 0 "thing" ⟨85, 47, 85, 52⟩) (.cst (.int 1) 0 ⟨85, 53, 85, 54⟩) ⟨85, 47, 85, 55⟩) .nil) .nil ⟨85, 38, 85, 56⟩) (.call 8 "own_size" ⟨85, 60, 85, 68⟩ (.cons (.idx (.brw 0 "thing" ⟨85, 69, 85, 74⟩) (.cst (.int 2) 0 ⟨85, 75, 85, 76⟩) ⟨85, 69, 85, 77⟩) .nil) .nil ⟨85, 60, 85, 78⟩) ⟨85, 38, 85, 78⟩) .nil)) ⟨85, 11, 85, 78⟩) (.cons (.ret (.lst (.cons (.glb "SIZE" ⟨86, 20, 86, 24⟩) .nil) ⟨86, 19, 86, 25⟩) ⟨86, 12, 86, 25⟩)
    .nil) .nil ⟨85, 8, 86, 25⟩)
    (.cons (.ret (.ifx (.call 0 "is_whole" ⟨87, 21, 87, 29⟩ (.cons (.idx (.brw 0 "thing" ⟨87, 30, 87, 35⟩) (.cst (.int 3) 0 ⟨87, 36, 87, 37⟩) ⟨87, 30, 87, 38⟩) .nil) (.cons "most" (.bin .Sub (.call 8 "own_size" ⟨87, 45, 87, 53⟩ (.cons (.idx (.brw 0 "thing" ⟨87, 54, 87, 59⟩) (.cst (.int 1) 0 ⟨87, 60, 87, 61⟩) ⟨87, 54, 87, 62⟩) .nil) .nil ⟨87, 45, 87, 63⟩) (.cst (.int 1) 0 ⟨87, 66, 87, 67⟩) ⟨87, 45, 87, 67⟩) ⟨87, 40, 87, 67⟩ .nil) ⟨87, 21, 87, 68⟩) (.lst .nil ⟨87, 15, 87, 17⟩) (.lst (.cons (.glb "SKIP" ⟨87, 75, 87, 79⟩) .nil) ⟨87, 74, 87, 80⟩) ⟨87, 15, 87, 80⟩) ⟨87, 8, 87, 80⟩)
    .nil))))
/-- step_wrong: 0 thing, 1 kinds, 2 wrong -/
def d_step_wrong_b : CSs := (.cons (.forr (.name 1 "kinds" ⟨81, 8, 81, 13⟩) (.seq (.call 9 "form_of" ⟨81, 17, 81, 24⟩ (.cons (.var 0 "thing" ⟨81, 25, 81, 30⟩) (.cons (.dcp ⟨81, 32, 81, 36⟩ ⟨81, 37, 81, 47⟩ "STEP_FORMS" ⟨81, 32, 81, 48⟩) .nil)) .nil ⟨81, 17, 81, 49⟩)) d_step_wrong_l0 ⟨81, 4, 87, 80⟩)
  (.cons (.ret (.lst (.cons (.cst .none 0 ⟨88, 12, 88, 16⟩) .nil) ⟨88, 11, 88, 17⟩) ⟨88, 4, 88, 17⟩)
  .nil))
def d_step_wrong : Df := ⟨"step_wrong", ["thing"], ["thing", "kinds", "wrong"], [], defScope (top 33), d_step_wrong_b⟩
def d_need_step_l0 : CSs := (.cons (.nvr (PySem.Stmt.Raise (exc := (some (PySem.Expr.Call (func := (PySem.Expr.Name "BadStep" ⟨91, 14, 91, 21⟩)) (args := [(PySem.Expr.Name "place" ⟨91, 22, 91, 27⟩)]) (keywords := []) (pos := ⟨91, 14, 91, 28⟩)))) (cause := none) (pos := ⟨91, 8, 91, 28⟩)))
    .nil)
/-- need_step: 0 thing, 1 place -/
def d_need_step_b : CSs := (.cons (.forr (.name 1 "place" ⟨90, 8, 90, 13⟩) (.seq (.call 10 "step_wrong" ⟨90, 17, 90, 27⟩ (.cons (.var 0 "thing" ⟨90, 28, 90, 33⟩) .nil) .nil ⟨90, 17, 90, 34⟩)) d_need_step_l0 ⟨90, 4, 91, 28⟩)
  .nil)
def d_need_step : Df := ⟨"need_step", ["thing"], ["thing", "place"], [], defScope (top 34), d_need_step_b⟩
def d_list_wrong_c0 : CE := (.lc (.var 1 "number" ⟨95, 12, 95, 18⟩) (.tup (.cons (.name 1 "number" ⟨95, 23, 95, 29⟩) (.cons (.name 2 "step" ⟨95, 31, 95, 35⟩) .nil)) 0 ⟨95, 23, 95, 35⟩) (.enum ⟨95, 39, 95, 48⟩ (.var 0 "thing" ⟨95, 49, 95, 54⟩) ⟨95, 39, 95, 55⟩) (.cons (.cmp .NotEq (.call 10 "step_wrong" ⟨95, 59, 95, 69⟩ (.cons (.var 2 "step" ⟨95, 70, 95, 74⟩) .nil) .nil ⟨95, 59, 95, 75⟩) (.lst .nil ⟨95, 79, 95, 81⟩) ⟨95, 59, 95, 81⟩) .nil) { kind := PySem.ScopeKind.function, names := [ (PySem.Str.ofString ".0", PySem.NameKind.local), (PySem.Str.ofString "number", PySem.NameKind.local), (PySem.Str.ofString "step", PySem.NameKind.local), (PySem.Str.ofString "step_wrong", PySem.NameKind.globalImplicit)], isGenerator := false, isCoroutine := false, more := [] : PySem.Scope } [("number", 1), ("step", 2)] ⟨95, 11, 95, 82⟩)
@[simp] theorem d_list_wrong_c0_p : d_list_wrong_c0.pure = true := rfl
@[simp] theorem d_list_wrong_c0_a {D : Den} {es : CEs} {S : Slots} : eva D (.cons d_list_wrong_c0 es) S = (ev D d_list_wrong_c0 S).bind fun q => match q.1.1 with | .own _ => (eva D es q.2).map fun t => (.val q.1.2 :: t.1, t.2) | .bor => none := rfl
/-- list_wrong: 0 thing, 1 number, 2 step -/
def d_list_wrong_b : CSs := (.cons (.ife (.bop .Or (.cons (.nt (.isi (.brw 0 "thing" ⟨93, 22, 93, 27⟩) .tuple ⟨93, 11, 93, 21⟩ ⟨93, 29, 93, 34⟩ ⟨93, 11, 93, 35⟩) ⟨93, 7, 93, 35⟩) (.cons (.nt (.chn .LtE .LtE (.cst (.int 1) 0 ⟨93, 43, 93, 44⟩) (.blt .len ⟨93, 48, 93, 51⟩ (.cons (.brw 0 "thing" ⟨93, 52, 93, 57⟩) .nil) ⟨93, 48, 93, 58⟩) (.glb "MOST_STEPS" ⟨93, 62, 93, 72⟩) ⟨93, 43, 93, 72⟩) ⟨93, 39, 93, 72⟩) .nil)) ⟨93, 7, 93, 72⟩) (.cons (.ret (.lst (.cons (.cst .none 0 ⟨94, 16, 94, 20⟩) .nil) ⟨94, 15, 94, 21⟩) ⟨94, 8, 94, 21⟩)
    .nil) .nil ⟨93, 4, 94, 21⟩)
  (.cons (.ret (.slc d_list_wrong_c0 .no (.is (.cst (.int 1) 0 ⟨95, 84, 95, 85⟩)) ⟨95, 83, 95, 85⟩ ⟨95, 11, 95, 86⟩) ⟨95, 4, 95, 86⟩)
  .nil))
def d_list_wrong : Df := ⟨"list_wrong", ["thing"], ["thing", "number", "step"], [], defScope (top 35), d_list_wrong_b⟩
def d_area_cells_c0 : CE := (.lc2 (.bin .Add (.bin .Add (.brw 1 "start" ⟨105, 12, 105, 17⟩) (.bin .Mult (.brw 4 "pitch" ⟨105, 20, 105, 25⟩) (.brw 5 "row" ⟨105, 28, 105, 31⟩) ⟨105, 20, 105, 31⟩) ⟨105, 12, 105, 31⟩) (.brw 6 "at" ⟨105, 34, 105, 36⟩) ⟨105, 12, 105, 36⟩) (.name 5 "row" ⟨105, 41, 105, 44⟩) (.rng1 ⟨105, 48, 105, 53⟩ (.brw 3 "rows" ⟨105, 54, 105, 58⟩) ⟨105, 48, 105, 59⟩) .nil (.name 6 "at" ⟨105, 64, 105, 66⟩) (.rng1 ⟨105, 70, 105, 75⟩ (.brw 2 "count" ⟨105, 76, 105, 81⟩) ⟨105, 70, 105, 82⟩) .nil { kind := PySem.ScopeKind.function, names := [ (PySem.Str.ofString ".0", PySem.NameKind.local), (PySem.Str.ofString "row", PySem.NameKind.local), (PySem.Str.ofString "at", PySem.NameKind.local), (PySem.Str.ofString "range", PySem.NameKind.globalImplicit), (PySem.Str.ofString "count", PySem.NameKind.free), (PySem.Str.ofString "pitch", PySem.NameKind.free), (PySem.Str.ofString "start", PySem.NameKind.free)], isGenerator := false, isCoroutine := false, more := [] : PySem.Scope } [("row", 5), ("at", 6)] [6] ⟨105, 11, 105, 83⟩)
@[simp] theorem d_area_cells_c0_p : d_area_cells_c0.pure = true := rfl
@[simp] theorem d_area_cells_c0_a {D : Den} {es : CEs} {S : Slots} : eva D (.cons d_area_cells_c0 es) S = (ev D d_area_cells_c0 S).bind fun q => match q.1.1 with | .own _ => (eva D es q.2).map fun t => (.val q.1.2 :: t.1, t.2) | .bor => none := rfl
/-- area_cells: 0 area, 1 start, 2 count, 3 rows, 4 pitch, 5 row, 6 at -/
def d_area_cells_b : CSs := (.cons (.asg (.tup (.cons (.name 1 "start" ⟨104, 4, 104, 9⟩) (.cons (.name 2 "count" ⟨104, 11, 104, 16⟩) (.cons (.name 3 "rows" ⟨104, 18, 104, 22⟩) (.cons (.name 4 "pitch" ⟨104, 24, 104, 29⟩) .nil)))) 0 ⟨104, 4, 104, 29⟩) (.var 0 "area" ⟨104, 32, 104, 36⟩) ⟨104, 4, 104, 36⟩)
  (.cons (.ret d_area_cells_c0 ⟨105, 4, 105, 83⟩)
  .nil))
def d_area_cells : Df := ⟨"area_cells", ["area"], ["area", "start", "count", "rows", "pitch", "row", "at"], [], defScope (top 43), d_area_cells_b⟩
/-- cells_touched: 0 step, 1 word, 2 things -/
def d_cells_touched_b : CSs := (.cons (.asgs (.cons (.name 1 "word" ⟨107, 4, 107, 8⟩) .nil) 2 "things" ⟨107, 11, 107, 17⟩ ⟨107, 10, 107, 17⟩ .nil 0 ⟨107, 4, 107, 17⟩ (.var 0 "step" ⟨107, 20, 107, 24⟩) ⟨107, 4, 107, 24⟩)
  (.cons (.ife (.cmp .Eq (.brw 1 "word" ⟨108, 7, 108, 11⟩) (.glb "COPY_plain" ⟨108, 15, 108, 25⟩) ⟨108, 7, 108, 25⟩) (.cons (.ret (.bin .Add (.slc (.call 11 "area_cells" ⟨109, 15, 109, 25⟩ (.cons (.idx (.brw 2 "things" ⟨109, 26, 109, 32⟩) (.cst (.int 0) 0 ⟨109, 33, 109, 34⟩) ⟨109, 26, 109, 35⟩) .nil) .nil ⟨109, 15, 109, 36⟩) (.is (.idx (.brw 2 "things" ⟨109, 37, 109, 43⟩) (.cst (.int 2) 0 ⟨109, 44, 109, 45⟩) ⟨109, 37, 109, 46⟩)) .no ⟨109, 37, 109, 47⟩ ⟨109, 15, 109, 48⟩) (.slc (.call 11 "area_cells" ⟨109, 51, 109, 61⟩ (.cons (.idx (.brw 2 "things" ⟨109, 62, 109, 68⟩) (.cst (.int 1) 0 ⟨109, 69, 109, 70⟩) ⟨109, 62, 109, 71⟩) .nil) .nil ⟨109, 51, 109, 72⟩) (.is (.idx (.brw 2 "things" ⟨109, 73, 109, 79⟩) (.cst (.int 2) 0 ⟨109, 80, 109, 81⟩) ⟨109, 73, 109, 82⟩)) .no ⟨109, 73, 109, 83⟩ ⟨109, 51, 109, 84⟩) ⟨109, 15, 109, 84⟩) ⟨109, 8, 109, 84⟩)
    .nil) .nil ⟨108, 4, 109, 84⟩)
  (.cons (.ife (.cmp .Eq (.brw 1 "word" ⟨110, 7, 110, 11⟩) (.glb "FILL_plain" ⟨110, 15, 110, 25⟩) ⟨110, 7, 110, 25⟩) (.cons (.ret (.slc (.call 11 "area_cells" ⟨111, 15, 111, 25⟩ (.cons (.idx (.brw 2 "things" ⟨111, 26, 111, 32⟩) (.cst (.int 0) 0 ⟨111, 33, 111, 34⟩) ⟨111, 26, 111, 35⟩) .nil) .nil ⟨111, 15, 111, 36⟩) (.is (.idx (.brw 2 "things" ⟨111, 37, 111, 43⟩) (.cst (.int 2) 0 ⟨111, 44, 111, 45⟩) ⟨111, 37, 111, 46⟩)) .no ⟨111, 37, 111, 47⟩ ⟨111, 15, 111, 48⟩) ⟨111, 8, 111, 48⟩)
    .nil) .nil ⟨110, 4, 111, 48⟩)
  (.cons (.ret (.ifx (.cmp .Eq (.brw 1 "word" ⟨112, 50, 112, 54⟩) (.glb "ADD_plain" ⟨112, 58, 112, 67⟩) ⟨112, 50, 112, 67⟩) (.bin .Add (.call 11 "area_cells" ⟨112, 11, 112, 21⟩ (.cons (.idx (.brw 2 "things" ⟨112, 22, 112, 28⟩) (.cst (.int 0) 0 ⟨112, 29, 112, 30⟩) ⟨112, 22, 112, 31⟩) .nil) .nil ⟨112, 11, 112, 32⟩) (.lst (.cons (.idx (.brw 2 "things" ⟨112, 36, 112, 42⟩) (.cst (.int 1) 0 ⟨112, 43, 112, 44⟩) ⟨112, 36, 112, 45⟩) .nil) ⟨112, 35, 112, 46⟩) ⟨112, 11, 112, 46⟩) (.lst .nil ⟨112, 73, 112, 75⟩) ⟨112, 11, 112, 75⟩) ⟨112, 4, 112, 75⟩)
  .nil))))
def d_cells_touched : Df := ⟨"cells_touched", ["step"], ["step", "word", "things"], [], defScope (top 44), d_cells_touched_b⟩
def d_do_step_l0 : CSs := (.cons (.setI 0 "memory" ⟨119, 12, 119, 18⟩ (.brw 8 "target" ⟨119, 19, 119, 25⟩) (.pth 0 "memory" ⟨119, 29, 119, 35⟩ (.brw 7 "source" ⟨119, 36, 119, 42⟩) ⟨119, 29, 119, 43⟩) ⟨119, 12, 119, 26⟩ ⟨119, 12, 119, 43⟩)
    (.cons (.pext (.rt 4 "rows" ⟨120, 12, 120, 16⟩) ⟨120, 12, 120, 23⟩ (.lst (.cons (.tup (.cons (.var 6 "part" ⟨120, 26, 120, 30⟩) (.cons (.glb "READ" ⟨120, 32, 120, 36⟩) (.cons (.var 7 "source" ⟨120, 38, 120, 44⟩) (.cons (.pth 0 "memory" ⟨120, 46, 120, 52⟩ (.brw 8 "target" ⟨120, 53, 120, 59⟩) ⟨120, 46, 120, 60⟩) .nil)))) 0 ⟨120, 25, 120, 61⟩) (.cons (.tup (.cons (.var 6 "part" ⟨120, 64, 120, 68⟩) (.cons (.glb "WRITE" ⟨120, 70, 120, 75⟩) (.cons (.var 8 "target" ⟨120, 77, 120, 83⟩) (.cons (.pth 0 "memory" ⟨120, 85, 120, 91⟩ (.brw 8 "target" ⟨120, 92, 120, 98⟩) ⟨120, 85, 120, 99⟩) .nil)))) 0 ⟨120, 63, 120, 100⟩) .nil)) ⟨120, 24, 120, 101⟩) ⟨120, 12, 120, 102⟩ ⟨120, 12, 120, 102⟩)
    .nil))
def d_do_step_l1 : CSs := (.cons (.setI 0 "memory" ⟨123, 12, 123, 18⟩ (.brw 8 "target" ⟨123, 19, 123, 25⟩) (.idx (.brw 3 "things" ⟨123, 29, 123, 35⟩) (.cst (.int 1) 0 ⟨123, 36, 123, 37⟩) ⟨123, 29, 123, 38⟩) ⟨123, 12, 123, 26⟩ ⟨123, 12, 123, 38⟩)
    (.cons (.app 4 "rows" ⟨124, 12, 124, 16⟩ ⟨124, 12, 124, 23⟩ (.tup (.cons (.var 6 "part" ⟨124, 25, 124, 29⟩) (.cons (.glb "WRITE" ⟨124, 31, 124, 36⟩) (.cons (.var 8 "target" ⟨124, 38, 124, 44⟩) (.cons (.idx (.brw 3 "things" ⟨124, 46, 124, 52⟩) (.cst (.int 1) 0 ⟨124, 53, 124, 54⟩) ⟨124, 46, 124, 55⟩) .nil)))) 0 ⟨124, 24, 124, 56⟩) ⟨124, 12, 124, 57⟩ ⟨124, 12, 124, 57⟩)
    .nil))
def d_do_step_c0 : CE := (.lc (.tup (.cons (.var 6 "part" ⟨126, 17, 126, 21⟩) (.cons (.glb "READ" ⟨126, 23, 126, 27⟩) (.cons (.var 7 "source" ⟨126, 29, 126, 35⟩) (.cons (.pth 0 "memory" ⟨126, 37, 126, 43⟩ (.brw 7 "source" ⟨126, 44, 126, 50⟩) ⟨126, 37, 126, 51⟩) .nil)))) 0 ⟨126, 16, 126, 52⟩) (.tup (.cons (.name 6 "part" ⟨126, 57, 126, 61⟩) (.cons (.name 7 "source" ⟨126, 63, 126, 69⟩) .nil)) 0 ⟨126, 57, 126, 69⟩) (.enum ⟨126, 73, 126, 82⟩ (.call 11 "area_cells" ⟨126, 83, 126, 93⟩ (.cons (.idx (.brw 3 "things" ⟨126, 94, 126, 100⟩) (.cst (.int 0) 0 ⟨126, 101, 126, 102⟩) ⟨126, 94, 126, 103⟩) .nil) .nil ⟨126, 83, 126, 104⟩) ⟨126, 73, 126, 105⟩) .nil { kind := PySem.ScopeKind.function, names := [ (PySem.Str.ofString ".0", PySem.NameKind.local), (PySem.Str.ofString "part", PySem.NameKind.local), (PySem.Str.ofString "source", PySem.NameKind.local), (PySem.Str.ofString "READ", PySem.NameKind.globalImplicit), (PySem.Str.ofString "memory", PySem.NameKind.free)], isGenerator := false, isCoroutine := false, more := [] : PySem.Scope } [("part", 6), ("source", 7)] ⟨126, 15, 126, 106⟩)
@[simp] theorem d_do_step_c0_p : d_do_step_c0.pure = true := rfl
@[simp] theorem d_do_step_c0_a {D : Den} {es : CEs} {S : Slots} : eva D (.cons d_do_step_c0 es) S = (ev D d_do_step_c0 S).bind fun q => match q.1.1 with | .own _ => (eva D es q.2).map fun t => (.val q.1.2 :: t.1, t.2) | .bor => none := rfl
def d_do_step_c1 : CE := (.lc (.idx (.brw 9 "row" ⟨127, 33, 127, 36⟩) (.cst (.int 3) 0 ⟨127, 37, 127, 38⟩) ⟨127, 33, 127, 39⟩) (.name 9 "row" ⟨127, 44, 127, 47⟩) (.seq (.var 4 "rows" ⟨127, 51, 127, 55⟩)) .nil { kind := PySem.ScopeKind.function, names := [(PySem.Str.ofString ".0", PySem.NameKind.local), (PySem.Str.ofString "row", PySem.NameKind.local)], isGenerator := false, isCoroutine := false, more := [] : PySem.Scope } [("row", 9)] ⟨127, 32, 127, 56⟩)
@[simp] theorem d_do_step_c1_p : d_do_step_c1.pure = true := rfl
@[simp] theorem d_do_step_c1_a {D : Den} {es : CEs} {S : Slots} : eva D (.cons d_do_step_c1 es) S = (ev D d_do_step_c1 S).bind fun q => match q.1.1 with | .own _ => (eva D es q.2).map fun t => (.val q.1.2 :: t.1, t.2) | .bor => none := rfl
/-- do_step: 0 memory, 1 step, 2 word, 3 things, 4 rows, 5 pairs, 6 part, 7 source, 8 target, 9 row -/
def d_do_step_b : CSs := (.cons (.asgs (.cons (.name 2 "word" ⟨114, 4, 114, 8⟩) .nil) 3 "things" ⟨114, 11, 114, 17⟩ ⟨114, 10, 114, 17⟩ .nil 0 ⟨114, 4, 114, 17⟩ (.var 1 "step" ⟨114, 20, 114, 24⟩) ⟨114, 4, 114, 24⟩)
  (.cons (.asg (.name 4 "rows" ⟨115, 4, 115, 8⟩) (.lst .nil ⟨115, 11, 115, 13⟩) ⟨115, 4, 115, 13⟩)
  (.cons (.ife (.cmp .Eq (.brw 2 "word" ⟨116, 7, 116, 11⟩) (.glb "COPY_plain" ⟨116, 15, 116, 25⟩) ⟨116, 7, 116, 25⟩) (.cons (.asg (.name 5 "pairs" ⟨117, 8, 117, 13⟩) (.slc (.lzip true ⟨117, 16, 117, 20⟩ ⟨117, 21, 117, 24⟩ (.call 11 "area_cells" ⟨117, 25, 117, 35⟩ (.cons (.idx (.brw 3 "things" ⟨117, 36, 117, 42⟩) (.cst (.int 0) 0 ⟨117, 43, 117, 44⟩) ⟨117, 36, 117, 45⟩) .nil) .nil ⟨117, 25, 117, 46⟩) (.call 11 "area_cells" ⟨117, 48, 117, 58⟩ (.cons (.idx (.brw 3 "things" ⟨117, 59, 117, 65⟩) (.cst (.int 1) 0 ⟨117, 66, 117, 67⟩) ⟨117, 59, 117, 68⟩) .nil) .nil ⟨117, 48, 117, 69⟩) ⟨117, 71, 117, 82⟩ ⟨117, 78, 117, 82⟩ 0 ⟨117, 21, 117, 83⟩ ⟨117, 16, 117, 84⟩) (.is (.idx (.brw 3 "things" ⟨117, 85, 117, 91⟩) (.cst (.int 2) 0 ⟨117, 92, 117, 93⟩) ⟨117, 85, 117, 94⟩)) .no ⟨117, 85, 117, 95⟩ ⟨117, 16, 117, 96⟩) ⟨117, 8, 117, 96⟩)
    (.cons (.forr (.tup (.cons (.name 6 "part" ⟨118, 12, 118, 16⟩) (.cons (.tup (.cons (.name 7 "source" ⟨118, 19, 118, 25⟩) (.cons (.name 8 "target" ⟨118, 27, 118, 33⟩) .nil)) 0 ⟨118, 18, 118, 34⟩) .nil)) 0 ⟨118, 12, 118, 34⟩) (.enum ⟨118, 38, 118, 47⟩ (.var 5 "pairs" ⟨118, 48, 118, 53⟩) ⟨118, 38, 118, 54⟩) d_do_step_l0 ⟨118, 8, 120, 102⟩)
    .nil)) .nil ⟨116, 4, 120, 102⟩)
  (.cons (.ife (.cmp .Eq (.brw 2 "word" ⟨121, 7, 121, 11⟩) (.glb "FILL_plain" ⟨121, 15, 121, 25⟩) ⟨121, 7, 121, 25⟩) (.cons (.forr (.tup (.cons (.name 6 "part" ⟨122, 12, 122, 16⟩) (.cons (.name 8 "target" ⟨122, 18, 122, 24⟩) .nil)) 0 ⟨122, 12, 122, 24⟩) (.enum ⟨122, 28, 122, 37⟩ (.slc (.call 11 "area_cells" ⟨122, 38, 122, 48⟩ (.cons (.idx (.brw 3 "things" ⟨122, 49, 122, 55⟩) (.cst (.int 0) 0 ⟨122, 56, 122, 57⟩) ⟨122, 49, 122, 58⟩) .nil) .nil ⟨122, 38, 122, 59⟩) (.is (.idx (.brw 3 "things" ⟨122, 60, 122, 66⟩) (.cst (.int 2) 0 ⟨122, 67, 122, 68⟩) ⟨122, 60, 122, 69⟩)) .no ⟨122, 60, 122, 70⟩ ⟨122, 38, 122, 71⟩) ⟨122, 28, 122, 72⟩) d_do_step_l1 ⟨122, 8, 124, 57⟩)
    .nil) .nil ⟨121, 4, 124, 57⟩)
  (.cons (.ife (.cmp .Eq (.brw 2 "word" ⟨125, 7, 125, 11⟩) (.glb "ADD_plain" ⟨125, 15, 125, 24⟩) ⟨125, 7, 125, 24⟩) (.cons (.asg (.name 4 "rows" ⟨126, 8, 126, 12⟩) d_do_step_c0 ⟨126, 8, 126, 106⟩)
    (.cons (.setI 0 "memory" ⟨127, 8, 127, 14⟩ (.idx (.brw 3 "things" ⟨127, 15, 127, 21⟩) (.cst (.int 1) 0 ⟨127, 22, 127, 23⟩) ⟨127, 15, 127, 24⟩) (.bin .Mod (.sme ⟨127, 28, 127, 31⟩ d_do_step_c1 ⟨127, 28, 127, 57⟩) (.glb "BYTES" ⟨127, 60, 127, 65⟩) ⟨127, 28, 127, 65⟩) ⟨127, 8, 127, 25⟩ ⟨127, 8, 127, 65⟩)
    (.cons (.app 4 "rows" ⟨128, 8, 128, 12⟩ ⟨128, 8, 128, 19⟩ (.tup (.cons (.blt .len ⟨128, 21, 128, 24⟩ (.cons (.brw 4 "rows" ⟨128, 25, 128, 29⟩) .nil) ⟨128, 21, 128, 30⟩) (.cons (.glb "WRITE" ⟨128, 32, 128, 37⟩) (.cons (.idx (.brw 3 "things" ⟨128, 39, 128, 45⟩) (.cst (.int 1) 0 ⟨128, 46, 128, 47⟩) ⟨128, 39, 128, 48⟩) (.cons (.pth 0 "memory" ⟨128, 50, 128, 56⟩ (.idx (.brw 3 "things" ⟨128, 57, 128, 63⟩) (.cst (.int 1) 0 ⟨128, 64, 128, 65⟩) ⟨128, 57, 128, 66⟩) ⟨128, 50, 128, 67⟩) .nil)))) 0 ⟨128, 20, 128, 68⟩) ⟨128, 8, 128, 69⟩ ⟨128, 8, 128, 69⟩)
    .nil))) .nil ⟨125, 4, 128, 69⟩)
  (.cons (.ret (.mov 4 "rows" ⟨129, 11, 129, 15⟩) ⟨129, 4, 129, 15⟩)
  .nil))))))
def d_do_step : Df := ⟨"do_step", ["memory", "step"], ["memory", "step", "word", "things", "rows", "pairs", "part", "source", "target", "row"], [0], defScope (top 45), d_do_step_b⟩
/-- need_memory: 0 memory -/
def d_need_memory_b : CSs := (.cons (.ife (.nt (.call 12 "is_memory" ⟨131, 11, 131, 20⟩ (.cons (.var 0 "memory" ⟨131, 21, 131, 27⟩) .nil) .nil ⟨131, 11, 131, 28⟩) ⟨131, 7, 131, 28⟩) (.cons (.nvr (PySem.Stmt.Raise (exc := (some (PySem.Expr.Call (func := (PySem.Expr.Name "BadMemory" ⟨132, 14, 132, 23⟩)) (args := [(PySem.Expr.Constant PySem.Const.none 0 ⟨132, 24, 132, 28⟩)]) (keywords := []) (pos := ⟨132, 14, 132, 29⟩)))) (cause := none) (pos := ⟨132, 8, 132, 29⟩)))
    .nil) .nil ⟨131, 4, 132, 29⟩)
  .nil)
def d_need_memory : Df := ⟨"need_memory", ["memory"], ["memory"], [], defScope (top 46), d_need_memory_b⟩
/-- need_inside: 0 memory, 1 cells -/
def d_need_inside_b : CSs := (.cons (.ife (.cmp .GtE (.mxd ⟨134, 7, 134, 10⟩ (.brw 1 "cells" ⟨134, 11, 134, 16⟩) (.cst (.int 0) 0 ⟨134, 26, 134, 27⟩) ⟨134, 18, 134, 27⟩ ⟨134, 7, 134, 28⟩) (.blt .len ⟨134, 32, 134, 35⟩ (.cons (.brw 0 "memory" ⟨134, 36, 134, 42⟩) .nil) ⟨134, 32, 134, 43⟩) ⟨134, 7, 134, 43⟩) (.cons (.nvr (PySem.Stmt.Raise (exc := (some (PySem.Expr.Call (func := (PySem.Expr.Name "BadMemory" ⟨135, 14, 135, 23⟩)) (args := [(PySem.Expr.Constant (PySem.Const.str "end") 0 ⟨135, 24, 135, 29⟩)]) (keywords := []) (pos := ⟨135, 14, 135, 30⟩)))) (cause := none) (pos := ⟨135, 8, 135, 30⟩)))
    .nil) .nil ⟨134, 4, 135, 30⟩)
  .nil)
def d_need_inside : Df := ⟨"need_inside", ["memory", "cells"], ["memory", "cells"], [], defScope (top 47), d_need_inside_b⟩
def d_own_steps_done_l0 : CSs := (.cons (.expr (.call 13 "do_step" ⟨139, 8, 139, 15⟩ (.cons (.ref 2 "found" ⟨139, 16, 139, 21⟩) (.cons (.var 3 "step" ⟨139, 23, 139, 27⟩) .nil)) .nil ⟨139, 8, 139, 28⟩) ⟨139, 8, 139, 28⟩)
    .nil)
/-- own_steps_done: 0 memory, 1 steps, 2 found, 3 step -/
def d_own_steps_done_b : CSs := (.cons (.asg (.name 2 "found" ⟨137, 4, 137, 9⟩) (.blt .list ⟨137, 12, 137, 16⟩ (.cons (.brw 0 "memory" ⟨137, 17, 137, 23⟩) .nil) ⟨137, 12, 137, 24⟩) ⟨137, 4, 137, 24⟩)
  (.cons (.forr (.name 3 "step" ⟨138, 8, 138, 12⟩) (.seq (.var 1 "steps" ⟨138, 16, 138, 21⟩)) d_own_steps_done_l0 ⟨138, 4, 139, 28⟩)
  (.cons (.ret (.blt .tuple ⟨140, 11, 140, 16⟩ (.cons (.brw 2 "found" ⟨140, 17, 140, 22⟩) .nil) ⟨140, 11, 140, 23⟩) ⟨140, 4, 140, 23⟩)
  .nil)))
def d_own_steps_done : Df := ⟨"own_steps_done", ["memory", "steps"], ["memory", "steps", "found", "step"], [], defScope (top 48), d_own_steps_done_b⟩
/-- step_done: 0 memory, 1 step -/
def d_step_done_b : CSs := (.cons (.expr (.call 14 "need_memory" ⟨142, 4, 142, 15⟩ (.cons (.var 0 "memory" ⟨142, 16, 142, 22⟩) .nil) .nil ⟨142, 4, 142, 23⟩) ⟨142, 4, 142, 23⟩)
  (.cons (.expr (.call 15 "need_step" ⟨143, 4, 143, 13⟩ (.cons (.var 1 "step" ⟨143, 14, 143, 18⟩) .nil) .nil ⟨143, 4, 143, 19⟩) ⟨143, 4, 143, 19⟩)
  (.cons (.expr (.call 16 "need_inside" ⟨144, 4, 144, 15⟩ (.cons (.var 0 "memory" ⟨144, 16, 144, 22⟩) (.cons (.call 17 "cells_touched" ⟨144, 24, 144, 37⟩ (.cons (.var 1 "step" ⟨144, 38, 144, 42⟩) .nil) .nil ⟨144, 24, 144, 43⟩) .nil)) .nil ⟨144, 4, 144, 44⟩) ⟨144, 4, 144, 44⟩)
  (.cons (.ret (.call 18 "own_steps_done" ⟨145, 11, 145, 25⟩ (.cons (.var 0 "memory" ⟨145, 26, 145, 32⟩) (.cons (.tup (.cons (.var 1 "step" ⟨145, 35, 145, 39⟩) .nil) 0 ⟨145, 34, 145, 41⟩) .nil)) .nil ⟨145, 11, 145, 42⟩) ⟨145, 4, 145, 42⟩)
  .nil))))
def d_step_done : Df := ⟨"step_done", ["memory", "step"], ["memory", "step"], [], defScope (top 49), d_step_done_b⟩
/-- _law_mixed: 0 _law_drawn, 1 _law_k, 2 _law_number -/
def d_law_mixed_b : CSs := (.cons (.asg (.name 2 "_law_number" ⟨148, 4, 148, 15⟩) (.bin .Add (.bin .Add (.bin .Mod (.brw 0 "_law_drawn" ⟨148, 18, 148, 28⟩) (.idx (.lst (.cons (.cst (.int 2147483629) 0 ⟨148, 32, 148, 42⟩) (.cons (.cst (.int 2147483587) 0 ⟨148, 44, 148, 54⟩) (.cons (.cst (.int 2147483579) 0 ⟨148, 56, 148, 66⟩) .nil))) ⟨148, 31, 148, 67⟩) (.bin .Mod (.brw 1 "_law_k" ⟨148, 68, 148, 74⟩) (.cst (.int 3) 0 ⟨148, 77, 148, 78⟩) ⟨148, 68, 148, 78⟩) ⟨148, 31, 148, 79⟩) ⟨148, 18, 148, 79⟩) (.bin .Mult (.cst (.int 104729) 0 ⟨148, 82, 148, 88⟩) (.brw 1 "_law_k" ⟨148, 91, 148, 97⟩) ⟨148, 82, 148, 97⟩) ⟨148, 18, 148, 97⟩) (.cst (.int 17) 0 ⟨148, 100, 148, 102⟩) ⟨148, 18, 148, 102⟩) ⟨148, 4, 148, 102⟩)
  (.cons (.ret (.bin .Mod (.bin .Mult (.bin .Mod (.bin .Pow (.brw 2 "_law_number" ⟨149, 11, 149, 22⟩) (.cst (.int 3) 0 ⟨149, 26, 149, 27⟩) ⟨149, 11, 149, 27⟩) (.cst (.int 2147483647) 0 ⟨149, 30, 149, 40⟩) ⟨149, 11, 149, 40⟩) (.bin .Add (.cst (.int 48271) 0 ⟨149, 44, 149, 49⟩) (.bin .Mult (.cst (.int 2) 0 ⟨149, 52, 149, 53⟩) (.brw 1 "_law_k" ⟨149, 56, 149, 62⟩) ⟨149, 52, 149, 62⟩) ⟨149, 44, 149, 62⟩) ⟨149, 11, 149, 63⟩) (.cst (.int 2147483629) 0 ⟨149, 66, 149, 76⟩) ⟨149, 11, 149, 76⟩) ⟨149, 4, 149, 76⟩)
  .nil))
def d_law_mixed : Df := ⟨"_law_mixed", ["_law_drawn", "_law_k"], ["_law_drawn", "_law_k", "_law_number"], [], defScope (top 51), d_law_mixed_b⟩
/-- _law_begun: 0 _law_script, 1 _law_k, 2 _law_drawn, 3 _law_behind -/
def d_law_begun_b : CSs := (.cons (.asg (.tup (.cons (.name 2 "_law_drawn" ⟨151, 4, 151, 14⟩) (.cons (.name 3 "_law_behind" ⟨151, 16, 151, 27⟩) .nil)) 0 ⟨151, 4, 151, 27⟩) (.slc (.bin .Add (.slc (.brw 0 "_law_script" ⟨151, 31, 151, 42⟩) (.is (.brw 1 "_law_k" ⟨151, 43, 151, 49⟩)) (.is (.bin .Add (.brw 1 "_law_k" ⟨151, 50, 151, 56⟩) (.cst (.int 2) 0 ⟨151, 59, 151, 60⟩) ⟨151, 50, 151, 60⟩)) ⟨151, 43, 151, 60⟩ ⟨151, 31, 151, 61⟩) (.lst (.cons (.cst (.int 5) 0 ⟨151, 65, 151, 66⟩) (.cons (.cst (.int 7) 0 ⟨151, 68, 151, 69⟩) .nil)) ⟨151, 64, 151, 70⟩) ⟨151, 31, 151, 70⟩) .no (.is (.cst (.int 2) 0 ⟨151, 73, 151, 74⟩)) ⟨151, 72, 151, 74⟩ ⟨151, 30, 151, 75⟩) ⟨151, 4, 151, 75⟩)
  (.cons (.ret (.dsp (.cons "left" 0 ⟨152, 12, 152, 18⟩ (.ifx (.cmp .GtE (.brw 2 "_law_drawn" ⟨152, 34, 152, 44⟩) (.bin .Pow (.cst (.int 10) 0 ⟨152, 48, 152, 50⟩) (.cst (.int 18) 0 ⟨152, 54, 152, 56⟩) ⟨152, 48, 152, 56⟩) ⟨152, 34, 152, 56⟩) (.var 2 "_law_drawn" ⟨152, 20, 152, 30⟩) (.cst (.int 0) 0 ⟨152, 62, 152, 63⟩) ⟨152, 20, 152, 63⟩) (.cons "own" 0 ⟨152, 65, 152, 70⟩ (.var 2 "_law_drawn" ⟨152, 72, 152, 82⟩) (.cons "behind" 0 ⟨152, 84, 152, 92⟩ (.var 3 "_law_behind" ⟨152, 94, 152, 105⟩) (.cons "at" 0 ⟨152, 107, 152, 111⟩ (.bin .Mult (.cst (.int 64) 0 ⟨152, 113, 152, 115⟩) (.brw 1 "_law_k" ⟨152, 118, 152, 124⟩) ⟨152, 113, 152, 124⟩) .nil)))) ⟨152, 11, 152, 125⟩) ⟨152, 4, 152, 125⟩)
  .nil))
def d_law_begun : Df := ⟨"_law_begun", ["_law_script", "_law_k"], ["_law_script", "_law_k", "_law_drawn", "_law_behind"], [], defScope (top 52), d_law_begun_b⟩
/-- _law_take: 0 _law_state, 1 _law_count, 2 _law_found, 3 _law_number -/
def d_law_take_b : CSs := (.cons (.ife (.cmp .Gt (.plc (.sub (.rt 0 "_law_state" ⟨154, 7, 154, 17⟩) (.cst (.str "left") 0 ⟨154, 18, 154, 24⟩) ⟨154, 7, 154, 25⟩)) (.cst (.int 0) 0 ⟨154, 28, 154, 29⟩) ⟨154, 7, 154, 29⟩) (.cons (.asg (.name 2 "_law_found" ⟨155, 8, 155, 18⟩) (.bin .Mod (.plc (.sub (.rt 0 "_law_state" ⟨155, 21, 155, 31⟩) (.cst (.str "left") 0 ⟨155, 32, 155, 38⟩) ⟨155, 21, 155, 39⟩)) (.brw 1 "_law_count" ⟨155, 42, 155, 52⟩) ⟨155, 21, 155, 52⟩) ⟨155, 8, 155, 52⟩)
    (.cons (.pset (.rt 0 "_law_state" ⟨156, 8, 156, 18⟩) (.cst (.str "left") 0 ⟨156, 19, 156, 25⟩) (.bin .FloorDiv (.plc (.sub (.rt 0 "_law_state" ⟨156, 29, 156, 39⟩) (.cst (.str "left") 0 ⟨156, 40, 156, 46⟩) ⟨156, 29, 156, 47⟩)) (.brw 1 "_law_count" ⟨156, 51, 156, 61⟩) ⟨156, 29, 156, 61⟩) ⟨156, 8, 156, 26⟩ ⟨156, 8, 156, 61⟩)
    (.cons (.ret (.var 2 "_law_found" ⟨157, 15, 157, 25⟩) ⟨157, 8, 157, 25⟩)
    .nil))) .nil ⟨154, 4, 157, 25⟩)
  (.cons (.pset (.rt 0 "_law_state" ⟨158, 4, 158, 14⟩) (.cst (.str "at") 0 ⟨158, 15, 158, 19⟩) (.bin .Add (.plc (.sub (.rt 0 "_law_state" ⟨158, 23, 158, 33⟩) (.cst (.str "at") 0 ⟨158, 34, 158, 38⟩) ⟨158, 23, 158, 39⟩)) (.cst (.int 1) 0 ⟨158, 42, 158, 43⟩) ⟨158, 23, 158, 43⟩) ⟨158, 4, 158, 20⟩ ⟨158, 4, 158, 43⟩)
  (.cons (.asg (.name 3 "_law_number" ⟨159, 4, 159, 15⟩) (.bin .Add (.bin .Mult (.call 19 "_law_mixed" ⟨159, 18, 159, 28⟩ (.cons (.plc (.sub (.rt 0 "_law_state" ⟨159, 29, 159, 39⟩) (.cst (.str "own") 0 ⟨159, 40, 159, 45⟩) ⟨159, 29, 159, 46⟩)) (.cons (.plc (.sub (.rt 0 "_law_state" ⟨159, 48, 159, 58⟩) (.cst (.str "at") 0 ⟨159, 59, 159, 63⟩) ⟨159, 48, 159, 64⟩)) .nil)) .nil ⟨159, 18, 159, 65⟩) (.cst (.int 2147483579) 0 ⟨159, 68, 159, 78⟩) ⟨159, 18, 159, 78⟩) (.call 19 "_law_mixed" ⟨159, 81, 159, 91⟩ (.cons (.plc (.sub (.rt 0 "_law_state" ⟨159, 92, 159, 102⟩) (.cst (.str "behind") 0 ⟨159, 103, 159, 111⟩) ⟨159, 92, 159, 112⟩)) (.cons (.bin .Add (.plc (.sub (.rt 0 "_law_state" ⟨159, 114, 159, 124⟩) (.cst (.str "at") 0 ⟨159, 125, 159, 129⟩) ⟨159, 114, 159, 130⟩)) (.cst (.int 9001) 0 ⟨159, 133, 159, 137⟩) ⟨159, 114, 159, 137⟩) .nil)) .nil ⟨159, 81, 159, 138⟩) ⟨159, 18, 159, 138⟩) ⟨159, 4, 159, 138⟩)
  (.cons (.ret (.bin .Mod (.bin .FloorDiv (.brw 3 "_law_number" ⟨160, 11, 160, 22⟩) (.cst (.int 11) 0 ⟨160, 26, 160, 28⟩) ⟨160, 11, 160, 28⟩) (.brw 1 "_law_count" ⟨160, 31, 160, 41⟩) ⟨160, 11, 160, 41⟩) ⟨160, 4, 160, 41⟩)
  .nil))))
def d_law_take : Df := ⟨"_law_take", ["_law_state", "_law_count"], ["_law_state", "_law_count", "_law_found", "_law_number"], [0], defScope (top 53), d_law_take_b⟩
/-- _law_of: 0 _law_state, 1 _law_some -/
def d_law_of_b : CSs := (.cons (.ret (.idx (.var 1 "_law_some" ⟨162, 11, 162, 20⟩) (.call 20 "_law_take" ⟨162, 21, 162, 30⟩ (.cons (.ref 0 "_law_state" ⟨162, 31, 162, 41⟩) (.cons (.blt .len ⟨162, 43, 162, 46⟩ (.cons (.brw 1 "_law_some" ⟨162, 47, 162, 56⟩) .nil) ⟨162, 43, 162, 57⟩) .nil)) .nil ⟨162, 21, 162, 58⟩) ⟨162, 11, 162, 59⟩) ⟨162, 4, 162, 59⟩)
  .nil)
def d_law_of : Df := ⟨"_law_of", ["_law_state", "_law_some"], ["_law_state", "_law_some"], [0], defScope (top 54), d_law_of_b⟩
def d_law_area_c0 : CE := (.lc (.var 6 "_law_k" ⟨164, 43, 164, 49⟩) (.name 6 "_law_k" ⟨164, 54, 164, 60⟩) (.seq (.tup (.cons (.cst (.int 1) 0 ⟨164, 65, 164, 66⟩) (.cons (.cst (.int 2) 0 ⟨164, 68, 164, 69⟩) (.cons (.cst (.int 3) 0 ⟨164, 71, 164, 72⟩) (.cons (.cst (.int 4) 0 ⟨164, 74, 164, 75⟩) .nil)))) 0 ⟨164, 64, 164, 76⟩)) (.cons (.cmp .Eq (.bin .Mod (.brw 2 "_law_size" ⟨164, 80, 164, 89⟩) (.brw 6 "_law_k" ⟨164, 92, 164, 98⟩) ⟨164, 80, 164, 98⟩) (.cst (.int 0) 0 ⟨164, 102, 164, 103⟩) ⟨164, 80, 164, 103⟩) .nil) { kind := PySem.ScopeKind.function, names := [ (PySem.Str.ofString ".0", PySem.NameKind.local), (PySem.Str.ofString "_law_k", PySem.NameKind.local), (PySem.Str.ofString "_law_size", PySem.NameKind.free)], isGenerator := false, isCoroutine := false, more := [] : PySem.Scope } [("_law_k", 6)] ⟨164, 42, 164, 104⟩)
@[simp] theorem d_law_area_c0_p : d_law_area_c0.pure = true := rfl
@[simp] theorem d_law_area_c0_a {D : Den} {es : CEs} {S : Slots} : eva D (.cons d_law_area_c0 es) S = (ev D d_law_area_c0 S).bind fun q => match q.1.1 with | .own _ => (eva D es q.2).map fun t => (.val q.1.2 :: t.1, t.2) | .bor => none := rfl
/-- _law_area: 0 _law_state, 1 _law_top, 2 _law_size, 3 _law_rows, 4 _law_pitch, 5 _law_span, 6 _law_k -/
def d_law_area_b : CSs := (.cons (.asg (.name 3 "_law_rows" ⟨164, 4, 164, 13⟩) (.call 21 "_law_of" ⟨164, 16, 164, 23⟩ (.cons (.ref 0 "_law_state" ⟨164, 24, 164, 34⟩) (.cons (.bin .Add (.lst (.cons (.cst (.int 1) 0 ⟨164, 37, 164, 38⟩) .nil) ⟨164, 36, 164, 39⟩) d_law_area_c0 ⟨164, 36, 164, 104⟩) .nil)) .nil ⟨164, 16, 164, 105⟩) ⟨164, 4, 164, 105⟩)
  (.cons (.asg (.name 4 "_law_pitch" ⟨165, 4, 165, 14⟩) (.bin .Add (.bin .FloorDiv (.brw 2 "_law_size" ⟨165, 17, 165, 26⟩) (.brw 3 "_law_rows" ⟨165, 30, 165, 39⟩) ⟨165, 17, 165, 39⟩) (.idx (.lst (.cons (.cst (.int 0) 0 ⟨165, 43, 165, 44⟩) (.cons (.call 20 "_law_take" ⟨165, 46, 165, 55⟩ (.cons (.ref 0 "_law_state" ⟨165, 56, 165, 66⟩) (.cons (.cst (.int 4) 0 ⟨165, 68, 165, 69⟩) .nil)) .nil ⟨165, 46, 165, 70⟩) .nil)) ⟨165, 42, 165, 71⟩) (.blt .int ⟨165, 72, 165, 75⟩ (.cons (.cmp .Gt (.brw 3 "_law_rows" ⟨165, 76, 165, 85⟩) (.cst (.int 1) 0 ⟨165, 88, 165, 89⟩) ⟨165, 76, 165, 89⟩) .nil) ⟨165, 72, 165, 90⟩) ⟨165, 42, 165, 91⟩) ⟨165, 17, 165, 91⟩) ⟨165, 4, 165, 91⟩)
  (.cons (.asg (.name 5 "_law_span" ⟨166, 4, 166, 13⟩) (.bin .Add (.bin .Mult (.brw 4 "_law_pitch" ⟨166, 16, 166, 26⟩) (.bin .Sub (.brw 3 "_law_rows" ⟨166, 30, 166, 39⟩) (.cst (.int 1) 0 ⟨166, 42, 166, 43⟩) ⟨166, 30, 166, 43⟩) ⟨166, 16, 166, 44⟩) (.bin .FloorDiv (.brw 2 "_law_size" ⟨166, 47, 166, 56⟩) (.brw 3 "_law_rows" ⟨166, 60, 166, 69⟩) ⟨166, 47, 166, 69⟩) ⟨166, 16, 166, 69⟩) ⟨166, 4, 166, 69⟩)
  (.cons (.ife (.cmp .Gt (.brw 5 "_law_span" ⟨167, 7, 167, 16⟩) (.brw 1 "_law_top" ⟨167, 19, 167, 27⟩) ⟨167, 7, 167, 27⟩) (.cons (.ret (.tup (.cons (.call 20 "_law_take" ⟨168, 16, 168, 25⟩ (.cons (.ref 0 "_law_state" ⟨168, 26, 168, 36⟩) (.cons (.bin .Add (.bin .Sub (.brw 1 "_law_top" ⟨168, 38, 168, 46⟩) (.brw 2 "_law_size" ⟨168, 49, 168, 58⟩) ⟨168, 38, 168, 58⟩) (.cst (.int 1) 0 ⟨168, 61, 168, 62⟩) ⟨168, 38, 168, 62⟩) .nil)) .nil ⟨168, 16, 168, 63⟩) (.cons (.var 2 "_law_size" ⟨168, 65, 168, 74⟩) (.cons (.cst (.int 1) 0 ⟨168, 76, 168, 77⟩) (.cons (.var 2 "_law_size" ⟨168, 79, 168, 88⟩) .nil)))) 0 ⟨168, 15, 168, 89⟩) ⟨168, 8, 168, 89⟩)
    .nil) .nil ⟨167, 4, 168, 89⟩)
  (.cons (.ret (.tup (.cons (.call 20 "_law_take" ⟨169, 12, 169, 21⟩ (.cons (.ref 0 "_law_state" ⟨169, 22, 169, 32⟩) (.cons (.bin .Add (.bin .Sub (.brw 1 "_law_top" ⟨169, 34, 169, 42⟩) (.brw 5 "_law_span" ⟨169, 45, 169, 54⟩) ⟨169, 34, 169, 54⟩) (.cst (.int 1) 0 ⟨169, 57, 169, 58⟩) ⟨169, 34, 169, 58⟩) .nil)) .nil ⟨169, 12, 169, 59⟩) (.cons (.bin .FloorDiv (.brw 2 "_law_size" ⟨169, 61, 169, 70⟩) (.brw 3 "_law_rows" ⟨169, 74, 169, 83⟩) ⟨169, 61, 169, 83⟩) (.cons (.var 3 "_law_rows" ⟨169, 85, 169, 94⟩) (.cons (.var 4 "_law_pitch" ⟨169, 96, 169, 106⟩) .nil)))) 0 ⟨169, 11, 169, 107⟩) ⟨169, 4, 169, 107⟩)
  .nil)))))
def d_law_area : Df := ⟨"_law_area", ["_law_state", "_law_top", "_law_size"], ["_law_state", "_law_top", "_law_size", "_law_rows", "_law_pitch", "_law_span", "_law_k"], [0], defScope (top 55), d_law_area_b⟩
/-- _law_byte: 0 _law_state -/
def d_law_byte_b : CSs := (.cons (.ret (.call 21 "_law_of" ⟨171, 11, 171, 18⟩ (.cons (.ref 0 "_law_state" ⟨171, 19, 171, 29⟩) (.cons (.lst (.cons (.cst (.int 0) 0 ⟨171, 32, 171, 33⟩) (.cons (.cst (.int 1) 0 ⟨171, 35, 171, 36⟩) (.cons (.cst (.int 255) 0 ⟨171, 38, 171, 41⟩) (.cons (.cst (.int 128) 0 ⟨171, 43, 171, 46⟩) (.cons (.call 20 "_law_take" ⟨171, 48, 171, 57⟩ (.cons (.ref 0 "_law_state" ⟨171, 58, 171, 68⟩) (.cons (.cst (.int 256) 0 ⟨171, 70, 171, 73⟩) .nil)) .nil ⟨171, 48, 171, 74⟩) .nil))))) ⟨171, 31, 171, 75⟩) .nil)) .nil ⟨171, 11, 171, 76⟩) ⟨171, 4, 171, 76⟩)
  .nil)
def d_law_byte : Df := ⟨"_law_byte", ["_law_state"], ["_law_state"], [0], defScope (top 56), d_law_byte_b⟩
/-- _law_moving: 0 _law_state, 1 _law_top, 2 _law_way, 3 _law_size, 4 _law_aim -/
def d_law_moving_b : CSs := (.cons (.par 2 3 "_law_way" "_law_size" ⟨173, 4, 173, 12⟩ ⟨173, 14, 173, 23⟩ 0 ⟨173, 4, 173, 23⟩ (.call 20 "_law_take" ⟨173, 27, 173, 36⟩ (.cons (.ref 0 "_law_state" ⟨173, 37, 173, 47⟩) (.cons (.cst (.int 6) 0 ⟨173, 49, 173, 50⟩) .nil)) .nil ⟨173, 27, 173, 51⟩) (.bin .Add (.cst (.int 1) 0 ⟨173, 53, 173, 54⟩) (.call 20 "_law_take" ⟨173, 57, 173, 66⟩ (.cons (.ref 0 "_law_state" ⟨173, 67, 173, 77⟩) (.cons (.idx (.lst (.cons (.cst (.int 4) 0 ⟨173, 80, 173, 81⟩) (.cons (.blt .min2 ⟨173, 83, 173, 86⟩ (.cons (.cst (.int 8) 0 ⟨173, 87, 173, 88⟩) (.cons (.brw 1 "_law_top" ⟨173, 90, 173, 98⟩) .nil)) ⟨173, 83, 173, 99⟩) .nil)) ⟨173, 79, 173, 100⟩) (.call 20 "_law_take" ⟨173, 101, 173, 110⟩ (.cons (.ref 0 "_law_state" ⟨173, 111, 173, 121⟩) (.cons (.cst (.int 2) 0 ⟨173, 123, 173, 124⟩) .nil)) .nil ⟨173, 101, 173, 125⟩) ⟨173, 79, 173, 126⟩) .nil)) .nil ⟨173, 57, 173, 127⟩) ⟨173, 53, 173, 127⟩) 0 ⟨173, 26, 173, 128⟩ ⟨173, 4, 173, 128⟩)
  (.cons (.asg (.name 4 "_law_aim" ⟨174, 4, 174, 12⟩) (.call 22 "_law_area" ⟨174, 15, 174, 24⟩ (.cons (.ref 0 "_law_state" ⟨174, 25, 174, 35⟩) (.cons (.var 1 "_law_top" ⟨174, 37, 174, 45⟩) (.cons (.var 3 "_law_size" ⟨174, 47, 174, 56⟩) .nil))) .nil ⟨174, 15, 174, 57⟩) ⟨174, 4, 174, 57⟩)
  (.cons (.ife (.cmp .Lt (.brw 2 "_law_way" ⟨175, 7, 175, 15⟩) (.cst (.int 3) 0 ⟨175, 18, 175, 19⟩) ⟨175, 7, 175, 19⟩) (.cons (.ret (.tup (.cons (.cst (.str "copy") 0 ⟨176, 16, 176, 22⟩) (.cons (.call 22 "_law_area" ⟨176, 24, 176, 33⟩ (.cons (.ref 0 "_law_state" ⟨176, 34, 176, 44⟩) (.cons (.var 1 "_law_top" ⟨176, 46, 176, 54⟩) (.cons (.var 3 "_law_size" ⟨176, 56, 176, 65⟩) .nil))) .nil ⟨176, 24, 176, 66⟩) (.cons (.var 4 "_law_aim" ⟨176, 68, 176, 76⟩) (.cons (.idx (.lst (.cons (.cst (.int 0) 0 ⟨176, 79, 176, 80⟩) (.cons (.cst (.int 0) 0 ⟨176, 82, 176, 83⟩) (.cons (.call 20 "_law_take" ⟨176, 85, 176, 94⟩ (.cons (.ref 0 "_law_state" ⟨176, 95, 176, 105⟩) (.cons (.var 3 "_law_size" ⟨176, 107, 176, 116⟩) .nil)) .nil ⟨176, 85, 176, 117⟩) .nil))) ⟨176, 78, 176, 118⟩) (.call 20 "_law_take" ⟨176, 119, 176, 128⟩ (.cons (.ref 0 "_law_state" ⟨176, 129, 176, 139⟩) (.cons (.cst (.int 3) 0 ⟨176, 141, 176, 142⟩) .nil)) .nil ⟨176, 119, 176, 143⟩) ⟨176, 78, 176, 144⟩) .nil)))) 0 ⟨176, 15, 176, 145⟩) ⟨176, 8, 176, 145⟩)
    .nil) .nil ⟨175, 4, 176, 145⟩)
  (.cons (.ife (.cmp .Lt (.brw 2 "_law_way" ⟨177, 7, 177, 15⟩) (.cst (.int 5) 0 ⟨177, 18, 177, 19⟩) ⟨177, 7, 177, 19⟩) (.cons (.ret (.tup (.cons (.cst (.str "fill") 0 ⟨178, 16, 178, 22⟩) (.cons (.var 4 "_law_aim" ⟨178, 24, 178, 32⟩) (.cons (.call 23 "_law_byte" ⟨178, 34, 178, 43⟩ (.cons (.ref 0 "_law_state" ⟨178, 44, 178, 54⟩) .nil) .nil ⟨178, 34, 178, 55⟩) (.cons (.idx (.lst (.cons (.cst (.int 0) 0 ⟨178, 58, 178, 59⟩) (.cons (.cst (.int 0) 0 ⟨178, 61, 178, 62⟩) (.cons (.call 20 "_law_take" ⟨178, 64, 178, 73⟩ (.cons (.ref 0 "_law_state" ⟨178, 74, 178, 84⟩) (.cons (.var 3 "_law_size" ⟨178, 86, 178, 95⟩) .nil)) .nil ⟨178, 64, 178, 96⟩) .nil))) ⟨178, 57, 178, 97⟩) (.call 20 "_law_take" ⟨178, 98, 178, 107⟩ (.cons (.ref 0 "_law_state" ⟨178, 108, 178, 118⟩) (.cons (.cst (.int 3) 0 ⟨178, 120, 178, 121⟩) .nil)) .nil ⟨178, 98, 178, 122⟩) ⟨178, 57, 178, 123⟩) .nil)))) 0 ⟨178, 15, 178, 124⟩) ⟨178, 8, 178, 124⟩)
    .nil) .nil ⟨177, 4, 178, 124⟩)
  (.cons (.ret (.tup (.cons (.cst (.str "add") 0 ⟨179, 12, 179, 17⟩) (.cons (.var 4 "_law_aim" ⟨179, 19, 179, 27⟩) (.cons (.call 20 "_law_take" ⟨179, 29, 179, 38⟩ (.cons (.ref 0 "_law_state" ⟨179, 39, 179, 49⟩) (.cons (.var 1 "_law_top" ⟨179, 51, 179, 59⟩) .nil)) .nil ⟨179, 29, 179, 60⟩) .nil))) 0 ⟨179, 11, 179, 61⟩) ⟨179, 4, 179, 61⟩)
  .nil)))))
def d_law_moving : Df := ⟨"_law_moving", ["_law_state", "_law_top"], ["_law_state", "_law_top", "_law_way", "_law_size", "_law_aim"], [0], defScope (top 57), d_law_moving_b⟩
/-- _law_a_step: 0 _law_state, 1 _law_top, 2 _law_hand, 3 _law_is_calm, 4 _law_way -/
def d_law_a_step_b : CSs := (.cons (.asg (.name 4 "_law_way" ⟨181, 4, 181, 12⟩) (.call 20 "_law_take" ⟨181, 15, 181, 24⟩ (.cons (.ref 0 "_law_state" ⟨181, 25, 181, 35⟩) (.cons (.cst (.int 10) 0 ⟨181, 37, 181, 39⟩) .nil)) .nil ⟨181, 15, 181, 40⟩) ⟨181, 4, 181, 40⟩)
  (.cons (.ife (.cmp .Lt (.brw 4 "_law_way" ⟨182, 7, 182, 15⟩) (.cst (.int 7) 0 ⟨182, 18, 182, 19⟩) ⟨182, 7, 182, 19⟩) (.cons (.ret (.call 24 "_law_moving" ⟨183, 15, 183, 26⟩ (.cons (.ref 0 "_law_state" ⟨183, 27, 183, 37⟩) (.cons (.var 1 "_law_top" ⟨183, 39, 183, 47⟩) .nil)) .nil ⟨183, 15, 183, 48⟩) ⟨183, 8, 183, 48⟩)
    .nil) .nil ⟨182, 4, 183, 48⟩)
  (.cons (.ife (.bop .Or (.cons (.cmp .Eq (.brw 4 "_law_way" ⟨184, 7, 184, 15⟩) (.cst (.int 7) 0 ⟨184, 19, 184, 20⟩) ⟨184, 7, 184, 20⟩) (.cons (.bop .And (.cons (.cmp .Eq (.brw 4 "_law_way" ⟨184, 25, 184, 33⟩) (.cst (.int 8) 0 ⟨184, 37, 184, 38⟩) ⟨184, 25, 184, 38⟩) (.cons (.brw 3 "_law_is_calm" ⟨184, 43, 184, 55⟩) .nil)) ⟨184, 25, 184, 55⟩) .nil)) ⟨184, 7, 184, 56⟩) (.cons (.ret (.tup (.cons (.cst (.str "note") 0 ⟨185, 16, 185, 22⟩) (.cons (.bin .Add (.bin .Mult (.cst (.int 4) 0 ⟨185, 24, 185, 25⟩) (.brw 2 "_law_hand" ⟨185, 28, 185, 37⟩) ⟨185, 24, 185, 37⟩) (.call 20 "_law_take" ⟨185, 40, 185, 49⟩ (.cons (.ref 0 "_law_state" ⟨185, 50, 185, 60⟩) (.cons (.cst (.int 2) 0 ⟨185, 62, 185, 63⟩) .nil)) .nil ⟨185, 40, 185, 64⟩) ⟨185, 24, 185, 64⟩) .nil)) 0 ⟨185, 15, 185, 65⟩) ⟨185, 8, 185, 65⟩)
    .nil) .nil ⟨184, 4, 185, 65⟩)
  (.cons (.ife (.cmp .Eq (.brw 4 "_law_way" ⟨186, 7, 186, 15⟩) (.cst (.int 8) 0 ⟨186, 19, 186, 20⟩) ⟨186, 7, 186, 20⟩) (.cons (.ret (.tup (.cons (.cst (.str "wait") 0 ⟨187, 16, 187, 22⟩) (.cons (.bin .Add (.bin .Mult (.cst (.int 4) 0 ⟨187, 24, 187, 25⟩) (.call 20 "_law_take" ⟨187, 28, 187, 37⟩ (.cons (.ref 0 "_law_state" ⟨187, 38, 187, 48⟩) (.cons (.cst (.int 2) 0 ⟨187, 50, 187, 51⟩) .nil)) .nil ⟨187, 28, 187, 52⟩) ⟨187, 24, 187, 52⟩) (.call 20 "_law_take" ⟨187, 55, 187, 64⟩ (.cons (.ref 0 "_law_state" ⟨187, 65, 187, 75⟩) (.cons (.cst (.int 2) 0 ⟨187, 77, 187, 78⟩) .nil)) .nil ⟨187, 55, 187, 79⟩) ⟨187, 24, 187, 79⟩) (.cons (.bin .Add (.cst (.int 1) 0 ⟨187, 81, 187, 82⟩) (.call 20 "_law_take" ⟨187, 85, 187, 94⟩ (.cons (.ref 0 "_law_state" ⟨187, 95, 187, 105⟩) (.cons (.cst (.int 2) 0 ⟨187, 107, 187, 108⟩) .nil)) .nil ⟨187, 85, 187, 109⟩) ⟨187, 81, 187, 109⟩) .nil))) 0 ⟨187, 15, 187, 110⟩) ⟨187, 8, 187, 110⟩)
    .nil) .nil ⟨186, 4, 187, 110⟩)
  (.cons (.ret (.tup (.cons (.cst (.str "fence") 0 ⟨188, 12, 188, 19⟩) .nil) 0 ⟨188, 11, 188, 21⟩) ⟨188, 4, 188, 21⟩)
  .nil)))))
def d_law_a_step : Df := ⟨"_law_a_step", ["_law_state", "_law_top", "_law_hand", "_law_is_calm"], ["_law_state", "_law_top", "_law_hand", "_law_is_calm", "_law_way"], [0], defScope (top 58), d_law_a_step_b⟩
def d_law_store_c0 : CE := (.lc (.bin .Mod (.bin .Add (.bin .Add (.brw 2 "_law_base" ⟨192, 19, 192, 28⟩) (.bin .Mult (.brw 3 "_law_by" ⟨192, 31, 192, 38⟩) (.brw 4 "_law_k" ⟨192, 41, 192, 47⟩) ⟨192, 31, 192, 47⟩) ⟨192, 19, 192, 47⟩) (.bin .FloorDiv (.bin .Mult (.brw 4 "_law_k" ⟨192, 50, 192, 56⟩) (.brw 4 "_law_k" ⟨192, 59, 192, 65⟩) ⟨192, 50, 192, 65⟩) (.cst (.int 3) 0 ⟨192, 69, 192, 70⟩) ⟨192, 50, 192, 70⟩) ⟨192, 19, 192, 70⟩) (.cst (.int 256) 0 ⟨192, 74, 192, 77⟩) ⟨192, 18, 192, 77⟩) (.name 4 "_law_k" ⟨192, 82, 192, 88⟩) (.rng1 ⟨192, 92, 192, 97⟩ (.brw 1 "_law_top" ⟨192, 98, 192, 106⟩) ⟨192, 92, 192, 107⟩) .nil { kind := PySem.ScopeKind.function, names := [ (PySem.Str.ofString ".0", PySem.NameKind.local), (PySem.Str.ofString "_law_k", PySem.NameKind.local), (PySem.Str.ofString "_law_base", PySem.NameKind.free), (PySem.Str.ofString "_law_by", PySem.NameKind.free)], isGenerator := false, isCoroutine := false, more := [] : PySem.Scope } [("_law_k", 4)] ⟨192, 17, 192, 108⟩)
@[simp] theorem d_law_store_c0_p : d_law_store_c0.pure = true := rfl
@[simp] theorem d_law_store_c0_a {D : Den} {es : CEs} {S : Slots} : eva D (.cons d_law_store_c0 es) S = (ev D d_law_store_c0 S).bind fun q => match q.1.1 with | .own _ => (eva D es q.2).map fun t => (.val q.1.2 :: t.1, t.2) | .bor => none := rfl
/-- _law_store: 0 _law_state, 1 _law_top, 2 _law_base, 3 _law_by, 4 _law_k -/
def d_law_store_b : CSs := (.cons (.asg (.name 1 "_law_top" ⟨190, 4, 190, 12⟩) (.call 21 "_law_of" ⟨190, 15, 190, 22⟩ (.cons (.ref 0 "_law_state" ⟨190, 23, 190, 33⟩) (.cons (.lst (.cons (.cst (.int 8) 0 ⟨190, 36, 190, 37⟩) (.cons (.cst (.int 9) 0 ⟨190, 39, 190, 40⟩) (.cons (.cst (.int 16) 0 ⟨190, 42, 190, 44⟩) (.cons (.cst (.int 40) 0 ⟨190, 46, 190, 48⟩) (.cons (.bin .Add (.cst (.int 8) 0 ⟨190, 50, 190, 51⟩) (.call 20 "_law_take" ⟨190, 54, 190, 63⟩ (.cons (.ref 0 "_law_state" ⟨190, 64, 190, 74⟩) (.cons (.cst (.int 33) 0 ⟨190, 76, 190, 78⟩) .nil)) .nil ⟨190, 54, 190, 79⟩) ⟨190, 50, 190, 79⟩) .nil))))) ⟨190, 35, 190, 80⟩) .nil)) .nil ⟨190, 15, 190, 81⟩) ⟨190, 4, 190, 81⟩)
  (.cons (.asg (.tup (.cons (.name 2 "_law_base" ⟨191, 4, 191, 13⟩) (.cons (.name 3 "_law_by" ⟨191, 15, 191, 22⟩) .nil)) 0 ⟨191, 4, 191, 22⟩) (.tup (.cons (.call 20 "_law_take" ⟨191, 26, 191, 35⟩ (.cons (.ref 0 "_law_state" ⟨191, 36, 191, 46⟩) (.cons (.cst (.int 256) 0 ⟨191, 48, 191, 51⟩) .nil)) .nil ⟨191, 26, 191, 52⟩) (.cons (.call 21 "_law_of" ⟨191, 54, 191, 61⟩ (.cons (.ref 0 "_law_state" ⟨191, 62, 191, 72⟩) (.cons (.lst (.cons (.cst (.int 0) 0 ⟨191, 75, 191, 76⟩) (.cons (.cst (.int 1) 0 ⟨191, 78, 191, 79⟩) (.cons (.cst (.int 7) 0 ⟨191, 81, 191, 82⟩) (.cons (.cst (.int 85) 0 ⟨191, 84, 191, 86⟩) .nil)))) ⟨191, 74, 191, 87⟩) .nil)) .nil ⟨191, 54, 191, 88⟩) .nil)) 0 ⟨191, 25, 191, 89⟩) ⟨191, 4, 191, 89⟩)
  (.cons (.ret (.blt .tuple ⟨192, 11, 192, 16⟩ (.cons d_law_store_c0 .nil) ⟨192, 11, 192, 109⟩) ⟨192, 4, 192, 109⟩)
  .nil)))
def d_law_store : Df := ⟨"_law_store", ["_law_state"], ["_law_state", "_law_top", "_law_base", "_law_by", "_law_k"], [0], defScope (top 59), d_law_store_b⟩
def d_law_cells_l0 : CSs := (.cons (.pext (.rt 1 "_law_found" ⟨196, 8, 196, 18⟩) ⟨196, 8, 196, 25⟩ (.lrng ⟨196, 26, 196, 30⟩ ⟨196, 31, 196, 36⟩ (.brw 2 "_law_start" ⟨196, 37, 196, 47⟩) (.bin .Add (.brw 2 "_law_start" ⟨196, 49, 196, 59⟩) (.idx (.brw 0 "_law_area_here" ⟨196, 62, 196, 76⟩) (.cst (.int 1) 0 ⟨196, 77, 196, 78⟩) ⟨196, 62, 196, 79⟩) ⟨196, 49, 196, 79⟩) ⟨196, 31, 196, 80⟩ ⟨196, 26, 196, 81⟩) ⟨196, 8, 196, 82⟩ ⟨196, 8, 196, 82⟩)
    (.cons (.asg (.name 2 "_law_start" ⟨197, 8, 197, 18⟩) (.bin .Add (.brw 2 "_law_start" ⟨197, 21, 197, 31⟩) (.idx (.brw 0 "_law_area_here" ⟨197, 34, 197, 48⟩) (.cst (.int 3) 0 ⟨197, 49, 197, 50⟩) ⟨197, 34, 197, 51⟩) ⟨197, 21, 197, 51⟩) ⟨197, 8, 197, 51⟩)
    .nil))
/-- _law_cells: 0 _law_area_here, 1 _law_found, 2 _law_start -/
def d_law_cells_b : CSs := (.cons (.par 1 2 "_law_found" "_law_start" ⟨194, 4, 194, 14⟩ ⟨194, 16, 194, 26⟩ 0 ⟨194, 4, 194, 26⟩ (.lst .nil ⟨194, 30, 194, 32⟩) (.idx (.brw 0 "_law_area_here" ⟨194, 34, 194, 48⟩) (.cst (.int 0) 0 ⟨194, 49, 194, 50⟩) ⟨194, 34, 194, 51⟩) 0 ⟨194, 29, 194, 52⟩ ⟨194, 4, 194, 52⟩)
  (.cons (.whl (.cmp .Lt (.blt .len ⟨195, 10, 195, 13⟩ (.cons (.brw 1 "_law_found" ⟨195, 14, 195, 24⟩) .nil) ⟨195, 10, 195, 25⟩) (.bin .Mult (.idx (.brw 0 "_law_area_here" ⟨195, 28, 195, 42⟩) (.cst (.int 1) 0 ⟨195, 43, 195, 44⟩) ⟨195, 28, 195, 45⟩) (.idx (.brw 0 "_law_area_here" ⟨195, 48, 195, 62⟩) (.cst (.int 2) 0 ⟨195, 63, 195, 64⟩) ⟨195, 48, 195, 65⟩) ⟨195, 28, 195, 65⟩) ⟨195, 10, 195, 65⟩) d_law_cells_l0 ⟨195, 4, 197, 51⟩)
  (.cons (.ret (.mov 1 "_law_found" ⟨198, 11, 198, 21⟩) ⟨198, 4, 198, 21⟩)
  .nil)))
def d_law_cells : Df := ⟨"_law_cells", ["_law_area_here"], ["_law_area_here", "_law_found", "_law_start"], [], defScope (top 60), d_law_cells_b⟩
/-- _law_own: 0 _law_store_here -/
def d_law_own_b : CSs := (.cons (.ret (.dsp (.cons "bytes" 0 ⟨200, 12, 200, 19⟩ (.den ⟨200, 21, 200, 25⟩ ⟨200, 26, 200, 35⟩ (.var 0 "_law_store_here" ⟨200, 36, 200, 51⟩) ⟨200, 26, 200, 52⟩ ⟨200, 21, 200, 53⟩) (.cons "flags" 0 ⟨200, 55, 200, 62⟩ (.bin .Mult (.lst (.cons (.cst (.int 0) 0 ⟨200, 65, 200, 66⟩) .nil) ⟨200, 64, 200, 67⟩) (.cst (.int 8) 0 ⟨200, 70, 200, 71⟩) ⟨200, 64, 200, 71⟩) (.cons "rows" 0 ⟨200, 73, 200, 79⟩ (.lst .nil ⟨200, 81, 200, 83⟩) (.cons "peeks" 0 ⟨200, 85, 200, 92⟩ (.lst .nil ⟨200, 94, 200, 96⟩) (.cons "stuck" 0 ⟨200, 98, 200, 105⟩ (.cst .none 0 ⟨200, 107, 200, 111⟩) .nil))))) ⟨200, 11, 200, 112⟩) ⟨200, 4, 200, 112⟩)
  .nil)
def d_law_own : Df := ⟨"_law_own", ["_law_store_here"], ["_law_store_here"], [], defScope (top 61), d_law_own_b⟩
/-- _law_read: 0 _law_m, 1 _law_spot, 2 _law_part, 3 _law_place -/
def d_law_read_b : CSs := (.cons (.papp (.sub (.rt 0 "_law_m" ⟨202, 4, 202, 10⟩) (.cst (.str "rows") 0 ⟨202, 11, 202, 17⟩) ⟨202, 4, 202, 18⟩) ⟨202, 4, 202, 25⟩ (.tup (.cons (.var 1 "_law_spot" ⟨202, 27, 202, 36⟩) (.cons (.var 2 "_law_part" ⟨202, 38, 202, 47⟩) (.cons (.cst (.str "r") 0 ⟨202, 49, 202, 52⟩) (.cons (.var 3 "_law_place" ⟨202, 54, 202, 64⟩) (.cons (.plc (.sub (.sub (.rt 0 "_law_m" ⟨202, 66, 202, 72⟩) (.cst (.str "bytes") 0 ⟨202, 73, 202, 80⟩) ⟨202, 66, 202, 81⟩) (.brw 3 "_law_place" ⟨202, 82, 202, 92⟩) ⟨202, 66, 202, 93⟩)) .nil))))) 0 ⟨202, 26, 202, 94⟩) ⟨202, 4, 202, 95⟩ ⟨202, 4, 202, 95⟩)
  (.cons (.ret (.plc (.sub (.sub (.rt 0 "_law_m" ⟨203, 11, 203, 17⟩) (.cst (.str "bytes") 0 ⟨203, 18, 203, 25⟩) ⟨203, 11, 203, 26⟩) (.brw 3 "_law_place" ⟨203, 27, 203, 37⟩) ⟨203, 11, 203, 38⟩)) ⟨203, 4, 203, 38⟩)
  .nil))
def d_law_read : Df := ⟨"_law_read", ["_law_m", "_law_spot", "_law_part", "_law_place"], ["_law_m", "_law_spot", "_law_part", "_law_place"], [0], defScope (top 62), d_law_read_b⟩
/-- _law_write: 0 _law_m, 1 _law_spot, 2 _law_part, 3 _law_place, 4 _law_byte_here -/
def d_law_write_b : CSs := (.cons (.pset (.sub (.rt 0 "_law_m" ⟨205, 4, 205, 10⟩) (.cst (.str "bytes") 0 ⟨205, 11, 205, 18⟩) ⟨205, 4, 205, 19⟩) (.brw 3 "_law_place" ⟨205, 20, 205, 30⟩) (.var 4 "_law_byte_here" ⟨205, 34, 205, 48⟩) ⟨205, 4, 205, 31⟩ ⟨205, 4, 205, 48⟩)
  (.cons (.papp (.sub (.rt 0 "_law_m" ⟨206, 4, 206, 10⟩) (.cst (.str "rows") 0 ⟨206, 11, 206, 17⟩) ⟨206, 4, 206, 18⟩) ⟨206, 4, 206, 25⟩ (.tup (.cons (.var 1 "_law_spot" ⟨206, 27, 206, 36⟩) (.cons (.var 2 "_law_part" ⟨206, 38, 206, 47⟩) (.cons (.cst (.str "w") 0 ⟨206, 49, 206, 52⟩) (.cons (.var 3 "_law_place" ⟨206, 54, 206, 64⟩) (.cons (.var 4 "_law_byte_here" ⟨206, 66, 206, 80⟩) .nil))))) 0 ⟨206, 26, 206, 81⟩) ⟨206, 4, 206, 82⟩ ⟨206, 4, 206, 82⟩)
  .nil))
def d_law_write : Df := ⟨"_law_write", ["_law_m", "_law_spot", "_law_part", "_law_place", "_law_byte_here"], ["_law_m", "_law_spot", "_law_part", "_law_place", "_law_byte_here"], [0], defScope (top 63), d_law_write_b⟩
def d_law_moved_l0 : CSs := (.cons (.expr (.call 26 "_law_write" ⟨211, 12, 211, 22⟩ (.cons (.ref 0 "_law_m" ⟨211, 23, 211, 29⟩) (.cons (.var 1 "_law_spot" ⟨211, 31, 211, 40⟩) (.cons (.var 4 "_law_part" ⟨211, 42, 211, 51⟩) (.cons (.var 6 "_law_aim" ⟨211, 53, 211, 61⟩) (.cons (.call 27 "_law_read" ⟨211, 63, 211, 72⟩ (.cons (.ref 0 "_law_m" ⟨211, 73, 211, 79⟩) (.cons (.var 1 "_law_spot" ⟨211, 81, 211, 90⟩) (.cons (.var 4 "_law_part" ⟨211, 92, 211, 101⟩) (.cons (.var 5 "_law_source" ⟨211, 103, 211, 114⟩) .nil)))) .nil ⟨211, 63, 211, 115⟩) .nil))))) .nil ⟨211, 12, 211, 116⟩) ⟨211, 12, 211, 116⟩)
    .nil)
def d_law_moved_l1 : CSs := (.cons (.expr (.call 26 "_law_write" ⟨214, 12, 214, 22⟩ (.cons (.ref 0 "_law_m" ⟨214, 23, 214, 29⟩) (.cons (.var 1 "_law_spot" ⟨214, 31, 214, 40⟩) (.cons (.var 4 "_law_part" ⟨214, 42, 214, 51⟩) (.cons (.var 6 "_law_aim" ⟨214, 53, 214, 61⟩) (.cons (.idx (.brw 2 "_law_one" ⟨214, 63, 214, 71⟩) (.cst (.int 2) 0 ⟨214, 72, 214, 73⟩) ⟨214, 63, 214, 74⟩) .nil))))) .nil ⟨214, 12, 214, 75⟩) ⟨214, 12, 214, 75⟩)
    .nil)
def d_law_moved_c0 : CE := (.lc (.call 27 "_law_read" ⟨216, 21, 216, 30⟩ (.cons (.ref 0 "_law_m" ⟨216, 31, 216, 37⟩) (.cons (.var 1 "_law_spot" ⟨216, 39, 216, 48⟩) (.cons (.var 4 "_law_part" ⟨216, 50, 216, 59⟩) (.cons (.var 5 "_law_source" ⟨216, 61, 216, 72⟩) .nil)))) .nil ⟨216, 21, 216, 73⟩) (.tup (.cons (.name 4 "_law_part" ⟨216, 78, 216, 87⟩) (.cons (.name 5 "_law_source" ⟨216, 89, 216, 100⟩) .nil)) 0 ⟨216, 78, 216, 100⟩) (.enum ⟨216, 104, 216, 113⟩ (.call 25 "_law_cells" ⟨216, 114, 216, 124⟩ (.cons (.idx (.brw 2 "_law_one" ⟨216, 125, 216, 133⟩) (.cst (.int 1) 0 ⟨216, 134, 216, 135⟩) ⟨216, 125, 216, 136⟩) .nil) .nil ⟨216, 114, 216, 137⟩) ⟨216, 104, 216, 138⟩) .nil { kind := PySem.ScopeKind.function, names := [ (PySem.Str.ofString ".0", PySem.NameKind.local), (PySem.Str.ofString "_law_part", PySem.NameKind.local), (PySem.Str.ofString "_law_source", PySem.NameKind.local), (PySem.Str.ofString "_law_read", PySem.NameKind.globalImplicit), (PySem.Str.ofString "_law_m", PySem.NameKind.free), (PySem.Str.ofString "_law_spot", PySem.NameKind.free)], isGenerator := false, isCoroutine := false, more := [] : PySem.Scope } [("_law_part", 4), ("_law_source", 5)] ⟨216, 20, 216, 139⟩)
@[simp] theorem d_law_moved_c0_p : d_law_moved_c0.pure = false := rfl
@[simp] theorem d_law_moved_c0_a {D : Den} {es : CEs} {S : Slots} : eva D (.cons d_law_moved_c0 es) S = (ev D d_law_moved_c0 S).bind fun q => match q.1.1 with | .own _ => (eva D es q.2).map fun t => (.val q.1.2 :: t.1, t.2) | .bor => none := rfl
/-- _law_moved: 0 _law_m, 1 _law_spot, 2 _law_one, 3 _law_pairs, 4 _law_part, 5 _law_source, 6 _law_aim, 7 _law_told -/
def d_law_moved_b : CSs := (.cons (.ife (.cmp .Eq (.idx (.brw 2 "_law_one" ⟨208, 7, 208, 15⟩) (.cst (.int 0) 0 ⟨208, 16, 208, 17⟩) ⟨208, 7, 208, 18⟩) (.cst (.str "copy") 0 ⟨208, 22, 208, 28⟩) ⟨208, 7, 208, 28⟩) (.cons (.asg (.name 3 "_law_pairs" ⟨209, 8, 209, 18⟩) (.slc (.lzip false ⟨209, 21, 209, 25⟩ ⟨209, 26, 209, 29⟩ (.call 25 "_law_cells" ⟨209, 30, 209, 40⟩ (.cons (.idx (.brw 2 "_law_one" ⟨209, 41, 209, 49⟩) (.cst (.int 1) 0 ⟨209, 50, 209, 51⟩) ⟨209, 41, 209, 52⟩) .nil) .nil ⟨209, 30, 209, 53⟩) (.call 25 "_law_cells" ⟨209, 55, 209, 65⟩ (.cons (.idx (.brw 2 "_law_one" ⟨209, 66, 209, 74⟩) (.cst (.int 2) 0 ⟨209, 75, 209, 76⟩) ⟨209, 66, 209, 77⟩) .nil) .nil ⟨209, 55, 209, 78⟩) ⟨0, 0, 0, 0⟩ ⟨0, 0, 0, 0⟩ 0 ⟨209, 26, 209, 79⟩ ⟨209, 21, 209, 80⟩) (.is (.idx (.brw 2 "_law_one" ⟨209, 81, 209, 89⟩) (.cst (.int 3) 0 ⟨209, 90, 209, 91⟩) ⟨209, 81, 209, 92⟩)) .no ⟨209, 81, 209, 93⟩ ⟨209, 21, 209, 94⟩) ⟨209, 8, 209, 94⟩)
    (.cons (.forr (.tup (.cons (.name 4 "_law_part" ⟨210, 12, 210, 21⟩) (.cons (.tup (.cons (.name 5 "_law_source" ⟨210, 24, 210, 35⟩) (.cons (.name 6 "_law_aim" ⟨210, 37, 210, 45⟩) .nil)) 0 ⟨210, 23, 210, 46⟩) .nil)) 0 ⟨210, 12, 210, 46⟩) (.enum ⟨210, 50, 210, 59⟩ (.var 3 "_law_pairs" ⟨210, 60, 210, 70⟩) ⟨210, 50, 210, 71⟩) d_law_moved_l0 ⟨210, 8, 211, 116⟩)
    .nil)) .nil ⟨208, 4, 211, 116⟩)
  (.cons (.ife (.cmp .Eq (.idx (.brw 2 "_law_one" ⟨212, 7, 212, 15⟩) (.cst (.int 0) 0 ⟨212, 16, 212, 17⟩) ⟨212, 7, 212, 18⟩) (.cst (.str "fill") 0 ⟨212, 22, 212, 28⟩) ⟨212, 7, 212, 28⟩) (.cons (.forr (.tup (.cons (.name 4 "_law_part" ⟨213, 12, 213, 21⟩) (.cons (.name 6 "_law_aim" ⟨213, 23, 213, 31⟩) .nil)) 0 ⟨213, 12, 213, 31⟩) (.enum ⟨213, 35, 213, 44⟩ (.slc (.call 25 "_law_cells" ⟨213, 45, 213, 55⟩ (.cons (.idx (.brw 2 "_law_one" ⟨213, 56, 213, 64⟩) (.cst (.int 1) 0 ⟨213, 65, 213, 66⟩) ⟨213, 56, 213, 67⟩) .nil) .nil ⟨213, 45, 213, 68⟩) (.is (.idx (.brw 2 "_law_one" ⟨213, 69, 213, 77⟩) (.cst (.int 3) 0 ⟨213, 78, 213, 79⟩) ⟨213, 69, 213, 80⟩)) .no ⟨213, 69, 213, 81⟩ ⟨213, 45, 213, 82⟩) ⟨213, 35, 213, 83⟩) d_law_moved_l1 ⟨213, 8, 214, 75⟩)
    .nil) .nil ⟨212, 4, 214, 75⟩)
  (.cons (.ife (.cmp .Eq (.idx (.brw 2 "_law_one" ⟨215, 7, 215, 15⟩) (.cst (.int 0) 0 ⟨215, 16, 215, 17⟩) ⟨215, 7, 215, 18⟩) (.cst (.str "add") 0 ⟨215, 22, 215, 27⟩) ⟨215, 7, 215, 27⟩) (.cons (.asg (.name 7 "_law_told" ⟨216, 8, 216, 17⟩) d_law_moved_c0 ⟨216, 8, 216, 139⟩)
    (.cons (.expr (.call 26 "_law_write" ⟨217, 8, 217, 18⟩ (.cons (.ref 0 "_law_m" ⟨217, 19, 217, 25⟩) (.cons (.var 1 "_law_spot" ⟨217, 27, 217, 36⟩) (.cons (.blt .len ⟨217, 38, 217, 41⟩ (.cons (.brw 7 "_law_told" ⟨217, 42, 217, 51⟩) .nil) ⟨217, 38, 217, 52⟩) (.cons (.idx (.brw 2 "_law_one" ⟨217, 54, 217, 62⟩) (.cst (.int 2) 0 ⟨217, 63, 217, 64⟩) ⟨217, 54, 217, 65⟩) (.cons (.bin .Mod (.blt .sum ⟨217, 67, 217, 70⟩ (.cons (.brw 7 "_law_told" ⟨217, 71, 217, 80⟩) .nil) ⟨217, 67, 217, 81⟩) (.cst (.int 256) 0 ⟨217, 84, 217, 87⟩) ⟨217, 67, 217, 87⟩) .nil))))) .nil ⟨217, 8, 217, 88⟩) ⟨217, 8, 217, 88⟩)
    .nil)) .nil ⟨215, 4, 217, 88⟩)
  .nil)))
def d_law_moved : Df := ⟨"_law_moved", ["_law_m", "_law_spot", "_law_one"], ["_law_m", "_law_spot", "_law_one", "_law_pairs", "_law_part", "_law_source", "_law_aim", "_law_told"], [0], defScope (top 64), d_law_moved_b⟩
/-- _law_right: 0 _law_store_here, 1 _law_one, 2 _law_m, 3 _law_due -/
def d_law_right_b : CSs := (.cons (.asg (.name 2 "_law_m" ⟨219, 4, 219, 10⟩) (.call 28 "_law_own" ⟨219, 13, 219, 21⟩ (.cons (.var 0 "_law_store_here" ⟨219, 22, 219, 37⟩) .nil) .nil ⟨219, 13, 219, 38⟩) ⟨219, 4, 219, 38⟩)
  (.cons (.expr (.call 29 "_law_moved" ⟨220, 4, 220, 14⟩ (.cons (.ref 2 "_law_m" ⟨220, 15, 220, 21⟩) (.cons (.tup (.cons (.cst (.int 0) 0 ⟨220, 24, 220, 25⟩) (.cons (.cst (.int 0) 0 ⟨220, 27, 220, 28⟩) .nil)) 0 ⟨220, 23, 220, 29⟩) (.cons (.var 1 "_law_one" ⟨220, 31, 220, 39⟩) .nil))) .nil ⟨220, 4, 220, 40⟩) ⟨220, 4, 220, 40⟩)
  (.cons (.asg (.name 3 "_law_due" ⟨221, 4, 221, 12⟩) (.tvl ⟨221, 15, 221, 20⟩ (.sub (.rt 2 "_law_m" ⟨221, 21, 221, 27⟩) (.cst (.str "bytes") 0 ⟨221, 28, 221, 35⟩) ⟨221, 21, 221, 36⟩) ⟨221, 21, 221, 43⟩ ⟨221, 21, 221, 45⟩ ⟨221, 15, 221, 46⟩) ⟨221, 4, 221, 46⟩)
  (.cons (.ret (.cmp .Eq (.blt .repr ⟨222, 11, 222, 15⟩ (.cons (.lst (.cons (.call 31 "step_done" ⟨222, 17, 222, 26⟩ (.cons (.var 0 "_law_store_here" ⟨222, 27, 222, 42⟩) (.cons (.var 1 "_law_one" ⟨222, 44, 222, 52⟩) .nil)) .nil ⟨222, 17, 222, 53⟩) (.cons (.call 30 "step_done" ⟨222, 55, 222, 64⟩ .nil (.cons "step" (.var 1 "_law_one" ⟨222, 70, 222, 78⟩) ⟨222, 65, 222, 78⟩ (.cons "memory" (.var 0 "_law_store_here" ⟨222, 87, 222, 102⟩) ⟨222, 80, 222, 102⟩ .nil)) ⟨222, 55, 222, 103⟩) .nil)) ⟨222, 16, 222, 104⟩) .nil) ⟨222, 11, 222, 105⟩) (.blt .repr ⟨222, 109, 222, 113⟩ (.cons (.lst (.cons (.var 3 "_law_due" ⟨222, 115, 222, 123⟩) (.cons (.var 3 "_law_due" ⟨222, 125, 222, 133⟩) .nil)) ⟨222, 114, 222, 134⟩) .nil) ⟨222, 109, 222, 135⟩) ⟨222, 11, 222, 135⟩) ⟨222, 4, 222, 135⟩)
  .nil))))
def d_law_right : Df := ⟨"_law_right", ["_law_store_here", "_law_one"], ["_law_store_here", "_law_one", "_law_m", "_law_due"], [], defScope (top 65), d_law_right_b⟩
def d_law_by_hand_right_c0 : CE := (.lc (.bin .Mod (.bin .Mult (.brw 2 "_law_k" ⟨224, 29, 224, 35⟩) (.cst (.int 7) 0 ⟨224, 38, 224, 39⟩) ⟨224, 29, 224, 39⟩) (.cst (.int 256) 0 ⟨224, 42, 224, 45⟩) ⟨224, 29, 224, 45⟩) (.name 2 "_law_k" ⟨224, 50, 224, 56⟩) (.rng1 ⟨224, 60, 224, 65⟩ (.cst (.int 1024) 0 ⟨224, 66, 224, 70⟩) ⟨224, 60, 224, 71⟩) .nil { kind := PySem.ScopeKind.function, names := [(PySem.Str.ofString ".0", PySem.NameKind.local), (PySem.Str.ofString "_law_k", PySem.NameKind.local)], isGenerator := false, isCoroutine := false, more := [] : PySem.Scope } [("_law_k", 2)] ⟨224, 28, 224, 72⟩)
@[simp] theorem d_law_by_hand_right_c0_p : d_law_by_hand_right_c0.pure = true := rfl
@[simp] theorem d_law_by_hand_right_c0_a {D : Den} {es : CEs} {S : Slots} : eva D (.cons d_law_by_hand_right_c0 es) S = (ev D d_law_by_hand_right_c0 S).bind fun q => match q.1.1 with | .own _ => (eva D es q.2).map fun t => (.val q.1.2 :: t.1, t.2) | .bor => none := rfl
def d_law_by_hand_right_c1 : CE := (.lc (.var 3 "_law_one" ⟨229, 12, 229, 20⟩) (.name 3 "_law_one" ⟨229, 25, 229, 33⟩) (.seq (.var 1 "_law_some" ⟨229, 37, 229, 46⟩)) (.cons (.nt (.call 32 "_law_right" ⟨229, 54, 229, 64⟩ (.cons (.var 0 "_law_store_here" ⟨229, 65, 229, 80⟩) (.cons (.var 3 "_law_one" ⟨229, 82, 229, 90⟩) .nil)) .nil ⟨229, 54, 229, 91⟩) ⟨229, 50, 229, 91⟩) .nil) { kind := PySem.ScopeKind.function, names := [ (PySem.Str.ofString ".0", PySem.NameKind.local), (PySem.Str.ofString "_law_one", PySem.NameKind.local), (PySem.Str.ofString "_law_right", PySem.NameKind.globalImplicit), (PySem.Str.ofString "_law_store_here", PySem.NameKind.free)], isGenerator := false, isCoroutine := false, more := [] : PySem.Scope } [("_law_one", 3)] ⟨229, 11, 229, 92⟩)
@[simp] theorem d_law_by_hand_right_c1_p : d_law_by_hand_right_c1.pure = true := rfl
@[simp] theorem d_law_by_hand_right_c1_a {D : Den} {es : CEs} {S : Slots} : eva D (.cons d_law_by_hand_right_c1 es) S = (ev D d_law_by_hand_right_c1 S).bind fun q => match q.1.1 with | .own _ => (eva D es q.2).map fun t => (.val q.1.2 :: t.1, t.2) | .bor => none := rfl
/-- _law_by_hand_right: 0 _law_store_here, 1 _law_some, 2 _law_k, 3 _law_one -/
def d_law_by_hand_right_b : CSs := (.cons (.asg (.name 0 "_law_store_here" ⟨224, 4, 224, 19⟩) (.blt .tuple ⟨224, 22, 224, 27⟩ (.cons d_law_by_hand_right_c0 .nil) ⟨224, 22, 224, 73⟩) ⟨224, 4, 224, 73⟩)
  (.cons (.asg (.name 1 "_law_some" ⟨225, 4, 225, 13⟩) (.lst (.cons (.tup (.cons (.cst (.str "copy") 0 ⟨225, 18, 225, 24⟩) (.cons (.tup (.cons (.cst (.int 0) 0 ⟨225, 27, 225, 28⟩) (.cons (.cst (.int 256) 0 ⟨225, 30, 225, 33⟩) (.cons (.cst (.int 1) 0 ⟨225, 35, 225, 36⟩) (.cons (.cst (.int 256) 0 ⟨225, 38, 225, 41⟩) .nil)))) 0 ⟨225, 26, 225, 42⟩) (.cons (.tup (.cons (.cst (.int 1) 0 ⟨225, 45, 225, 46⟩) (.cons (.cst (.int 256) 0 ⟨225, 48, 225, 51⟩) (.cons (.cst (.int 1) 0 ⟨225, 53, 225, 54⟩) (.cons (.cst (.int 256) 0 ⟨225, 56, 225, 59⟩) .nil)))) 0 ⟨225, 44, 225, 60⟩) (.cons (.cst (.int 0) 0 ⟨225, 62, 225, 63⟩) .nil)))) 0 ⟨225, 17, 225, 64⟩) (.cons (.tup (.cons (.cst (.str "copy") 0 ⟨225, 67, 225, 73⟩) (.cons (.tup (.cons (.cst (.int 768) 0 ⟨225, 76, 225, 79⟩) (.cons (.cst (.int 256) 0 ⟨225, 81, 225, 84⟩) (.cons (.cst (.int 1) 0 ⟨225, 86, 225, 87⟩) (.cons (.cst (.int 256) 0 ⟨225, 89, 225, 92⟩) .nil)))) 0 ⟨225, 75, 225, 93⟩) (.cons (.tup (.cons (.cst (.int 700) 0 ⟨225, 96, 225, 99⟩) (.cons (.cst (.int 256) 0 ⟨225, 101, 225, 104⟩) (.cons (.cst (.int 1) 0 ⟨225, 106, 225, 107⟩) (.cons (.cst (.int 256) 0 ⟨225, 109, 225, 112⟩) .nil)))) 0 ⟨225, 95, 225, 113⟩) (.cons (.cst (.int 255) 0 ⟨225, 115, 225, 118⟩) .nil)))) 0 ⟨225, 66, 225, 119⟩) .nil)) ⟨225, 16, 225, 120⟩) ⟨225, 4, 225, 120⟩)
  (.cons (.asg (.name 1 "_law_some" ⟨226, 4, 226, 13⟩) (.bin .Add (.brw 1 "_law_some" ⟨226, 16, 226, 25⟩) (.lst (.cons (.tup (.cons (.cst (.str "copy") 0 ⟨226, 30, 226, 36⟩) (.cons (.tup (.cons (.cst (.int 0) 0 ⟨226, 39, 226, 40⟩) (.cons (.cst (.int 1) 0 ⟨226, 42, 226, 43⟩) (.cons (.cst (.int 16) 0 ⟨226, 45, 226, 47⟩) (.cons (.cst (.int 60) 0 ⟨226, 49, 226, 51⟩) .nil)))) 0 ⟨226, 38, 226, 52⟩) (.cons (.tup (.cons (.cst (.int 3) 0 ⟨226, 55, 226, 56⟩) (.cons (.cst (.int 16) 0 ⟨226, 58, 226, 60⟩) (.cons (.cst (.int 1) 0 ⟨226, 62, 226, 63⟩) (.cons (.cst (.int 16) 0 ⟨226, 65, 226, 67⟩) .nil)))) 0 ⟨226, 54, 226, 68⟩) (.cons (.cst (.int 0) 0 ⟨226, 70, 226, 71⟩) .nil)))) 0 ⟨226, 29, 226, 72⟩) (.cons (.tup (.cons (.cst (.str "fill") 0 ⟨226, 75, 226, 81⟩) (.cons (.tup (.cons (.cst (.int 0) 0 ⟨226, 84, 226, 85⟩) (.cons (.cst (.int 4) 0 ⟨226, 87, 226, 88⟩) (.cons (.cst (.int 64) 0 ⟨226, 90, 226, 92⟩) (.cons (.cst (.int 15) 0 ⟨226, 94, 226, 96⟩) .nil)))) 0 ⟨226, 83, 226, 97⟩) (.cons (.cst (.int 255) 0 ⟨226, 99, 226, 102⟩) (.cons (.cst (.int 3) 0 ⟨226, 104, 226, 105⟩) .nil)))) 0 ⟨226, 74, 226, 106⟩) .nil)) ⟨226, 28, 226, 107⟩) ⟨226, 16, 226, 107⟩) ⟨226, 4, 226, 107⟩)
  (.cons (.asg (.name 1 "_law_some" ⟨227, 4, 227, 13⟩) (.bin .Add (.brw 1 "_law_some" ⟨227, 16, 227, 25⟩) (.lst (.cons (.tup (.cons (.cst (.str "add") 0 ⟨227, 30, 227, 35⟩) (.cons (.tup (.cons (.cst (.int 0) 0 ⟨227, 38, 227, 39⟩) (.cons (.cst (.int 128) 0 ⟨227, 41, 227, 44⟩) (.cons (.cst (.int 2) 0 ⟨227, 46, 227, 47⟩) (.cons (.cst (.int 512) 0 ⟨227, 49, 227, 52⟩) .nil)))) 0 ⟨227, 37, 227, 53⟩) (.cons (.cst (.int 1023) 0 ⟨227, 55, 227, 59⟩) .nil))) 0 ⟨227, 29, 227, 60⟩) (.cons (.tup (.cons (.cst (.str "add") 0 ⟨227, 63, 227, 68⟩) (.cons (.tup (.cons (.cst (.int 1023) 0 ⟨227, 71, 227, 75⟩) (.cons (.cst (.int 1) 0 ⟨227, 77, 227, 78⟩) (.cons (.cst (.int 1) 0 ⟨227, 80, 227, 81⟩) (.cons (.cst (.int 1) 0 ⟨227, 83, 227, 84⟩) .nil)))) 0 ⟨227, 70, 227, 85⟩) (.cons (.cst (.int 1023) 0 ⟨227, 87, 227, 91⟩) .nil))) 0 ⟨227, 62, 227, 92⟩) .nil)) ⟨227, 28, 227, 93⟩) ⟨227, 16, 227, 93⟩) ⟨227, 4, 227, 93⟩)
  (.cons (.asg (.name 1 "_law_some" ⟨228, 4, 228, 13⟩) (.bin .Add (.brw 1 "_law_some" ⟨228, 16, 228, 25⟩) (.lst (.cons (.tup (.cons (.cst (.str "copy") 0 ⟨228, 30, 228, 36⟩) (.cons (.tup (.cons (.cst (.int 5) 0 ⟨228, 39, 228, 40⟩) (.cons (.cst (.int 1) 0 ⟨228, 42, 228, 43⟩) (.cons (.cst (.int 1) 0 ⟨228, 45, 228, 46⟩) (.cons (.cst (.int 1) 0 ⟨228, 48, 228, 49⟩) .nil)))) 0 ⟨228, 38, 228, 50⟩) (.cons (.tup (.cons (.cst (.int 5) 0 ⟨228, 53, 228, 54⟩) (.cons (.cst (.int 1) 0 ⟨228, 56, 228, 57⟩) (.cons (.cst (.int 1) 0 ⟨228, 59, 228, 60⟩) (.cons (.cst (.int 1) 0 ⟨228, 62, 228, 63⟩) .nil)))) 0 ⟨228, 52, 228, 64⟩) (.cons (.cst (.int 0) 0 ⟨228, 66, 228, 67⟩) .nil)))) 0 ⟨228, 29, 228, 68⟩) (.cons (.tup (.cons (.cst (.str "copy") 0 ⟨228, 71, 228, 77⟩) (.cons (.tup (.cons (.cst (.int 100) 0 ⟨228, 80, 228, 83⟩) (.cons (.cst (.int 2) 0 ⟨228, 85, 228, 86⟩) (.cons (.cst (.int 3) 0 ⟨228, 88, 228, 89⟩) (.cons (.cst (.int 2) 0 ⟨228, 91, 228, 92⟩) .nil)))) 0 ⟨228, 79, 228, 93⟩) (.cons (.tup (.cons (.cst (.int 98) 0 ⟨228, 96, 228, 98⟩) (.cons (.cst (.int 3) 0 ⟨228, 100, 228, 101⟩) (.cons (.cst (.int 2) 0 ⟨228, 103, 228, 104⟩) (.cons (.cst (.int 4) 0 ⟨228, 106, 228, 107⟩) .nil)))) 0 ⟨228, 95, 228, 108⟩) (.cons (.cst (.int 1) 0 ⟨228, 110, 228, 111⟩) .nil)))) 0 ⟨228, 70, 228, 112⟩) .nil)) ⟨228, 28, 228, 113⟩) ⟨228, 16, 228, 113⟩) ⟨228, 4, 228, 113⟩)
  (.cons (.ret (.bop .And (.cons (.cmp .Eq d_law_by_hand_right_c1 (.lst .nil ⟨229, 96, 229, 98⟩) ⟨229, 11, 229, 98⟩) (.cons (.call 32 "_law_right" ⟨229, 103, 229, 113⟩ (.cons (.tup (.cons (.cst (.int 7) 0 ⟨229, 115, 229, 116⟩) .nil) 0 ⟨229, 114, 229, 118⟩) (.cons (.tup (.cons (.cst (.str "fill") 0 ⟨229, 121, 229, 127⟩) (.cons (.tup (.cons (.cst (.int 0) 0 ⟨229, 130, 229, 131⟩) (.cons (.cst (.int 1) 0 ⟨229, 133, 229, 134⟩) (.cons (.cst (.int 1) 0 ⟨229, 136, 229, 137⟩) (.cons (.cst (.int 1) 0 ⟨229, 139, 229, 140⟩) .nil)))) 0 ⟨229, 129, 229, 141⟩) (.cons (.cst (.int 0) 0 ⟨229, 143, 229, 144⟩) (.cons (.cst (.int 0) 0 ⟨229, 146, 229, 147⟩) .nil)))) 0 ⟨229, 120, 229, 148⟩) .nil)) .nil ⟨229, 103, 229, 149⟩) .nil)) ⟨229, 11, 229, 149⟩) ⟨229, 4, 229, 149⟩)
  .nil))))))
def d_law_by_hand_right : Df := ⟨"_law_by_hand_right", [], ["_law_store_here", "_law_some", "_law_k", "_law_one"], [], defScope (top 66), d_law_by_hand_right_b⟩
def d_law_l0 : CSs := (.cons (.ife (.bop .Or (.cons (.nt (.call 32 "_law_right" ⟨236, 19, 236, 29⟩ (.cons (.var 3 "_law_store_here" ⟨236, 30, 236, 45⟩) (.cons (.call 35 "_law_a_step" ⟨236, 47, 236, 58⟩ (.cons (.ref 2 "_law_state" ⟨236, 59, 236, 69⟩) (.cons (.blt .len ⟨236, 71, 236, 74⟩ (.cons (.brw 3 "_law_store_here" ⟨236, 75, 236, 90⟩) .nil) ⟨236, 71, 236, 91⟩) (.cons (.bin .Mod (.brw 5 "_law_turn" ⟨236, 93, 236, 102⟩) (.cst (.int 2) 0 ⟨236, 105, 236, 106⟩) ⟨236, 93, 236, 106⟩) (.cons (.cst (.bool false) 0 ⟨236, 108, 236, 113⟩) .nil)))) .nil ⟨236, 47, 236, 114⟩) .nil)) .nil ⟨236, 19, 236, 115⟩) ⟨236, 15, 236, 115⟩) (.cons (.cmp .NotEq (.blt .repr ⟨236, 119, 236, 123⟩ (.cons (.brw 3 "_law_store_here" ⟨236, 124, 236, 139⟩) .nil) ⟨236, 119, 236, 140⟩) (.brw 4 "_law_kept" ⟨236, 144, 236, 153⟩) ⟨236, 119, 236, 153⟩) .nil)) ⟨236, 15, 236, 153⟩) (.cons (.ret (.cst (.bool false) 0 ⟨237, 23, 237, 28⟩) ⟨237, 16, 237, 28⟩)
    .nil) .nil ⟨236, 12, 237, 28⟩)
    .nil)
def d_law_l1 : CSs := (.cons (.asg (.name 2 "_law_state" ⟨232, 8, 232, 18⟩) (.call 33 "_law_begun" ⟨232, 21, 232, 31⟩ (.cons (.var 0 "_law_script" ⟨232, 32, 232, 43⟩) (.cons (.var 1 "_law_k" ⟨232, 45, 232, 51⟩) .nil)) .nil ⟨232, 21, 232, 52⟩) ⟨232, 8, 232, 52⟩)
    (.cons (.asg (.name 3 "_law_store_here" ⟨233, 8, 233, 23⟩) (.call 34 "_law_store" ⟨233, 26, 233, 36⟩ (.cons (.ref 2 "_law_state" ⟨233, 37, 233, 47⟩) .nil) .nil ⟨233, 26, 233, 48⟩) ⟨233, 8, 233, 48⟩)
    (.cons (.asg (.name 4 "_law_kept" ⟨234, 8, 234, 17⟩) (.blt .repr ⟨234, 20, 234, 24⟩ (.cons (.brw 3 "_law_store_here" ⟨234, 25, 234, 40⟩) .nil) ⟨234, 20, 234, 41⟩) ⟨234, 8, 234, 41⟩)
    (.cons (.forr (.name 5 "_law_turn" ⟨235, 12, 235, 21⟩) (.rng1 ⟨235, 25, 235, 30⟩ (.cst (.int 12) 0 ⟨235, 31, 235, 33⟩) ⟨235, 25, 235, 34⟩) d_law_l0 ⟨235, 8, 237, 28⟩)
    .nil))))
/-- law: 0 _law_script, 1 _law_k, 2 _law_state, 3 _law_store_here, 4 _law_kept, 5 _law_turn -/
def d_law_b : CSs := (.cons (.forr (.name 1 "_law_k" ⟨231, 8, 231, 14⟩) (.rng1 ⟨231, 18, 231, 23⟩ (.blt .max2 ⟨231, 24, 231, 27⟩ (.cons (.cst (.int 1) 0 ⟨231, 28, 231, 29⟩) (.cons (.blt .min2 ⟨231, 31, 231, 34⟩ (.cons (.cst (.int 10) 0 ⟨231, 35, 231, 37⟩) (.cons (.blt .len ⟨231, 39, 231, 42⟩ (.cons (.brw 0 "_law_script" ⟨231, 43, 231, 54⟩) .nil) ⟨231, 39, 231, 55⟩) .nil)) ⟨231, 31, 231, 56⟩) .nil)) ⟨231, 24, 231, 57⟩) ⟨231, 18, 231, 58⟩) d_law_l1 ⟨231, 4, 237, 28⟩)
  (.cons (.ret (.call 36 "_law_by_hand_right" ⟨238, 11, 238, 29⟩ .nil .nil ⟨238, 11, 238, 31⟩) ⟨238, 4, 238, 31⟩)
  .nil))
def d_law : Df := ⟨"law", ["_law_script"], ["_law_script", "_law_k", "_law_state", "_law_store_here", "_law_kept", "_law_turn"], [], defScope (top 67), d_law_b⟩
def sh0 : CallSh := ⟨0, "is_whole", 1, ["most"], [.pos 0, .dfl 0, .kw 0], [(.int 0)]⟩
def sh1 : CallSh := ⟨1, "is_byte", 1, [], [.pos 0], []⟩
def sh2 : CallSh := ⟨0, "is_whole", 1, ["least", "most"], [.pos 0, .kw 0, .kw 1], []⟩
def sh3 : CallSh := ⟨4, "area_wrong", 1, [], [.pos 0], []⟩
def sh4 : CallSh := ⟨2, "is_flag", 1, [], [.pos 0], []⟩
def sh5 : CallSh := ⟨11, "list_wrong", 1, [], [.pos 0], []⟩
def sh6 : CallSh := ⟨6, "is_thing", 2, [], [.pos 0, .pos 1], []⟩
def sh7 : CallSh := ⟨8, "things_wrong", 2, [], [.pos 0, .pos 1], []⟩
def sh8 : CallSh := ⟨5, "own_size", 1, [], [.pos 0], []⟩
def sh9 : CallSh := ⟨7, "form_of", 2, [], [.pos 0, .pos 1], []⟩
def sh10 : CallSh := ⟨9, "step_wrong", 1, [], [.pos 0], []⟩
def sh11 : CallSh := ⟨12, "area_cells", 1, [], [.pos 0], []⟩
def sh12 : CallSh := ⟨3, "is_memory", 1, [], [.pos 0], []⟩
def sh13 : CallSh := ⟨14, "do_step", 2, [], [.pos 0, .pos 1], []⟩
def sh14 : CallSh := ⟨15, "need_memory", 1, [], [.pos 0], []⟩
def sh15 : CallSh := ⟨10, "need_step", 1, [], [.pos 0], []⟩
def sh16 : CallSh := ⟨16, "need_inside", 2, [], [.pos 0, .pos 1], []⟩
def sh17 : CallSh := ⟨13, "cells_touched", 1, [], [.pos 0], []⟩
def sh18 : CallSh := ⟨17, "own_steps_done", 2, [], [.pos 0, .pos 1], []⟩
def sh19 : CallSh := ⟨19, "_law_mixed", 2, [], [.pos 0, .pos 1], []⟩
def sh20 : CallSh := ⟨21, "_law_take", 2, [], [.pos 0, .pos 1], []⟩
def sh21 : CallSh := ⟨22, "_law_of", 2, [], [.pos 0, .pos 1], []⟩
def sh22 : CallSh := ⟨23, "_law_area", 3, [], [.pos 0, .pos 1, .pos 2], []⟩
def sh23 : CallSh := ⟨24, "_law_byte", 1, [], [.pos 0], []⟩
def sh24 : CallSh := ⟨25, "_law_moving", 2, [], [.pos 0, .pos 1], []⟩
def sh25 : CallSh := ⟨28, "_law_cells", 1, [], [.pos 0], []⟩
def sh26 : CallSh := ⟨31, "_law_write", 5, [], [.pos 0, .pos 1, .pos 2, .pos 3, .pos 4], []⟩
def sh27 : CallSh := ⟨30, "_law_read", 4, [], [.pos 0, .pos 1, .pos 2, .pos 3], []⟩
def sh28 : CallSh := ⟨29, "_law_own", 1, [], [.pos 0], []⟩
def sh29 : CallSh := ⟨32, "_law_moved", 3, [], [.pos 0, .pos 1, .pos 2], []⟩
def sh30 : CallSh := ⟨18, "step_done", 0, ["step", "memory"], [.kw 1, .kw 0], []⟩
def sh31 : CallSh := ⟨18, "step_done", 2, [], [.pos 0, .pos 1], []⟩
def sh32 : CallSh := ⟨33, "_law_right", 2, [], [.pos 0, .pos 1], []⟩
def sh33 : CallSh := ⟨20, "_law_begun", 2, [], [.pos 0, .pos 1], []⟩
def sh34 : CallSh := ⟨27, "_law_store", 1, [], [.pos 0], []⟩
def sh35 : CallSh := ⟨26, "_law_a_step", 4, [], [.pos 0, .pos 1, .pos 2, .pos 3], []⟩
def sh36 : CallSh := ⟨34, "_law_by_hand_right", 0, [], [], []⟩
def P : Pg := ⟨[d_is_whole, d_is_byte, d_is_flag, d_is_memory, d_area_wrong, d_own_size, d_is_thing, d_form_of, d_things_wrong, d_step_wrong, d_need_step, d_list_wrong, d_area_cells, d_cells_touched, d_do_step, d_need_memory, d_need_inside, d_own_steps_done, d_step_done, d_law_mixed, d_law_begun, d_law_take, d_law_of, d_law_area, d_law_byte, d_law_moving, d_law_a_step, d_law_store, d_law_cells, d_law_own, d_law_read, d_law_write, d_law_moved, d_law_right, d_law_by_hand_right, d_law], [sh0, sh1, sh2, sh3, sh4, sh5, sh6, sh7, sh8, sh9, sh10, sh11, sh12, sh13, sh14, sh15, sh16, sh17, sh18, sh19, sh20, sh21, sh22, sh23, sh24, sh25, sh26, sh27, sh28, sh29, sh30, sh31, sh32, sh33, sh34, sh35, sh36], [("GREATEST_BYTE", (.int 255)), ("FLAGS", (.int 8)), ("MOST_CELLS", (.int 1024)), ("GREATEST_CELL", (.int 1023)), ("MOST_AREA", (.int 256)), ("END", (.str "end")), ("MOST_NOTED", (.int 99)), ("FILL_steps", (.str "fill")), ("COPY_steps", (.str "copy")), ("SIZE", (.str "size")), ("SKIP", (.str "skip")), ("MOST_STEPS", (.int 64)), ("COPY_plain", (.str "copy")), ("FILL_plain", (.str "fill")), ("ADD_plain", (.str "add")), ("WRITE", (.str "w")), ("READ", (.str "r")), ("BYTES", (.int 256))], ["isinstance", "bool", "int", "len", "tuple", "all", "enumerate", "str", "dict", "range", "list", "zip", "sum", "max", "min", "repr"], [("STEP_FORMS", [("copy", (.str "AAS")), ("fill", (.str "ABS")), ("add", (.str "AC")), ("note", (.str "F")), ("wait", (.str "FN")), ("fence", (.str ""))])]⟩
theorem wf : P.wf = true := by kernel_rfl
theorem den_fn {n f : Nat} {rs : List R} {d : Df} (h : P.defs[f]? = some d) (hl : (rs.length == d.ps.length) = true) : (P.den (n + 1)).fn f rs = d.outc (exs (P.den n) d.body (d.start rs)) := by
  show (match P.defs[f]? with
    | some d => gd (rs.length == d.ps.length) (d.outc (exs (P.den n) d.body (d.start rs)))
    | none => none) = _
  rw [h]
  show gd (rs.length == d.ps.length) _ = _
  rw [hl]
  rfl
@[simp] theorem d_is_whole_B : d_is_whole.B = [] := rfl
@[simp] theorem d_is_whole_ps : d_is_whole.ps.length = 3 := rfl
theorem op_is_whole (n : Nat) (r0 r1 r2 : R) : (P.den (n + 1)).fn 0 [r0, r1, r2] = d_is_whole.outc (exs (P.den n) d_is_whole_b [some r0, some r1, some r2]) := den_fn (d := d_is_whole) rfl rfl
@[simp] theorem d_is_byte_B : d_is_byte.B = [] := rfl
@[simp] theorem d_is_byte_ps : d_is_byte.ps.length = 1 := rfl
theorem op_is_byte (n : Nat) (r0 : R) : (P.den (n + 1)).fn 1 [r0] = d_is_byte.outc (exs (P.den n) d_is_byte_b [some r0]) := den_fn (d := d_is_byte) rfl rfl
@[simp] theorem d_is_flag_B : d_is_flag.B = [] := rfl
@[simp] theorem d_is_flag_ps : d_is_flag.ps.length = 1 := rfl
theorem op_is_flag (n : Nat) (r0 : R) : (P.den (n + 1)).fn 2 [r0] = d_is_flag.outc (exs (P.den n) d_is_flag_b [some r0]) := den_fn (d := d_is_flag) rfl rfl
@[simp] theorem d_is_memory_B : d_is_memory.B = [] := rfl
@[simp] theorem d_is_memory_ps : d_is_memory.ps.length = 1 := rfl
theorem op_is_memory (n : Nat) (r0 : R) : (P.den (n + 1)).fn 3 [r0] = d_is_memory.outc (exs (P.den n) d_is_memory_b [some r0, none]) := den_fn (d := d_is_memory) rfl rfl
@[simp] theorem d_area_wrong_B : d_area_wrong.B = [] := rfl
@[simp] theorem d_area_wrong_ps : d_area_wrong.ps.length = 1 := rfl
theorem op_area_wrong (n : Nat) (r0 : R) : (P.den (n + 1)).fn 4 [r0] = d_area_wrong.outc (exs (P.den n) d_area_wrong_b [some r0, none, none, none, none, none, none, none, none, none]) := den_fn (d := d_area_wrong) rfl rfl
@[simp] theorem d_own_size_B : d_own_size.B = [] := rfl
@[simp] theorem d_own_size_ps : d_own_size.ps.length = 1 := rfl
theorem op_own_size (n : Nat) (r0 : R) : (P.den (n + 1)).fn 5 [r0] = d_own_size.outc (exs (P.den n) d_own_size_b [some r0, none, none, none, none]) := den_fn (d := d_own_size) rfl rfl
@[simp] theorem d_is_thing_B : d_is_thing.B = [] := rfl
@[simp] theorem d_is_thing_ps : d_is_thing.ps.length = 2 := rfl
theorem op_is_thing (n : Nat) (r0 r1 : R) : (P.den (n + 1)).fn 6 [r0, r1] = d_is_thing.outc (exs (P.den n) d_is_thing_b [some r0, some r1]) := den_fn (d := d_is_thing) rfl rfl
@[simp] theorem d_form_of_B : d_form_of.B = [] := rfl
@[simp] theorem d_form_of_ps : d_form_of.ps.length = 2 := rfl
theorem op_form_of (n : Nat) (r0 r1 : R) : (P.den (n + 1)).fn 7 [r0, r1] = d_form_of.outc (exs (P.den n) d_form_of_b [some r0, some r1, none]) := den_fn (d := d_form_of) rfl rfl
@[simp] theorem d_things_wrong_B : d_things_wrong.B = [] := rfl
@[simp] theorem d_things_wrong_ps : d_things_wrong.ps.length = 2 := rfl
theorem op_things_wrong (n : Nat) (r0 r1 : R) : (P.den (n + 1)).fn 8 [r0, r1] = d_things_wrong.outc (exs (P.den n) d_things_wrong_b [some r0, some r1, none, none]) := den_fn (d := d_things_wrong) rfl rfl
@[simp] theorem d_step_wrong_B : d_step_wrong.B = [] := rfl
@[simp] theorem d_step_wrong_ps : d_step_wrong.ps.length = 1 := rfl
theorem op_step_wrong (n : Nat) (r0 : R) : (P.den (n + 1)).fn 9 [r0] = d_step_wrong.outc (exs (P.den n) d_step_wrong_b [some r0, none, none]) := den_fn (d := d_step_wrong) rfl rfl
@[simp] theorem d_need_step_B : d_need_step.B = [] := rfl
@[simp] theorem d_need_step_ps : d_need_step.ps.length = 1 := rfl
theorem op_need_step (n : Nat) (r0 : R) : (P.den (n + 1)).fn 10 [r0] = d_need_step.outc (exs (P.den n) d_need_step_b [some r0, none]) := den_fn (d := d_need_step) rfl rfl
@[simp] theorem d_list_wrong_B : d_list_wrong.B = [] := rfl
@[simp] theorem d_list_wrong_ps : d_list_wrong.ps.length = 1 := rfl
theorem op_list_wrong (n : Nat) (r0 : R) : (P.den (n + 1)).fn 11 [r0] = d_list_wrong.outc (exs (P.den n) d_list_wrong_b [some r0, none, none]) := den_fn (d := d_list_wrong) rfl rfl
@[simp] theorem d_area_cells_B : d_area_cells.B = [] := rfl
@[simp] theorem d_area_cells_ps : d_area_cells.ps.length = 1 := rfl
theorem op_area_cells (n : Nat) (r0 : R) : (P.den (n + 1)).fn 12 [r0] = d_area_cells.outc (exs (P.den n) d_area_cells_b [some r0, none, none, none, none, none, none]) := den_fn (d := d_area_cells) rfl rfl
@[simp] theorem d_cells_touched_B : d_cells_touched.B = [] := rfl
@[simp] theorem d_cells_touched_ps : d_cells_touched.ps.length = 1 := rfl
theorem op_cells_touched (n : Nat) (r0 : R) : (P.den (n + 1)).fn 13 [r0] = d_cells_touched.outc (exs (P.den n) d_cells_touched_b [some r0, none, none]) := den_fn (d := d_cells_touched) rfl rfl
@[simp] theorem d_do_step_B : d_do_step.B = [0] := rfl
@[simp] theorem d_do_step_ps : d_do_step.ps.length = 2 := rfl
theorem op_do_step (n : Nat) (r0 r1 : R) : (P.den (n + 1)).fn 14 [r0, r1] = d_do_step.outc (exs (P.den n) d_do_step_b [some r0, some r1, none, none, none, none, none, none, none, none]) := den_fn (d := d_do_step) rfl rfl
@[simp] theorem d_need_memory_B : d_need_memory.B = [] := rfl
@[simp] theorem d_need_memory_ps : d_need_memory.ps.length = 1 := rfl
theorem op_need_memory (n : Nat) (r0 : R) : (P.den (n + 1)).fn 15 [r0] = d_need_memory.outc (exs (P.den n) d_need_memory_b [some r0]) := den_fn (d := d_need_memory) rfl rfl
@[simp] theorem d_need_inside_B : d_need_inside.B = [] := rfl
@[simp] theorem d_need_inside_ps : d_need_inside.ps.length = 2 := rfl
theorem op_need_inside (n : Nat) (r0 r1 : R) : (P.den (n + 1)).fn 16 [r0, r1] = d_need_inside.outc (exs (P.den n) d_need_inside_b [some r0, some r1]) := den_fn (d := d_need_inside) rfl rfl
@[simp] theorem d_own_steps_done_B : d_own_steps_done.B = [] := rfl
@[simp] theorem d_own_steps_done_ps : d_own_steps_done.ps.length = 2 := rfl
theorem op_own_steps_done (n : Nat) (r0 r1 : R) : (P.den (n + 1)).fn 17 [r0, r1] = d_own_steps_done.outc (exs (P.den n) d_own_steps_done_b [some r0, some r1, none, none]) := den_fn (d := d_own_steps_done) rfl rfl
@[simp] theorem d_step_done_B : d_step_done.B = [] := rfl
@[simp] theorem d_step_done_ps : d_step_done.ps.length = 2 := rfl
theorem op_step_done (n : Nat) (r0 r1 : R) : (P.den (n + 1)).fn 18 [r0, r1] = d_step_done.outc (exs (P.den n) d_step_done_b [some r0, some r1]) := den_fn (d := d_step_done) rfl rfl
@[simp] theorem d_law_mixed_B : d_law_mixed.B = [] := rfl
@[simp] theorem d_law_mixed_ps : d_law_mixed.ps.length = 2 := rfl
theorem op_law_mixed (n : Nat) (r0 r1 : R) : (P.den (n + 1)).fn 19 [r0, r1] = d_law_mixed.outc (exs (P.den n) d_law_mixed_b [some r0, some r1, none]) := den_fn (d := d_law_mixed) rfl rfl
@[simp] theorem d_law_begun_B : d_law_begun.B = [] := rfl
@[simp] theorem d_law_begun_ps : d_law_begun.ps.length = 2 := rfl
theorem op_law_begun (n : Nat) (r0 r1 : R) : (P.den (n + 1)).fn 20 [r0, r1] = d_law_begun.outc (exs (P.den n) d_law_begun_b [some r0, some r1, none, none]) := den_fn (d := d_law_begun) rfl rfl
@[simp] theorem d_law_take_B : d_law_take.B = [0] := rfl
@[simp] theorem d_law_take_ps : d_law_take.ps.length = 2 := rfl
theorem op_law_take (n : Nat) (r0 r1 : R) : (P.den (n + 1)).fn 21 [r0, r1] = d_law_take.outc (exs (P.den n) d_law_take_b [some r0, some r1, none, none]) := den_fn (d := d_law_take) rfl rfl
@[simp] theorem d_law_of_B : d_law_of.B = [0] := rfl
@[simp] theorem d_law_of_ps : d_law_of.ps.length = 2 := rfl
theorem op_law_of (n : Nat) (r0 r1 : R) : (P.den (n + 1)).fn 22 [r0, r1] = d_law_of.outc (exs (P.den n) d_law_of_b [some r0, some r1]) := den_fn (d := d_law_of) rfl rfl
@[simp] theorem d_law_area_B : d_law_area.B = [0] := rfl
@[simp] theorem d_law_area_ps : d_law_area.ps.length = 3 := rfl
theorem op_law_area (n : Nat) (r0 r1 r2 : R) : (P.den (n + 1)).fn 23 [r0, r1, r2] = d_law_area.outc (exs (P.den n) d_law_area_b [some r0, some r1, some r2, none, none, none, none]) := den_fn (d := d_law_area) rfl rfl
@[simp] theorem d_law_byte_B : d_law_byte.B = [0] := rfl
@[simp] theorem d_law_byte_ps : d_law_byte.ps.length = 1 := rfl
theorem op_law_byte (n : Nat) (r0 : R) : (P.den (n + 1)).fn 24 [r0] = d_law_byte.outc (exs (P.den n) d_law_byte_b [some r0]) := den_fn (d := d_law_byte) rfl rfl
@[simp] theorem d_law_moving_B : d_law_moving.B = [0] := rfl
@[simp] theorem d_law_moving_ps : d_law_moving.ps.length = 2 := rfl
theorem op_law_moving (n : Nat) (r0 r1 : R) : (P.den (n + 1)).fn 25 [r0, r1] = d_law_moving.outc (exs (P.den n) d_law_moving_b [some r0, some r1, none, none, none]) := den_fn (d := d_law_moving) rfl rfl
@[simp] theorem d_law_a_step_B : d_law_a_step.B = [0] := rfl
@[simp] theorem d_law_a_step_ps : d_law_a_step.ps.length = 4 := rfl
theorem op_law_a_step (n : Nat) (r0 r1 r2 r3 : R) : (P.den (n + 1)).fn 26 [r0, r1, r2, r3] = d_law_a_step.outc (exs (P.den n) d_law_a_step_b [some r0, some r1, some r2, some r3, none]) := den_fn (d := d_law_a_step) rfl rfl
@[simp] theorem d_law_store_B : d_law_store.B = [0] := rfl
@[simp] theorem d_law_store_ps : d_law_store.ps.length = 1 := rfl
theorem op_law_store (n : Nat) (r0 : R) : (P.den (n + 1)).fn 27 [r0] = d_law_store.outc (exs (P.den n) d_law_store_b [some r0, none, none, none, none]) := den_fn (d := d_law_store) rfl rfl
@[simp] theorem d_law_cells_B : d_law_cells.B = [] := rfl
@[simp] theorem d_law_cells_ps : d_law_cells.ps.length = 1 := rfl
theorem op_law_cells (n : Nat) (r0 : R) : (P.den (n + 1)).fn 28 [r0] = d_law_cells.outc (exs (P.den n) d_law_cells_b [some r0, none, none]) := den_fn (d := d_law_cells) rfl rfl
@[simp] theorem d_law_own_B : d_law_own.B = [] := rfl
@[simp] theorem d_law_own_ps : d_law_own.ps.length = 1 := rfl
theorem op_law_own (n : Nat) (r0 : R) : (P.den (n + 1)).fn 29 [r0] = d_law_own.outc (exs (P.den n) d_law_own_b [some r0]) := den_fn (d := d_law_own) rfl rfl
@[simp] theorem d_law_read_B : d_law_read.B = [0] := rfl
@[simp] theorem d_law_read_ps : d_law_read.ps.length = 4 := rfl
theorem op_law_read (n : Nat) (r0 r1 r2 r3 : R) : (P.den (n + 1)).fn 30 [r0, r1, r2, r3] = d_law_read.outc (exs (P.den n) d_law_read_b [some r0, some r1, some r2, some r3]) := den_fn (d := d_law_read) rfl rfl
@[simp] theorem d_law_write_B : d_law_write.B = [0] := rfl
@[simp] theorem d_law_write_ps : d_law_write.ps.length = 5 := rfl
theorem op_law_write (n : Nat) (r0 r1 r2 r3 r4 : R) : (P.den (n + 1)).fn 31 [r0, r1, r2, r3, r4] = d_law_write.outc (exs (P.den n) d_law_write_b [some r0, some r1, some r2, some r3, some r4]) := den_fn (d := d_law_write) rfl rfl
@[simp] theorem d_law_moved_B : d_law_moved.B = [0] := rfl
@[simp] theorem d_law_moved_ps : d_law_moved.ps.length = 3 := rfl
theorem op_law_moved (n : Nat) (r0 r1 r2 : R) : (P.den (n + 1)).fn 32 [r0, r1, r2] = d_law_moved.outc (exs (P.den n) d_law_moved_b [some r0, some r1, some r2, none, none, none, none, none]) := den_fn (d := d_law_moved) rfl rfl
@[simp] theorem d_law_right_B : d_law_right.B = [] := rfl
@[simp] theorem d_law_right_ps : d_law_right.ps.length = 2 := rfl
theorem op_law_right (n : Nat) (r0 r1 : R) : (P.den (n + 1)).fn 33 [r0, r1] = d_law_right.outc (exs (P.den n) d_law_right_b [some r0, some r1, none, none]) := den_fn (d := d_law_right) rfl rfl
@[simp] theorem d_law_by_hand_right_B : d_law_by_hand_right.B = [] := rfl
@[simp] theorem d_law_by_hand_right_ps : d_law_by_hand_right.ps.length = 0 := rfl
theorem op_law_by_hand_right (n : Nat) : (P.den (n + 1)).fn 34 [] = d_law_by_hand_right.outc (exs (P.den n) d_law_by_hand_right_b [none, none, none, none]) := den_fn (d := d_law_by_hand_right) rfl rfl
@[simp] theorem d_law_B : d_law.B = [] := rfl
@[simp] theorem d_law_ps : d_law.ps.length = 1 := rfl
theorem op_law (n : Nat) (r0 : R) : (P.den (n + 1)).fn 35 [r0] = d_law.outc (exs (P.den n) d_law_b [some r0, none, none, none, none, none]) := den_fn (d := d_law) rfl rfl
@[simp] theorem cl_0 {n : Nat} {x np es ks p : _} {S : Slots} : ev (P.den n) (.call 0 x np es ks p) S = callV (P.den n) 0 [.pos 0, .dfl 0, .kw 0] [(.int 0)] es ks S := ev_call (sh := sh0) (by cases n <;> rfl)
@[simp] theorem cl_1 {n : Nat} {x np es ks p : _} {S : Slots} : ev (P.den n) (.call 1 x np es ks p) S = callV (P.den n) 1 [.pos 0] [] es ks S := ev_call (sh := sh1) (by cases n <;> rfl)
@[simp] theorem cl_2 {n : Nat} {x np es ks p : _} {S : Slots} : ev (P.den n) (.call 2 x np es ks p) S = callV (P.den n) 0 [.pos 0, .kw 0, .kw 1] [] es ks S := ev_call (sh := sh2) (by cases n <;> rfl)
@[simp] theorem cl_3 {n : Nat} {x np es ks p : _} {S : Slots} : ev (P.den n) (.call 3 x np es ks p) S = callV (P.den n) 4 [.pos 0] [] es ks S := ev_call (sh := sh3) (by cases n <;> rfl)
@[simp] theorem cl_4 {n : Nat} {x np es ks p : _} {S : Slots} : ev (P.den n) (.call 4 x np es ks p) S = callV (P.den n) 2 [.pos 0] [] es ks S := ev_call (sh := sh4) (by cases n <;> rfl)
@[simp] theorem cl_5 {n : Nat} {x np es ks p : _} {S : Slots} : ev (P.den n) (.call 5 x np es ks p) S = callV (P.den n) 11 [.pos 0] [] es ks S := ev_call (sh := sh5) (by cases n <;> rfl)
@[simp] theorem cl_6 {n : Nat} {x np es ks p : _} {S : Slots} : ev (P.den n) (.call 6 x np es ks p) S = callV (P.den n) 6 [.pos 0, .pos 1] [] es ks S := ev_call (sh := sh6) (by cases n <;> rfl)
@[simp] theorem cl_7 {n : Nat} {x np es ks p : _} {S : Slots} : ev (P.den n) (.call 7 x np es ks p) S = callV (P.den n) 8 [.pos 0, .pos 1] [] es ks S := ev_call (sh := sh7) (by cases n <;> rfl)
@[simp] theorem cl_8 {n : Nat} {x np es ks p : _} {S : Slots} : ev (P.den n) (.call 8 x np es ks p) S = callV (P.den n) 5 [.pos 0] [] es ks S := ev_call (sh := sh8) (by cases n <;> rfl)
@[simp] theorem cl_9 {n : Nat} {x np es ks p : _} {S : Slots} : ev (P.den n) (.call 9 x np es ks p) S = callV (P.den n) 7 [.pos 0, .pos 1] [] es ks S := ev_call (sh := sh9) (by cases n <;> rfl)
@[simp] theorem cl_10 {n : Nat} {x np es ks p : _} {S : Slots} : ev (P.den n) (.call 10 x np es ks p) S = callV (P.den n) 9 [.pos 0] [] es ks S := ev_call (sh := sh10) (by cases n <;> rfl)
@[simp] theorem cl_11 {n : Nat} {x np es ks p : _} {S : Slots} : ev (P.den n) (.call 11 x np es ks p) S = callV (P.den n) 12 [.pos 0] [] es ks S := ev_call (sh := sh11) (by cases n <;> rfl)
@[simp] theorem cl_12 {n : Nat} {x np es ks p : _} {S : Slots} : ev (P.den n) (.call 12 x np es ks p) S = callV (P.den n) 3 [.pos 0] [] es ks S := ev_call (sh := sh12) (by cases n <;> rfl)
@[simp] theorem cl_13 {n : Nat} {x np es ks p : _} {S : Slots} : ev (P.den n) (.call 13 x np es ks p) S = callV (P.den n) 14 [.pos 0, .pos 1] [] es ks S := ev_call (sh := sh13) (by cases n <;> rfl)
@[simp] theorem cl_14 {n : Nat} {x np es ks p : _} {S : Slots} : ev (P.den n) (.call 14 x np es ks p) S = callV (P.den n) 15 [.pos 0] [] es ks S := ev_call (sh := sh14) (by cases n <;> rfl)
@[simp] theorem cl_15 {n : Nat} {x np es ks p : _} {S : Slots} : ev (P.den n) (.call 15 x np es ks p) S = callV (P.den n) 10 [.pos 0] [] es ks S := ev_call (sh := sh15) (by cases n <;> rfl)
@[simp] theorem cl_16 {n : Nat} {x np es ks p : _} {S : Slots} : ev (P.den n) (.call 16 x np es ks p) S = callV (P.den n) 16 [.pos 0, .pos 1] [] es ks S := ev_call (sh := sh16) (by cases n <;> rfl)
@[simp] theorem cl_17 {n : Nat} {x np es ks p : _} {S : Slots} : ev (P.den n) (.call 17 x np es ks p) S = callV (P.den n) 13 [.pos 0] [] es ks S := ev_call (sh := sh17) (by cases n <;> rfl)
@[simp] theorem cl_18 {n : Nat} {x np es ks p : _} {S : Slots} : ev (P.den n) (.call 18 x np es ks p) S = callV (P.den n) 17 [.pos 0, .pos 1] [] es ks S := ev_call (sh := sh18) (by cases n <;> rfl)
@[simp] theorem cl_19 {n : Nat} {x np es ks p : _} {S : Slots} : ev (P.den n) (.call 19 x np es ks p) S = callV (P.den n) 19 [.pos 0, .pos 1] [] es ks S := ev_call (sh := sh19) (by cases n <;> rfl)
@[simp] theorem cl_20 {n : Nat} {x np es ks p : _} {S : Slots} : ev (P.den n) (.call 20 x np es ks p) S = callV (P.den n) 21 [.pos 0, .pos 1] [] es ks S := ev_call (sh := sh20) (by cases n <;> rfl)
@[simp] theorem cl_21 {n : Nat} {x np es ks p : _} {S : Slots} : ev (P.den n) (.call 21 x np es ks p) S = callV (P.den n) 22 [.pos 0, .pos 1] [] es ks S := ev_call (sh := sh21) (by cases n <;> rfl)
@[simp] theorem cl_22 {n : Nat} {x np es ks p : _} {S : Slots} : ev (P.den n) (.call 22 x np es ks p) S = callV (P.den n) 23 [.pos 0, .pos 1, .pos 2] [] es ks S := ev_call (sh := sh22) (by cases n <;> rfl)
@[simp] theorem cl_23 {n : Nat} {x np es ks p : _} {S : Slots} : ev (P.den n) (.call 23 x np es ks p) S = callV (P.den n) 24 [.pos 0] [] es ks S := ev_call (sh := sh23) (by cases n <;> rfl)
@[simp] theorem cl_24 {n : Nat} {x np es ks p : _} {S : Slots} : ev (P.den n) (.call 24 x np es ks p) S = callV (P.den n) 25 [.pos 0, .pos 1] [] es ks S := ev_call (sh := sh24) (by cases n <;> rfl)
@[simp] theorem cl_25 {n : Nat} {x np es ks p : _} {S : Slots} : ev (P.den n) (.call 25 x np es ks p) S = callV (P.den n) 28 [.pos 0] [] es ks S := ev_call (sh := sh25) (by cases n <;> rfl)
@[simp] theorem cl_26 {n : Nat} {x np es ks p : _} {S : Slots} : ev (P.den n) (.call 26 x np es ks p) S = callV (P.den n) 31 [.pos 0, .pos 1, .pos 2, .pos 3, .pos 4] [] es ks S := ev_call (sh := sh26) (by cases n <;> rfl)
@[simp] theorem cl_27 {n : Nat} {x np es ks p : _} {S : Slots} : ev (P.den n) (.call 27 x np es ks p) S = callV (P.den n) 30 [.pos 0, .pos 1, .pos 2, .pos 3] [] es ks S := ev_call (sh := sh27) (by cases n <;> rfl)
@[simp] theorem cl_28 {n : Nat} {x np es ks p : _} {S : Slots} : ev (P.den n) (.call 28 x np es ks p) S = callV (P.den n) 29 [.pos 0] [] es ks S := ev_call (sh := sh28) (by cases n <;> rfl)
@[simp] theorem cl_29 {n : Nat} {x np es ks p : _} {S : Slots} : ev (P.den n) (.call 29 x np es ks p) S = callV (P.den n) 32 [.pos 0, .pos 1, .pos 2] [] es ks S := ev_call (sh := sh29) (by cases n <;> rfl)
@[simp] theorem cl_30 {n : Nat} {x np es ks p : _} {S : Slots} : ev (P.den n) (.call 30 x np es ks p) S = callV (P.den n) 18 [.kw 1, .kw 0] [] es ks S := ev_call (sh := sh30) (by cases n <;> rfl)
@[simp] theorem cl_31 {n : Nat} {x np es ks p : _} {S : Slots} : ev (P.den n) (.call 31 x np es ks p) S = callV (P.den n) 18 [.pos 0, .pos 1] [] es ks S := ev_call (sh := sh31) (by cases n <;> rfl)
@[simp] theorem cl_32 {n : Nat} {x np es ks p : _} {S : Slots} : ev (P.den n) (.call 32 x np es ks p) S = callV (P.den n) 33 [.pos 0, .pos 1] [] es ks S := ev_call (sh := sh32) (by cases n <;> rfl)
@[simp] theorem cl_33 {n : Nat} {x np es ks p : _} {S : Slots} : ev (P.den n) (.call 33 x np es ks p) S = callV (P.den n) 20 [.pos 0, .pos 1] [] es ks S := ev_call (sh := sh33) (by cases n <;> rfl)
@[simp] theorem cl_34 {n : Nat} {x np es ks p : _} {S : Slots} : ev (P.den n) (.call 34 x np es ks p) S = callV (P.den n) 27 [.pos 0] [] es ks S := ev_call (sh := sh34) (by cases n <;> rfl)
@[simp] theorem cl_35 {n : Nat} {x np es ks p : _} {S : Slots} : ev (P.den n) (.call 35 x np es ks p) S = callV (P.den n) 26 [.pos 0, .pos 1, .pos 2, .pos 3] [] es ks S := ev_call (sh := sh35) (by cases n <;> rfl)
@[simp] theorem cl_36 {n : Nat} {x np es ks p : _} {S : Slots} : ev (P.den n) (.call 36 x np es ks p) S = callV (P.den n) 34 [] [] es ks S := ev_call (sh := sh36) (by cases n <;> rfl)
@[simp] theorem tab_0 {n : Nat} : (P.den n).tab "STEP_FORMS" = some ([("copy", (.str "AAS")), ("fill", (.str "ABS")), ("add", (.str "AC")), ("note", (.str "F")), ("wait", (.str "FN")), ("fence", (.str ""))] : List (Str × Val)) := by cases n <;> rfl
@[simp] theorem con_0 {n : Nat} : (P.den n).const "GREATEST_BYTE" = some (.int 255) := by cases n <;> rfl
@[simp] theorem con_1 {n : Nat} : (P.den n).const "FLAGS" = some (.int 8) := by cases n <;> rfl
@[simp] theorem con_2 {n : Nat} : (P.den n).const "MOST_CELLS" = some (.int 1024) := by cases n <;> rfl
@[simp] theorem con_3 {n : Nat} : (P.den n).const "GREATEST_CELL" = some (.int 1023) := by cases n <;> rfl
@[simp] theorem con_4 {n : Nat} : (P.den n).const "MOST_AREA" = some (.int 256) := by cases n <;> rfl
@[simp] theorem con_5 {n : Nat} : (P.den n).const "END" = some (.str "end") := by cases n <;> rfl
@[simp] theorem con_6 {n : Nat} : (P.den n).const "MOST_NOTED" = some (.int 99) := by cases n <;> rfl
@[simp] theorem con_7 {n : Nat} : (P.den n).const "FILL_steps" = some (.str "fill") := by cases n <;> rfl
@[simp] theorem con_8 {n : Nat} : (P.den n).const "COPY_steps" = some (.str "copy") := by cases n <;> rfl
@[simp] theorem con_9 {n : Nat} : (P.den n).const "SIZE" = some (.str "size") := by cases n <;> rfl
@[simp] theorem con_10 {n : Nat} : (P.den n).const "SKIP" = some (.str "skip") := by cases n <;> rfl
@[simp] theorem con_11 {n : Nat} : (P.den n).const "MOST_STEPS" = some (.int 64) := by cases n <;> rfl
@[simp] theorem con_12 {n : Nat} : (P.den n).const "COPY_plain" = some (.str "copy") := by cases n <;> rfl
@[simp] theorem con_13 {n : Nat} : (P.den n).const "FILL_plain" = some (.str "fill") := by cases n <;> rfl
@[simp] theorem con_14 {n : Nat} : (P.den n).const "ADD_plain" = some (.str "add") := by cases n <;> rfl
@[simp] theorem con_15 {n : Nat} : (P.den n).const "WRITE" = some (.str "w") := by cases n <;> rfl
@[simp] theorem con_16 {n : Nat} : (P.den n).const "READ" = some (.str "r") := by cases n <;> rfl
@[simp] theorem con_17 {n : Nat} : (P.den n).const "BYTES" = some (.int 256) := by cases n <;> rfl
def dx : List Dx := [⟨d_is_whole, defArgs (top 9), [], [("least", .int 0), ("most", .int 1023)]⟩,
  ⟨d_is_byte, defArgs (top 10), [], []⟩,
  ⟨d_is_flag, defArgs (top 11), [], []⟩,
  ⟨d_is_memory, defArgs (top 12), [], []⟩,
  ⟨d_area_wrong, defArgs (top 16), [], []⟩,
  ⟨d_own_size, defArgs (top 17), [], []⟩,
  ⟨d_is_thing, defArgs (top 30), [], []⟩,
  ⟨d_form_of, defArgs (top 31), [], []⟩,
  ⟨d_things_wrong, defArgs (top 32), [], []⟩,
  ⟨d_step_wrong, defArgs (top 33), [], []⟩,
  ⟨d_need_step, defArgs (top 34), [], []⟩,
  ⟨d_list_wrong, defArgs (top 35), [], []⟩,
  ⟨d_area_cells, defArgs (top 43), [], []⟩,
  ⟨d_cells_touched, defArgs (top 44), [], []⟩,
  ⟨d_do_step, defArgs (top 45), [], []⟩,
  ⟨d_need_memory, defArgs (top 46), [], []⟩,
  ⟨d_need_inside, defArgs (top 47), [], []⟩,
  ⟨d_own_steps_done, defArgs (top 48), [], []⟩,
  ⟨d_step_done, defArgs (top 49), [], []⟩,
  ⟨d_law_mixed, defArgs (top 51), [], []⟩,
  ⟨d_law_begun, defArgs (top 52), [], []⟩,
  ⟨d_law_take, defArgs (top 53), [], []⟩,
  ⟨d_law_of, defArgs (top 54), [], []⟩,
  ⟨d_law_area, defArgs (top 55), [], []⟩,
  ⟨d_law_byte, defArgs (top 56), [], []⟩,
  ⟨d_law_moving, defArgs (top 57), [], []⟩,
  ⟨d_law_a_step, defArgs (top 58), [], []⟩,
  ⟨d_law_store, defArgs (top 59), [], []⟩,
  ⟨d_law_cells, defArgs (top 60), [], []⟩,
  ⟨d_law_own, defArgs (top 61), [], []⟩,
  ⟨d_law_read, defArgs (top 62), [], []⟩,
  ⟨d_law_write, defArgs (top 63), [], []⟩,
  ⟨d_law_moved, defArgs (top 64), [], []⟩,
  ⟨d_law_right, defArgs (top 65), [], []⟩,
  ⟨d_law_by_hand_right, defArgs (top 66), [], []⟩,
  ⟨d_law, defArgs (top 67), [], []⟩]
section
variable {K : Frag} {a : Addr} {fd : FuncData}
theorem bd0 (F : FunD K "is_whole" "is_whole" (defArgs (top 9)) d_is_whole_b.py (defScope (top 9)) [] [("least", .int 0), ("most", .int 1023)] a fd) : Bd K fd ["thing", "least", "most"] sh0 :=
  bindB F [("least", .int 0)] (by simp) (fun q h => (by simp at h ⊢; grind)) (.cons (.int 0) .nil) fun _ _ _ _ _ _ us mv ws h1 h2 h3 => match us, mv, ws, h1, h2, h3 with | [u0], [m0], [w0], _, _, _ => ⟨_, rfl, ⟨_, _, _, _, _, _, rfl, rfl, rfl⟩⟩
theorem bd1 (F : FunD K "is_byte" "is_byte" (defArgs (top 10)) d_is_byte_b.py (defScope (top 10)) [] [] a fd) : Bd K fd ["thing"] sh1 :=
  bindA F rfl fun _ _ _ _ _ _ us ws h1 h2 => match us, ws, h1, h2 with | [u0], [], _, _ => ⟨_, rfl, rfl⟩
theorem bd2 (F : FunD K "is_whole" "is_whole" (defArgs (top 9)) d_is_whole_b.py (defScope (top 9)) [] [("least", .int 0), ("most", .int 1023)] a fd) : Bd K fd ["thing", "least", "most"] sh2 :=
  bindA F rfl fun _ _ _ _ _ _ us ws h1 h2 => match us, ws, h1, h2 with | [u0], [w0, w1], _, _ => ⟨_, rfl, rfl⟩
theorem bd3 (F : FunD K "area_wrong" "area_wrong" (defArgs (top 16)) d_area_wrong_b.py (defScope (top 16)) [] [] a fd) : Bd K fd ["thing"] sh3 :=
  bindA F rfl fun _ _ _ _ _ _ us ws h1 h2 => match us, ws, h1, h2 with | [u0], [], _, _ => ⟨_, rfl, rfl⟩
theorem bd4 (F : FunD K "is_flag" "is_flag" (defArgs (top 11)) d_is_flag_b.py (defScope (top 11)) [] [] a fd) : Bd K fd ["thing"] sh4 :=
  bindA F rfl fun _ _ _ _ _ _ us ws h1 h2 => match us, ws, h1, h2 with | [u0], [], _, _ => ⟨_, rfl, rfl⟩
theorem bd5 (F : FunD K "list_wrong" "list_wrong" (defArgs (top 35)) d_list_wrong_b.py (defScope (top 35)) [] [] a fd) : Bd K fd ["thing"] sh5 :=
  bindA F rfl fun _ _ _ _ _ _ us ws h1 h2 => match us, ws, h1, h2 with | [u0], [], _, _ => ⟨_, rfl, rfl⟩
theorem bd6 (F : FunD K "is_thing" "is_thing" (defArgs (top 30)) d_is_thing_b.py (defScope (top 30)) [] [] a fd) : Bd K fd ["thing", "kind"] sh6 :=
  bindA F rfl fun _ _ _ _ _ _ us ws h1 h2 => match us, ws, h1, h2 with | [u0, u1], [], _, _ => ⟨_, rfl, rfl⟩
theorem bd7 (F : FunD K "things_wrong" "things_wrong" (defArgs (top 32)) d_things_wrong_b.py (defScope (top 32)) [] [] a fd) : Bd K fd ["thing", "kinds"] sh7 :=
  bindA F rfl fun _ _ _ _ _ _ us ws h1 h2 => match us, ws, h1, h2 with | [u0, u1], [], _, _ => ⟨_, rfl, rfl⟩
theorem bd8 (F : FunD K "own_size" "own_size" (defArgs (top 17)) d_own_size_b.py (defScope (top 17)) [] [] a fd) : Bd K fd ["area"] sh8 :=
  bindA F rfl fun _ _ _ _ _ _ us ws h1 h2 => match us, ws, h1, h2 with | [u0], [], _, _ => ⟨_, rfl, rfl⟩
theorem bd9 (F : FunD K "form_of" "form_of" (defArgs (top 31)) d_form_of_b.py (defScope (top 31)) [] [] a fd) : Bd K fd ["thing", "forms"] sh9 :=
  bindA F rfl fun _ _ _ _ _ _ us ws h1 h2 => match us, ws, h1, h2 with | [u0, u1], [], _, _ => ⟨_, rfl, rfl⟩
theorem bd10 (F : FunD K "step_wrong" "step_wrong" (defArgs (top 33)) d_step_wrong_b.py (defScope (top 33)) [] [] a fd) : Bd K fd ["thing"] sh10 :=
  bindA F rfl fun _ _ _ _ _ _ us ws h1 h2 => match us, ws, h1, h2 with | [u0], [], _, _ => ⟨_, rfl, rfl⟩
theorem bd11 (F : FunD K "area_cells" "area_cells" (defArgs (top 43)) d_area_cells_b.py (defScope (top 43)) [] [] a fd) : Bd K fd ["area"] sh11 :=
  bindA F rfl fun _ _ _ _ _ _ us ws h1 h2 => match us, ws, h1, h2 with | [u0], [], _, _ => ⟨_, rfl, rfl⟩
theorem bd12 (F : FunD K "is_memory" "is_memory" (defArgs (top 12)) d_is_memory_b.py (defScope (top 12)) [] [] a fd) : Bd K fd ["thing"] sh12 :=
  bindA F rfl fun _ _ _ _ _ _ us ws h1 h2 => match us, ws, h1, h2 with | [u0], [], _, _ => ⟨_, rfl, rfl⟩
theorem bd13 (F : FunD K "do_step" "do_step" (defArgs (top 45)) d_do_step_b.py (defScope (top 45)) [] [] a fd) : Bd K fd ["memory", "step"] sh13 :=
  bindA F rfl fun _ _ _ _ _ _ us ws h1 h2 => match us, ws, h1, h2 with | [u0, u1], [], _, _ => ⟨_, rfl, rfl⟩
theorem bd14 (F : FunD K "need_memory" "need_memory" (defArgs (top 46)) d_need_memory_b.py (defScope (top 46)) [] [] a fd) : Bd K fd ["memory"] sh14 :=
  bindA F rfl fun _ _ _ _ _ _ us ws h1 h2 => match us, ws, h1, h2 with | [u0], [], _, _ => ⟨_, rfl, rfl⟩
theorem bd15 (F : FunD K "need_step" "need_step" (defArgs (top 34)) d_need_step_b.py (defScope (top 34)) [] [] a fd) : Bd K fd ["thing"] sh15 :=
  bindA F rfl fun _ _ _ _ _ _ us ws h1 h2 => match us, ws, h1, h2 with | [u0], [], _, _ => ⟨_, rfl, rfl⟩
theorem bd16 (F : FunD K "need_inside" "need_inside" (defArgs (top 47)) d_need_inside_b.py (defScope (top 47)) [] [] a fd) : Bd K fd ["memory", "cells"] sh16 :=
  bindA F rfl fun _ _ _ _ _ _ us ws h1 h2 => match us, ws, h1, h2 with | [u0, u1], [], _, _ => ⟨_, rfl, rfl⟩
theorem bd17 (F : FunD K "cells_touched" "cells_touched" (defArgs (top 44)) d_cells_touched_b.py (defScope (top 44)) [] [] a fd) : Bd K fd ["step"] sh17 :=
  bindA F rfl fun _ _ _ _ _ _ us ws h1 h2 => match us, ws, h1, h2 with | [u0], [], _, _ => ⟨_, rfl, rfl⟩
theorem bd18 (F : FunD K "own_steps_done" "own_steps_done" (defArgs (top 48)) d_own_steps_done_b.py (defScope (top 48)) [] [] a fd) : Bd K fd ["memory", "steps"] sh18 :=
  bindA F rfl fun _ _ _ _ _ _ us ws h1 h2 => match us, ws, h1, h2 with | [u0, u1], [], _, _ => ⟨_, rfl, rfl⟩
theorem bd19 (F : FunD K "_law_mixed" "_law_mixed" (defArgs (top 51)) d_law_mixed_b.py (defScope (top 51)) [] [] a fd) : Bd K fd ["_law_drawn", "_law_k"] sh19 :=
  bindA F rfl fun _ _ _ _ _ _ us ws h1 h2 => match us, ws, h1, h2 with | [u0, u1], [], _, _ => ⟨_, rfl, rfl⟩
theorem bd20 (F : FunD K "_law_take" "_law_take" (defArgs (top 53)) d_law_take_b.py (defScope (top 53)) [] [] a fd) : Bd K fd ["_law_state", "_law_count"] sh20 :=
  bindA F rfl fun _ _ _ _ _ _ us ws h1 h2 => match us, ws, h1, h2 with | [u0, u1], [], _, _ => ⟨_, rfl, rfl⟩
theorem bd21 (F : FunD K "_law_of" "_law_of" (defArgs (top 54)) d_law_of_b.py (defScope (top 54)) [] [] a fd) : Bd K fd ["_law_state", "_law_some"] sh21 :=
  bindA F rfl fun _ _ _ _ _ _ us ws h1 h2 => match us, ws, h1, h2 with | [u0, u1], [], _, _ => ⟨_, rfl, rfl⟩
theorem bd22 (F : FunD K "_law_area" "_law_area" (defArgs (top 55)) d_law_area_b.py (defScope (top 55)) [] [] a fd) : Bd K fd ["_law_state", "_law_top", "_law_size"] sh22 :=
  bindA F rfl fun _ _ _ _ _ _ us ws h1 h2 => match us, ws, h1, h2 with | [u0, u1, u2], [], _, _ => ⟨_, rfl, rfl⟩
theorem bd23 (F : FunD K "_law_byte" "_law_byte" (defArgs (top 56)) d_law_byte_b.py (defScope (top 56)) [] [] a fd) : Bd K fd ["_law_state"] sh23 :=
  bindA F rfl fun _ _ _ _ _ _ us ws h1 h2 => match us, ws, h1, h2 with | [u0], [], _, _ => ⟨_, rfl, rfl⟩
theorem bd24 (F : FunD K "_law_moving" "_law_moving" (defArgs (top 57)) d_law_moving_b.py (defScope (top 57)) [] [] a fd) : Bd K fd ["_law_state", "_law_top"] sh24 :=
  bindA F rfl fun _ _ _ _ _ _ us ws h1 h2 => match us, ws, h1, h2 with | [u0, u1], [], _, _ => ⟨_, rfl, rfl⟩
theorem bd25 (F : FunD K "_law_cells" "_law_cells" (defArgs (top 60)) d_law_cells_b.py (defScope (top 60)) [] [] a fd) : Bd K fd ["_law_area_here"] sh25 :=
  bindA F rfl fun _ _ _ _ _ _ us ws h1 h2 => match us, ws, h1, h2 with | [u0], [], _, _ => ⟨_, rfl, rfl⟩
theorem bd26 (F : FunD K "_law_write" "_law_write" (defArgs (top 63)) d_law_write_b.py (defScope (top 63)) [] [] a fd) : Bd K fd ["_law_m", "_law_spot", "_law_part", "_law_place", "_law_byte_here"] sh26 :=
  bindA F rfl fun _ _ _ _ _ _ us ws h1 h2 => match us, ws, h1, h2 with | [u0, u1, u2, u3, u4], [], _, _ => ⟨_, rfl, rfl⟩
theorem bd27 (F : FunD K "_law_read" "_law_read" (defArgs (top 62)) d_law_read_b.py (defScope (top 62)) [] [] a fd) : Bd K fd ["_law_m", "_law_spot", "_law_part", "_law_place"] sh27 :=
  bindA F rfl fun _ _ _ _ _ _ us ws h1 h2 => match us, ws, h1, h2 with | [u0, u1, u2, u3], [], _, _ => ⟨_, rfl, rfl⟩
theorem bd28 (F : FunD K "_law_own" "_law_own" (defArgs (top 61)) d_law_own_b.py (defScope (top 61)) [] [] a fd) : Bd K fd ["_law_store_here"] sh28 :=
  bindA F rfl fun _ _ _ _ _ _ us ws h1 h2 => match us, ws, h1, h2 with | [u0], [], _, _ => ⟨_, rfl, rfl⟩
theorem bd29 (F : FunD K "_law_moved" "_law_moved" (defArgs (top 64)) d_law_moved_b.py (defScope (top 64)) [] [] a fd) : Bd K fd ["_law_m", "_law_spot", "_law_one"] sh29 :=
  bindA F rfl fun _ _ _ _ _ _ us ws h1 h2 => match us, ws, h1, h2 with | [u0, u1, u2], [], _, _ => ⟨_, rfl, rfl⟩
theorem bd30 (F : FunD K "step_done" "step_done" (defArgs (top 49)) d_step_done_b.py (defScope (top 49)) [] [] a fd) : Bd K fd ["memory", "step"] sh30 :=
  bindA F rfl fun _ _ _ _ _ _ us ws h1 h2 => match us, ws, h1, h2 with | [], [w0, w1], _, _ => ⟨_, rfl, rfl⟩
theorem bd31 (F : FunD K "step_done" "step_done" (defArgs (top 49)) d_step_done_b.py (defScope (top 49)) [] [] a fd) : Bd K fd ["memory", "step"] sh31 :=
  bindA F rfl fun _ _ _ _ _ _ us ws h1 h2 => match us, ws, h1, h2 with | [u0, u1], [], _, _ => ⟨_, rfl, rfl⟩
theorem bd32 (F : FunD K "_law_right" "_law_right" (defArgs (top 65)) d_law_right_b.py (defScope (top 65)) [] [] a fd) : Bd K fd ["_law_store_here", "_law_one"] sh32 :=
  bindA F rfl fun _ _ _ _ _ _ us ws h1 h2 => match us, ws, h1, h2 with | [u0, u1], [], _, _ => ⟨_, rfl, rfl⟩
theorem bd33 (F : FunD K "_law_begun" "_law_begun" (defArgs (top 52)) d_law_begun_b.py (defScope (top 52)) [] [] a fd) : Bd K fd ["_law_script", "_law_k"] sh33 :=
  bindA F rfl fun _ _ _ _ _ _ us ws h1 h2 => match us, ws, h1, h2 with | [u0, u1], [], _, _ => ⟨_, rfl, rfl⟩
theorem bd34 (F : FunD K "_law_store" "_law_store" (defArgs (top 59)) d_law_store_b.py (defScope (top 59)) [] [] a fd) : Bd K fd ["_law_state"] sh34 :=
  bindA F rfl fun _ _ _ _ _ _ us ws h1 h2 => match us, ws, h1, h2 with | [u0], [], _, _ => ⟨_, rfl, rfl⟩
theorem bd35 (F : FunD K "_law_a_step" "_law_a_step" (defArgs (top 58)) d_law_a_step_b.py (defScope (top 58)) [] [] a fd) : Bd K fd ["_law_state", "_law_top", "_law_hand", "_law_is_calm"] sh35 :=
  bindA F rfl fun _ _ _ _ _ _ us ws h1 h2 => match us, ws, h1, h2 with | [u0, u1, u2, u3], [], _, _ => ⟨_, rfl, rfl⟩
theorem bd36 (F : FunD K "_law_by_hand_right" "_law_by_hand_right" (defArgs (top 66)) d_law_by_hand_right_b.py (defScope (top 66)) [] [] a fd) : Bd K fd [] sh36 :=
  bindA F rfl fun _ _ _ _ _ _ us ws h1 h2 => match us, ws, h1, h2 with | [], [], _, _ => ⟨_, rfl, rfl⟩
end
theorem cal {K : Frag} : ∀ (c : Nat) (sh : CallSh), P.calls[c]? = some sh → ∃ e : Dx, dx[sh.f]? = some e ∧ e.df.x = sh.x ∧ ∀ (a : Addr) (fd : FuncData), FunD K e.df.x e.df.x e.params e.df.body.py e.df.sc (e.dd.dvs K) (e.dd.kws K) a fd → Bd K fd e.df.ps sh
  | 0, sh, h => by cases h; exact ⟨_, rfl, rfl, fun a fd F => bd0 F⟩
  | 1, sh, h => by cases h; exact ⟨_, rfl, rfl, fun a fd F => bd1 F⟩
  | 2, sh, h => by cases h; exact ⟨_, rfl, rfl, fun a fd F => bd2 F⟩
  | 3, sh, h => by cases h; exact ⟨_, rfl, rfl, fun a fd F => bd3 F⟩
  | 4, sh, h => by cases h; exact ⟨_, rfl, rfl, fun a fd F => bd4 F⟩
  | 5, sh, h => by cases h; exact ⟨_, rfl, rfl, fun a fd F => bd5 F⟩
  | 6, sh, h => by cases h; exact ⟨_, rfl, rfl, fun a fd F => bd6 F⟩
  | 7, sh, h => by cases h; exact ⟨_, rfl, rfl, fun a fd F => bd7 F⟩
  | 8, sh, h => by cases h; exact ⟨_, rfl, rfl, fun a fd F => bd8 F⟩
  | 9, sh, h => by cases h; exact ⟨_, rfl, rfl, fun a fd F => bd9 F⟩
  | 10, sh, h => by cases h; exact ⟨_, rfl, rfl, fun a fd F => bd10 F⟩
  | 11, sh, h => by cases h; exact ⟨_, rfl, rfl, fun a fd F => bd11 F⟩
  | 12, sh, h => by cases h; exact ⟨_, rfl, rfl, fun a fd F => bd12 F⟩
  | 13, sh, h => by cases h; exact ⟨_, rfl, rfl, fun a fd F => bd13 F⟩
  | 14, sh, h => by cases h; exact ⟨_, rfl, rfl, fun a fd F => bd14 F⟩
  | 15, sh, h => by cases h; exact ⟨_, rfl, rfl, fun a fd F => bd15 F⟩
  | 16, sh, h => by cases h; exact ⟨_, rfl, rfl, fun a fd F => bd16 F⟩
  | 17, sh, h => by cases h; exact ⟨_, rfl, rfl, fun a fd F => bd17 F⟩
  | 18, sh, h => by cases h; exact ⟨_, rfl, rfl, fun a fd F => bd18 F⟩
  | 19, sh, h => by cases h; exact ⟨_, rfl, rfl, fun a fd F => bd19 F⟩
  | 20, sh, h => by cases h; exact ⟨_, rfl, rfl, fun a fd F => bd20 F⟩
  | 21, sh, h => by cases h; exact ⟨_, rfl, rfl, fun a fd F => bd21 F⟩
  | 22, sh, h => by cases h; exact ⟨_, rfl, rfl, fun a fd F => bd22 F⟩
  | 23, sh, h => by cases h; exact ⟨_, rfl, rfl, fun a fd F => bd23 F⟩
  | 24, sh, h => by cases h; exact ⟨_, rfl, rfl, fun a fd F => bd24 F⟩
  | 25, sh, h => by cases h; exact ⟨_, rfl, rfl, fun a fd F => bd25 F⟩
  | 26, sh, h => by cases h; exact ⟨_, rfl, rfl, fun a fd F => bd26 F⟩
  | 27, sh, h => by cases h; exact ⟨_, rfl, rfl, fun a fd F => bd27 F⟩
  | 28, sh, h => by cases h; exact ⟨_, rfl, rfl, fun a fd F => bd28 F⟩
  | 29, sh, h => by cases h; exact ⟨_, rfl, rfl, fun a fd F => bd29 F⟩
  | 30, sh, h => by cases h; exact ⟨_, rfl, rfl, fun a fd F => bd30 F⟩
  | 31, sh, h => by cases h; exact ⟨_, rfl, rfl, fun a fd F => bd31 F⟩
  | 32, sh, h => by cases h; exact ⟨_, rfl, rfl, fun a fd F => bd32 F⟩
  | 33, sh, h => by cases h; exact ⟨_, rfl, rfl, fun a fd F => bd33 F⟩
  | 34, sh, h => by cases h; exact ⟨_, rfl, rfl, fun a fd F => bd34 F⟩
  | 35, sh, h => by cases h; exact ⟨_, rfl, rfl, fun a fd F => bd35 F⟩
  | 36, sh, h => by cases h; exact ⟨_, rfl, rfl, fun a fd F => bd36 F⟩
  | c + 37, sh, h => by cases h
def loose : List Str := (["HaulError", "BadMemory", "BadStep", "MOST_CELLS", "FLAGS", "GREATEST_CELL", "GREATEST_BYTE", "is_whole", "is_byte", "is_flag", "is_memory", "MOST_AREA", "END", "area_wrong", "own_size", "MOST_STEPS", "MOST_NOTED", "COPY_steps", "FILL_steps", "ADD_steps"] : List Str) ++ (["NOTE", "WAIT", "FENCE", "SIZE", "SKIP", "STEP_FORMS", "is_thing", "form_of", "things_wrong", "step_wrong", "need_step", "list_wrong", "COPY_plain", "FILL_plain", "ADD_plain", "READ", "WRITE", "BYTES", "area_cells", "cells_touched"] : List Str) ++ (["do_step", "need_memory", "need_inside", "own_steps_done", "step_done", "_law_mixed", "_law_begun", "_law_take", "_law_of", "_law_area", "_law_byte", "_law_moving", "_law_a_step", "_law_store", "_law_cells", "_law_own", "_law_read", "_law_write", "_law_moved", "_law_right"] : List Str) ++ (["_law_by_hand_right"] : List Str)
abbrev Rr : PySem.W.OpenRow := PySem.W.OpenLaw.row PySem.Challenge.rw_haulring_k09_steps_done
abbrev hk : PySem.W.Hook := He.hookX 4 (faOf P) (dx.map Dx.dd) (tabsOf P) [] (exP P)
def ob (s : PySem.W.SharedT) : He.AlX := He.obsX 4 (faOf P) (dx.map Dx.dd) (tabsOf P) [] (exP P) (HandSHeadRun.getT s)
theorem ob_eq (s : PySem.W.SharedT) : ob s = hk.obs s.abs := He.obsX_eq (HandSHeadRun.getT_eq s)
theorem run (w : World) : HandSHeadRun.RunEq Rr (PySem.W.view Rr.prog [67]) hk ob 6000 loose w := by
  refine PySem.W.byRow2 "special-get-raises" (P := fun w => HandSHeadRun.RunEq Rr (PySem.W.view Rr.prog [67]) hk ob 6000 loose w) ?_ ?_ w
  · intro w os
    kernel_rfl
  · intro w os
    kernel_rfl
theorem holds_by (n : Nat) (hr : Room n callerA) (law : ∀ ns : List Int, ns.length ≤ 63 → (∀ k ∈ ns, Builtin.Int.intBits k ≤ 1048576) → ∃ dd fin, (P.den n).fn 35 [(0, .lst (ns.map Val.int))] = some ((dd, .bl true), fin)) :
    PySem.W.WalkO (PySem.W.view Rr.prog [67]) loose (PySem.W.XL (PySem.W.view Rr.prog [67]) []) hk.says Rr.toRowW (HandSHeadRun.topDef Rr.prog 67) [] (fun f vs => PySem.call f vs) := by
  refine law_end (l := PySem.Challenge.rw_haulring_k09_steps_done) (m := 63) (n := n) (P := P) (f := 35) (df := d_law) (x := "_law_script") rfl (by decide) (by kernel_rfl) hr wf rfl rfl ?_ law
  intro w mg fa h Y G hmg0
  obtain ⟨K, KX, c⟩ := Y
  have hmg : mg ("law" : Str) = some (.ref fa) := by
    have e : (HandSHeadRun.topDef Rr.prog 67).name = ("law" : Str) := by kernel_rfl
    rw [← e]
    exact hmg0
  obtain ⟨L, F⟩ := head_lk (dx := dx) rfl KX G c cal
  obtain ⟨fd, F⟩ := F 35 _ rfl
  have e := hmg.symm.trans (He.glo_ok KX G (glo_in c.t.d 35 rfl))
  cases e
  exact ⟨K, fd, KX, L, ⟨_, _, _, _, F⟩, fun s u => by
    have b := FunD.bindsA (ps := ["_law_script"]) F fun _ _ _ _ _ _ us hl => match us, hl with | [_], _ => rfl
    exact b s [u] rfl⟩
end K09
namespace K09
open PySem PySem.Spec PyProof.Rows L2 BV
theorem mixed_ok (n : Nat) (a k : Int) (h0 : 0 ≤ k) (h1 : k ≤ 2000000) : ∃ r, 0 ≤ r ∧ r < 2147483629 ∧ (P.den (n + 1)).fn 19 [(0, .int a), (0, .int k)] = some ((0, .int r), [none, none]) := by
  rw [op_law_mixed]
  have hk : k % 3 = 0 ∨ k % 3 = 1 ∨ k % 3 = 2 := by omega
  rcases hk with e | e | e
  · refine ⟨(a % 2147483629 + 104729 * k + 17) ^ 3 % 2147483647 * (48271 + 2 * k) % 2147483629, by omega, by omega, ?_⟩
    simp (disch := first | omega | (simp; done) | (simp; omega)) [d_law_mixed_b, e, ixN, dispD]
  · refine ⟨(a % 2147483587 + 104729 * k + 17) ^ 3 % 2147483647 * (48271 + 2 * k) % 2147483629, by omega, by omega, ?_⟩
    simp (disch := first | omega | (simp; done) | (simp; omega)) [d_law_mixed_b, e, ixN, dispD]
  · refine ⟨(a % 2147483579 + 104729 * k + 17) ^ 3 % 2147483647 * (48271 + 2 * k) % 2147483629, by omega, by omega, ?_⟩
    simp (disch := first | omega | (simp; done) | (simp; omega)) [d_law_mixed_b, e, ixN, dispD]
theorem kn1 : (Str.ofString "left" = Str.ofString "own") = False := eq_false (by decide +kernel)
theorem kn2 : (Str.ofString "left" = Str.ofString "behind") = False := eq_false (by decide +kernel)
theorem kn3 : (Str.ofString "left" = Str.ofString "at") = False := eq_false (by decide +kernel)
theorem kn4 : (Str.ofString "own" = Str.ofString "behind") = False := eq_false (by decide +kernel)
theorem kn5 : (Str.ofString "own" = Str.ofString "at") = False := eq_false (by decide +kernel)
theorem kn6 : (Str.ofString "behind" = Str.ofString "at") = False := eq_false (by decide +kernel)
theorem kn7 : (Str.ofString "own" = Str.ofString "left") = False := eq_false (by decide +kernel)
theorem kn8 : (Str.ofString "behind" = Str.ofString "left") = False := eq_false (by decide +kernel)
theorem kn9 : (Str.ofString "at" = Str.ofString "left") = False := eq_false (by decide +kernel)
theorem kn10 : (Str.ofString "behind" = Str.ofString "own") = False := eq_false (by decide +kernel)
theorem kn11 : (Str.ofString "at" = Str.ofString "own") = False := eq_false (by decide +kernel)
theorem kn12 : (Str.ofString "at" = Str.ofString "behind") = False := eq_false (by decide +kernel)
def stV (l o b a : Int) : Val := .dic [(.inr "left", .int l), (.inr "own", .int o), (.inr "behind", .int b), (.inr "at", .int a)]
/-- the stream, its count not above c -/
def Stm (c : Int) (v : Val) : Prop := ∃ l o b a : Int, 0 ≤ a ∧ a ≤ c ∧ v = stV l o b a
theorem Stm.up {c c' : Int} {v : Val} (g : Stm c v) (h : c ≤ c') : Stm c' v := by
  obtain ⟨l, o, b, a, h0, h1, e⟩ := g
  exact ⟨l, o, b, a, h0, by omega, e⟩
theorem zline : (4 : Nat) < sizeLine := by rw [sizeLine_eq]; omega
@[simp] theorem gl1 {l o b a : Int} : getC (stV l o b a) (.str "left") = some (.int l) := by simp [stV]
@[simp] theorem gl2 {l o b a : Int} : getC (stV l o b a) (.str "own") = some (.int o) := by simp [stV, kn1]
@[simp] theorem gl3 {l o b a : Int} : getC (stV l o b a) (.str "behind") = some (.int b) := by simp [stV, kn2, kn4]
@[simp] theorem gl4 {l o b a : Int} : getC (stV l o b a) (.str "at") = some (.int a) := by simp [stV, kn3, kn5, kn6]
@[simp] theorem ss1 {l o b a x : Int} {d : Nat} : storeV d (stV l o b a) (.str "left") (0, .int x) = some (stV x o b a) := by simp [stV, putD, zline, kn7, kn8, kn9]
@[simp] theorem ss4 {l o b a x : Int} {d : Nat} : storeV d (stV l o b a) (.str "at") (0, .int x) = some (stV l o b x) := by simp [stV, putD, zline, kn3, kn5, kn6]
@[simp] theorem inn {l o b a : Int} : (stV l o b a).inner = true := by simp [stV, Val.inner]
@[simp] theorem nfl {l o b a : Int} : (stV l o b a).flat = false := rfl
theorem take_ok (n : Nat) {c m : Int} {v : Val} (g : Stm c v) (hc : c < 1000000) (h0 : 0 < m) (h1 : m < 1073741824) :
    ∃ r v', 0 ≤ r ∧ r < m ∧ Stm (c + 1) v' ∧ (P.den (n + 2)).fn 21 [(1, v), (0, .int m)] = some ((0, .int r), [some (1, v'), none]) := by
  obtain ⟨l, o, b, a, ha0, ha1, rfl⟩ := g
  rw [op_law_take]
  have hr : ∀ x : Int, 0 ≤ x % m ∧ x % m < m := fun x => ⟨Int.emod_nonneg _ (by omega), Int.emod_lt_of_pos _ h0⟩
  by_cases hl : 0 < l
  · exact ⟨_, stV (l / m) o b a, (hr l).1, (hr l).2, ⟨_, _, _, _, ha0, by omega, rfl⟩, by simp (disch := first | omega | (simp; done) | (simp; omega)) [d_law_take_b, hl]⟩
  · obtain ⟨z1, z10, z11, e1⟩ := mixed_ok n o (a + 1) (by omega) (by omega)
    obtain ⟨z2, z20, z21, e2⟩ := mixed_ok n b (a + 1 + 9001) (by omega) (by omega)
    exact ⟨_, stV l o b (a + 1), (hr ((z1 * 2147483579 + z2) / 11)).1, (hr _).2, ⟨_, _, _, _, by omega, by omega, rfl⟩, by simp (disch := first | omega | (simp; done) | (simp; omega)) [d_law_take_b, hl, callV, e1, e2]⟩
theorem of_ok (n : Nat) {c : Int} {v : Val} {xs : List Val} (g : Stm c v) (hc : c < 1000000) (h0 : 0 < xs.length) (h1 : xs.length < 1073741824) :
    ∃ u v', u ∈ xs ∧ Stm (c + 1) v' ∧ (P.den (n + 3)).fn 22 [(1, v), (0, .lst xs)] = some ((0, u), [some (1, v'), none]) := by
  rw [op_law_of]
  obtain ⟨r, v', r0, r1, g', e⟩ := take_ok n (m := xs.length) g hc (by omega) (by omega)
  obtain ⟨u, hu⟩ : ∃ u, xs[r.toNat]? = some u := ⟨xs[r.toNat]'(by omega), List.getElem?_eq_getElem (by omega)⟩
  refine ⟨u, v', List.mem_of_getElem? hu, g', ?_⟩
  simp [d_law_of_b, callV, e, ix_in r0 r1, hu]
end K09
namespace K09
open PySem PySem.Spec PyProof.Rows L2 BV
def numB (v : Val) (lo hi : Int) : Bool := match v with
  | .int i => decide (lo ≤ i) && decide (i ≤ hi)
  | _ => false
theorem whole_ok (n : Nat) (v : Val) (lo hi : Int) : (P.den (n + 1)).fn 0 [(0, v), (0, .int lo), (0, .int hi)] = some ((0, .bl (numB v lo hi)), [none, none, none]) := by
  rw [op_is_whole]
  cases v with
  | int i => by_cases h : lo ≤ i <;> simp [d_is_whole_b, numB, h]
  | _ => simp [d_is_whole_b, numB]
/-- a good area -/
structure Ar (s c r p : Int) : Prop where
  s0 : 0 ≤ s
  c0 : 1 ≤ c
  r0 : 1 ≤ r
  pc : c ≤ p
  p1 : r = 1 → p = c
  en : s + (r - 1) * p + c ≤ 1024
  sz : r * c ≤ 256
def arV (s c r p : Int) : Val := .tup [.int s, .int c, .int r, .int p]
theorem Ar.b {s c r p : Int} (h : Ar s c r p) : s ≤ 1023 ∧ c ≤ 256 ∧ r ≤ 256 ∧ p ≤ 1023 ∧ 0 ≤ (r - 1) * p := by
  have h1 := h.s0; have h2 := h.c0; have h3 := h.r0; have h4 := h.pc; have h6 := h.en; have h7 := h.sz
  have a1 : 0 ≤ (r - 1) * p := Int.mul_nonneg (by omega) (by omega)
  have a2 : c ≤ 256 := by
    have : 1 * c ≤ r * c := Int.mul_le_mul_of_nonneg_right h3 (by omega)
    omega
  have a3 : r ≤ 256 := by
    have : r * 1 ≤ r * c := Int.mul_le_mul_of_nonneg_left h2 (by omega)
    omega
  have a4 : p ≤ 1023 := by
    by_cases e : r = 1
    · rw [h.p1 e]; omega
    · have : 1 * p ≤ (r - 1) * p := Int.mul_le_mul_of_nonneg_right (by omega) (by omega)
      omega
  exact ⟨by omega, a2, a3, a4, a1⟩
theorem wrong_ok (n : Nat) {s c r p : Int} (h : Ar s c r p) : (P.den (n + 2)).fn 4 [(0, arV s c r p)] = some ((1, .lst []), [none]) := by
  rw [op_area_wrong]
  obtain ⟨b1, b2, b3, b4, b5⟩ := h.b
  have h1 := h.s0; have h2 := h.c0; have h3 := h.r0; have h4 := h.pc; have h6 := h.en; have h7 := h.sz
  have q1 : numB (.int s) 0 1023 = true := by simp [numB]; omega
  have q2 : numB (.int c) 1 256 = true := by simp [numB]; omega
  have q3 : numB (.int r) 1 256 = true := by simp [numB]; omega
  have q4 : numB (.int p) 1 1023 = true := by simp [numB]; omega
  have m1 : ¬ p < c := by omega
  have m3 : ¬ 1024 < s + (r - 1) * p + c := by omega
  have m4 : ¬ 256 < r * c := by omega
  by_cases e : r = 1
  · subst e
    have m2 := h.p1 rfl
    subst m2
    have m5 : ¬ 1024 < s + p := by omega
    have m6 : ¬ 256 < p := by omega
    simp (disch := first | omega | (simp; done) | (simp; omega)) [d_area_wrong_b, d_area_wrong_l0, arV, callV, whole_ok, BV.numbered, q_forL1, q1, q2, q3, q4, m1, m5, m6, dispD]
  · simp (disch := first | omega | (simp; done) | (simp; omega)) [d_area_wrong_b, d_area_wrong_l0, arV, callV, whole_ok, BV.numbered, q_forL1, q1, q2, q3, q4, m1, m3, m4, e, dispD]
/-- the cells, row by row -/
def rowsC (s c p : Int) : Nat → List Int
  | 0 => []
  | k + 1 => rowsC s c p k ++ iota (s + (k : Int) * p) c.toNat
def cellsI (s c r p : Int) : List Int := rowsC s c p r.toNat
theorem rows_flat (s c p : Int) : ∀ k : Nat, (iota 0 k).flatMap (fun row => iota (s + row * p) c.toNat) = rowsC s c p k
  | 0 => rfl
  | k + 1 => by
    have : iota 0 (k + 1) = iota 0 k ++ [(k : Int)] := by
      rw [iota_split 1 k 0]
      simp [iota]
    rw [this, List.flatMap_append, rows_flat s c p k]
    simp [rowsC]
theorem rows_len (s c p : Int) (h : 0 ≤ c) : ∀ k : Nat, (rowsC s c p k).length = k * c.toNat
  | 0 => by simp [rowsC]
  | k + 1 => by rw [rowsC, List.length_append, rows_len s c p h k, iota_len, Nat.succ_mul]
theorem cells_len {s c r p : Int} (h : Ar s c r p) : ((cellsI s c r p).length : Int) = r * c ∧ (cellsI s c r p).length ≤ 256 := by
  have h2 := h.c0; have h3 := h.r0; have h7 := h.sz
  have e : ((cellsI s c r p).length : Int) = r * c := by
    unfold cellsI
    rw [rows_len s c p (by omega), Int.natCast_mul, Int.toNat_of_nonneg (by omega), Int.toNat_of_nonneg (by omega)]
  exact ⟨e, by omega⟩
end K09
namespace K09
open PySem PySem.Spec PyProof.Rows L2 BV
variable {s c r p s' c' r' p' : Int}
theorem osize_ok (n : Nat) (h : Ar s c r p) : (P.den (n + 1)).fn 5 [(0, arV s c r p)] = some ((0, .int (c * r)), [none]) := by
  rw [op_own_size]
  obtain ⟨b1, b2, b3, b4, b5⟩ := h.b
  have h2 := h.c0; have h3 := h.r0
  simp (disch := first | omega | (simp; done) | (simp; omega)) [d_own_size_b, arV]
def sharesB (l m : List Int) : Bool := m.any fun i => decide (i ∈ l)
def pairI (q : Int × Int) : Val := .tup [.int q.1, .int q.2]
def strI (s c r p : Int) : List (Int × Int) := if p = c then [(s, c * r)] else (iota 0 r.toNat).map fun k => (s + k * p, c)
theorem plain_ar (h : Ar s c 1 c) : arV s c 1 c = .tup [.int s, .int c, .int 1, .int c] := rfl
end K09
namespace K09
open PySem PySem.Spec PyProof.Rows L2 BV
variable {s c r p s' c' r' p' : Int}
theorem rows_mem {x : Int} (hc : 0 ≤ c) : ∀ {k : Nat}, x ∈ rowsC s c p k ↔ ∃ i : Nat, i < k ∧ s + i * p ≤ x ∧ x < s + i * p + c
  | 0 => ⟨fun h => (by cases h), fun ⟨i, h, _⟩ => (by omega)⟩
  | k + 1 => by
    rw [rowsC, List.mem_append, rows_mem hc, mem_iota, Int.toNat_of_nonneg hc]
    constructor
    · rintro (⟨i, h1, h2⟩ | h)
      · exact ⟨i, by omega, h2⟩
      · exact ⟨k, by omega, h⟩
    · rintro ⟨i, h1, h2⟩
      by_cases e : i = k
      · subst e; exact .inr h2
      · exact .inl ⟨i, by omega, h2⟩
theorem cells_mem {x : Int} (h : Ar s c r p) : x ∈ cellsI s c r p ↔ ∃ i : Int, 0 ≤ i ∧ i < r ∧ s + i * p ≤ x ∧ x < s + i * p + c := by
  have h2 := h.c0; have h3 := h.r0
  unfold cellsI
  rw [rows_mem (by omega)]
  constructor
  · rintro ⟨i, a, b⟩
    exact ⟨i, by omega, by omega, b⟩
  · rintro ⟨i, a, b, e⟩
    refine ⟨i.toNat, by omega, ?_⟩
    rw [Int.toNat_of_nonneg a]
    exact e
theorem row_le (h : Ar s c r p) {i : Int} (a : 0 ≤ i) (b : i < r) : 0 ≤ i * p ∧ s + i * p + c ≤ 1024 := by
  have h2 := h.c0; have h4 := h.pc; have h6 := h.en
  have q : i * p ≤ (r - 1) * p := Int.mul_le_mul_of_nonneg_right (by omega) (by omega)
  exact ⟨Int.mul_nonneg a (by omega), by omega⟩
theorem cells_in {x : Int} (h : Ar s c r p) (hx : x ∈ cellsI s c r p) : 0 ≤ x ∧ x < 1024 := by
  obtain ⟨i, a, b, e1, e2⟩ := (cells_mem h).mp hx
  have := row_le h a b
  have := h.s0
  omega
theorem first_in (h : Ar s c r p) : s ∈ cellsI s c r p := (cells_mem h).mpr ⟨0, by omega, by have := h.r0; omega, by simp, by have := h.c0; simp; omega⟩
theorem sz_ints {l : List Int} {d : Nat} (h : ∀ x ∈ l, x.natAbs < 2 ^ 40) : Szs (l.map .int) (45 * l.length) d := by
  have := szs_all (xs := l.map .int) (m := 43) (d := d) fun x hx => by
    obtain ⟨i, hi, rfl⟩ := List.mem_map.mp hx
    exact sz_int (h i hi)
  rw [List.length_map] at this
  exact this
theorem sz_cells (h : Ar s c r p) {d : Nat} : Sz (.tup ((cellsI s c r p).map .int)) 11524 (d + 1) := by
  have := (cells_len h).2
  exact (sz_ints fun x hx => by have := cells_in h hx; omega).tup.mono (by omega) (Nat.le_refl _)
theorem str_in (h : Ar s c r p) {q : Int × Int} (hq : q ∈ strI s c r p) : 0 ≤ q.1 ∧ q.1 < 1024 ∧ 0 ≤ q.2 ∧ q.2 ≤ 256 := by
  have h1 := h.s0; have h2 := h.c0; have h3 := h.r0; have h6 := h.en; have h7 := h.sz
  obtain ⟨b1, b2, b3, b4, b5⟩ := h.b
  unfold strI at hq
  split at hq
  · have : q = (s, c * r) := by simpa using hq
    subst this
    have e : c * r = r * c := Int.mul_comm _ _
    have e0 : 0 ≤ c * r := Int.mul_nonneg (by omega) (by omega)
    exact ⟨h1, by show s < 1024; omega, e0, by show c * r ≤ 256; omega⟩
  · obtain ⟨k, hk, rfl⟩ := List.mem_map.mp hq
    rw [mem_iota] at hk
    have := row_le h (i := k) (by omega) (by omega)
    exact ⟨by show 0 ≤ s + k * p; omega, by show s + k * p < 1024; omega, by show 0 ≤ c; omega, by show c ≤ 256; omega⟩
theorem sz_pairs {l : List (Int × Int)} {d : Nat} (h : ∀ q ∈ l, q.1.natAbs < 2 ^ 40 ∧ q.2.natAbs < 2 ^ 40) : Sz (.tup (l.map pairI)) (96 * l.length + 4) (d + 2) := by
  have := szs_all (xs := l.map pairI) (m := 94) (d := d + 1) fun x hx => by
    obtain ⟨q, hq, rfl⟩ := List.mem_map.mp hx
    exact ((szs_cons (sz_int (h q hq).1) (szs_cons (sz_int (h q hq).2) szs_nil)).tup).mono (by omega) (Nat.le_refl _)
  rw [List.length_map] at this
  exact this.tup
theorem str_len (h : Ar s c r p) : (strI s c r p).length ≤ 256 := by
  obtain ⟨b1, b2, b3, b4, b5⟩ := h.b
  unfold strI
  split
  · simp
  · rw [List.length_map, iota_len]; omega
theorem sz_str' (h : Ar s c r p) {d : Nat} : Sz (.tup ((strI s c r p).map pairI)) 24580 (d + 2) := by
  have := str_len h
  exact (sz_pairs fun q hq => by have := str_in h hq; omega).mono (by omega) (Nat.le_refl _)
end K09
namespace K09
open PySem PySem.Spec PyProof.Rows L2 BV
abbrev A4 := Int × Int × Int × Int
def v4 (q : A4) : Val := arV q.1 q.2.1 q.2.2.1 q.2.2.2
def Ok4 (q : A4) : Prop := Ar q.1 q.2.1 q.2.2.1 q.2.2.2
def c4 (q : A4) : List Int := cellsI q.1 q.2.1 q.2.2.1 q.2.2.2
def z4 (q : A4) : Int := q.2.1 * q.2.2.1
theorem c4_len {q : A4} (h : Ok4 q) : ((c4 q).length : Int) = z4 q ∧ (c4 q).length ≤ 256 := by
  obtain ⟨a, b⟩ := cells_len h
  exact ⟨by unfold c4 z4; rw [a, Int.mul_comm], b⟩
theorem c4_in {q : A4} (h : Ok4 q) {x : Int} (hx : x ∈ c4 q) : 0 ≤ x ∧ x < 1024 := cells_in h hx
theorem z4_b {q : A4} (h : Ok4 q) : 1 ≤ z4 q ∧ z4 q ≤ 256 := by
  have h2 := h.c0; have h3 := h.r0; have h7 := h.sz
  have : 1 * 1 ≤ q.2.1 * q.2.2.1 := Int.mul_le_mul h2 h3 (by omega) (by omega)
  have e : q.2.1 * q.2.2.1 = q.2.2.1 * q.2.1 := Int.mul_comm _ _
  unfold z4
  omega
/-- the steps -/
inductive Stp where
  | copy (a b : A4) (k : Int)
  | fill (a : A4) (b k : Int)
  | add (a : A4) (c : Int)
  | note (f : Int)
  | wait (f m : Int)
  | fence
def Stp.v : Stp → Val
  | .copy a b k => .tup [.str "copy", v4 a, v4 b, .int k]
  | .fill a b k => .tup [.str "fill", v4 a, .int b, .int k]
  | .add a c => .tup [.str "add", v4 a, .int c]
  | .note f => .tup [.str "note", .int f]
  | .wait f m => .tup [.str "wait", .int f, .int m]
  | .fence => .tup [.str "fence"]
def Stp.Ok : Stp → Prop
  | .copy a b k => Ok4 a ∧ Ok4 b ∧ z4 a = z4 b ∧ 0 ≤ k ∧ k < z4 a
  | .fill a b k => Ok4 a ∧ 0 ≤ b ∧ b < 256 ∧ 0 ≤ k ∧ k < z4 a
  | .add a c => Ok4 a ∧ 0 ≤ c ∧ c < 1024
  | .note f => 0 ≤ f ∧ f < 8
  | .wait f m => 0 ≤ f ∧ f < 8 ∧ 1 ≤ m ∧ m ≤ 99
  | .fence => True
/-- what the parts touch -/
def Stp.tch : Stp → List (List (Str × Int))
  | .copy a b k => (((c4 a).zip (c4 b)).drop k.toNat).map fun q => [("r", q.1), ("w", q.2)]
  | .fill a _ k => ((c4 a).drop k.toNat).map fun x => [("w", x)]
  | .add a c => ((c4 a).map fun x => [(("r" : Str), x)]) ++ [[(("w" : Str), c)]]
  | _ => [[]]
def tV (q : Str × Int) : Val := .tup [.str q.1, .int q.2]
def tsV (l : List (Str × Int)) : Val := .tup (l.map tV)
theorem tch_in {s : Stp} (h : s.Ok) {t : List (Str × Int)} (ht : t ∈ s.tch) {q : Str × Int} (hq : q ∈ t) : (q.1 = "r" ∨ q.1 = "w") ∧ 0 ≤ q.2 ∧ q.2 < 1024 := by
  cases s with
  | copy a b k =>
    obtain ⟨z, hz, rfl⟩ := List.mem_map.mp ht
    have hz := List.mem_of_mem_drop hz
    have h1 := List.of_mem_zip (a := z.1) (b := z.2) hz
    simp only [List.mem_cons, List.mem_nil_iff, or_false] at hq
    rcases hq with rfl | rfl
    · exact ⟨.inl rfl, c4_in h.1 h1.1⟩
    · exact ⟨.inr rfl, c4_in h.2.1 h1.2⟩
  | fill a b k =>
    obtain ⟨z, hz, rfl⟩ := List.mem_map.mp ht
    have hz := List.mem_of_mem_drop hz
    simp only [List.mem_cons, List.mem_nil_iff, or_false] at hq
    subst hq
    exact ⟨.inr rfl, c4_in h.1 hz⟩
  | add a c =>
    rcases List.mem_append.mp ht with ht | ht
    · obtain ⟨z, hz, rfl⟩ := List.mem_map.mp ht
      simp only [List.mem_cons, List.mem_nil_iff, or_false] at hq
      subst hq
      exact ⟨.inl rfl, c4_in h.1 hz⟩
    · simp only [List.mem_cons, List.mem_nil_iff, or_false] at ht
      subst ht
      simp only [List.mem_cons, List.mem_nil_iff, or_false] at hq
      subst hq
      exact ⟨.inr rfl, h.2⟩
  | _ =>
    have : t = [] := by simpa [Stp.tch] using ht
    subst this
    cases hq
theorem tch_len {s : Stp} (h : s.Ok) : s.tch.length ≤ 257 := by
  cases s with
  | copy a b k =>
    have := (c4_len h.1).2
    simp only [Stp.tch, List.length_map, List.length_drop, List.length_zip]
    omega
  | fill a b k =>
    have := (c4_len h.1).2
    simp only [Stp.tch, List.length_map, List.length_drop]
    omega
  | add a c =>
    have := (c4_len h.1).2
    simp only [Stp.tch, List.length_append, List.length_map, List.length_cons, List.length_nil]
    omega
  | _ => simp [Stp.tch]
theorem size4 (n : Nat) {q : A4} (h : Ok4 q) : (P.den (n + 1)).fn 5 [(0, v4 q)] = some ((0, .int (z4 q)), [none]) := osize_ok n h
theorem wrong4 (n : Nat) {q : A4} (h : Ok4 q) : (P.den (n + 2)).fn 4 [(0, v4 q)] = some ((1, .lst []), [none]) := wrong_ok n h
theorem drop_fits {l : List Val} {k : Nat} (h : l.length ≤ 300) : fitsLine (l.length - k) = true := q_fits (by omega)
end K09
namespace K09
open PySem PySem.Spec PyProof.Rows L2 BV
theorem byte_ok (n : Nat) {i : Int} (h0 : 0 ≤ i) (h1 : i < 256) : (P.den (n + 2)).fn 1 [(0, .int i)] = some ((0, .bl true), [none]) := by
  rw [op_is_byte]
  have q : numB (.int i) 0 255 = true := by simp [numB]; omega
  simp [d_is_byte_b, callV, whole_ok, q]
theorem flag_ok (n : Nat) {i : Int} (h0 : 0 ≤ i) (h1 : i < 8) : (P.den (n + 2)).fn 2 [(0, .int i)] = some ((0, .bl true), [none]) := by
  rw [op_is_flag]
  have q : numB (.int i) 0 7 = true := by simp [numB]; omega
  simp [d_is_flag_b, callV, whole_ok, q]
/-- the things of a kind -/
def KOk : String → Val → Prop
  | "A", v => ∃ q : A4, Ok4 q ∧ v = v4 q
  | "B", v => ∃ i : Int, 0 ≤ i ∧ i < 256 ∧ v = .int i
  | "C", v => ∃ i : Int, 0 ≤ i ∧ i < 1024 ∧ v = .int i
  | "F", v => ∃ i : Int, 0 ≤ i ∧ i < 8 ∧ v = .int i
  | "N", v => ∃ i : Int, 1 ≤ i ∧ i ≤ 99 ∧ v = .int i
  | _, _ => True
theorem thing_A (n : Nat) {q : A4} (h : Ok4 q) : (P.den (n + 3)).fn 6 [(0, v4 q), (0, .str "A")] = some ((0, .bl true), [none, none]) := by
  rw [op_is_thing]
  simp [d_is_thing_b, callV, wrong4 n h]
theorem thing_B (n : Nat) {i : Int} (h0 : 0 ≤ i) (h1 : i < 256) : (P.den (n + 3)).fn 6 [(0, .int i), (0, .str "B")] = some ((0, .bl true), [none, none]) := by
  rw [op_is_thing]
  simp [d_is_thing_b, callV, byte_ok n h0 h1]
theorem thing_C (n : Nat) {i : Int} (h0 : 0 ≤ i) (h1 : i < 1024) : (P.den (n + 3)).fn 6 [(0, .int i), (0, .str "C")] = some ((0, .bl true), [none, none]) := by
  rw [op_is_thing]
  have q : numB (.int i) 0 1023 = true := by simp [numB]; omega
  simp [d_is_thing_b, callV, whole_ok, q]
theorem thing_F (n : Nat) {i : Int} (h0 : 0 ≤ i) (h1 : i < 8) : (P.den (n + 3)).fn 6 [(0, .int i), (0, .str "F")] = some ((0, .bl true), [none, none]) := by
  rw [op_is_thing]
  simp [d_is_thing_b, callV, flag_ok n h0 h1]
theorem thing_N (n : Nat) {i : Int} (h0 : 1 ≤ i) (h1 : i ≤ 99) : (P.den (n + 3)).fn 6 [(0, .int i), (0, .str "N")] = some ((0, .bl true), [none, none]) := by
  rw [op_is_thing]
  have q : numB (.int i) 1 99 = true := by simp [numB]; omega
  simp [d_is_thing_b, callV, whole_ok, q]
theorem thing_S (n : Nat) (v : Val) : (P.den (n + 3)).fn 6 [(0, v), (0, .str "S")] = some ((0, .bl true), [none, none]) := by
  rw [op_is_thing]
  simp [d_is_thing_b, callV]
/-- the forms -/
def formS : Stp → Str
  | .copy _ _ _ => "AAS"
  | .fill _ _ _ => "ABS"
  | .add _ _ => "AC"
  | .note _ => "F"
  | .wait _ _ => "FN"
  | .fence => ""
def forms : List (Key × Val) := [(.inr "copy", .str "AAS"), (.inr "fill", .str "ABS"), (.inr "add", .str "AC"), (.inr "note", .str "F"), (.inr "wait", .str "FN"), (.inr "fence", .str "")]
theorem so1 : PyData.strOk (Str.ofString "copy") = true := by decide +kernel
theorem so2 : PyData.strOk (Str.ofString "fill") = true := by decide +kernel
theorem so3 : PyData.strOk (Str.ofString "add") = true := by decide +kernel
theorem so4 : PyData.strOk (Str.ofString "note") = true := by decide +kernel
theorem so5 : PyData.strOk (Str.ofString "wait") = true := by decide +kernel
theorem so6 : PyData.strOk (Str.ofString "fence") = true := by decide +kernel
theorem sl1 : (Str.ofString "AAS").length = 3 := by decide +kernel
theorem sl2 : (Str.ofString "ABS").length = 3 := by decide +kernel
theorem sl3 : (Str.ofString "AC").length = 2 := by decide +kernel
theorem sl4 : (Str.ofString "F").length = 1 := by decide +kernel
theorem sl5 : (Str.ofString "FN").length = 2 := by decide +kernel
theorem sl6 : (Str.ofString "").length = 0 := by decide +kernel
theorem st_nb (s : Stp) : s.v.nb = true := by cases s <;> simp [Stp.v, v4, arV, Val.nb, nbs, so1, so2, so3, so4, so5, so6]
theorem st_depth (s : Stp) : s.v.toD.depth ≤ 2 := by cases s <;> simp [Stp.v, v4, arV, Val.toD, toDs, PyData.depth, PyData.depthAll]
theorem st_ne (s : Stp) : eqS s.v (.tup []) = some false := eqS_nb (st_nb s) rfl (by have := st_depth s; omega) (by simp [Val.toD, toDs, PyData.depth, PyData.depthAll]) (by cases s <;> simp [Stp.v])
theorem form_ok (n : Nat) (s : Stp) : (P.den (n + 1)).fn 7 [(0, s.v), (0, .dic forms)] = some ((1, .lst [.str (formS s)]), [none, none]) := by
  rw [op_form_of]
  have z := st_ne s
  cases s <;> (simp only [Stp.v] at z; simp [d_form_of_b, Stp.v, formS, forms, z, dispD, sl1, sl2, sl3, sl4, sl5, sl6])
end K09
namespace K09
open PySem PySem.Spec PyProof.Rows L2 BV
theorem flatMap_nil {α β : Type} (l : List α) : (l.flatMap fun _ => ([] : List β)) = [] := by
  induction l with
  | nil => rfl
  | cons a l ih => simp
theorem compL_nils {f : Val → Slots → Option (List Val × Slots)} {S : Slots} {xs : List Val} (h : ∀ v ∈ xs, f v S = some ([], S)) : compL f xs S = some ([], S) := by
  rw [compL_flat (g := fun _ => []) h, flatMap_nil]
theorem sg1 : BV.numbered 0 (BV.signs "AAS") = [.tup [.int 0, .str "A"], .tup [.int 1, .str "A"], .tup [.int 2, .str "S"]] := by kernel_rfl
theorem sg2 : BV.numbered 0 (BV.signs "ABS") = [.tup [.int 0, .str "A"], .tup [.int 1, .str "B"], .tup [.int 2, .str "S"]] := by kernel_rfl
theorem sg3 : BV.numbered 0 (BV.signs "AC") = [.tup [.int 0, .str "A"], .tup [.int 1, .str "C"]] := by kernel_rfl
theorem sg4 : BV.numbered 0 (BV.signs "F") = [.tup [.int 0, .str "F"]] := by kernel_rfl
theorem sg5 : BV.numbered 0 (BV.signs "FN") = [.tup [.int 0, .str "F"], .tup [.int 1, .str "N"]] := by kernel_rfl
theorem sg6 : BV.numbered 0 (BV.signs "") = [] := by kernel_rfl
theorem things_c (n : Nat) {s : Stp} (h : s.Ok) : ev (P.den (n + 3)) d_things_wrong_c0 [some (0, s.v), some (0, .str (formS s)), none, none] = some ((.own 1, .lst []), [some (0, s.v), some (0, .str (formS s)), none, none]) := by
  cases s with
  | copy a b k =>
    have e1 := thing_A n h.1
    have e2 := thing_A n h.2.1
    have e3 := thing_S n (.int k)
    simp [d_things_wrong_c0, formS, sg1]
    rw [compL_nils]
    · simp
    · intro v hv
      simp only [List.mem_cons, List.mem_nil_iff, or_false] at hv
      rcases hv with rfl | rfl | rfl <;> simp [Stp.v, callV, e1, e2, e3]
  | fill a b k =>
    have e1 := thing_A n h.1
    have e2 := thing_B n h.2.1 h.2.2.1
    have e3 := thing_S n (.int k)
    simp [d_things_wrong_c0, formS, sg2]
    rw [compL_nils]
    · simp
    · intro v hv
      simp only [List.mem_cons, List.mem_nil_iff, or_false] at hv
      rcases hv with rfl | rfl | rfl <;> simp [Stp.v, callV, e1, e2, e3]
  | add a c =>
    have e1 := thing_A n h.1
    have e2 := thing_C n h.2.1 h.2.2
    simp [d_things_wrong_c0, formS, sg3]
    rw [compL_nils]
    · simp
    · intro v hv
      simp only [List.mem_cons, List.mem_nil_iff, or_false] at hv
      rcases hv with rfl | rfl <;> simp [Stp.v, callV, e1, e2]
  | note f =>
    have e1 := thing_F n h.1 h.2
    simp [d_things_wrong_c0, formS, sg4]
    rw [compL_nils]
    · simp
    · intro v hv
      simp only [List.mem_cons, List.mem_nil_iff, or_false] at hv
      subst hv
      simp [Stp.v, callV, e1]
  | wait f m =>
    have e1 := thing_F n h.1 h.2.1
    have e2 := thing_N n h.2.2.1 h.2.2.2
    simp [d_things_wrong_c0, formS, sg5]
    rw [compL_nils]
    · simp
    · intro v hv
      simp only [List.mem_cons, List.mem_nil_iff, or_false] at hv
      rcases hv with rfl | rfl <;> simp [Stp.v, callV, e1, e2]
  | fence => simp [d_things_wrong_c0, formS, sg6]
theorem cut_nil1 : cutL [] none (some 1) = [] := by rw [cut_pre (by omega)]; rfl
theorem things_ok (n : Nat) {s : Stp} (h : s.Ok) : (P.den (n + 4)).fn 8 [(0, s.v), (0, .str (formS s))] = some ((1, .lst []), [none, none]) := by
  rw [op_things_wrong]
  simp [d_things_wrong_b, things_c n h, cut_nil1]
def dW : Stp → Nat
  | .copy _ _ _ => 1
  | .fill _ _ _ => 1
  | _ => 0
theorem stepw_ok (n : Nat) {s : Stp} (h : s.Ok) : (P.den (n + 5)).fn 9 [(0, s.v)] = some ((dW s, .lst []), [none]) := by
  rw [op_step_wrong]
  have e1 := form_ok (n + 3) s
  have e2 := things_ok n h
  have ef : (forms.map fun q => (q.1, q.2)) = forms := by simp
  unfold forms at e1
  cases s with
  | copy a b k =>
    have q : numB (.int k) 0 (z4 a - 1) = true := by have := h.2.2.2; simp [numB]; omega
    have q2 := h.2.2.1
    rw [q2] at q
    have z1 := size4 (n + 3) h.1
    have z2 := size4 (n + 3) h.2.1
    simp only [Stp.v] at e1 e2
    simp [d_step_wrong_b, d_step_wrong_l0, q_forL1, Stp.v, callV, e1, e2, z1, z2, whole_ok, q, q2, dispD, dW]
  | fill a b k =>
    have q : numB (.int k) 0 (z4 a - 1) = true := by have := h.2.2.2; simp [numB]; omega
    have z1 := size4 (n + 3) h.1
    simp only [Stp.v] at e1 e2
    simp [d_step_wrong_b, d_step_wrong_l0, q_forL1, Stp.v, callV, e1, e2, z1, whole_ok, q, dispD, dW]
  | _ =>
    simp only [Stp.v] at e1 e2
    simp [d_step_wrong_b, d_step_wrong_l0, q_forL1, Stp.v, callV, e1, e2, dispD, dW]
theorem listw_c (n : Nat) {l : List Stp} (h : ∀ s ∈ l, s.Ok) : ev (P.den (n + 5)) d_list_wrong_c0 [some (0, .tup (l.map Stp.v)), none, none] = some ((.own 1, .lst []), [some (0, .tup (l.map Stp.v)), none, none]) := by
  simp [d_list_wrong_c0]
  rw [compL_nils]
  · simp
  · intro v hv
    rw [numbered_map] at hv
    obtain ⟨⟨s, i⟩, hs, rfl⟩ := List.mem_map.mp hv
    have hm : s ∈ l := (List.mem_zipIdx hs).2.2 ▸ List.getElem_mem _
    simp [callV, stepw_ok n (h s hm)]
theorem listw_ok (n : Nat) {l : List Stp} (h : ∀ s ∈ l, s.Ok) (h0 : 1 ≤ l.length) (h1 : l.length ≤ 64) : (P.den (n + 6)).fn 11 [(0, .tup (l.map Stp.v))] = some ((1, .lst []), [none]) := by
  rw [op_list_wrong]
  have q0 : (1 : Int) ≤ l.length := by omega
  have q1 : (l.length : Int) ≤ 64 := by omega
  simp [d_list_wrong_b, listw_c n h, q0, q1, cut_nil1]
end K09
namespace K09
open PySem PySem.Spec PyProof.Rows L2 BV
@[simp] theorem all_flat (l : List Int) : l.all (Val.flat ∘ Val.int) = true := List.all_eq_true.mpr fun _ _ => rfl
@[simp] theorem den_fuel {n : Nat} : (P.den n).fuel = wFuel := by cases n <;> rfl
theorem whl_inv {c : Slots → Option (Bool × Slots)} {b : Slots → Option Out} {fin : Slots} : ∀ (N : Nat) (f : Nat → Slots) (fuel : Nat), N < fuel → (∀ i, i < N → ∃ S', c (f i) = some (true, S') ∧ b S' = some (.nx (f (i + 1)))) → c (f N) = some (false, fin) → whlL c b fuel (f 0) = some (.nx fin)
  | 0, f, fuel + 1, _, _, e => by
    show (c (f 0)).bind _ = _
    rw [e]
    rfl
  | N + 1, f, fuel + 1, hf, h, e => by
    obtain ⟨S', e1, e2⟩ := h 0 (by omega)
    show (c (f 0)).bind _ = _
    rw [e1]
    show (match b S' with
      | some (.nx S1) => whlL c b fuel S1
      | some (.ct S1) => whlL c b fuel S1
      | some (.bk S1) => some (.nx S1)
      | some (.rt r S1) => some (.rt r S1)
      | none => none) = _
    rw [e2]
    exact whl_inv N (fun i => f (i + 1)) fuel (by omega) (fun i hi => h (i + 1) (by omega)) e
variable {s c r p : Int}
theorem acells_ok (n : Nat) (h : Ar s c r p) : (P.den (n + 1)).fn 12 [(0, arV s c r p)] = some ((1, .lst ((cellsI s c r p).map .int)), [none]) := by
  rw [op_area_cells]
  obtain ⟨b1, b2, b3, b4, b5⟩ := h.b
  have h1 := h.s0; have h2 := h.c0; have h3 := h.r0; have h4 := h.pc
  have i1 : inRange r = true := decide_eq_true (by omega)
  have i2 : inRange c = true := decide_eq_true (by omega)
  have hl := (cells_len h).2
  simp (disch := first | omega | (simp; done) | (simp; omega)) [d_area_cells_b, d_area_cells_c0, arV, i1, ints_iota]
  rw [compL_of (g := fun row => (iota (s + row * p) c.toNat).map .int)]
  · have e : (iota 0 r.toNat).flatMap (fun row => (iota (s + row * p) c.toNat).map Val.int) = (cellsI s c r p).map .int := by
      unfold cellsI
      rw [← rows_flat, List.map_flatMap]
    have hl2 : ((iota 0 r.toNat).flatMap fun row => (iota (s + row * p) c.toNat).map Val.int).length ≤ 100000 := by
      rw [e, List.length_map]; omega
    simp only [Option.bind_some, q_fits hl2]
    simp [e]
  · intro row hr
    rw [mem_iota] at hr
    have f1 : -18446744073709551616 < p ∧ p < 18446744073709551616 := by omega
    simp (disch := first | omega | (simp; done) | (simp; omega)) [i2, f1, ints_iota]
    rw [compL_of1 (g := fun x => .int (s + row * p + x))]
    · have e : (iota 0 c.toNat).map (fun x => Val.int (s + row * p + x)) = (iota (s + row * p) c.toNat).map .int := by
        have := congrArg (List.map Val.int) (iota_map (s + row * p) c.toNat 0)
        rw [List.map_map, Int.add_zero] at this
        exact this
      rw [e]
      exact ⟨_, _, rfl, rfl, rfl⟩
    · intro x hx
      have : p * row = row * p := Int.mul_comm _ _
      simp (disch := first | omega | (simp; done) | (simp; omega)) [f1, this]
theorem wf_big : 300 < wFuel := by decide
theorem lcells_ok (n : Nat) (h : Ar s c r p) : (P.den (n + 1)).fn 28 [(0, arV s c r p)] = some ((1, .lst ((cellsI s c r p).map .int)), [none]) := by
  rw [op_law_cells]
  obtain ⟨b1, b2, b3, b4, b5⟩ := h.b
  have h1 := h.s0; have h2 := h.c0; have h3 := h.r0; have h4 := h.pc; have h7 := h.sz
  simp (disch := first | omega | (simp; done) | (simp; omega)) [d_law_cells_b, arV, ixN, dispD]
  have W : ∀ {cc : Slots → Option (Bool × Slots)} {bb : Slots → Option Out}, (∀ i : Nat, i < r.toNat → ∃ S', cc [some (0, .tup [.int s, .int c, .int r, .int p]), some (1, .lst ((rowsC s c p i).map .int)), some (0, .int (s + i * p))] = some (true, S') ∧ bb S' = some (.nx [some (0, .tup [.int s, .int c, .int r, .int p]), some (1, .lst ((rowsC s c p (i + 1)).map .int)), some (0, .int (s + (i + 1 : Nat) * p))])) →
      cc [some (0, .tup [.int s, .int c, .int r, .int p]), some (1, .lst ((rowsC s c p r.toNat).map .int)), some (0, .int (s + r.toNat * p))] = some (false, [some (0, .tup [.int s, .int c, .int r, .int p]), some (1, .lst ((rowsC s c p r.toNat).map .int)), some (0, .int (s + r.toNat * p))]) →
      whlL cc bb wFuel [some (0, .tup [.int s, .int c, .int r, .int p]), some (1, .lst []), some (0, .int s)] = some (.nx [some (0, .tup [.int s, .int c, .int r, .int p]), some (1, .lst ((rowsC s c p r.toNat).map .int)), some (0, .int (s + r.toNat * p))]) := fun a b => by
    have := whl_inv r.toNat (fun i : Nat => [some (0, .tup [.int s, .int c, .int r, .int p]), some (1, .lst ((rowsC s c p i).map .int)), some (0, .int (s + i * p))]) wFuel (Nat.lt_of_le_of_lt (by omega) wf_big) a b
    simpa [rowsC] using this
  have f1 : -18446744073709551616 < r ∧ r < 18446744073709551616 := by omega
  have cr : c * r = r * c := Int.mul_comm _ _
  rw [W]
  · simp [cellsI]
  · intro i hi
    have li := rows_len s c p (by omega) i
    have lt : (i : Int) * c + c ≤ r * c := by
      have : ((i : Int) + 1) * c ≤ r * c := Int.mul_le_mul_of_nonneg_right (by omega) (by omega)
      rw [Int.add_mul] at this
      omega
    have li2 : ((rowsC s c p i).length : Int) = i * c := by rw [li, Int.natCast_mul, Int.toNat_of_nonneg (by omega)]
    have hlt : ((rowsC s c p i).length : Int) < c * r := by omega
    have hp : 0 ≤ (i : Int) * p := Int.mul_nonneg (by omega) (by omega)
    have hp2 : (i : Int) * p ≤ (r - 1) * p := Int.mul_le_mul_of_nonneg_right (by omega) (by omega)
    have h6 := h.en
    have rg : rngOk (s + i * p) (s + i * p + c) = true := by
      unfold rngOk inRange
      simp only [Bool.and_eq_true, decide_eq_true_eq]
      refine ⟨⟨⟨by omega, by omega⟩, by omega, by omega⟩, by omega⟩
    have ec : s + i * p + c - (s + i * p) = c := by omega
    have fl : decide ((rowsC s c p i).length + c.toNat ≤ sizeLine) = true := decide_eq_true (by rw [sizeLine_eq]; omega)
    refine ⟨[some (0, .tup [.int s, .int c, .int r, .int p]), some (1, .lst ((rowsC s c p i).map .int)), some (0, .int (s + i * p))], ?_, ?_⟩
    · simp (disch := first | omega | (simp; done) | (simp; omega)) [ixN, hlt]
    · have e1 : s + (i : Int) * p + p = s + ((i : Int) + 1) * p := by rw [Int.add_mul]; omega
      simp (disch := first | omega | (simp; done) | (simp; omega)) [d_law_cells_l0, ixN, rg, ec, ints_iota, okL, fl, rowsC, e1]
  · have li := cells_len h
    have e : ¬ (((rowsC s c p r.toNat).length : Int) < c * r) := by
      have := li.1
      unfold cellsI at this
      omega
    simp (disch := first | omega | (simp; done) | (simp; omega)) [ixN, e]
theorem acells4 (n : Nat) {q : A4} (h : Ok4 q) : (P.den (n + 1)).fn 12 [(0, v4 q)] = some ((1, .lst ((c4 q).map .int)), [none]) := acells_ok n h
theorem lcells4 (n : Nat) {q : A4} (h : Ok4 q) : (P.den (n + 1)).fn 28 [(0, v4 q)] = some ((1, .lst ((c4 q).map .int)), [none]) := lcells_ok n h
end K09
namespace K09
open PySem PySem.Spec PyProof.Rows L2 BV
theorem enum_find {v : Val} : ∀ {xs : List Val} {i p : Nat}, xs[p]? = some v → (enumD i xs).find? (fun z => decide (z.1 = .inl ((i + p : Nat) : Int))) = some (.inl ((i + p : Nat) : Int), v)
  | [], _, _, h => by simp at h
  | x :: xs, i, 0, h => by
    simp at h
    simp [enumD, h]
  | x :: xs, i, p + 1, h => by
    have ih := enum_find (xs := xs) (i := i + 1) (p := p) (by simpa using h)
    have e : i + 1 + p = i + (p + 1) := by omega
    rw [e] at ih
    have ne : ¬ ((i : Int) = ((i + (p + 1) : Nat) : Int)) := by omega
    unfold enumD
    rw [List.find?_cons_of_neg (by simp; omega)]
    exact ih
theorem enum_any {xs : List Val} {i p : Nat} (h : p < xs.length) : ((enumD i xs).any fun z => decide (z.1 = .inl ((i + p : Nat) : Int))) = true := by
  have e := enum_find (i := i) (List.getElem?_eq_getElem h)
  have := List.mem_of_find?_eq_some e
  rw [List.any_eq_true]
  exact ⟨_, this, by simp⟩
theorem enum_map {v : Val} : ∀ {xs : List Val} {i p : Nat}, (enumD i xs).map (fun q => bif decide (q.1 = (.inl ((i + p : Nat) : Int) : Key)) then (q.1, v) else q) = enumD i (xs.set p v)
  | [], i, p => rfl
  | x :: xs, i, 0 => by
    have ih : ∀ (ys : List Val) (j : Nat), i < j → (enumD j ys).map (fun q => bif decide (q.1 = (.inl (i : Int) : Key)) then (q.1, v) else q) = enumD j ys := by
      intro ys
      induction ys with
      | nil => intro j _; rfl
      | cons y ys ih =>
        intro j hj
        have ne : ¬ ((j : Int) = (i : Int)) := by omega
        simp only [enumD, List.map_cons, ih (j + 1) (by omega)]
        simp [ne]
    simp only [Nat.add_zero, enumD, List.map_cons, List.set_cons_zero, ih xs (i + 1) (by omega)]
    simp
  | x :: xs, i, p + 1 => by
    have ih := enum_map (v := v) (xs := xs) (i := i + 1) (p := p)
    have e : i + 1 + p = i + (p + 1) := by omega
    rw [e] at ih
    have ne : ¬ ((i : Int) = ((i + (p + 1) : Nat) : Int)) := by omega
    have ne2 : ¬ ((i : Int) = (i : Int) + ((p : Int) + 1)) := by omega
    simp only [enumD, List.map_cons, List.set_cons_succ, ih]
    simp [ne2]
theorem enum_len : ∀ (xs : List Val) (i : Nat), (enumD i xs).length = xs.length
  | [], _ => rfl
  | x :: xs, i => by simp [enumD, enum_len xs (i + 1)]
theorem enum_vals : ∀ (xs : List Val) (i : Nat), (enumD i xs).map (·.2) = xs
  | [], _ => rfl
  | x :: xs, i => by simp [enumD, enum_vals xs (i + 1)]
theorem mn1 : (Str.ofString "bytes" = Str.ofString "rows") = False := eq_false (by decide +kernel)
theorem mn2 : (Str.ofString "flags" = Str.ofString "rows") = False := eq_false (by decide +kernel)
theorem mn3 : (Str.ofString "flags" = Str.ofString "bytes") = False := eq_false (by decide +kernel)
theorem mn4 : (Str.ofString "rows" = Str.ofString "bytes") = False := eq_false (by decide +kernel)
/-- the law's own board -/
def mV (mem : List Int) (rows : List Val) : Val := .dic [(.inr "bytes", .dic (enumD 0 (mem.map .int))), (.inr "flags", .lst (List.replicate 8 (.int 0))), (.inr "rows", .lst rows), (.inr "peeks", .lst []), (.inr "stuck", .non)]
variable {mem : List Int} {rows : List Val}
@[simp] theorem mg1 : getC (mV mem rows) (.str "bytes") = some (.dic (enumD 0 (mem.map .int))) := by simp [mV]
@[simp] theorem mg2 : getC (mV mem rows) (.str "rows") = some (.lst rows) := by simp [mV, mn1, mn2]
@[simp] theorem ms1 {w : List (Key × Val)} : setC (mV mem rows) (.str "bytes") (.dic w) = .dic [(.inr "bytes", .dic w), (.inr "flags", .lst (List.replicate 8 (.int 0))), (.inr "rows", .lst rows), (.inr "peeks", .lst []), (.inr "stuck", .non)] := by simp [mV, q_putF1]
@[simp] theorem ms2 {w : List Val} : setC (mV mem rows) (.str "rows") (.lst w) = mV mem w := by simp [mV, q_putF1, mn1, mn2]
theorem getb {p : Int} (h0 : 0 ≤ p) (h1 : p < mem.length) : getC (.dic (enumD 0 (mem.map .int))) (.int p) = some (.int (mem.getD p.toNat 0)) := by
  have e := enum_find (v := .int (mem.getD p.toNat 0)) (xs := mem.map Val.int) (i := 0) (p := p.toNat) (by
    rw [List.getElem?_map, List.getElem?_eq_getElem (show p.toNat < mem.length by omega)]
    simp [List.getD_eq_getElem?_getD, List.getElem?_eq_getElem (show p.toNat < mem.length by omega)])
  have ep : ((0 + p.toNat : Nat) : Int) = p := by omega
  rw [ep] at e
  simp [e]
theorem putb {p x : Int} (h0 : 0 ≤ p) (h1 : p < mem.length) : putD (enumD 0 (mem.map .int)) (.inl p) (.int x) = enumD 0 ((mem.set p.toNat x).map .int) := by
  have ep : ((0 + p.toNat : Nat) : Int) = p := by omega
  have a := enum_any (xs := mem.map Val.int) (i := 0) (p := p.toNat) (by rw [List.length_map]; omega)
  have b := enum_map (v := .int x) (xs := mem.map Val.int) (i := 0) (p := p.toNat)
  rw [ep] at a b
  unfold putD
  rw [a, b, List.map_set]
  rfl
theorem read_ok (n : Nat) {p : Int} (spot part : Val) (h0 : 0 ≤ p) (h1 : p < mem.length) (hr : rows.length < 1000000) :
    (P.den (n + 1)).fn 30 [(2, mV mem rows), (0, spot), (0, part), (0, .int p)] = some ((0, .int (mem.getD p.toNat 0)), [some (2, mV mem (rows ++ [.tup [spot, part, .str "r", .int p, .int (mem.getD p.toNat 0)]])), none, none, none]) := by
  rw [op_law_read]
  have z : decide (rows.length < sizeLine) = true := decide_eq_true (by rw [sizeLine_eq]; omega)
  have z' : rows.length < sizeLine := of_decide_eq_true z
  have g := getb h0 h1
  simp only [q_getC2, q_key1, Option.bind_some] at g
  simp [d_law_read_b, okL, z, z', g]
theorem write_ok (n : Nat) {p x : Int} (spot part : Val) (h0 : 0 ≤ p) (h1 : p < mem.length) (hm : mem.length ≤ 1024) (hr : rows.length < 1000000) :
    (P.den (n + 1)).fn 31 [(2, mV mem rows), (0, spot), (0, part), (0, .int p), (0, .int x)] = some ((0, .non), [some (2, mV (mem.set p.toNat x) (rows ++ [.tup [spot, part, .str "w", .int p, .int x]])), none, none, none, none]) := by
  rw [op_law_write]
  have z : decide (rows.length < sizeLine) = true := decide_eq_true (by rw [sizeLine_eq]; omega)
  have z' : rows.length < sizeLine := of_decide_eq_true z
  have z2 : (enumD 0 (mem.map .int)).length < sizeLine := by rw [enum_len, List.length_map, sizeLine_eq]; omega
  have pb := putb (x := x) h0 h1
  have em : ∀ (m : List Int), Val.dic [(.inr "bytes", .dic (enumD 0 (m.map .int))), (.inr "flags", .lst (List.replicate 8 (.int 0))), (.inr "rows", .lst rows), (.inr "peeks", .lst []), (.inr "stuck", .non)] = mV m rows := fun _ => rfl
  simp only [d_law_write_b, q_exs_1, q_ex_16, q_evP_1, q_evP_0]
  simp [okL, z, z', z2, pb, em]
  simp [mV, q_putF1, mn1, mn2, List.map_set]
end K09
namespace K09
open PySem PySem.Spec PyProof.Rows L2 BV
theorem forL_enum {α β : Type} {f : Val → Slots → Option Out} {g : α → Val} (K : Nat) (st : β → α → β) (I : Nat → β → Slots → Prop) : ∀ {l : List α} {k : Nat} {b : β} {S : Slots} {o : Option Out}, forL f (numbered k (l.map g)) S = o →
    k + l.length ≤ K → (∀ a ∈ l, ∀ i b S, i < K → I i b S → ∃ S', f (.tup [.int (i : Int), g a]) S = some (.nx S') ∧ I (i + 1) (st b a) S') → I k b S → ∃ S', o = some (.nx S') ∧ I (k + l.length) (l.foldl st b) S'
  | [], k, b, S, o, e, _, h, i => ⟨S, e.symm, by simpa using i⟩
  | a :: l, k, b, S, o, e, hK, h, i => by
    rw [List.length_cons] at hK
    obtain ⟨S1, e1, i1⟩ := h a (List.mem_cons_self ..) k b S (by omega) i
    have e : forL f (.tup [.int (k : Int), g a] :: numbered (k + 1) (l.map g)) S = o := e
    rw [q_forL1, e1] at e
    obtain ⟨S', e', i'⟩ := forL_enum K st I e (by omega) (fun a ha => h a (List.mem_cons_of_mem _ ha)) i1
    refine ⟨S', e', ?_⟩
    rw [List.length_cons, show k + (l.length + 1) = k + 1 + l.length by omega]
    exact i'
theorem compL_enum {α : Type} {f : Val → Slots → Option (List Val × Slots)} {g : α → Val} {out : α → Val} (K : Nat) (I : Nat → Slots → Prop) : ∀ {l : List α} {k : Nat} {S : Slots} {o : Option (List Val × Slots)}, compL f (numbered k (l.map g)) S = o →
    k + l.length ≤ K → (∀ a ∈ l, ∀ i S, i < K → I i S → ∃ S', f (.tup [.int (i : Int), g a]) S = some ([out a], S') ∧ I (i + 1) S') → I k S → ∃ S', o = some (l.map out, S') ∧ I (k + l.length) S'
  | [], k, S, o, e, _, h, i => ⟨S, e.symm, by simpa using i⟩
  | a :: l, k, S, o, e, hK, h, i => by
    rw [List.length_cons] at hK
    obtain ⟨S1, e1, i1⟩ := h a (List.mem_cons_self ..) k S (by omega) i
    have e : compL f (.tup [.int (k : Int), g a] :: numbered (k + 1) (l.map g)) S = o := e
    rw [q_compL1, e1] at e
    obtain ⟨S', e', i'⟩ := compL_enum K I rfl (by omega) (fun a ha => h a (List.mem_cons_of_mem _ ha)) i1
    refine ⟨S', ?_, ?_⟩
    · rw [← e]
      simp [e']
    rw [List.length_cons, show k + (l.length + 1) = k + 1 + l.length by omega]
    exact i'
def cpy (mem : List Int) (q : Int × Int) : List Int := mem.set q.2.toNat (mem.getD q.1.toNat 0)
def fil (v : Int) (mem : List Int) (x : Int) : List Int := mem.set x.toNat v
def addS (mem : List Int) (q : A4) : Int := ((c4 q).map fun x => mem.getD x.toNat 0).sum % 256
/-- a step done -/
def Stp.run (s : Stp) (mem : List Int) : List Int := match s with
  | .copy a b k => (((c4 a).zip (c4 b)).drop k.toNat).foldl cpy mem
  | .fill a v k => ((c4 a).drop k.toNat).foldl (fil v) mem
  | .add a c => mem.set c.toNat (addS mem a)
  | _ => mem
/-- it lies within so many cells -/
def Stp.In (s : Stp) (L : Int) : Prop := match s with
  | .copy a b _ => (∀ x ∈ c4 a, x < L) ∧ ∀ x ∈ c4 b, x < L
  | .fill a _ _ => ∀ x ∈ c4 a, x < L
  | .add a c => (∀ x ∈ c4 a, x < L) ∧ c < L
  | _ => True
theorem cpy_len (mem : List Int) (q : Int × Int) : (cpy mem q).length = mem.length := by simp [cpy]
theorem fil_len (v : Int) (mem : List Int) (x : Int) : (fil v mem x).length = mem.length := by simp [fil]
theorem foldl_len {α : Type} {f : List Int → α → List Int} (h : ∀ m a, (f m a).length = m.length) : ∀ (l : List α) (m : List Int), (l.foldl f m).length = m.length
  | [], m => rfl
  | a :: l, m => by rw [List.foldl_cons, foldl_len h l, h]
theorem run_len (s : Stp) (mem : List Int) : (s.run mem).length = mem.length := by
  cases s with
  | copy a b k => exact foldl_len cpy_len _ _
  | fill a v k => exact foldl_len (fil_len v) _ _
  | add a c => simp [Stp.run]
  | _ => rfl
theorem ints_of : ∀ l : List Int, intsOf (l.map .int) = some l
  | [] => rfl
  | i :: l => by
    show (intsOf (l.map .int)).map (i :: ·) = _
    rw [ints_of l]; rfl
theorem moved_ok (n : Nat) {s : Stp} {mem : List Int} {rows : List Val} {spot : Val} (h : s.Ok) (hi : s.In mem.length) (hm : mem.length ≤ 1024) (hr : rows.length ≤ 900000) :
    ∃ rows', rows'.length ≤ rows.length + 1000 ∧ (P.den (n + 2)).fn 32 [(2, mV mem rows), (0, spot), (0, s.v)] = some ((0, .non), [some (2, mV (s.run mem) rows'), none, none]) := by
  rw [op_law_moved]
  cases s with
  | copy a b k =>
    obtain ⟨ha, hb, hz, k0, k1⟩ := h
    obtain ⟨ia, ib⟩ := hi
    have la := c4_len ha
    have lb := c4_len hb
    have hl : (c4 a).length = (c4 b).length := by omega
    have e1 := lcells4 n ha
    have e2 := lcells4 n hb
    have hlen : (((c4 a).zip (c4 b)).drop k.toNat).length ≤ 256 := by rw [List.length_drop, List.length_zip]; omega
    simp [d_law_moved_b, callV, Stp.v, e1, e2, hl, pairUp_ints, cut_suf k0, ← List.map_drop]
    generalize hF : forL _ _ _ = o
    obtain ⟨S', rfl, rows', a4, a5, a6, r1, _, rfl⟩ := forL_enum 256 cpy (fun i m S => ∃ (rows' : List Val) (a4 a5 a6 : Option R), rows'.length ≤ rows.length + 2 * i ∧ m.length = mem.length ∧ S = [some (2, mV m rows'), some (0, spot), some (0, .tup [.str "copy", v4 a, v4 b, .int k]), some (0, .lst ((((c4 a).zip (c4 b)).drop k.toNat).map fun q => .tup [.int q.1, .int q.2])), a4, a5, a6, none]) hF (by omega) (fun q hq i m S iK ⟨rows', a4, a5, a6, r1, r2, e⟩ => by
      subst e
      have hq := List.mem_of_mem_drop hq
      have q1 : q.1 ∈ c4 a := (List.of_mem_zip hq).1
      have q2 : q.2 ∈ c4 b := (List.of_mem_zip hq).2
      have ra := c4_in ha q1
      have rb := c4_in hb q2
      have xa := ia _ q1
      have xb := ib _ q2
      have er := read_ok n (mem := m) (rows := rows') spot (.int (i : Int)) ra.1 (by rw [r2]; exact xa) (by omega)
      have ew := write_ok n (mem := m) (rows := rows' ++ [.tup [spot, .int (i : Int), .str "r", .int q.1, .int (m.getD q.1.toNat 0)]]) (x := m.getD q.1.toNat 0) spot (.int (i : Int)) rb.1 (by rw [r2]; exact xb) (by omega) (by simp; omega)
      refine ⟨[some (2, mV (cpy m q) ((rows' ++ [.tup [spot, .int (i : Int), .str "r", .int q.1, .int (m.getD q.1.toNat 0)]]) ++ [.tup [spot, .int (i : Int), .str "w", .int q.2, .int (m.getD q.1.toNat 0)]])), some (0, spot), some (0, .tup [.str "copy", v4 a, v4 b, .int k]), some (0, .lst ((((c4 a).zip (c4 b)).drop k.toNat).map fun q => .tup [.int q.1, .int q.2])), some (0, .int (i : Int)), some (0, .int q.1), some (0, .int q.2), none], ?_, _, _, _, _, by simp; omega, by rw [cpy_len]; exact r2, rfl⟩
      simp only [List.getD_eq_getElem?_getD] at er ew
      simp [d_law_moved_l0, callV, er, ew, cpy]) ⟨rows, none, none, none, by omega, rfl, rfl⟩
    refine ⟨rows', by omega, ?_⟩
    simp [Stp.run]
  | fill a b k =>
    obtain ⟨ha, b0, b1, k0, k1⟩ := h
    have la := c4_len ha
    have e1 := lcells4 n ha
    have hlen : ((c4 a).drop k.toNat).length ≤ 256 := by rw [List.length_drop]; omega
    simp [d_law_moved_b, callV, Stp.v, e1, cut_suf k0, ← List.map_drop]
    generalize hF : forL _ _ _ = o
    obtain ⟨S', rfl, rows', a4, a6, r1, _, rfl⟩ := forL_enum 256 (fil b) (fun i m S => ∃ (rows' : List Val) (a4 a6 : Option R), rows'.length ≤ rows.length + 2 * i ∧ m.length = mem.length ∧ S = [some (2, mV m rows'), some (0, spot), some (0, .tup [.str "fill", v4 a, .int b, .int k]), none, a4, none, a6, none]) hF (by omega) (fun q hq i m S iK ⟨rows', a4, a6, r1, r2, e⟩ => by
      subst e
      have q1 : q ∈ c4 a := List.mem_of_mem_drop hq
      have ra := c4_in ha q1
      have xa := hi _ q1
      have ew := write_ok n (mem := m) (rows := rows') (x := b) spot (.int (i : Int)) ra.1 (by rw [r2]; exact xa) (by omega) (by omega)
      refine ⟨[some (2, mV (fil b m q) (rows' ++ [.tup [spot, .int (i : Int), .str "w", .int q, .int b]])), some (0, spot), some (0, .tup [.str "fill", v4 a, .int b, .int k]), none, some (0, .int (i : Int)), none, some (0, .int q), none], ?_, _, _, _, by simp; omega, by rw [fil_len]; exact r2, rfl⟩
      simp [d_law_moved_l1, callV, ew, fil, ixN]) ⟨rows, none, none, by omega, rfl, rfl⟩
    refine ⟨rows', by omega, ?_⟩
    simp [Stp.run]
  | add a c =>
    obtain ⟨ha, c0, c1⟩ := h
    obtain ⟨ia, ic⟩ := hi
    have la := c4_len ha
    have e1 := lcells4 n ha
    simp [d_law_moved_b, d_law_moved_c0, callV, Stp.v, e1]
    generalize hF : compL _ _ _ = o
    obtain ⟨S', rfl, rows', r1, rfl⟩ := compL_enum (out := fun x => .int (mem.getD x.toNat 0)) 256 (fun i S => ∃ (rows' : List Val), rows'.length ≤ rows.length + 2 * i ∧ S = [some (2, mV mem rows'), some (0, spot), some (0, .tup [.str "add", v4 a, .int c]), none, none, none, none, none]) hF (by omega) (fun q hq i S iK ⟨rows', r1, e⟩ => by
      subst e
      have ra := c4_in ha hq
      have xa := ia _ hq
      have er := read_ok n (mem := mem) (rows := rows') spot (.int (i : Int)) ra.1 xa (by omega)
      refine ⟨[some (2, mV mem (rows' ++ [.tup [spot, .int (i : Int), .str "r", .int q, .int (mem.getD q.toNat 0)]])), some (0, spot), some (0, .tup [.str "add", v4 a, .int c]), none, none, none, none, none], ?_, _, by simp; omega, rfl⟩
      simp only [List.getD_eq_getElem?_getD] at er ⊢
      simp [callV, er]) ⟨rows, by omega, rfl⟩
    have ew := write_ok n (mem := mem) (rows := rows') (x := addS mem a) spot (.int ((c4 a).length : Int)) c0 ic (by omega) (by omega)
    refine ⟨rows' ++ [.tup [spot, .int ((c4 a).length : Int), .str "w", .int c, .int (addS mem a)]], by simp; omega, ?_⟩
    have ei := ints_of ((c4 a).map fun x => mem.getD x.toNat 0)
    rw [List.map_map] at ei
    have hs : ((c4 a).map fun x => mem.getD x.toNat 0).sum % 256 = addS mem a := rfl
    simp only [Function.comp_def, List.getD_eq_getElem?_getD] at ei hs
    have f1 : fitsLine (c4 a).length = true := q_fits (by omega)
    simp [f1, ei, hs, ew, Stp.run, ixN]
  | _ => exact ⟨rows, by omega, by simp [d_law_moved_b, Stp.v, Stp.run]⟩
end K09
namespace K09
open PySem PySem.Spec PyProof.Rows L2 BV
theorem needs_ok (n : Nat) {s : Stp} (h : s.Ok) : (P.den (n + 6)).fn 10 [(0, s.v)] = some ((0, .non), [none]) := by
  rw [op_need_step]
  simp [d_need_step_b, d_need_step_l0, callV, stepw_ok n h]
theorem getm {m : List Int} {p : Int} (h0 : 0 ≤ p) (h1 : p < m.length) : (m.map Val.int)[p.toNat]? = some (.int (m.getD p.toNat 0)) := by
  rw [List.getElem?_map, List.getElem?_eq_getElem (show p.toNat < m.length by omega)]
  simp [List.getD_eq_getElem?_getD, List.getElem?_eq_getElem (show p.toNat < m.length by omega)]
theorem ix31 : ixN 3 1 = some 1 := rfl
theorem ix21 : ixN 2 1 = some 1 := rfl
theorem ix43 : ixN 4 3 = some 3 := rfl
theorem dostep_ok (n : Nat) {s : Stp} {mem : List Int} (h : s.Ok) (hi : s.In mem.length) (hm : mem.length ≤ 1024) :
    ∃ r, (P.den (n + 2)).fn 14 [(1, .lst (mem.map .int)), (0, s.v)] = some (r, [some (1, .lst ((s.run mem).map .int)), none]) := by
  rw [op_do_step]
  cases s with
  | copy a b k =>
    obtain ⟨ha, hb, hz, k0, k1⟩ := h
    obtain ⟨ia, ib⟩ := hi
    have la := c4_len ha
    have lb := c4_len hb
    have hl : (c4 a).length = (c4 b).length := by omega
    have e1 := acells4 n ha
    have e2 := acells4 n hb
    have hlen : (((c4 a).zip (c4 b)).drop k.toNat).length ≤ 256 := by rw [List.length_drop, List.length_zip]; omega
    simp [d_do_step_b, callV, Stp.v, e1, e2, hl, pairUp_ints, cut_suf k0, ← List.map_drop, ixN]
    generalize hF : forL _ _ _ = o
    obtain ⟨S', rfl, rows, a6, a7, a8, r1, _, rfl⟩ := forL_enum 256 cpy (fun i m S => ∃ (rows : List Val) (a6 a7 a8 : Option R), rows.length ≤ 2 * i ∧ m.length = mem.length ∧ S = [some (1, .lst (m.map .int)), some (0, .tup [.str "copy", v4 a, v4 b, .int k]), some (0, .str "copy"), some (0, .lst [v4 a, v4 b, .int k]), some (1, .lst rows), some (0, .lst ((((c4 a).zip (c4 b)).drop k.toNat).map fun q => .tup [.int q.1, .int q.2])), a6, a7, a8, none]) hF (by omega) (fun q hq i m S iK ⟨rows, a6, a7, a8, r1, r2, e⟩ => by
      subst e
      have hq := List.mem_of_mem_drop hq
      have q1 : q.1 ∈ c4 a := (List.of_mem_zip hq).1
      have q2 : q.2 ∈ c4 b := (List.of_mem_zip hq).2
      have ra := c4_in ha q1
      have rb := c4_in hb q2
      have xa := ia _ q1
      have xb := ib _ q2
      have ea := getm ra.1 (show q.1 < m.length by rw [r2]; exact xa)
      have eb := getm (m := cpy m q) rb.1 (by rw [cpy_len, r2]; exact xb)
      have i1 : ixN (m.map Val.int).length q.1 = some q.1.toNat := ix_in ra.1 (by simp; rw [r2]; exact xa)
      have i2 : ixN (m.map Val.int).length q.2 = some q.2.toNat := ix_in rb.1 (by simp; rw [r2]; exact xb)
      have ec : (m.map Val.int).set q.2.toNat (.int (m.getD q.1.toNat 0)) = (cpy m q).map .int := by rw [cpy, List.map_set]
      have lc := cpy_len m q
      have z : decide (rows.length + 2 ≤ sizeLine) = true := decide_eq_true (by rw [sizeLine_eq]; omega)
      have z' : rows.length + 2 ≤ sizeLine := of_decide_eq_true z
      simp only [List.length_map] at i1 i2
      simp only [List.getD_eq_getElem?_getD, List.getElem?_map] at ea eb ec
      refine ⟨[some (1, .lst ((cpy m q).map .int)), some (0, .tup [.str "copy", v4 a, v4 b, .int k]), some (0, .str "copy"), some (0, .lst [v4 a, v4 b, .int k]), some (1, .lst (rows ++ [.tup [.int (i : Int), .str "r", .int q.1, .int ((cpy m q).getD q.2.toNat 0)], .tup [.int (i : Int), .str "w", .int q.2, .int ((cpy m q).getD q.2.toNat 0)]])), some (0, .lst ((((c4 a).zip (c4 b)).drop k.toNat).map fun q => .tup [.int q.1, .int q.2])), some (0, .int (i : Int)), some (0, .int q.1), some (0, .int q.2), none], ?_, _, _, _, _, by simp; omega, by rw [cpy_len]; exact r2, rfl⟩
      simp [d_do_step_l0, i1, i2, ea, ec, eb, lc, okL, z, z', fitsIn, dispD]) ⟨[], none, none, none, by simp, rfl, rfl⟩
    simp [Stp.run]
  | fill a b k =>
    obtain ⟨ha, b0, b1, k0, k1⟩ := h
    have la := c4_len ha
    have e1 := acells4 n ha
    have hlen : ((c4 a).drop k.toNat).length ≤ 256 := by rw [List.length_drop]; omega
    simp [d_do_step_b, callV, Stp.v, e1, cut_suf k0, ← List.map_drop, ixN]
    generalize hF : forL _ _ _ = o
    obtain ⟨S', rfl, rows, a6, a8, r1, _, rfl⟩ := forL_enum 256 (fil b) (fun i m S => ∃ (rows : List Val) (a6 a8 : Option R), rows.length ≤ 2 * i ∧ m.length = mem.length ∧ S = [some (1, .lst (m.map .int)), some (0, .tup [.str "fill", v4 a, .int b, .int k]), some (0, .str "fill"), some (0, .lst [v4 a, .int b, .int k]), some (1, .lst rows), none, a6, none, a8, none]) hF (by omega) (fun q hq i m S iK ⟨rows, a6, a8, r1, r2, e⟩ => by
      subst e
      have q1 : q ∈ c4 a := List.mem_of_mem_drop hq
      have ra := c4_in ha q1
      have xa := hi _ q1
      have i1 : ixN (m.map Val.int).length q = some q.toNat := ix_in ra.1 (by simp; rw [r2]; exact xa)
      have ec : (m.map Val.int).set q.toNat (.int b) = (fil b m q).map .int := by rw [fil, List.map_set]
      have z : decide (rows.length < sizeLine) = true := decide_eq_true (by rw [sizeLine_eq]; omega)
      have z' : rows.length < sizeLine := of_decide_eq_true z
      simp only [List.length_map] at i1
      refine ⟨[some (1, .lst ((fil b m q).map .int)), some (0, .tup [.str "fill", v4 a, .int b, .int k]), some (0, .str "fill"), some (0, .lst [v4 a, .int b, .int k]), some (1, .lst (rows ++ [.tup [.int (i : Int), .str "w", .int q, .int b]])), none, some (0, .int (i : Int)), none, some (0, .int q), none], ?_, _, _, _, by simp; omega, by rw [fil_len]; exact r2, rfl⟩
      simp [d_do_step_l1, i1, ec, ix31, z, z', fitsIn, dispD]) ⟨[], none, none, by simp, rfl, rfl⟩
    simp [Stp.run]
  | add a c =>
    obtain ⟨ha, c0, c1⟩ := h
    obtain ⟨ia, ic⟩ := hi
    have la := c4_len ha
    have e1 := acells4 n ha
    simp [d_do_step_b, d_do_step_c0, callV, Stp.v, e1, numbered_map]
    rw [compL_of1 (g := fun q => .tup [.int (q.2 : Int), .str "r", .int q.1, .int (mem.getD q.1.toNat 0)])]
    · have f1 : fitsLine (c4 a).length = true := q_fits (by omega)
      simp [f1, d_do_step_c1]
      rw [compL_of1 (g := fun q => .int (mem[q.1.toNat]?.getD 0))]
      · have ez : ((c4 a).zipIdx.map fun q => Val.int (mem[q.1.toNat]?.getD 0)) = (c4 a).map (Val.int ∘ fun x => mem[x.toNat]?.getD 0) := by
          have := congrArg (List.map fun x : Int => Val.int (mem[x.toNat]?.getD 0)) (List.zipIdx_map_fst 0 (c4 a))
          rw [List.map_map] at this
          simpa [Function.comp_def] using this
        have ei : intsOf ((c4 a).map (Val.int ∘ fun x => mem[x.toNat]?.getD 0)) = some ((c4 a).map fun x => mem[x.toNat]?.getD 0) := by
          rw [← List.map_map]; exact ints_of _
        have hs : ((c4 a).map fun x => mem[x.toNat]?.getD 0).sum % 256 = addS mem a := by
          unfold addS
          simp only [List.getD_eq_getElem?_getD]
        have i1 : ixN mem.length c = some c.toNat := ix_in c0 ic
        have es : ((mem.map Val.int).set c.toNat (.int (addS mem a)))[c.toNat]? = some (.int (addS mem a)) := List.getElem?_set_self (by rw [List.length_map]; omega)
        have z : decide ((c4 a).length < sizeLine) = true := decide_eq_true (by rw [sizeLine_eq]; omega)
        have z' : (c4 a).length < sizeLine := of_decide_eq_true z
        simp only [Option.bind_some, List.length_map, List.length_zipIdx, f1, ez]
        simp [ei, hs, i1, f1, es, z', Stp.run, List.map_set, fitsIn, dispD]
      · intro q hq
        simp
    · intro q hq
      have hm' : q.1 ∈ c4 a := (List.mem_zipIdx hq).2.2 ▸ List.getElem_mem _
      have ra := c4_in ha hm'
      have xa := ia _ hm'
      have ea := getm ra.1 xa
      have i1 : ixN (mem.map Val.int).length q.1 = some q.1.toNat := ix_in ra.1 (by simp; exact xa)
      simp only [List.length_map] at i1
      simp only [List.getD_eq_getElem?_getD, List.getElem?_map] at ea
      simp [i1, ea]
  | _ => simp [d_do_step_b, Stp.v, Stp.run]
end K09
namespace K09
open PySem PySem.Spec PyProof.Rows L2 BV
theorem forL_fold {α β : Type} {f : Val → Slots → Option Out} {g : α → Val} (st : β → α → β) (I : β → Slots → Prop) : ∀ {l : List α} {b : β} {S : Slots} {o : Option Out}, forL f (l.map g) S = o →
    (∀ a ∈ l, ∀ b S, I b S → ∃ S', f (g a) S = some (.nx S') ∧ I (st b a) S') → I b S → ∃ S', o = some (.nx S') ∧ I (l.foldl st b) S'
  | [], b, S, o, e, _, i => ⟨S, e.symm, i⟩
  | a :: l, b, S, o, e, h, i => by
    obtain ⟨S1, e1, i1⟩ := h a (List.mem_cons_self ..) b S i
    have e : forL f (g a :: l.map g) S = o := e
    rw [q_forL1, e1] at e
    exact forL_fold st I (l := l) e (fun a' ha => h a' (List.mem_cons_of_mem _ ha)) i1
/-- the cells that a step touches -/
def Stp.tc : Stp → List Int
  | .copy a b k => (c4 a).drop k.toNat ++ (c4 b).drop k.toNat
  | .fill a _ k => (c4 a).drop k.toNat
  | .add a c => c4 a ++ [c]
  | _ => []
theorem tc_len {s : Stp} (h : s.Ok) : s.tc.length ≤ 512 := by
  cases s with
  | copy a b k =>
    have := (c4_len h.1).2
    have := (c4_len h.2.1).2
    simp only [Stp.tc, List.length_append, List.length_drop]
    omega
  | fill a b k =>
    have := (c4_len h.1).2
    simp only [Stp.tc, List.length_drop]
    omega
  | add a c =>
    have := (c4_len h.1).2
    simp only [Stp.tc, List.length_append, List.length_cons, List.length_nil]
    omega
  | _ => simp [Stp.tc]
theorem tc_in {s : Stp} {L : Int} (h : s.In L) {x : Int} (hx : x ∈ s.tc) : x < L := by
  cases s with
  | copy a b k =>
    rcases List.mem_append.mp hx with hx | hx
    · exact h.1 x (List.mem_of_mem_drop hx)
    · exact h.2 x (List.mem_of_mem_drop hx)
  | fill a b k => exact h x (List.mem_of_mem_drop hx)
  | add a c =>
    rcases List.mem_append.mp hx with hx | hx
    · exact h.1 x hx
    · have : x = c := by simpa using hx
      rw [this]; exact h.2
  | _ => cases hx
theorem touched_ok (n : Nat) {s : Stp} (h : s.Ok) : (P.den (n + 2)).fn 13 [(0, s.v)] = some ((1, .lst (s.tc.map .int)), [none]) := by
  rw [op_cells_touched]
  cases s with
  | copy a b k =>
    have e1 := acells4 n h.1
    have e2 := acells4 n h.2.1
    have k0 := h.2.2.2.1
    have l1 := (c4_len h.1).2
    have l2 := (c4_len h.2.1).2
    have f : fitsLine ((c4 a).length - k.toNat + ((c4 b).length - k.toNat)) = true := q_fits (by omega)
    simp [d_cells_touched_b, callV, Stp.v, Stp.tc, e1, e2, cut_suf k0, ixN, f]
  | fill a b k =>
    have e1 := acells4 n h.1
    have k0 := h.2.2.2.1
    simp [d_cells_touched_b, callV, Stp.v, Stp.tc, e1, cut_suf k0, ixN]
  | add a c =>
    have e1 := acells4 n h.1
    have l1 := (c4_len h.1).2
    have f : fitsLine ((c4 a).length + 1) = true := q_fits (by omega)
    simp [d_cells_touched_b, callV, Stp.v, Stp.tc, e1, ixN, f, dispD]
  | _ => simp [d_cells_touched_b, Stp.v, Stp.tc, ixN, dispD]
/-- a memory -/
structure MemOk (m : List Int) : Prop where
  b : ∀ x ∈ m, 0 ≤ x ∧ x < 256
  l0 : 1 ≤ m.length
  l1 : m.length ≤ 1024
theorem ismem_ok (n : Nat) {m : List Int} (h : MemOk m) : (P.den (n + 3)).fn 3 [(0, .tup (m.map .int))] = some ((0, .bl true), [none]) := by
  rw [op_is_memory]
  have q0 : (1 : Int) ≤ m.length := by have := h.l0; omega
  have q1 : (m.length : Int) ≤ 1024 := by have := h.l1; omega
  have c : ev (P.den (n + 2)) d_is_memory_c0 [some (0, .tup (m.map .int)), none] = some ((.own 1, .lst (m.map fun _ => .bl true)), [some (0, .tup (m.map .int)), none]) := by
    simp [d_is_memory_c0]
    rw [compL_of1 (g := fun _ => .bl true)]
    · have f : fitsLine m.length = true := q_fits (by have := h.l1; omega)
      simp [f]
    · intro x hx
      simp [callV, byte_ok n (h.b x hx).1 (h.b x hx).2]
  have e := bools_of (g := fun _ => true) m
  simp [d_is_memory_b, c, q0, q1, e]
theorem needm_ok (n : Nat) {m : List Int} (h : MemOk m) : (P.den (n + 4)).fn 15 [(0, .tup (m.map .int))] = some ((0, .non), [none]) := by
  rw [op_need_memory]
  simp [d_need_memory_b, callV, ismem_ok n h]
theorem maxD_lt {L : Int} (h0 : 0 < L) {l : List Int} (h : ∀ x ∈ l, x < L) : maxD 0 l < L := by
  cases l with
  | nil => exact h0
  | cons x l =>
    show l.foldl max x < L
    have h1 := h x (List.mem_cons_self ..)
    have h2 := fun y hy => h y (List.mem_cons_of_mem _ hy)
    clear h
    induction l generalizing x with
    | nil => exact h1
    | cons y l ih => exact ih (max x y) (by have := h2 y (List.mem_cons_self ..); omega) fun z hz => h2 z (List.mem_cons_of_mem _ hz)
theorem needi_ok (n : Nat) {v : Val} {m l : List Int} (hm : 1 ≤ m.length) (h : ∀ x ∈ l, x < m.length) : (P.den (n + 1)).fn 16 [(0, .tup (m.map .int)), (0, .lst (l.map .int))] = some ((0, .non), [none, none]) := by
  rw [op_need_inside]
  have e := maxD_lt (L := m.length) (by omega) h
  have e2 : ¬ (m.length : Int) ≤ maxD 0 l := by omega
  simp [d_need_inside_b, ints_of, e2]
def runs (l : List Stp) (m : List Int) : List Int := l.foldl (fun m s => s.run m) m
theorem runs_len : ∀ (l : List Stp) (m : List Int), (runs l m).length = m.length
  | [], m => rfl
  | s :: l, m => by
    show (runs l (s.run m)).length = _
    rw [runs_len l, run_len]
theorem run_mem {s : Stp} (h : s.Ok) {m : List Int} (hm : MemOk m) : MemOk (s.run m) := by
  have st : ∀ (m : List Int), (∀ x ∈ m, 0 ≤ x ∧ x < 256) → ∀ (p : Nat) (v : Int), 0 ≤ v ∧ v < 256 → ∀ x ∈ m.set p v, 0 ≤ x ∧ x < 256 := by
    intro m hm p v hv x hx
    rcases List.mem_or_eq_of_mem_set hx with h | h
    · exact hm x h
    · rw [h]; exact hv
  have fl : ∀ {α : Type} (f : List Int → α → List Int) (l : List α), (∀ m a, a ∈ l → (∀ x ∈ m, (0:Int) ≤ x ∧ x < 256) → ∀ x ∈ f m a, (0:Int) ≤ x ∧ x < 256) → ∀ m, (∀ x ∈ m, (0:Int) ≤ x ∧ x < 256) → ∀ x ∈ l.foldl f m, (0:Int) ≤ x ∧ x < 256 := by
    intro α f l
    induction l with
    | nil => intro _ m hm; exact hm
    | cons a l ih => intro hf m hm; exact ih (fun m b hb => hf m b (List.mem_cons_of_mem _ hb)) _ (hf m a (List.mem_cons_self ..) hm)
  have ge : ∀ (m : List Int), (∀ x ∈ m, (0:Int) ≤ x ∧ x < 256) → ∀ p : Nat, 0 ≤ m.getD p 0 ∧ m.getD p 0 < 256 := by
    intro m hm p
    rw [List.getD_eq_getElem?_getD]
    cases e : m[p]? with
    | none => exact ⟨by simp, by simp⟩
    | some v => exact hm v (List.mem_of_getElem? e)
  refine ⟨?_, by rw [run_len]; exact hm.l0, by rw [run_len]; exact hm.l1⟩
  cases s with
  | copy a b k => exact fl cpy _ (fun m q _ hm => st m hm _ _ (ge m hm _)) m hm.b
  | fill a b k => exact fl (fil b) _ (fun m q _ hm => st m hm _ _ ⟨h.2.1, h.2.2.1⟩) m hm.b
  | add a c => exact st m hm.b _ _ ⟨Int.emod_nonneg _ (by omega), Int.emod_lt_of_pos _ (by omega)⟩
  | _ => exact hm.b
theorem runs_mem : ∀ {l : List Stp} (h : ∀ s ∈ l, s.Ok) {m : List Int} (hm : MemOk m), MemOk (runs l m)
  | [], _, m, hm => hm
  | s :: l, h, m, hm => runs_mem (l := l) (fun s hs => h s (List.mem_cons_of_mem _ hs)) (run_mem (h s (List.mem_cons_self ..)) hm)
theorem owndone_ok (n : Nat) {l : List Stp} {m : List Int} (h : ∀ s ∈ l, s.Ok ∧ s.In m.length) (hm : m.length ≤ 1024) :
    (P.den (n + 3)).fn 17 [(0, .tup (m.map .int)), (0, .tup (l.map Stp.v))] = some ((0, .tup ((runs l m).map .int)), [none, none]) := by
  rw [op_own_steps_done]
  simp [d_own_steps_done_b]
  generalize hF : forL _ _ _ = o
  obtain ⟨S', rfl, _, a, rfl⟩ := forL_fold (fun m s => Stp.run s m) (fun m' S => m'.length = m.length ∧ ∃ a, S = [some (0, .tup (m.map .int)), some (0, .tup (l.map Stp.v)), some (1, .lst (m'.map .int)), a]) hF (fun s hs m' S ⟨r, a, e⟩ => by
    subst e
    obtain ⟨h1, h2⟩ := h s hs
    obtain ⟨w, e⟩ := dostep_ok n h1 (by rw [r]; exact h2) (by rw [r]; exact hm)
    refine ⟨[some (0, .tup (m.map .int)), some (0, .tup (l.map Stp.v)), some (1, .lst ((s.run m').map .int)), some (0, s.v)], ?_, by rw [run_len]; exact r, _, rfl⟩
    simp [d_own_steps_done_l0, callV, e]) ⟨rfl, _, rfl⟩
  simp [runs]
theorem stepdone_ok (n : Nat) {s : Stp} {m : List Int} (h : s.Ok) (hi : s.In m.length) (hm : MemOk m) :
    (P.den (n + 7)).fn 18 [(0, .tup (m.map .int)), (0, s.v)] = some ((0, .tup ((s.run m).map .int)), [none, none]) := by
  rw [op_step_done]
  have e1 := needm_ok (n + 2) hm
  have e2 := needs_ok n h
  have e3 := touched_ok (n + 4) h
  have e4 := needi_ok (n + 5) (v := .non) (m := m) (l := s.tc) hm.l0 fun x hx => tc_in hi hx
  have e5 := owndone_ok (n + 3) (l := [s]) (m := m) (by simpa using ⟨h, hi⟩) hm.l1
  simp only [List.map_cons, List.map_nil, runs, List.foldl_cons, List.foldl_nil] at e5
  simp [d_step_done_b, callV, e1, e2, e3, e4, e5]
end K09
namespace K09
open PySem PySem.Spec PyProof.Rows L2 BV
theorem q_intB {b : Bool} : bltV .int [.bl b] = some (0, .int (if b then 1 else 0)) := rfl
theorem byte_draw (n : Nat) {c : Int} {v : Val} (g : Stm c v) (hc : c < 900000) : ∃ x v', 0 ≤ x ∧ x < 256 ∧ Stm (c + 2) v' ∧ (P.den (n + 4)).fn 24 [(1, v)] = some ((0, .int x), [some (1, v')]) := by
  rw [op_law_byte]
  obtain ⟨r1, v1, a1, b1, g1, e1⟩ := take_ok (n + 1) (m := 256) g (by omega) (by omega) (by omega)
  obtain ⟨u, v2, hu, g2, e2⟩ := of_ok n (xs := [.int 0, .int 1, .int 255, .int 128, .int r1]) g1 (by omega) (by simp) (by simp)
  obtain ⟨x, rfl, s0, s1⟩ : ∃ x : Int, u = .int x ∧ 0 ≤ x ∧ x < 256 := by
    simp only [List.mem_cons, List.mem_nil_iff, or_false] at hu
    rcases hu with rfl | rfl | rfl | rfl | rfl <;> exact ⟨_, rfl, by omega, by omega⟩
  refine ⟨x, v2, s0, s1, g2.up (by omega), ?_⟩
  simp [d_law_byte_b, callV, e1, e2, dispD]
def four : List Int := [1, 2, 3, 4]
def rws (z : Int) : List Int := four.filter fun k => decide (z % k = 0)
theorem rws_len (z : Int) : (rws z).length ≤ 4 := List.length_filter_le _ four
theorem area_c (n : Nat) {z : Int} (z0 : 0 ≤ z) {a0 a1 a3 a4 a5 : Option R} : ev (P.den n) d_law_area_c0 [a0, a1, some (0, .int z), a3, a4, a5, none] = some ((.own 1, .lst ((rws z).map .int)), [a0, a1, some (0, .int z), a3, a4, a5, none]) := by
  simp [d_law_area_c0]
  rw [show [Val.int 1, Val.int 2, Val.int 3, Val.int 4] = four.map Val.int from rfl, compL_ofF (p := fun k => decide (z % k = 0))]
  · have f : fitsLine (rws z).length = true := q_fits (by have := rws_len z; omega)
    have e : four.filter (fun k => decide (z % k = 0)) = rws z := rfl
    rw [e]
    simp only [Option.bind_some, List.length_map, f]
    rfl
  · intro k hk
    have k0 : 0 < k := by
      simp only [four, List.mem_cons, List.mem_nil_iff, or_false] at hk
      omega
    by_cases e : z % k = 0 <;> simp (disch := first | omega | (simp; done) | (simp; omega)) [k0, e]
theorem area_draw (n : Nat) {c top z : Int} {v : Val} (g : Stm c v) (hc : c < 900000) (z0 : 1 ≤ z) (z1 : z ≤ top) (t1 : top ≤ 200) :
    ∃ (q : A4) (v' : Val), Ok4 q ∧ z4 q = z ∧ (∀ x ∈ c4 q, x < top) ∧ Stm (c + 3) v' ∧ (P.den (n + 4)).fn 23 [(1, v), (0, .int top), (0, .int z)] = some ((0, v4 q), [some (1, v'), none, none]) := by
  rw [op_law_area]
  obtain ⟨u, v1, hu, g1, e1⟩ := of_ok n (xs := .int 1 :: (rws z).map .int) g (by omega) (by simp) (by
    have := rws_len z
    simp only [List.length_cons, List.length_map] at this ⊢
    omega)
  obtain ⟨r, rfl, r0, r1, rz⟩ : ∃ r : Int, u = .int r ∧ 1 ≤ r ∧ r ≤ 4 ∧ z % r = 0 := by
    rcases List.mem_cons.mp hu with rfl | hu
    · exact ⟨1, rfl, by omega, by omega, by omega⟩
    · obtain ⟨k, hk, rfl⟩ := List.mem_map.mp hu
      obtain ⟨k1, k2⟩ := List.mem_filter.mp hk
      simp only [four, List.mem_cons, List.mem_nil_iff, or_false] at k1
      exact ⟨k, rfl, by omega, by omega, of_decide_eq_true k2⟩
  obtain ⟨d, v2, d0, d1, g2, e2⟩ := take_ok (n + 1) (m := 4) g1 (by omega) (by omega) (by omega)
  have ac := area_c (n + 3) (z := z) (by omega) (a0 := some (1, v)) (a1 := some (0, .int top)) (a3 := none) (a4 := none) (a5 := none)
  have fl : fitsLine (1 + (rws z).length) = true := q_fits (by
    have := rws_len z
    omega)
  have fl2 : fitsLine ((rws z).length + 1) = true := by rw [Nat.add_comm]; exact fl
  have cz : ∃ w : Int, z = r * w ∧ 1 ≤ w ∧ z / r = w := by
    refine ⟨z / r, ?_, ?_, rfl⟩
    · have := Int.mul_ediv_add_emod z r
      omega
    · have h := Int.mul_ediv_add_emod z r
      rcases Int.lt_or_le (z / r) 1 with q | q
      · have : r * (z / r) ≤ r * 0 := Int.mul_le_mul_of_nonneg_left (by omega) (by omega)
        omega
      · exact q
  obtain ⟨w, zw, w0, ew⟩ := cz
  -- the pitch
  obtain ⟨dd, hdd, dd0, dd1, ddr⟩ : ∃ dd : Int, (if r > 1 then d else 0) = dd ∧ 0 ≤ dd ∧ dd < 4 ∧ (r = 1 → dd = 0) := by
    by_cases h : r > 1
    · exact ⟨d, by simp [h], d0, d1, fun e => by omega⟩
    · exact ⟨0, by simp [h], by omega, by omega, fun _ => rfl⟩
  have rr : r = 1 ∨ r = 2 ∨ r = 3 ∨ r = 4 := by omega
  have row1 : ∀ {s : Int}, 0 ≤ s → s + z ≤ top → Ok4 (s, z, 1, z) ∧ z4 (s, z, 1, z) = z ∧ ∀ x ∈ c4 (s, z, 1, z), x < top := by
    intro s h0 h1
    have ok : Ok4 (s, z, 1, z) := ⟨h0, by show 1 ≤ z; omega, by show (1:Int) ≤ 1; omega, Int.le_refl _, fun _ => rfl, by show s + (1 - 1) * z + z ≤ 1024; omega, by show 1 * z ≤ 256; omega⟩
    refine ⟨ok, by simp [z4], fun x hx => ?_⟩
    obtain ⟨i, i0, i1, x0, x1⟩ := (cells_mem ok).mp hx
    have : i = 0 := by show i = 0; simp only at i1; omega
    subst this
    simp only [Int.zero_mul] at x1
    omega
  have rows : ∀ {s : Int}, 0 ≤ s → s + ((w + dd) * (r - 1) + w) ≤ top → Ok4 (s, w, r, w + dd) ∧ z4 (s, w, r, w + dd) = z ∧ ∀ x ∈ c4 (s, w, r, w + dd), x < top := by
    intro s h0 h1
    have cm : (r - 1) * (w + dd) = (w + dd) * (r - 1) := Int.mul_comm _ _
    have ok : Ok4 (s, w, r, w + dd) := ⟨h0, w0, r0, by show w ≤ w + dd; omega, fun e => by show w + dd = w; have := ddr e; omega, by show s + (r - 1) * (w + dd) + w ≤ 1024; omega, by show r * w ≤ 256; omega⟩
    refine ⟨ok, by show w * r = z; rw [zw, Int.mul_comm], fun x hx => ?_⟩
    obtain ⟨i, i0, i1, x0, x1⟩ := (cells_mem ok).mp hx
    have i1 : i < r := i1
    have x1 : x < s + i * (w + dd) + w := x1
    have : i * (w + dd) ≤ (r - 1) * (w + dd) := Int.mul_le_mul_of_nonneg_right (by omega) (by omega)
    omega
  have mb : -18446744073709551616 < w + dd ∧ w + dd < 18446744073709551616 := by
    have : 1 * w ≤ r * w := Int.mul_le_mul_of_nonneg_right r0 (by omega)
    omega
  by_cases hs : top < (w + dd) * (r - 1) + w
  · obtain ⟨s, v3, s0, s1, g3, e3⟩ := take_ok (n + 1) (m := top - z + 1) g2 (by omega) (by omega) (by omega)
    obtain ⟨o1, o2, o3⟩ := row1 s0 (by omega)
    refine ⟨(s, z, 1, z), v3, o1, o2, o3, g3.up (by omega), ?_⟩
    rcases rr with rfl | rfl | rfl | rfl <;> simp at hdd <;> subst hdd <;> simp only [Int.reduceSub, Int.mul_one, Int.mul_zero, Int.zero_add, Int.add_zero] at hs e3 <;>
    first | (exfalso; omega) | simp (disch := first | omega | (simp; done) | (simp; omega)) [d_law_area_b, callV, ac, fl, fl2, e1, e2, e3, ew, hs, mb, q_intB, ixN, dispD, v4, arV]
  · obtain ⟨s, v3, s0, s1, g3, e3⟩ := take_ok (n + 1) (m := top - ((w + dd) * (r - 1) + w) + 1) g2 (by omega) (by omega) (by
      have : 0 ≤ (w + dd) * (r - 1) := Int.mul_nonneg (by omega) (by omega)
      omega)
    obtain ⟨o1, o2, o3⟩ := rows s0 (by omega)
    refine ⟨(s, w, r, w + dd), v3, o1, o2, o3, g3.up (by omega), ?_⟩
    rcases rr with rfl | rfl | rfl | rfl <;> simp at hdd <;> subst hdd <;> simp only [Int.reduceSub, Int.mul_one, Int.mul_zero, Int.zero_add, Int.add_zero] at hs e3 <;>
    simp (disch := first | omega | (simp; done) | (simp; omega)) [d_law_area_b, callV, ac, fl, fl2, e1, e2, e3, ew, hs, mb, q_intB, ixN, dispD, v4, arV]
theorem pick3 (k : Int) : ∀ x : Int, 0 ≤ x → x < 3 → ∃ y : Int, (y = 0 ∨ y = k) ∧ ixN 3 x = some x.toNat ∧ ([Val.int 0, Val.int 0, Val.int k])[x.toNat]? = some (.int y) ∧ ∀ h, ([Val.int 0, Val.int 0, Val.int k])[x.toNat]'h = .int y := by
  intro x h0 h1
  have : x = 0 ∨ x = 1 ∨ x = 2 := by omega
  rcases this with rfl | rfl | rfl
  · exact ⟨0, .inl rfl, rfl, rfl, fun _ => rfl⟩
  · exact ⟨0, .inl rfl, rfl, rfl, fun _ => rfl⟩
  · exact ⟨k, .inr rfl, rfl, rfl, fun _ => rfl⟩
theorem moving_draw (n : Nat) {c top : Int} {v : Val} (g : Stm c v) (hc : c < 800000) (t0 : 8 ≤ top) (t1 : top ≤ 200) :
    ∃ (s : Stp) (v' : Val), s.Ok ∧ s.In top ∧ Stm (c + 15) v' ∧ (P.den (n + 5)).fn 25 [(1, v), (0, .int top)] = some ((0, s.v), [some (1, v'), none]) := by
  rw [op_law_moving]
  obtain ⟨way, v1, w0, w1, g1, e1⟩ := take_ok (n + 2) (m := 6) g (by omega) (by omega) (by omega)
  obtain ⟨b, v2, b0, b1, g2, e2⟩ := take_ok (n + 2) (m := 2) g1 (by omega) (by omega) (by omega)
  obtain ⟨most, hm, hm', m0, m1⟩ : ∃ most : Int, ([Val.int 4, Val.int 8])[b.toNat]? = some (.int most) ∧ (∀ h, ([Val.int 4, Val.int 8])[b.toNat]'h = .int most) ∧ 4 ≤ most ∧ most ≤ 8 := by
    have : b = 0 ∨ b = 1 := by omega
    rcases this with rfl | rfl
    · exact ⟨4, rfl, fun _ => rfl, by omega, by omega⟩
    · exact ⟨8, rfl, fun _ => rfl, by omega, by omega⟩
  obtain ⟨z, v3, z0, z1, g3, e3⟩ := take_ok (n + 2) (m := most) g2 (by omega) (by omega) (by omega)
  obtain ⟨q, v4', q1, q2, q3, g4, e4⟩ := area_draw n (z := 1 + z) (top := top) g3 (by omega) (by omega) (by omega) t1
  have ib : ixN 2 b = some b.toNat := ix_in b0 b1
  have mn : ¬ top < 8 := by omega
  by_cases h3 : way < 3
  · obtain ⟨q', v5, r1, r2, r3, g5, e5⟩ := area_draw n (z := 1 + z) (top := top) g4 (by omega) (by omega) (by omega) t1
    obtain ⟨k, v6, k0, k1, g6, e6⟩ := take_ok (n + 2) (m := 1 + z) g5 (by omega) (by omega) (by omega)
    obtain ⟨j, v7, j0, j1, g7, e7⟩ := take_ok (n + 2) (m := 3) g6 (by omega) (by omega) (by omega)
    obtain ⟨y, hy, iy, ey, ey'⟩ := pick3 k j j0 j1
    refine ⟨.copy q' q y, v7, ⟨r1, q1, by rw [r2, q2], by omega, by rw [r2]; omega⟩, ⟨r3, q3⟩, g7.up (by omega), ?_⟩
    simp (disch := first | omega | (simp; done) | (simp; omega)) [d_law_moving_b, callV, e1, e2, e3, e4, e5, e6, e7, ib, hm, hm', mn, h3, iy, ey, ey', dispD, Stp.v]
  · by_cases h5 : way < 5
    · obtain ⟨x, v5, x0, x1, g5, e5⟩ := byte_draw n g4 (by omega)
      obtain ⟨k, v6, k0, k1, g6, e6⟩ := take_ok (n + 2) (m := 1 + z) g5 (by omega) (by omega) (by omega)
      obtain ⟨j, v7, j0, j1, g7, e7⟩ := take_ok (n + 2) (m := 3) g6 (by omega) (by omega) (by omega)
      obtain ⟨y, hy, iy, ey, ey'⟩ := pick3 k j j0 j1
      refine ⟨.fill q x y, v7, ⟨q1, x0, x1, by omega, by rw [q2]; omega⟩, q3, g7.up (by omega), ?_⟩
      simp (disch := first | omega | (simp; done) | (simp; omega)) [d_law_moving_b, callV, e1, e2, e3, e4, e5, e6, e7, ib, hm, hm', mn, h3, h5, iy, ey, ey', dispD, Stp.v]
    · obtain ⟨k, v6, k0, k1, g6, e6⟩ := take_ok (n + 2) (m := top) g4 (by omega) (by omega) (by omega)
      refine ⟨.add q k, v6, ⟨q1, k0, by omega⟩, ⟨q3, k1⟩, g6.up (by omega), ?_⟩
      simp (disch := first | omega | (simp; done) | (simp; omega)) [d_law_moving_b, callV, e1, e2, e3, e4, e6, ib, hm, hm', mn, h3, h5, dispD, Stp.v]
theorem step_draw (n : Nat) {c top hand : Int} {calm : Bool} {v : Val} (g : Stm c v) (hc : c < 700000) (t0 : 8 ≤ top) (t1 : top ≤ 200) (h0 : 0 ≤ hand) (h1 : hand < 2) :
    ∃ (s : Stp) (v' : Val), s.Ok ∧ s.In top ∧ Stm (c + 16) v' ∧ (P.den (n + 6)).fn 26 [(1, v), (0, .int top), (0, .int hand), (0, .bl calm)] = some ((0, s.v), [some (1, v'), none, none, none]) := by
  rw [op_law_a_step]
  obtain ⟨way, v1, w0, w1, g1, e1⟩ := take_ok (n + 3) (m := 10) g (by omega) (by omega) (by omega)
  by_cases h7 : way < 7
  · obtain ⟨s, v2, a, b, g2, e2⟩ := moving_draw n g1 (by omega) t0 t1
    refine ⟨s, v2, a, b, g2.up (by omega), ?_⟩
    simp (disch := first | omega | (simp; done) | (simp; omega)) [d_law_a_step_b, callV, e1, e2, h7]
  · obtain ⟨k, v2, k0, k1, g2, e2⟩ := take_ok (n + 3) (m := 2) g1 (by omega) (by omega) (by omega)
    by_cases h8 : way = 7 ∨ way = 8 ∧ calm = true
    · refine ⟨.note (4 * hand + k), v2, ⟨by omega, by omega⟩, trivial, g2.up (by omega), ?_⟩
      rcases h8 with rfl | ⟨rfl, rfl⟩ <;>
      simp (disch := first | omega | (simp; done) | (simp; omega)) [d_law_a_step_b, callV, e1, e2, dispD, Stp.v]
    · by_cases h9 : way = 8
      · subst h9
        have hcm : calm = false := by cases calm <;> simp_all
        subst hcm
        obtain ⟨k', v3, k0', k1', g3, e3⟩ := take_ok (n + 3) (m := 2) g2 (by omega) (by omega) (by omega)
        obtain ⟨j, v4', j0, j1, g4, e4⟩ := take_ok (n + 3) (m := 2) g3 (by omega) (by omega) (by omega)
        refine ⟨.wait (4 * k + k') (1 + j), v4', ⟨by omega, by omega, by omega, by omega⟩, trivial, g4.up (by omega), ?_⟩
        simp (disch := first | omega | (simp; done) | (simp; omega)) [d_law_a_step_b, callV, e1, e2, e3, e4, dispD, Stp.v]
      · have h7' : ¬ way = 7 := fun e => h8 (.inl e)
        refine ⟨.fence, v1, trivial, trivial, g1.up (by omega), ?_⟩
        simp (disch := first | omega | (simp; done) | (simp; omega)) [d_law_a_step_b, callV, e1, h7, h7', h9, dispD, Stp.v]
end K09
namespace K09
open PySem PySem.Spec PyProof.Rows L2 BV
theorem own_keys : decide ([Str.ofString "bytes", Str.ofString "flags", Str.ofString "rows", Str.ofString "peeks", Str.ofString "stuck"] : List Str).Nodup = true := by decide +kernel
theorem rep8 : flatRep 8 [Val.int 0] = List.replicate 8 (Val.int 0) := rfl
theorem own_ok (n : Nat) {m : List Int} (hm : m.length ≤ 1024) : (P.den (n + 1)).fn 29 [(0, .tup (m.map .int))] = some ((2, mV m []), [none]) := by
  rw [op_law_own]
  have h2 : m.length ≤ 2000 := by omega
  have h3 : decide (1 * Int.toNat 8 ≤ sizeLine) = true := decide_eq_true (by rw [sizeLine_eq]; decide)
  have h4 : 8 ≤ sizeLine := by rw [sizeLine_eq]; decide
  have k := of_decide_eq_true own_keys
  simp [d_law_own_b, h2, h4, rep8, k, dispD, mV]
theorem begun_keys : decide ([Str.ofString "left", Str.ofString "own", Str.ofString "behind", Str.ofString "at"] : List Str).Nodup = true := by decide +kernel
/-- a slice of ints -/
def cutI (xs : List Int) (lo hi : Option Int) : List Int := (xs.drop (HT.sIx xs.length 0 lo)).take (HT.sIx xs.length xs.length hi - HT.sIx xs.length 0 lo)
theorem cut_ints (xs : List Int) (lo hi : Option Int) : cutL (xs.map Val.int) lo hi = (cutI xs lo hi).map .int := by
  unfold cutL cutI
  rw [List.length_map, List.map_take, List.map_drop]
theorem two_of : ∀ l : List Int, ∃ (a b : Int), ((l ++ [5, 7]).take 2) = [a, b]
  | [] => ⟨5, 7, rfl⟩
  | [a] => ⟨a, 5, rfl⟩
  | a :: b :: l => ⟨a, b, by simp⟩
theorem begun_ok (n : Nat) (ns : List Int) (hl : ns.length ≤ 63) {k : Int} (k0 : 0 ≤ k) (k1 : k < 100) : ∃ v, Stm (64 * k) v ∧ (P.den (n + 1)).fn 20 [(0, .lst (ns.map .int)), (0, .int k)] = some ((1, v), [none, none]) := by
  rw [op_law_begun]
  obtain ⟨a, b, h⟩ := two_of (cutI ns (some k) (some (k + 2)))
  have h1 : cutL (((cutI ns (some k) (some (k + 2))).map Val.int) ++ [.int 5, .int 7]) none (some 2) = [.int a, .int b] := by
    rw [cut_pre (by omega)]
    have : ((cutI ns (some k) (some (k + 2))).map Val.int) ++ [.int 5, .int 7] = (cutI ns (some k) (some (k + 2)) ++ [5, 7]).map .int := by rw [List.map_append]; rfl
    rw [this, ← List.map_take]
    show (List.take 2 _).map _ = _
    rw [h]; rfl
  have fl : fitsLine ((cutI ns (some k) (some (k + 2))).length + 2) = true := q_fits (by
    unfold cutI
    rw [List.length_take, List.length_drop]
    omega)
  have kk := of_decide_eq_true begun_keys
  refine ⟨stV (if 1000000000000000000 ≤ a then a else 0) a b (64 * k), ⟨_, _, _, _, by omega, by omega, rfl⟩, ?_⟩
  by_cases h2 : (1000000000000000000 : Int) ≤ a <;>
  simp (disch := first | omega | (simp; done) | (simp; omega)) [d_law_begun_b, cut_ints, fl, h1, kk, h2, dispD, stV]
theorem store_draw (n : Nat) {c : Int} {v : Val} (g : Stm c v) (hc : c < 800000) : ∃ (m : List Int) (v' : Val), MemOk m ∧ 8 ≤ m.length ∧ m.length ≤ 40 ∧ Stm (c + 4) v' ∧ (P.den (n + 4)).fn 27 [(1, v)] = some ((0, .tup (m.map .int)), [some (1, v')]) := by
  rw [op_law_store]
  obtain ⟨r1, v1, a1, b1, g1, e1⟩ := take_ok (n + 1) (m := 33) g (by omega) (by omega) (by omega)
  obtain ⟨u, v2, hu, g2, e2⟩ := of_ok n (xs := [.int 8, .int 9, .int 16, .int 40, .int (8 + r1)]) g1 (by omega) (by simp) (by simp)
  obtain ⟨top, rfl, t0, t1⟩ : ∃ x : Int, u = .int x ∧ 8 ≤ x ∧ x ≤ 40 := by
    simp only [List.mem_cons, List.mem_nil_iff, or_false] at hu
    rcases hu with rfl | rfl | rfl | rfl | rfl <;> exact ⟨_, rfl, by omega, by omega⟩
  obtain ⟨base, v3, a3, b3, g3, e3⟩ := take_ok (n + 1) (m := 256) g2 (by omega) (by omega) (by omega)
  obtain ⟨u, v4', hu, g4, e4⟩ := of_ok n (xs := [.int 0, .int 1, .int 7, .int 85]) g3 (by omega) (by simp) (by simp)
  obtain ⟨by', rfl, t2, t3⟩ : ∃ x : Int, u = .int x ∧ 0 ≤ x ∧ x ≤ 85 := by
    simp only [List.mem_cons, List.mem_nil_iff, or_false] at hu
    rcases hu with rfl | rfl | rfl | rfl <;> exact ⟨_, rfl, by omega, by omega⟩
  have rg : inRange top = true := decide_eq_true (by omega)
  have c : ∀ a0, ev (P.den (n + 3)) d_law_store_c0 [a0, some (0, .int top), some (0, .int base), some (0, .int by'), none] = some ((.own 1, .lst (((iota 0 top.toNat).map fun k => (base + by' * k + k * k / 3) % 256).map .int)), [a0, some (0, .int top), some (0, .int base), some (0, .int by'), none]) := by
    intro a0
    simp [d_law_store_c0, rg, ints_iota]
    rw [compL_of1 (g := fun k => .int ((base + by' * k + k * k / 3) % 256))]
    · have f : fitsLine top.toNat = true := q_fits (by omega)
      simp [f, Function.comp_def]
    · intro k hk
      rw [mem_iota] at hk
      simp (disch := first | omega | (simp; done) | (simp; omega)) []
  refine ⟨(iota 0 top.toNat).map fun k => (base + by' * k + k * k / 3) % 256, v4', ⟨fun x hx => ?_, ?_, ?_⟩, ?_, ?_, g4.up (by omega), ?_⟩
  · obtain ⟨k, _, rfl⟩ := List.mem_map.mp hx
    exact ⟨Int.emod_nonneg _ (by omega), Int.emod_lt_of_pos _ (by omega)⟩
  · rw [List.length_map, iota_len]; omega
  · rw [List.length_map, iota_len]; omega
  · rw [List.length_map, iota_len]; omega
  · rw [List.length_map, iota_len]; omega
  · simp [d_law_store_b, callV, e1, e2, e3, e4, c, dispD]
end K09
namespace K09
open PySem PySem.Spec PyProof.Rows L2 BV
theorem enum_flat (l : List Int) : ∀ i : Nat, ((enumD i (l.map .int)).all fun z => z.2.flat) = true := by
  induction l with
  | nil => intro i; rfl
  | cons a l ih =>
    intro i
    show (true && (enumD (i + 1) (l.map .int)).all fun z => z.2.flat) = true
    rw [ih]; rfl
theorem repr_two {m : List Int} (h : MemOk m) : ∃ t, reprV (.lst [.tup (m.map .int), .tup (m.map .int)]) = some t := by
  have z := (sz_ints (l := m) (d := 0) fun x hx => by have := h.b x hx; omega).tup
  have y := (szs_cons z (szs_cons z szs_nil)).lst
  exact ⟨_, reprs (y.shows (by have := h.l1; omega) (by omega))⟩
theorem right_ok (n : Nat) {m : List Int} {s : Stp} (hm : MemOk m) (h : s.Ok) (hi : s.In m.length) :
    (P.den (n + 8)).fn 33 [(0, .tup (m.map .int)), (0, s.v)] = some ((0, .bl true), [none, none]) := by
  rw [op_law_right]
  have e1 := own_ok (n + 6) hm.l1
  obtain ⟨rows', r1, e2⟩ := moved_ok (n + 5) (rows := []) (spot := .tup [.int 0, .int 0]) h hi hm.l1 (by simp)
  have e3 := stepdone_ok n h hi hm
  have ef := enum_flat (s.run m) 0
  obtain ⟨t, ht⟩ := repr_two (run_mem h hm)
  simp [d_law_right_b, callV, e1, e2, e3, ef, enum_vals, ht, dispD]
def ar4B (q : A4) : Bool := decide (0 ≤ q.1) && decide (1 ≤ q.2.1) && decide (1 ≤ q.2.2.1) && decide (q.2.1 ≤ q.2.2.2) && (q.2.2.1 != 1 || decide (q.2.2.2 = q.2.1)) && decide (q.1 + (q.2.2.1 - 1) * q.2.2.2 + q.2.1 ≤ 1024) && decide (q.2.2.1 * q.2.1 ≤ 256)
theorem ok4_of {q : A4} (h : ar4B q = true) : Ok4 q := by
  unfold ar4B at h
  simp only [Bool.and_eq_true, Bool.or_eq_true, decide_eq_true_eq, bne_iff_ne] at h
  obtain ⟨⟨⟨⟨⟨⟨h1, h2⟩, h3⟩, h4⟩, h5⟩, h6⟩, h7⟩ := h
  exact ⟨h1, h2, h3, h4, fun e => h5.elim (fun z => absurd e z) id, h6, h7⟩
def inB (q : A4) (L : Int) : Bool := (c4 q).all fun x => decide (x < L)
theorem in_of {q : A4} {L : Int} (h : inB q L = true) : ∀ x ∈ c4 q, x < L := fun x hx => of_decide_eq_true (List.all_eq_true.mp h x hx)
def stpB (s : Stp) (L : Int) : Bool := match s with
  | .copy a b k => ar4B a && ar4B b && decide (z4 a = z4 b) && decide (0 ≤ k) && decide (k < z4 a) && inB a L && inB b L
  | .fill a b k => ar4B a && decide (0 ≤ b) && decide (b < 256) && decide (0 ≤ k) && decide (k < z4 a) && inB a L
  | .add a c => ar4B a && decide (0 ≤ c) && decide (c < 1024) && inB a L && decide (c < L)
  | _ => false
theorem stp_of {s : Stp} {L : Int} (h : stpB s L = true) : s.Ok ∧ s.In L := by
  cases s with
  | copy a b k =>
    simp only [stpB, Bool.and_eq_true, decide_eq_true_eq] at h
    obtain ⟨⟨⟨⟨⟨⟨h1, h2⟩, h3⟩, h4⟩, h5⟩, h6⟩, h7⟩ := h
    exact ⟨⟨ok4_of h1, ok4_of h2, h3, h4, h5⟩, in_of h6, in_of h7⟩
  | fill a b k =>
    simp only [stpB, Bool.and_eq_true, decide_eq_true_eq] at h
    obtain ⟨⟨⟨⟨⟨h1, h2⟩, h3⟩, h4⟩, h5⟩, h6⟩ := h
    exact ⟨⟨ok4_of h1, h2, h3, h4, h5⟩, in_of h6⟩
  | add a c =>
    simp only [stpB, Bool.and_eq_true, decide_eq_true_eq] at h
    obtain ⟨⟨⟨⟨h1, h2⟩, h3⟩, h4⟩, h5⟩ := h
    exact ⟨⟨ok4_of h1, h2, h3⟩, in_of h4, h5⟩
  | _ => cases h
def memB (m : List Int) : Bool := (m.all fun x => decide (0 ≤ x) && decide (x < 256)) && decide (1 ≤ m.length) && decide (m.length ≤ 1024)
theorem mem_of {m : List Int} (h : memB m = true) : MemOk m := by
  simp only [memB, Bool.and_eq_true, decide_eq_true_eq, List.all_eq_true] at h
  exact ⟨h.1.1, h.1.2, h.2⟩
/-! ### by hand -/
def hM : List Int := (iota 0 1024).map fun k => k * 7 % 256
def hL1 : List Stp := [.copy (0, 256, 1, 256) (1, 256, 1, 256) 0, .copy (768, 256, 1, 256) (700, 256, 1, 256) 255]
def hL2 : List Stp := [.copy (0, 1, 16, 60) (3, 16, 1, 16) 0, .fill (0, 4, 64, 15) 255 3]
def hL3 : List Stp := [.add (0, 128, 2, 512) 1023, .add (1023, 1, 1, 1) 1023]
def hL4 : List Stp := [.copy (5, 1, 1, 1) (5, 1, 1, 1) 0, .copy (100, 2, 3, 2) (98, 3, 2, 4) 1]
def hL : List Stp := hL1 ++ hL2 ++ hL3 ++ hL4
theorem h_len : hM.length = 1024 := by rw [hM, List.length_map, iota_len]
theorem h_m : MemOk hM := ⟨fun x hx => by
    obtain ⟨k, _, rfl⟩ := List.mem_map.mp hx
    exact ⟨Int.emod_nonneg _ (by omega), Int.emod_lt_of_pos _ (by omega)⟩, by rw [h_len]; omega, by rw [h_len]; omega⟩
theorem h_l : ∀ s ∈ hL, s.Ok ∧ s.In 1024 := fun s hs => stp_of (List.all_eq_true.mp (show (hL.all fun s => stpB s 1024) = true by decide +kernel) s hs)
theorem h_c0 (n : Nat) : ev (P.den n) d_law_by_hand_right_c0 [none, none, none, none] = some ((.own 1, .lst (hM.map .int)), [none, none, none, none]) := by
  have rg : inRange 1024 = true := by decide
  simp [d_law_by_hand_right_c0, rg, ints_iota]
  rw [compL_of1 (g := fun k => .int (k * 7 % 256))]
  · have f : fitsLine 1024 = true := q_fits (by omega)
    simp [f, hM, Function.comp_def]
  · intro k hk
    simp (disch := first | omega | (simp; done) | (simp; omega)) []
theorem h_c1 (n : Nat) {d : Nat} {M : List Int} {L : List Stp} (hm : MemOk M) (h : ∀ s ∈ L, s.Ok ∧ s.In M.length) : ev (P.den (n + 8)) d_law_by_hand_right_c1 [some (0, .tup (M.map .int)), some (d, .lst (L.map Stp.v)), none, none] = some ((.own 1, .lst []), [some (0, .tup (M.map .int)), some (0, .lst (L.map Stp.v)), none, none]) := by
  simp [d_law_by_hand_right_c1]
  rw [compL_ofF (p := fun _ => false)]
  · have f : fitsLine 0 = true := q_fits (by omega)
    have ef : L.filter (fun _ => false) = [] := by simp
    simp [ef, f]
  · intro s hs
    simp [callV, right_ok n hm (h s hs).1 (h s hs).2]
theorem eq_nil : eqS (.lst []) (.lst []) = some true := by simp [eqS_same, Val.nb, nbs, Val.toD, toDs, PyData.depth, PyData.depthAll]
theorem one_ok (n : Nat) : (P.den (n + 8)).fn 33 [(0, .tup [.int 7]), (0, .tup [.str "fill", .tup [.int 0, .int 1, .int 1, .int 1], .int 0, .int 0])] = some ((0, .bl true), [none, none]) := by
  have hm : MemOk [7] := mem_of (by decide +kernel)
  have hs := stp_of (s := .fill (0, 1, 1, 1) 0 0) (L := 1) (by decide +kernel)
  have r := right_ok n (m := [7]) hm hs.1 (by simpa using hs.2)
  simpa [Stp.v, v4, arV] using r
theorem fits4 {a b : Nat} (h : a + b ≤ 1000) : fitsLine (a + b) = true := q_fits (by omega)
theorem hand_ok (n : Nat) : (P.den (n + 9)).fn 34 [] = some ((0, .bl true), []) := by
  have lm := h_len
  have hm := h_m
  have hl := h_l
  have c0 := h_c0 (n + 8)
  have c1 := fun d => h_c1 n (d := d) (M := hM) (L := hL) hm (by rw [lm]; exact hl)
  have e1 := one_ok n
  clear hl hm
  generalize hM = M at *
  obtain ⟨r, fin, e, q⟩ := Runs.fn (P := P) (n := n + 8) (f := 34) (d := d_law_by_hand_right) (rs := []) (Q := fun r f => r = (0, .bl true) ∧ f = []) rfl rfl (by
    show Runs (P.den (n + 8)) d_law_by_hand_right_b [none, none, none, none] _
    unfold d_law_by_hand_right_b
    refine Runs.step (S' := [some (0, .tup (M.map .int)), none, none, none]) (by simp [c0]) ?_
    refine Runs.step (S' := [some (0, .tup (M.map .int)), some (1, .lst (hL1.map Stp.v)), none, none]) (by simp [hL1, Stp.v, v4, arV, dispD]) ?_
    refine Runs.step (S' := [some (0, .tup (M.map .int)), some (1, .lst ((hL1 ++ hL2).map Stp.v)), none, none]) (by
      have f := fits4 (a := 2) (b := 2) (by omega)
      simp [hL1, hL2, Stp.v, v4, arV, dispD, f]) ?_
    refine Runs.step (S' := [some (0, .tup (M.map .int)), some (1, .lst ((hL1 ++ hL2 ++ hL3).map Stp.v)), none, none]) (by
      have f := fits4 (a := 4) (b := 2) (by omega)
      simp [hL1, hL2, hL3, Stp.v, v4, arV, dispD, f]) ?_
    refine Runs.step (S' := [some (0, .tup (M.map .int)), some (1, .lst (hL.map Stp.v)), none, none]) (by
      have f := fits4 (a := 6) (b := 2) (by omega)
      simp [hL, hL1, hL2, hL3, hL4, Stp.v, v4, arV, dispD, f]) ?_
    generalize hL = L at *
    refine Runs.ret (r := (0, .bl true)) (S' := [some (0, .tup (M.map .int)), some (0, .lst (L.map Stp.v)), none, none]) ?_ ⟨rfl, rfl⟩
    simp [c1, eq_nil, callV, e1])
  rw [e, q.1, q.2]
end K09
namespace K09
open PySem PySem.Spec PyProof.Rows L2 BV
/-- calls of closed things: the callee stays closed to the kernel -/
theorem nocall {D : Den} {f : Nat} {S : Slots} {r : R} (h : D.fn f [] = some (r, [])) : callV D f [] [] .nil .nil S = some ((.own r.1, r.2), S) := by
  simp [callV, h]
theorem last_gen {D : Den} {S : Slots} {c : Nat} {x : Str} {np p q : Pos} {v : Val} (e : ev D (.call c x np .nil .nil p) S = some ((.own 0, v), S)) : ex D (.ret (.call c x np .nil .nil p) q) S = some (.rt (0, v) S) := by
  simp [e]
theorem last_ok (n : Nat) {S : Slots} {x : Str} {np p q : Pos} : ex (P.den (n + 9)) (.ret (.call 36 x np .nil .nil p) q) S = some (.rt (0, .bl true) S) := last_gen (by rw [cl_36]; exact nocall (hand_ok n))
theorem rng_gen {D : Den} {S : Slots} {a : CE} {np p : Pos} {i : Int} (h : ev D a S = some ((.own 0, .int i), S)) (hr : inRange i = true) : evI D (.rng1 np a p) S = some (intsFrom 0 i.toNat, S) := by
  simp [h, hr]
theorem rng_nat {D : Den} {S : Slots} {a : CE} {np p : Pos} {K : Nat} (h : ev D a S = some ((.own 0, .int (K : Int)), S)) (hr : inRange (K : Int) = true) : evI D (.rng1 np a p) S = some (intsFrom 0 K, S) := rng_gen h hr
theorem if_gen (k : Nat) : ∃ K : Nat, K ≤ 10 ∧ bltV .max2 [.int 1, .int (if (k : Int) < 10 then (k : Int) else 10)] = some (0, .int K) ∧ inRange (K : Int) = true := by
  have g : ∃ K : Nat, K ≤ 10 ∧ (if 1 < (if (k : Int) < 10 then (k : Int) else 10) then (if (k : Int) < 10 then (k : Int) else 10) else 1) = (K : Int) := by
    refine ⟨(if 1 < (if (k : Int) < 10 then (k : Int) else 10) then (if (k : Int) < 10 then (k : Int) else 10) else 1).toNat, ?_, ?_⟩ <;> (repeat' split) <;> omega
  obtain ⟨K, a, b⟩ := g
  exact ⟨K, a, by rw [← b]; rfl, decide_eq_true (by omega)⟩
theorem kept_of {m : List Int} (h : MemOk m) : ∃ t, reprV (.tup (m.map .int)) = some t := by
  have z := (sz_ints (l := m) (d := 0) fun x hx => by have := h.b x hx; omega).tup
  exact ⟨_, reprs (z.shows (by have := h.l1; omega) (by omega))⟩
theorem turn_ok (n : Nat) {c : Int} {v : Val} {m : List Int} {t : Str} {a0 a1 : Option R} (g : Stm c v) (hc : c < 500000) (hm : MemOk m) (m0 : 8 ≤ m.length) (m1 : m.length ≤ 40) (ht : reprV (.tup (m.map .int)) = some t) (j : Nat) : ∃ v', Stm (c + 16) v' ∧
    exs (P.den (n + 9)) d_law_l0 [a0, a1, some (1, v), some (0, .tup (m.map .int)), some (0, .str t), some (0, .int j)] = some (.nx [a0, a1, some (1, v'), some (0, .tup (m.map .int)), some (0, .str t), some (0, .int j)]) := by
  obtain ⟨s, v3, a, b, g3, e3⟩ := step_draw (n + 3) (top := m.length) (hand := (j : Int) % 2) (calm := false) g (by omega) (by omega) (by omega) (by omega) (by omega)
  have e4 := right_ok (n + 1) hm a b
  refine ⟨v3, g3.up (by omega), ?_⟩
  simp [d_law_l0, callV, e3, e4, ht]
theorem cell_ok (n : Nat) (ns : List Int) (hl : ns.length ≤ 63) (i : Nat) (hi : i < 60) {b2 b3 b4 b5 : Option R} : Runs (P.den (n + 9)) d_law_l1 [some (0, .lst (ns.map Val.int)), some (0, .int i), b2, b3, b4, b5] fun o => ∃ b2 b3 b4 b5, o = .nx [some (0, .lst (ns.map Val.int)), some (0, .int i), b2, b3, b4, b5] := by
  unfold d_law_l1
  obtain ⟨v, g, e1⟩ := begun_ok (n + 8) ns hl (k := (i : Int)) (by omega) (by omega)
  refine Runs.step (S' := [some (0, .lst (ns.map Val.int)), some (0, .int i), some (1, v), b3, b4, b5]) (by simp [callV, e1]) ?_
  obtain ⟨m, v2, hm, m0, m1, g2, e2⟩ := store_draw (n + 5) g (by omega)
  refine Runs.step (S' := [some (0, .lst (ns.map Val.int)), some (0, .int i), some (1, v2), some (0, .tup (m.map .int)), b4, b5]) (by simp [callV, e2]) ?_
  obtain ⟨t, ht⟩ := kept_of hm
  refine Runs.step (S' := [some (0, .lst (ns.map Val.int)), some (0, .int i), some (1, v2), some (0, .tup (m.map .int)), some (0, .str t), b5]) (by simp [ht]) ?_
  refine Runs.loop (I := fun j S => ∃ v' c' b5, S = [some (0, .lst (ns.map Val.int)), some (0, .int i), some (1, v'), some (0, .tup (m.map .int)), some (0, .str t), b5] ∧ Stm c' v' ∧ c' ≤ 4000 + 200 * j) (vs := intsFrom 0 12) (S1 := [some (0, .lst (ns.map Val.int)), some (0, .int i), some (1, v2), some (0, .tup (m.map .int)), some (0, .str t), b5]) (by
    have hr : inRange 12 = true := by decide
    simp [hr]) ⟨v2, _, _, rfl, g2, by omega⟩ ?_ ?_
  · rintro j it S hv ⟨v', c', b5', rfl, g', hc'⟩
    obtain ⟨rfl, hj⟩ := ints_get hv
    rw [Int.zero_add]
    refine ⟨_, rfl, ?_⟩
    obtain ⟨v4', g4, e4⟩ := turn_ok n (a0 := some (0, .lst (ns.map Val.int))) (a1 := some (0, .int i)) g' (by omega) hm m0 m1 ht j
    exact ⟨_, e4, v4', _, _, rfl, g4, by omega⟩
  · rintro S ⟨v', c', b5', rfl, g', hc'⟩
    exact Runs.nil ⟨_, _, _, _, rfl⟩
theorem law_ok (n : Nat) (ns : List Int) (hl : ns.length ≤ 63) : ∃ dd fin, (P.den (n + 10)).fn 35 [(0, .lst (ns.map Val.int))] = some ((dd, .bl true), fin) := by
  obtain ⟨⟨dd, r⟩, fin, e, q⟩ := Runs.fn (P := P) (n := n + 9) (f := 35) (d := d_law) (rs := [(0, .lst (ns.map Val.int))]) (Q := fun r _ => r.2 = .bl true) rfl rfl (by
    show Runs (P.den (n + 9)) d_law_b [some (0, .lst (ns.map Val.int)), none, none, none, none, none] _
    unfold d_law_b
    obtain ⟨K, hK, mm, hr⟩ := if_gen ns.length
    refine Runs.loop (I := fun _ S => ∃ b1 b2 b3 b4 b5, S = [some (0, .lst (ns.map Val.int)), b1, b2, b3, b4, b5]) (vs := intsFrom 0 K) (S1 := [some (0, .lst (ns.map Val.int)), none, none, none, none, none]) ?_ ⟨_, _, _, _, _, rfl⟩ ?_ ?_
    · exact rng_nat (by simp [mm, -q_max]) hr
    · rintro i it S hv ⟨b1, b2, b3, b4, b5, rfl⟩
      obtain ⟨rfl, hi⟩ := ints_get hv
      rw [Int.zero_add]
      refine ⟨_, rfl, ?_⟩
      obtain ⟨o, e, b2', b3', b4', b5', rfl⟩ := cell_ok n ns hl i (by omega) (b2 := b2) (b3 := b3) (b4 := b4) (b5 := b5)
      exact ⟨_, e, _, _, _, _, _, rfl⟩
    · rintro S ⟨b1, b2, b3, b4, b5, rfl⟩
      exact Runs.ret (r := (0, .bl true)) (S' := [some (0, .lst (ns.map Val.int)), b1, b2, b3, b4, b5]) (last_ok n) rfl)
  have q : r = .bl true := q
  subst q
  exact ⟨dd, fin, e⟩
end K09
open PySem PySem.W PySem.Calls PyProof.Rows in
theorem PySem.Challenge.cw_haulring_k09_steps_done_holds : PySem.Challenge.rw_haulring_k09_steps_done.Holds := by
  w_on; o_law
  refine HandSHeadRun.head_any (r := K09.Rr) (q := view K09.Rr.prog [67]) (H := K09.hk) (ob := K09.ob) (M := 6000) (loose := K09.loose) (d := HandSHeadRun.topDef K09.Rr.prog 67) (kwd := []) K09.ob_eq
    (by kernel_rfl) (fun s => by kernel_rfl) K09.run (by kernel_rfl) (by kernel_rfl) (by kernel_rfl) (by rfl) (by first | assumption | decide +kernel) (by decide +kernel) ⟨rfl, rfl, rfl, rfl, rfl, by decide +kernel⟩ ?hw ?hc
  case hw => w_witness2
  case hc => exact K09.holds_by 20 ⟨rfl, by decide, by decide⟩ fun ns h _ => K09.law_ok 10 ns h
