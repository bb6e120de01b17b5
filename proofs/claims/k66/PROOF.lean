import PyProof.Rows.All
import Wide.All
import OpenK.AllK
import Wide.FinOn
import HandS.ForMost
import HandS.Walk
import HandS.IsInst
import HandS.Defaults
import HandS.TupLe
import HandS.TupMul
import HandS.TupAny
import HandS.Wide
import HandS.HeadEnd
import HandS.Flow
import HandS.Codes
import HandS.SortInts
import HandS.More
import HandS.Conv
import HandS.Zip
import HandS.Iter
import KE.GoesMore
import PyProof.EnumMake
import HandS.DictComp
import HandS.SetBool
import HandS.Strs
import KE.GoesEnumKw
import PyProof.ListNew
import PyProof.Rows.CallKwBuiltin
import HandS.Style
import HandS.Head0
import HandS.Head1
import HandS.Head2
import HandS.HeadHook1
import HandS.HeadHook2
import HandS.HeadHook3
import HandS.HeadHook4
import HandS.EndBits
import PySem.Challenge.RW_haulring_k66_whole_combs_by_rests
set_option Elab.async false
set_option linter.all false
set_option maxRecDepth 100000
set_option maxHeartbeats 4000000
/-! By-value Python: values as trees, who owns what, and what it means over the abstract heap of the hand layer. -/
namespace BV
open PySem PySem.Spec PyProof.Rows L2

inductive Val where
  | non | bl (b : Bool) | int (i : Int) | str (s : Str)
  | tup (xs : List Val) | lst (xs : List Val) | dic (kvs : List (Key × Val))

/-- no container that can be changed -/
def Val.flat : Val → Bool
  | .lst _ => false
  | .dic _ => false
  | _ => true

abbrev Frag := PySem.W.Frag
/-- a result: how deep it is its holder's own (0: shared for good), the value -/
abbrev R := Nat × Val
abbrev Slots := List (Option R)

/-- a list that may be read: one of the heap, or the module's own -/
def RdL (K : Frag) (H : Hp) (a : Addr) (ys : List V) : Prop := Rd H a (.lst ys) ∨
  ∃ (its : List Value) (n : Nat), K.lookup a = some { cls := .type "list", data := .seq its.toArray n } ∧ ys.length ≤ sizeLine ∧ Vals ys its
mutual
inductive Rep (K : Frag) (Hf : Hp) : Val → V → Prop
  | non : Rep K Hf .non .non
  | bl (b : Bool) : Rep K Hf (.bl b) (.bl b)
  | int (i : Int) : Rep K Hf (.int i) (.int i)
  | str (s : Str) : Rep K Hf (.str s) (.str s)
  | tup {a : Addr} {xs : List Val} {ys : List V} : SqT K Hf a ys → RepL K Hf xs ys → Rep K Hf (.tup xs) (.ref a)
  | lst {a : Addr} {xs : List Val} {ys : List V} : RdL K Hf a ys → RepL K Hf xs ys → Rep K Hf (.lst xs) (.ref a)
  | dic {a : Addr} {kvs : List (Key × Val)} {ks : List (Key × V)} : Hf a = some (.dK ks) → RepK K Hf kvs ks → Rep K Hf (.dic kvs) (.ref a)
inductive RepL (K : Frag) (Hf : Hp) : List Val → List V → Prop
  | nil : RepL K Hf [] []
  | cons {v : Val} {x : V} {vs : List Val} {xs : List V} : Rep K Hf v x → RepL K Hf vs xs → RepL K Hf (v :: vs) (x :: xs)
inductive RepK (K : Frag) (Hf : Hp) : List (Key × Val) → List (Key × V) → Prop
  | nil : RepK K Hf [] []
  | cons {k : Key} {v : Val} {x : V} {vs : List (Key × Val)} {xs : List (Key × V)} : Rep K Hf v x → RepK K Hf vs xs → RepK K Hf ((k, v) :: vs) ((k, x) :: xs)
end

def HSub (H H' : Hp) : Prop := ∀ a o, H a = some o → H' a = some o
theorem HSub.refl (H : Hp) : HSub H H := fun _ _ e => e
theorem HSub.trans {H H1 H2 : Hp} (a : HSub H H1) (b : HSub H1 H2) : HSub H H2 := fun x o e => b x o (a x o e)
theorem HSub.upd {H : Hp} {p : Addr} {o : HO} (h : H p = none) : HSub H (upd H p o) := fun b u e => by
  rw [upd_ne (ne_of_none e h)]; exact e
theorem rd_mono {H H' : Hp} (s : HSub H H') {a : Addr} {u : HO} (h : Rd H a u) : Rd H' a u := by
  rcases h with h | ⟨o, h⟩
  · exact .inl (s _ _ h)
  · exact .inr ⟨o, s _ _ h⟩
theorem sqT_mono {K : Frag} {H H' : Hp} (s : HSub H H') {a : Addr} {xs : List V} (h : SqT K H a xs) : SqT K H' a xs := by
  rcases h with h | h
  · exact .inl (rd_mono s h)
  · exact .inr h
theorem sqL_mono {K : Frag} {H H' : Hp} (s : HSub H H') {a : Addr} {xs : List V} (h : SqL K H a xs) : SqL K H' a xs := by
  rcases h with h | h
  · exact .inl (rd_mono s h)
  · exact .inr h
theorem rdL_mono {K : Frag} {H H' : Hp} (s : HSub H H') {a : Addr} {xs : List V} (h : RdL K H a xs) : RdL K H' a xs := by
  rcases h with h | h
  · exact .inl (rd_mono s h)
  · exact .inr h
theorem RdL.sq {K : Frag} {H : Hp} {a : Addr} {xs : List V} (h : RdL K H a xs) : SqL K H a xs := by
  rcases h with h | ⟨its, n, h1, h2, h3⟩
  · exact .inl h
  · exact .inr ⟨_, its.toArray, n, h1, rfl, rfl, rfl, by rw [List.size_toArray, ← h3.length]; exact h2, by simpa using h3⟩
theorem RdL.obj {X : Cx} {pins : List (Addr × Obj)} {σ : L2.St} {H : Hp} {s : Shared} {a : Addr} {xs : List V} (I : Inv X pins σ H s) (h : RdL X.K H a xs) :
    xs.length ≤ sizeLine ∧ ∃ (its : List Value) (n : Nat), Vals xs its ∧ s.heap.get? a = some { cls := .type "list", data := .seq its.toArray n } := by
  rcases h with h | ⟨its, n, h1, h2, h3⟩
  · obtain ⟨z, its, n, r, e⟩ := h.ok I.hok
    exact ⟨z, its, n, r, e⟩
  · exact ⟨h2, its, n, h3, I.kIn a _ h1⟩
mutual
theorem Rep.mono {K : Frag} {H H' : Hp} (s : HSub H H') : ∀ {v : Val} {x : V}, Rep K H v x → Rep K H' v x
  | _, _, .non => .non
  | _, _, .bl b => .bl b
  | _, _, .int i => .int i
  | _, _, .str x => .str x
  | _, _, .tup h r => .tup (sqT_mono s h) (RepL.mono s r)
  | _, _, .lst h r => .lst (rdL_mono s h) (RepL.mono s r)
  | _, _, .dic h r => .dic (s _ _ h) (RepK.mono s r)
theorem RepL.mono {K : Frag} {H H' : Hp} (s : HSub H H') : ∀ {v : List Val} {x : List V}, RepL K H v x → RepL K H' v x
  | _, _, .nil => .nil
  | _, _, .cons h r => .cons (Rep.mono s h) (RepL.mono s r)
theorem RepK.mono {K : Frag} {H H' : Hp} (s : HSub H H') : ∀ {v : List (Key × Val)} {x : List (Key × V)}, RepK K H v x → RepK K H' v x
  | _, _, .nil => .nil
  | _, _, .cons h r => .cons (Rep.mono s h) (RepK.mono s r)
end
section
variable {K : Frag} {H : Hp}
theorem RepL.length : ∀ {vs : List Val} {xs : List V}, RepL K H vs xs → xs.length = vs.length
  | _, _, .nil => rfl
  | _, _, .cons _ r => congrArg Nat.succ (RepL.length r)
theorem RepL.append : ∀ {vs ws : List Val} {xs ys : List V}, RepL K H vs xs → RepL K H ws ys → RepL K H (vs ++ ws) (xs ++ ys)
  | _, _, _, _, .nil, s => s
  | _, _, _, _, .cons h r, s => .cons h (RepL.append r s)
theorem RepL.get : ∀ {vs : List Val} {xs : List V} {i : Nat} {v : Val}, RepL K H vs xs → vs[i]? = some v → ∃ x, xs[i]? = some x ∧ Rep K H v x
  | _, _, _, _, .nil, e => by simp at e
  | _, _, 0, _, .cons h _, e => by simp at e; subst e; exact ⟨_, rfl, h⟩
  | _, _, i + 1, v, .cons _ t, e => by
    obtain ⟨u, h1, h2⟩ := RepL.get (i := i) (v := v) t (by simpa using e)
    exact ⟨u, by simpa using h1, h2⟩
theorem RepL.take : ∀ {vs : List Val} {xs : List V} (n : Nat), RepL K H vs xs → RepL K H (vs.take n) (xs.take n)
  | _, _, 0, _ => .nil
  | _, _, _ + 1, .nil => .nil
  | _, _, n + 1, .cons r t => .cons r (RepL.take n t)
theorem RepL.drop : ∀ {vs : List Val} {xs : List V} (n : Nat), RepL K H vs xs → RepL K H (vs.drop n) (xs.drop n)
  | _, _, 0, r => r
  | _, _, _ + 1, .nil => .nil
  | _, _, n + 1, .cons _ t => RepL.drop n t
theorem RepL.set {v : Val} {x : V} (r : Rep K H v x) : ∀ {vs : List Val} {xs : List V} (i : Nat), RepL K H vs xs → RepL K H (vs.set i v) (xs.set i x)
  | _, _, _, .nil => .nil
  | _, _, 0, .cons _ t => .cons r t
  | _, _, i + 1, .cons q t => .cons q (RepL.set r i t)
theorem RepL.rep {v : Val} {x : V} (r : Rep K H v x) : ∀ n, RepL K H (List.replicate n v) (List.replicate n x)
  | 0 => .nil
  | n + 1 => .cons r (RepL.rep r n)
theorem RepL.reverse : ∀ {vs : List Val} {xs : List V}, RepL K H vs xs → RepL K H vs.reverse xs.reverse
  | _, _, .nil => .nil
  | _, _, .cons h r => by
    rw [List.reverse_cons, List.reverse_cons]
    exact (RepL.reverse r).append (.cons h .nil)
end

/-! ### who owns what -/
mutual
inductive Own (K : Frag) (Hf H : Hp) : Nat → Val → V → List Addr → Prop
  | frz {d : Nat} {v : Val} {x : V} : (d = 0 ∨ v.flat = true) → Rep K Hf v x → Own K Hf H d v x []
  | lst {d : Nat} {a : Addr} {xs : List Val} {ys : List V} {F : List Addr} : H a = some (.lst ys) → OwnL K Hf H d xs ys F → Own K Hf H (d + 1) (.lst xs) (.ref a) (a :: F)
  | dic {d : Nat} {a : Addr} {kvs : List (Key × Val)} {ks : List (Key × V)} {F : List Addr} : H a = some (.dK ks) → OwnK K Hf H d kvs ks F → Own K Hf H (d + 1) (.dic kvs) (.ref a) (a :: F)
inductive OwnL (K : Frag) (Hf H : Hp) : Nat → List Val → List V → List Addr → Prop
  | nil {d : Nat} : OwnL K Hf H d [] [] []
  | cons {d : Nat} {v : Val} {x : V} {vs : List Val} {xs : List V} {F G : List Addr} : Own K Hf H d v x F → OwnL K Hf H d vs xs G → OwnL K Hf H d (v :: vs) (x :: xs) (F ++ G)
inductive OwnK (K : Frag) (Hf H : Hp) : Nat → List (Key × Val) → List (Key × V) → List Addr → Prop
  | nil {d : Nat} : OwnK K Hf H d [] [] []
  | cons {d : Nat} {k : Key} {v : Val} {x : V} {vs : List (Key × Val)} {xs : List (Key × V)} {F G : List Addr} : Own K Hf H d v x F → OwnK K Hf H d vs xs G → OwnK K Hf H d ((k, v) :: vs) ((k, x) :: xs) (F ++ G)
end
section
variable {K : Frag} {Hf Hf' H H' : Hp}
mutual
theorem Own.mono (s : HSub Hf Hf') : ∀ {d : Nat} {v : Val} {x : V} {F : List Addr}, Own K Hf H d v x F → (∀ a ∈ F, ∀ o, H a = some o → H' a = some o) → Own K Hf' H' d v x F
  | _, _, _, _, .frz h r, _ => .frz h (r.mono s)
  | _, _, _, _, .lst h r, k => .lst (k _ (List.mem_cons_self ..) _ h) (OwnL.mono s r fun a ha => k a (List.mem_cons_of_mem _ ha))
  | _, _, _, _, .dic h r, k => .dic (k _ (List.mem_cons_self ..) _ h) (OwnK.mono s r fun a ha => k a (List.mem_cons_of_mem _ ha))
theorem OwnL.mono (s : HSub Hf Hf') : ∀ {d : Nat} {v : List Val} {x : List V} {F : List Addr}, OwnL K Hf H d v x F → (∀ a ∈ F, ∀ o, H a = some o → H' a = some o) → OwnL K Hf' H' d v x F
  | _, _, _, _, .nil, _ => .nil
  | _, _, _, _, .cons h r, k => .cons (Own.mono s h fun a ha => k a (List.mem_append_left _ ha)) (OwnL.mono s r fun a ha => k a (List.mem_append_right _ ha))
theorem OwnK.mono (s : HSub Hf Hf') : ∀ {d : Nat} {v : List (Key × Val)} {x : List (Key × V)} {F : List Addr}, OwnK K Hf H d v x F → (∀ a ∈ F, ∀ o, H a = some o → H' a = some o) → OwnK K Hf' H' d v x F
  | _, _, _, _, .nil, _ => .nil
  | _, _, _, _, .cons h r, k => .cons (Own.mono s h fun a ha => k a (List.mem_append_left _ ha)) (OwnK.mono s r fun a ha => k a (List.mem_append_right _ ha))
end
mutual
/-- what is owned stands in the heap -/
theorem Own.dom : ∀ {d : Nat} {v : Val} {x : V} {F : List Addr}, Own K Hf H d v x F → ∀ a ∈ F, ∃ o, H a = some o
  | _, _, _, _, .frz _ _, a, h => by cases h
  | _, _, _, _, .lst e r, a, h => (List.mem_cons.mp h).elim (fun z => by rw [z]; exact ⟨_, e⟩) fun z => OwnL.dom r a z
  | _, _, _, _, .dic e r, a, h => (List.mem_cons.mp h).elim (fun z => by rw [z]; exact ⟨_, e⟩) fun z => OwnK.dom r a z
theorem OwnL.dom : ∀ {d : Nat} {v : List Val} {x : List V} {F : List Addr}, OwnL K Hf H d v x F → ∀ a ∈ F, ∃ o, H a = some o
  | _, _, _, _, .nil, a, h => by cases h
  | _, _, _, _, .cons e r, a, h => (List.mem_append.mp h).elim (fun z => Own.dom e a z) fun z => OwnL.dom r a z
theorem OwnK.dom : ∀ {d : Nat} {v : List (Key × Val)} {x : List (Key × V)} {F : List Addr}, OwnK K Hf H d v x F → ∀ a ∈ F, ∃ o, H a = some o
  | _, _, _, _, .nil, a, h => by cases h
  | _, _, _, _, .cons e r, a, h => (List.mem_append.mp h).elim (fun z => Own.dom e a z) fun z => OwnK.dom r a z
end
mutual
/-- readable in any heap that has the shared part and what is owned -/
theorem Own.rep (s : HSub Hf H') : ∀ {d : Nat} {v : Val} {x : V} {F : List Addr}, Own K Hf H d v x F → (∀ a ∈ F, ∀ o, H a = some o → H' a = some o) → Rep K H' v x
  | _, _, _, _, .frz _ r, _ => r.mono s
  | _, _, _, _, .lst h r, k => .lst (.inl (.inl (k _ (List.mem_cons_self ..) _ h))) (OwnL.rep s r fun a ha => k a (List.mem_cons_of_mem _ ha))
  | _, _, _, _, .dic h r, k => .dic (k _ (List.mem_cons_self ..) _ h) (OwnK.rep s r fun a ha => k a (List.mem_cons_of_mem _ ha))
theorem OwnL.rep (s : HSub Hf H') : ∀ {d : Nat} {v : List Val} {x : List V} {F : List Addr}, OwnL K Hf H d v x F → (∀ a ∈ F, ∀ o, H a = some o → H' a = some o) → RepL K H' v x
  | _, _, _, _, .nil, _ => .nil
  | _, _, _, _, .cons h r, k => .cons (Own.rep s h fun a ha => k a (List.mem_append_left _ ha)) (OwnL.rep s r fun a ha => k a (List.mem_append_right _ ha))
theorem OwnK.rep (s : HSub Hf H') : ∀ {d : Nat} {v : List (Key × Val)} {x : List (Key × V)} {F : List Addr}, OwnK K Hf H d v x F → (∀ a ∈ F, ∀ o, H a = some o → H' a = some o) → RepK K H' v x
  | _, _, _, _, .nil, _ => .nil
  | _, _, _, _, .cons h r, k => .cons (Own.rep s h fun a ha => k a (List.mem_append_left _ ha)) (OwnK.rep s r fun a ha => k a (List.mem_append_right _ ha))
end
end

/-- a slot -/
inductive Plc (K : Frag) (Hf H : Hp) : Option R → Option V → List Addr → Prop
  | no {y : Option V} : Plc K Hf H none y []
  | is {d : Nat} {v : Val} {x : V} {F : List Addr} : Own K Hf H d v x F → Plc K Hf H (some (d, v)) (some x) F
inductive Plcs (K : Frag) (Hf H : Hp) : Slots → L2.St → List Addr → Prop
  | nil : Plcs K Hf H [] [] []
  | cons {p : Option R} {y : Option V} {P : Slots} {ys : L2.St} {F G : List Addr} : Plc K Hf H p y F → Plcs K Hf H P ys G → Plcs K Hf H (p :: P) (y :: ys) (F ++ G)
section
variable {K : Frag} {Hf Hf' H H' : Hp}
theorem Plc.mono (s : HSub Hf Hf') {p : Option R} {y : Option V} {F : List Addr} (h : Plc K Hf H p y F) (k : ∀ a ∈ F, ∀ o, H a = some o → H' a = some o) : Plc K Hf' H' p y F := by
  cases h with
  | no => exact .no
  | is h => exact .is (h.mono s k)
theorem Plc.dom {p : Option R} {y : Option V} {F : List Addr} (h : Plc K Hf H p y F) : ∀ a ∈ F, ∃ o, H a = some o := by
  cases h with
  | no => intro a h; cases h
  | is h => exact h.dom
theorem Plcs.mono (s : HSub Hf Hf') : ∀ {P : Slots} {ys : L2.St} {F : List Addr}, Plcs K Hf H P ys F → (∀ a ∈ F, ∀ o, H a = some o → H' a = some o) → Plcs K Hf' H' P ys F
  | _, _, _, .nil, _ => .nil
  | _, _, _, .cons h r, k => .cons (h.mono s fun a ha => k a (List.mem_append_left _ ha)) (Plcs.mono s r fun a ha => k a (List.mem_append_right _ ha))
theorem Plcs.dom : ∀ {P : Slots} {ys : L2.St} {F : List Addr}, Plcs K Hf H P ys F → ∀ a ∈ F, ∃ o, H a = some o
  | _, _, _, .nil, a, h => by cases h
  | _, _, _, .cons e r, a, h => (List.mem_append.mp h).elim (fun z => e.dom a z) fun z => Plcs.dom r a z
theorem Plcs.length : ∀ {P : Slots} {ys : L2.St} {F : List Addr}, Plcs K Hf H P ys F → ys.length = P.length
  | _, _, _, .nil => rfl
  | _, _, _, .cons _ r => congrArg Nat.succ (Plcs.length r)
/-- slot i apart from the others -/
theorem Plcs.split : ∀ {P : Slots} {ys : L2.St} {F : List Addr} {i : Nat} {p : Option R}, Plcs K Hf H P ys F → P[i]? = some p →
    ∃ y F1 F2 F3, ys[i]? = some y ∧ F = F1 ++ F2 ++ F3 ∧ Plc K Hf H p y F2 ∧
      ∀ {Hf' H' : Hp} {q : Option R} {z : Option V} {G : List Addr}, HSub Hf Hf' → (∀ a, (a ∈ F1 ∨ a ∈ F3) → ∀ o, H a = some o → H' a = some o) → Plc K Hf' H' q z G → Plcs K Hf' H' (P.set i q) (ys.set i z) (F1 ++ G ++ F3)
  | _, _, _, _, _, .nil, e => by simp at e
  | _, _, _, 0, p, .cons (y := y) (F := F) (G := G) h r, e => by
    simp at e; subst e
    refine ⟨y, [], F, G, rfl, rfl, h, fun s k q => ?_⟩
    exact .cons q (r.mono s fun a ha => k a (.inr ha))
  | _, _, _, i + 1, p, .cons (y := y) (F := F) (G := G) h r, e => by
    obtain ⟨z, F1, F2, F3, e1, e2, e3, e4⟩ := Plcs.split (i := i) (p := p) r (by simpa using e)
    refine ⟨z, F ++ F1, F2, F3, by simpa using e1, by rw [e2]; simp, e3, fun s k q => ?_⟩
    have := Plcs.cons (h.mono s fun a ha => k a (.inl (List.mem_append_left _ ha))) (e4 s (fun a ha => k a (ha.elim (fun z => .inl (List.mem_append_right _ z)) .inr)) q)
    simpa using this
theorem Plcs.append : ∀ {P Q : Slots} {ys zs : L2.St} {F G : List Addr}, Plcs K Hf H P ys F → Plcs K Hf H Q zs G → Plcs K Hf H (P ++ Q) (ys ++ zs) (F ++ G)
  | _, _, _, _, _, _, .nil, q => q
  | _, _, _, _, _, _, .cons h r, q => by simpa using Plcs.cons h (Plcs.append r q)
end

/-- slots, heap, the shared part Hf, what is owned F -/
structure Rel (K : Frag) (Hf : Hp) (F : List Addr) (P : Slots) (ys : L2.St) (H : Hp) : Prop where
  sub : HSub Hf H
  nd : F.Nodup
  off : ∀ a ∈ F, Hf a = none
  plc : Plcs K Hf H P ys F
/-- from one moment to a later one -/
structure Step (Hf : Hp) (F : List Addr) (H Hf' : Hp) (F' : List Addr) (H' : Hp) : Prop where
  hf : HSub Hf Hf'
  fr : ∀ a o, H a = some o → a ∉ F → H' a = some o
  new : ∀ a o, H a = some o → a ∉ F → Hf' a = Hf a
  own : ∀ a ∈ F', a ∈ F ∨ H a = none
theorem Step.refl (Hf : Hp) (F : List Addr) (H : Hp) : Step Hf F H Hf F H := ⟨fun _ _ e => e, fun _ _ e _ => e, fun _ _ _ _ => rfl, fun _ h => .inl h⟩
theorem Step.trans {Hf Hf1 Hf2 : Hp} {F F1 F2 : List Addr} {H H1 H2 : Hp} (a : Step Hf F H Hf1 F1 H1) (b : Step Hf1 F1 H1 Hf2 F2 H2) : Step Hf F H Hf2 F2 H2 := by
  have nin : ∀ x o, H x = some o → x ∉ F → x ∉ F1 := fun x o e n h => by
    rcases a.own x h with z | z
    · exact n z
    · rw [z] at e; cases e
  refine ⟨a.hf.trans b.hf, fun x o e n => b.fr x o (a.fr x o e n) (nin x o e n), fun x o e n => ?_, fun x h => ?_⟩
  · rw [b.new x o (a.fr x o e n) (nin x o e n), a.new x o e n]
  · rcases b.own x h with z | z
    · exact a.own x z
    · by_cases hx : x ∈ F
      · exact .inl hx
      · cases q : H x with
        | none => exact .inr rfl
        | some o => rw [a.fr x o q hx] at z; cases z
section
variable {K : Frag} {Hf Hf' H H' : Hp} {F F' : List Addr} {P : Slots} {ys : L2.St}
/-- an own thing that is held beside -/
theorem Own.held {d : Nat} {v : Val} {x : V} {G : List Addr} (h : Own K Hf H d v x G) (s : Step Hf F H Hf' F' H') (n : ∀ a ∈ G, a ∉ F) (off : ∀ a ∈ G, Hf a = none) :
    Own K Hf' H' d v x G ∧ (∀ a ∈ G, a ∉ F') ∧ ∀ a ∈ G, Hf' a = none := by
  refine ⟨h.mono s.hf fun a ha o e => s.fr a o e (n a ha), fun a ha h' => ?_, fun a ha => ?_⟩
  · rcases s.own a h' with z | z
    · exact n a ha z
    · obtain ⟨o, e⟩ := h.dom a ha
      rw [e] at z; cases z
  · obtain ⟨o, e⟩ := h.dom a ha
    rw [s.new a o e (n a ha)]
    exact off a ha
/-- the shared part takes G in -/
def frzH (Hf H : Hp) (G : List Addr) : Hp := fun a => if a ∈ G then H a else Hf a
theorem frzH_sub {G : List Addr} (off : ∀ a ∈ G, Hf a = none) : HSub Hf (frzH Hf H G) := fun a o e => by
  unfold frzH
  split
  · rename_i h; rw [off a h] at e; cases e
  · exact e
theorem frzH_le {G : List Addr} (s : HSub Hf H) : HSub (frzH Hf H G) H := fun a o e => by
  unfold frzH at e
  split at e
  · exact e
  · exact s a o e
theorem frzH_in {G : List Addr} {a : Addr} (h : a ∈ G) : frzH Hf H G a = H a := by unfold frzH; rw [if_pos h]
theorem frzH_out {G : List Addr} {a : Addr} (h : a ∉ G) : frzH Hf H G a = Hf a := by unfold frzH; rw [if_neg h]
theorem Own.freeze {d : Nat} {v : Val} {x : V} {G : List Addr} (h : Own K Hf H d v x G) (off : ∀ a ∈ G, Hf a = none) : Rep K (frzH Hf H G) v x :=
  h.rep (frzH_sub off) fun a ha o e => by rw [frzH_in ha]; exact e
end
end BV
/-! The annotated syntax and its plain meaning. -/
namespace BV
open PySem PySem.Spec PyProof.Rows L2

inductive BF where
  | len | repr | all | any | tuple | list | sum | min2 | max2 | sorted | str | int | abs
def BF.name : BF → Str
  | .len => "len" | .repr => "repr" | .all => "all" | .any => "any" | .tuple => "tuple" | .list => "list" | .sum => "sum"
  | .min2 => "min" | .max2 => "max" | .sorted => "sorted" | .str => "str" | .int => "int" | .abs => "abs"
/-- the built-in types that are asked for -/
inductive TN where
  | int | bool | str | tuple | list | dict
def TN.name : TN → String
  | .int => "int" | .bool => "bool" | .str => "str" | .tuple => "tuple" | .list => "list" | .dict => "dict"
/-- where a parameter's value comes from: a written value, a keyword's, a default -/
inductive Src where
  | pos (i : Nat) | kw (i : Nat) | dfl (i : Nat)
mutual
inductive CT where
  | name (i : Nat) (x : Str) (p : Pos)
  | tup (ts : CTs) (k : Nat) (p : Pos)
inductive CTs where
  | nil | cons (t : CT) (ts : CTs)
end
mutual
inductive CE where
  | cst (c : Const) (k : Nat) (p : Pos)
  | var (i : Nat) (x : Str) (p : Pos)
  | brw (i : Nat) (x : Str) (p : Pos)
  | mov (i : Nat) (x : Str) (p : Pos)
  | ref (i : Nat) (x : Str) (p : Pos)
  | pth (i : Nat) (x : Str) (px : Pos) (k : CE) (p : Pos)
  | glb (x : Str) (p : Pos)
  | tup (es : CEs) (k : Nat) (p : Pos)
  | lst (es : CEs) (p : Pos)
  | dic0 (p : Pos)
  | bin (op : Operator) (a b : CE) (p : Pos)
  | neg (a : CE) (p : Pos)
  | nt (a : CE) (p : Pos)
  | bop (o : BoolOp) (es : CEs) (p : Pos)
  | cmp (op : CmpOp) (a b : CE) (p : Pos)
  | chn (op op' : CmpOp) (a b c : CE) (p : Pos)
  | ifx (c a b : CE) (p : Pos)
  | isi (a : CE) (T : TN) (np tp p : Pos)
  | blt (f : BF) (np : Pos) (es : CEs) (p : Pos)
  | call (c : Nat) (x : Str) (np : Pos) (es : CEs) (ks : CKs) (p : Pos)
  | idx (a i : CE) (p : Pos)
  | slc (a : CE) (lo hi : CO) (sp p : Pos)
  | lc (elt : CE) (t : CT) (it : CI) (ifs : CEs) (sc : Scope) (own : List (Str × Nat)) (p : Pos)
  | lc2 (elt : CE) (t : CT) (it : CI) (ifs : CEs) (t1 : CT) (it1 : CI) (ifs1 : CEs) (sc : Scope) (own : List (Str × Nat)) (vs1 : List Nat) (p : Pos)
  | popAt (i : Nat) (x : Str) (px : Pos) (k : CE) (pk : Pos) (j : CE) (pa p : Pos)
  | dcm (kx vx : CE) (t : CT) (it : CI) (ifs : CEs) (sc : Scope) (own : List (Str × Nat)) (p : Pos)
  | lrng (lp rp : Pos) (a b : CE) (pr p : Pos)
  | lzip (b : Bool) (lp zp : Pos) (x y : CE) (kp cp : Pos) (kk : Nat) (pz p : Pos)
  | dcp (dp xp : Pos) (x : Str) (p : Pos)
  | rev (a : CE) (k : Nat) (p1 p2 p3 p : Pos)
  | ssc (np : Pos) (elt : CE) (t : CT) (it : CI) (ifs : CEs) (t1 : CT) (it1 : CI) (ifs1 : CEs) (sc : Scope) (own : List (Str × Nat)) (vs1 : List Nat) (p q : Pos)
inductive CEs where
  | nil | cons (e : CE) (es : CEs)
inductive CKs where
  | nil | cons (x : Str) (e : CE) (p : Pos) (ks : CKs)
inductive CO where
  | no | is (e : CE)
inductive CI where
  | seq (e : CE)
  | rng1 (np : Pos) (a : CE) (p : Pos)
  | rng2 (np : Pos) (a b : CE) (p : Pos)
  | enum (np : Pos) (a : CE) (p : Pos)
  | zip (np : Pos) (a b : CE) (p : Pos)
end
mutual
inductive CS where
  | asg (t : CT) (e : CE) (p : Pos)
  | par (i j : Nat) (x y : Str) (px py : Pos) (kt : Nat) (pt : Pos) (a b : CE) (k2 : Nat) (p2 p : Pos)
  | setI (i : Nat) (x : Str) (px : Pos) (k e : CE) (tp p : Pos)
  | expr (e : CE) (p : Pos)
  | app (i : Nat) (x : Str) (px pa : Pos) (e : CE) (pc p : Pos)
  | aug (i : Nat) (x : Str) (px : Pos) (op : Operator) (e : CE) (p : Pos)
  | ife (c : CE) (a b : CSs) (p : Pos)
  | forr (t : CT) (it : CI) (body : CSs) (p : Pos)
  | ret (e : CE) (p : Pos)
  | retN (p : Pos)
  | pass (p : Pos)
  | brk (p : Pos)
  | cnt (p : Pos)
  | nvr (st : Stmt)
inductive CSs where
  | nil | cons (s : CS) (ss : CSs)
end

/-! ### the syntax that it stands for -/
/-- the keywords of a zip -/
def zipK (b : Bool) (kp cp : Pos) (kk : Nat) : List Keyword := if b then [⟨some "strict", .Constant (.bool true) kk cp, kp⟩] else []
mutual
def CT.py : CT → Expr
  | .name _ x p => .Name x p
  | .tup ts k p => .Tuple ts.py k p
def CTs.py : CTs → List Expr
  | .nil => []
  | .cons t ts => t.py :: ts.py
end
mutual
def CE.py : CE → Expr
  | .cst c k p => .Constant c k p
  | .var _ x p => .Name x p
  | .brw _ x p => .Name x p
  | .mov _ x p => .Name x p
  | .ref _ x p => .Name x p
  | .pth _ x px k p => .Subscript (.Name x px) k.py p
  | .glb x p => .Name x p
  | .tup es k p => .Tuple es.py k p
  | .lst es p => .List es.py p
  | .dic0 p => .Dict [] [] p
  | .bin op a b p => .BinOp a.py op b.py p
  | .neg a p => .UnaryOp .USub a.py p
  | .nt a p => .UnaryOp .Not a.py p
  | .bop o es p => .BoolOp o es.py p
  | .cmp op a b p => .Compare a.py [op] [b.py] p
  | .chn op op' a b c p => .Compare a.py [op, op'] [b.py, c.py] p
  | .ifx c a b p => .IfExp c.py a.py b.py p
  | .isi a T np tp p => .Call (.Name "isinstance" np) [a.py, .Name (Str.ofString T.name) tp] [] p
  | .blt f np es p => .Call (.Name f.name np) es.py [] p
  | .call _ x np es ks p => .Call (.Name x np) es.py ks.py p
  | .idx a i p => .Subscript a.py i.py p
  | .slc a lo hi sp p => .Subscript a.py (.Slice lo.py hi.py none sp) p
  | .lc elt t it ifs sc _ p => .ListComp elt.py [⟨t.py, it.py, ifs.py, 0⟩] sc p
  | .lc2 elt t it ifs t1 it1 ifs1 sc _ _ p => .ListComp elt.py [⟨t.py, it.py, ifs.py, 0⟩, ⟨t1.py, it1.py, ifs1.py, 0⟩] sc p
  | .popAt _ x px k pk j pa p => .Call (.Attribute (.Subscript (.Name x px) k.py pk) "pop" pa) [j.py] [] p
  | .dcm kx vx t it ifs sc _ p => .DictComp kx.py vx.py [⟨t.py, it.py, ifs.py, 0⟩] sc p
  | .ssc np elt t it ifs t1 it1 ifs1 sc _ _ p q => .Call (.Name "sorted" np) [.SetComp elt.py [⟨t.py, it.py, ifs.py, 0⟩, ⟨t1.py, it1.py, ifs1.py, 0⟩] sc p] [] q
  | .lzip b lp zp x y kp cp kk pz p => .Call (.Name "list" lp) [.Call (.Name "zip" zp) [x.py, y.py] (zipK b kp cp kk) pz] [] p
  | .dcp dp xp x p => .Call (.Name "dict" dp) [.Name x xp] [] p
  | .rev a k p1 p2 p3 p => .Subscript a.py (.Slice none none (some (.UnaryOp .USub (.Constant (.int 1) k p1) p2)) p3) p
  | .lrng lp rp a b pr p => .Call (.Name "list" lp) [.Call (.Name "range" rp) [a.py, b.py] [] pr] [] p
def CEs.py : CEs → List Expr
  | .nil => []
  | .cons e es => e.py :: es.py
def CKs.py : CKs → List Keyword
  | .nil => []
  | .cons x e p ks => ⟨some x, e.py, p⟩ :: ks.py
def CO.py : CO → Option Expr
  | .no => none
  | .is e => some e.py
def CI.py : CI → Expr
  | .seq e => e.py
  | .rng1 np a p => .Call (.Name "range" np) [a.py] [] p
  | .rng2 np a b p => .Call (.Name "range" np) [a.py, b.py] [] p
  | .enum np a p => .Call (.Name "enumerate" np) [a.py] [] p
  | .zip np a b p => .Call (.Name "zip" np) [a.py, b.py] [] p
end
mutual
def CS.py : CS → Stmt
  | .asg t e p => .Assign [t.py] e.py p
  | .par _ _ x y px py kt pt a b k2 p2 p => .Assign [.Tuple [.Name x px, .Name y py] kt pt] (.Tuple [a.py, b.py] k2 p2) p
  | .setI _ x px k e tp p => .Assign [.Subscript (.Name x px) k.py tp] e.py p
  | .expr e p => .Expr e.py p
  | .app _ x px pa e pc p => .Expr (.Call (.Attribute (.Name x px) "append" pa) [e.py] [] pc) p
  | .aug _ x px op e p => .AugAssign (.Name x px) op e.py p
  | .ife c a b p => .If c.py a.py b.py p
  | .forr t it body p => .For t.py it.py body.py [] p
  | .ret e p => .Return (some e.py) p
  | .retN p => .Return none p
  | .pass p => .Pass p
  | .brk p => .Break p
  | .cnt p => .Continue p
  | .nvr st => st
def CSs.py : CSs → List Stmt
  | .nil => []
  | .cons s ss => s.py :: ss.py
end

/-! ### what changes nothing that is owned -/
mutual
def CE.pure : CE → Bool
  | .cst .. => true | .var .. => true | .brw .. => true | .mov .. => true | .ref .. => false | .glb .. => true | .dic0 .. => true
  | .pth _ _ _ k _ => k.pure
  | .tup es _ _ => es.pure | .lst es _ => es.pure
  | .bin _ a b _ => a.pure && b.pure
  | .neg a _ => a.pure | .nt a _ => a.pure
  | .bop _ es _ => es.pure
  | .cmp _ a b _ => a.pure && b.pure
  | .chn _ _ a b c _ => a.pure && b.pure && c.pure
  | .ifx c a b _ => c.pure && a.pure && b.pure
  | .isi a _ _ _ _ => a.pure
  | .blt _ _ es _ => es.pure
  | .call _ _ _ es ks _ => es.pure && ks.pure
  | .idx a i _ => a.pure && i.pure
  | .slc a lo hi _ _ => a.pure && lo.pure && hi.pure
  | .lc elt _ it ifs _ _ _ => elt.pure && it.pure && ifs.pure
  | .lc2 elt _ it ifs _ it1 ifs1 _ _ _ _ => elt.pure && it.pure && ifs.pure && it1.pure && ifs1.pure
  | .popAt .. => false
  | .dcm kx vx _ it ifs _ _ _ => kx.pure && vx.pure && it.pure && ifs.pure
  | .lrng _ _ a b _ _ => a.pure && b.pure
  | .lzip _ _ _ x y _ _ _ _ _ => x.pure && y.pure
  | .dcp .. => true
  | .rev a _ _ _ _ _ => a.pure
  | .ssc _ elt _ it ifs _ it1 ifs1 _ _ _ _ _ => elt.pure && it.pure && ifs.pure && it1.pure && ifs1.pure
def CEs.pure : CEs → Bool
  | .nil => true | .cons e es => e.pure && es.pure
def CKs.pure : CKs → Bool
  | .nil => true | .cons _ e _ ks => e.pure && ks.pure
def CO.pure : CO → Bool
  | .no => true | .is e => e.pure
def CI.pure : CI → Bool
  | .seq e => e.pure | .rng1 _ a _ => a.pure | .rng2 _ a b _ => a.pure && b.pure | .enum _ a _ => a.pure | .zip _ a b _ => a.pure && b.pure
end

/-! ### values -/
mutual
def Val.toD : Val → PyData
  | .non => .none
  | .bl b => .bool b
  | .int i => .int i
  | .str s => .str s
  | .tup xs => .tuple (toDs xs)
  | .lst xs => .list (toDs xs)
  | .dic kvs => .dict (toDk kvs)
def toDs : List Val → List PyData
  | [] => []
  | x :: xs => x.toD :: toDs xs
def toDk : List (Key × Val) → List (PyData × PyData)
  | [] => []
  | (k, v) :: r => ((match k with | .inl i => .int i | .inr s => .str s), v.toD) :: toDk r
end
/-- all things within are no containers -/
def Val.inner : Val → Bool
  | .lst xs => xs.all Val.flat
  | .dic kvs => kvs.all fun q => q.2.flat
  | _ => true
inductive Mode where
  | own (d : Nat) | bor
def Mode.lets (m : Mode) (b : Bool) : Bool := match m with
  | .own _ => true
  | .bor => b
abbrev Res := Mode × Val
def cstV : Const → Option Val
  | .none => some .non
  | .bool b => some (.bl b)
  | .int i => some (.int i)
  | .str s => some (.str s)
  | _ => none
def gd (b : Bool) (o : Option α) : Option α := bif b then o else none
def fitsLine (n : Nat) : Bool := decide (n ≤ sizeLine)
def flatRep (k : Int) (xs : List Val) : List Val := (List.replicate k.toNat xs).flatten
def binV : Operator → Val → Val → Option R
  | .Add, .int i, .int j => some (0, .int (i + j))
  | .Add, .str a, .str b => gd (fitsLine (a.length + b.length)) (some (0, .str (a ++ b)))
  | .Add, .lst xs, .lst ys => gd (fitsLine (xs.length + ys.length)) (some (1, .lst (xs ++ ys)))
  | .Add, .tup xs, .tup ys => gd (fitsLine (xs.length + ys.length)) (some (0, .tup (xs ++ ys)))
  | .Sub, .int i, .int j => some (0, .int (i - j))
  | .Mult, .int i, .int j => gd (decide ((-(2 ^ 64) < i ∧ i < 2 ^ 64) ∨ (-(2 ^ 64) < j ∧ j < 2 ^ 64))) (some (0, .int (i * j)))
  | .Mult, .lst xs, .int k => gd (decide (-(2 ^ 63) ≤ k ∧ k < 2 ^ 63 ∧ xs.length * k.toNat ≤ sizeLine)) (some (1, .lst (flatRep k xs)))
  | .Mult, .tup xs, .int k => gd (decide (k ≤ 100000 ∧ -100000 ≤ k ∧ xs.length ≤ 100)) (some (0, .tup (flatRep k xs)))
  | .Mod, .int i, .int j => gd (decide (0 < j)) (some (0, .int (i % j)))
  | .FloorDiv, .int i, .int j => gd (decide (0 < j ∧ j < 1073741824)) (some (0, .int (i / j)))
  | .Pow, .int i, .int j => gd (decide (0 ≤ j ∧ j ≤ 1000000 ∧ i.natAbs < 2 ^ 64)) (some (0, .int (i ^ j.toNat)))
  | _, _, _ => none
def eqV (a b : Val) : Option Bool := gd (SeqAt.shaped a.toD && SeqAt.shaped b.toD) (some (PyData.eqv a.toD b.toD))
def scalar : Val → Val → Option Bool
  | .int i, .int j => some (decide (i = j))
  | .str i, .str j => some (decide (i = j))
  | .bl i, .bl j => some (decide (i = j))
  | .lst xs, .lst ys => bif xs.length != ys.length then some false else none
  | _, _ => none
def eqS (a b : Val) : Option Bool := (scalar a b).orElse fun _ => eqV a b
/-- a thing that is no sequence, as a value -/
def flatS : Val → Option V
  | .non => some .non
  | .bl b => some (.bl b)
  | .int i => some (.int i)
  | .str s => some (.str s)
  | _ => none
def flatSs : List Val → Option (List V)
  | [] => some []
  | x :: xs => (flatS x).bind fun u => (flatSs xs).map (u :: ·)
def keyOf : Val → Option Key
  | .int i => some (.inl i)
  | .str s => some (.inr s)
  | _ => none
def inS (x : Val) : Val → Option Bool
  | .lst xs => (flatS x).bind fun u => (flatSs xs).map fun us => inV u us
  | .tup xs => (flatS x).bind fun u => (flatSs xs).map fun us => inV u us
  | .dic kvs => (keyOf x).map fun k => kvs.any fun q => decide (q.1 = k)
  | .str j => (match x with
    | .str i => some (!(Builtin.Str.occurrences j i 0 j.length 1).isEmpty)
    | _ => none)
  | _ => none
def cmpV : CmpOp → Val → Val → Option Bool
  | .In, a, b => inS a b
  | .NotIn, a, b => (inS a b).map (!·)
  | .Eq, a, b => eqS a b
  | .NotEq, a, b => (eqS a b).map (!·)
  | .Lt, .int i, .int j => some (decide (i < j))
  | .LtE, .int i, .int j => some (decide (i ≤ j))
  | .Gt, .int i, .int j => some (decide (j < i))
  | .GtE, .int i, .int j => some (decide (j ≤ i))
  | .Is, .non, .non => some true
  | .Is, .bl a, .bl b => some (decide (a = b))
  | .IsNot, .non, .non => some false
  | .IsNot, .bl a, .bl b => some (!decide (a = b))
  | _, _, _ => none
def truV : Val → Option Bool
  | .non => some false
  | .bl b => some b
  | .int i => some (i != 0)
  | .str s => gd (fitsLine s.length) (some ((s.length : Int) != 0))
  | .lst xs => some (!xs.isEmpty)
  | .tup xs => some (!xs.isEmpty)
  | .dic kvs => some (!kvs.isEmpty)
def tyV : Val → String
  | .non => "NoneType" | .bl _ => "bool" | .int _ => "int" | .str _ => "str" | .tup _ => "tuple" | .lst _ => "list" | .dic _ => "dict"
def isiV : Val → TN → Bool
  | .int _, .int => true
  | .bl _, .int => true
  | .bl _, .bool => true
  | .str _, .str => true
  | .tup _, .tuple => true
  | .lst _, .list => true
  | .dic _, .dict => true
  | _, _ => false
def boolsOf : List Val → Option (List Bool)
  | [] => some []
  | .bl b :: r => (boolsOf r).map (b :: ·)
  | _ :: _ => none
/-- a rising list of the same ints -/
def insI (x : Int) : List Int → List Int
  | [] => [x]
  | y :: r => if x ≤ y then x :: y :: r else y :: insI x r
def sortI (l : List Int) : List Int := l.foldr insI []
def intsOf : List Val → Option (List Int)
  | [] => some []
  | .int b :: r => (intsOf r).map (b :: ·)
  | _ :: _ => none
mutual
/-- no list in it, no dict but empty ones -/
def Val.plainD : Val → Bool
  | .tup xs => plainDs xs
  | .lst _ => false
  | .dic kvs => kvs.isEmpty
  | _ => true
def plainDs : List Val → Bool
  | [] => true
  | x :: xs => x.plainD && plainDs xs
end
def reprV (v : Val) : Option Str := gd (PyData.showable v.toD && fitsLine (PyData.shown v.toD).length && decide (v.toD.depth ≤ 64) && (!v.toD.hasDict || v.plainD)) (some (PyData.shown v.toD))
def bltV : BF → List Val → Option R
  | .len, [.lst xs] => some (0, .int xs.length)
  | .len, [.tup xs] => some (0, .int xs.length)
  | .len, [.str s] => gd (fitsLine s.length) (some (0, .int s.length))
  | .repr, [v] => (reprV v).map fun s => (0, .str s)
  | .all, [.lst xs] => (boolsOf xs).map fun bs => (0, .bl (bs.all id))
  | .any, [.lst xs] => (boolsOf xs).map fun bs => (0, .bl (bs.any id))
  | .sum, [.lst xs] => (intsOf xs).map fun bs => (0, .int bs.sum)
  | .tuple, [.lst xs] => some (0, .tup xs)
  | .tuple, [.tup xs] => some (0, .tup xs)
  | .list, [.lst xs] => some (1, .lst xs)
  | .list, [.tup xs] => some (1, .lst xs)
  | .min2, [.int i, .int j] => some (0, .int (if j < i then j else i))
  | .max2, [.int i, .int j] => some (0, .int (if j > i then j else i))
  | .int, [.int i] => some (0, .int i)
  | .int, [.bl b] => some (0, .int (if b then 1 else 0))
  | .abs, [.int i] => some (0, .int (if i < 0 then -i else i))
  | .sorted, [.lst xs] => (intsOf xs).map fun l => (1, .lst ((sortI l).map .int))
  | _, _ => none
def getV : Val → Val → Option Val
  | .lst xs, .int i => atI' xs i
  | .tup xs, .int i => atI' xs i
  | .dic kvs, k => (keyOf k).bind fun q => (kvs.find? fun z => decide (z.1 = q)).map (·.2)
  | _, _ => none
where atI' (xs : List Val) (i : Int) : Option Val := (ixN xs.length i).bind fun j => xs[j]?
/-- of a list, a tuple alone -/
def getS : Val → Val → Option Val
  | .lst xs, .int i => getV.atI' xs i
  | .tup xs, .int i => getV.atI' xs i
  | _, _ => none
def cutL (xs : List Val) (lo hi : Option Int) : List Val := (xs.drop (HT.sIx xs.length 0 lo)).take (HT.sIx xs.length xs.length hi - HT.sIx xs.length 0 lo)
def slcV : Val → Option Int → Option Int → Option R
  | .lst xs, lo, hi => some (1, .lst (cutL xs lo hi))
  | .tup xs, lo, hi => some (0, .tup (cutL xs lo hi))
  | _, _, _ => none
/-- what a for walks -/
def signs (s : Str) : List Val := s.cps.toList.map fun c => .str ⟨#[c]⟩
def itemsV : Val → Option (List Val)
  | .lst xs => some xs
  | .tup xs => some xs
  | .str s => some (signs s)
  | _ => none
def pairUp : List Val → List Val → List Val
  | x :: xs, y :: ys => .tup [x, y] :: pairUp xs ys
  | _, _ => []
def intsFrom (lo : Int) : Nat → List Val
  | 0 => []
  | n + 1 => .int lo :: intsFrom (lo + 1) n
def numbered (i : Nat) : List Val → List Val
  | [] => []
  | x :: xs => .tup [.int i, x] :: numbered (i + 1) xs
def inRange (i : Int) : Bool := decide (-(2 ^ 62) ≤ i ∧ i < 2 ^ 62)
def rngOk (i j : Int) : Bool := inRange i && inRange j && decide ((j - i).toNat ≤ 2 ^ 24)

def putD (kvs : List (Key × Val)) (k : Key) (v : Val) : List (Key × Val) := bif kvs.any fun q => decide (q.1 = k) then kvs.map (fun q => bif decide (q.1 = k) then (q.1, v) else q) else kvs ++ [(k, v)]
def pairOf : Val → Option (Key × Val)
  | .tup [k, v] => (keyOf k).map fun q => (q, v)
  | _ => none
/-- an int into a rising list -/
def insU (x : Int) : List Int → List Int
  | [] => [x]
  | y :: r => if x < y then x :: y :: r else if x = y then y :: r else y :: insU x r
def sortU (l : List Int) : List Int := l.foldr insU []
/-- pairs, put one after another -/
def putAll : List (Key × Val) → List Val → Option (List (Key × Val))
  | acc, [] => some acc
  | acc, w :: r => (pairOf w).bind fun q => putAll (putD acc q.1 q.2) r
/-! ### meaning -/
/-- a def's call: which def, its name, how many values, which keywords, how they come to the parameters, the defaults -/
structure CallSh where
  f : Nat
  x : Str
  n : Nat
  ks : List Str
  ar : List Src
  dv : List Val
structure Den where
  const : Str → Option Val
  calls : List CallSh
  fn : Nat → List R → Option (R × Slots)
  tab : Str → Option (List (Str × Val)) := fun _ => none
inductive Out where
  | nx (S : Slots) | rt (r : R) (S : Slots) | bk (S : Slots) | ct (S : Slots)
inductive Arg where
  | byRef (i : Nat) | val (v : Val)
/-- the depth of a new list whose things are rs: 1, or one more than the depth of all containers in it -/
def dispD (rs : List R) : Nat := match rs.find? (fun r => !r.2.flat) with
  | none => 1
  | some r => bif rs.all (fun q => q.2.flat || q.1 == r.1) then r.1 + 1 else 1
def wipeS (S : Slots) : List Nat → Slots
  | [] => S
  | v :: vs => (wipeS S vs).set v none
def argR (S : Slots) : Arg → Option R
  | .byRef i => match S[i]? with
    | some (some r) => some r
    | _ => none
  | .val v => some (0, v)
def arrange (as bs ds : List α) : List Src → Option (List α)
  | [] => some []
  | .pos i :: r => as[i]?.bind fun a => (arrange as bs ds r).map (a :: ·)
  | .kw i :: r => bs[i]?.bind fun a => (arrange as bs ds r).map (a :: ·)
  | .dfl i :: r => ds[i]?.bind fun a => (arrange as bs ds r).map (a :: ·)
def argRs (S : Slots) : List Arg → Option (List R)
  | [] => some []
  | a :: r => (argR S a).bind fun x => (argRs S r).map (x :: ·)
/-- what the by-ref parameters became -/
def backS (S : Slots) : List Arg → Slots → Option Slots
  | [], _ => some S
  | .val _ :: r, fin => backS S r (fin.drop 1)
  | .byRef i :: r, fin => match fin[0]? with
    | some (some x) => backS (S.set i (some x)) r (fin.drop 1)
    | _ => none
def refsOf : List Arg → List Nat
  | [] => []
  | .byRef i :: r => i :: refsOf r
  | .val _ :: r => refsOf r
def compL (f : Val → Slots → Option (List Val × Slots)) : List Val → Slots → Option (List Val × Slots)
  | [], S => some ([], S)
  | v :: vs, S => (f v S).bind fun q => (compL f vs q.2).map fun t => (q.1 ++ t.1, t.2)
def forL (f : Val → Slots → Option Out) : List Val → Slots → Option Out
  | [], S => some (.nx S)
  | v :: vs, S => match f v S with
    | some (.nx S1) => forL f vs S1
    | some (.ct S1) => forL f vs S1
    | some (.bk S1) => some (.nx S1)
    | some (.rt r S1) => some (.rt r S1)
    | none => none
mutual
def CT.set : CT → Val → Slots → Option Slots
  | .name i _ _, v, S => some (S.set i (some (0, v)))
  | .tup ts _ _, v, S => match v with
    | .tup xs => ts.set xs S
    | _ => none
def CTs.set : CTs → List Val → Slots → Option Slots
  | .nil, [], S => some S
  | .cons t ts, x :: xs, S => (t.set x S).bind fun S1 => ts.set xs S1
  | _, _, _ => none
end
/-- a test -/
def tst (o : Option (Res × Slots)) : Option (Bool × Slots) := o.bind fun q => (truV q.1.2).map fun b => (b, q.2)
/-- a thing goes into a list that is own to depth d within -/
def fitsIn (d : Nat) (r : R) : Bool := r.2.flat || d == 0 || r.1 == d
mutual
def ev (D : Den) : CE → Slots → Option (Res × Slots)
  | .cst c _ _, S => (cstV c).map fun v => ((.own 0, v), S)
  | .var i _ _, S => match S[i]? with
    | some (some (_, v)) => some ((.own 0, v), S.set i (some (0, v)))
    | _ => none
  | .brw i _ _, S => match S[i]? with
    | some (some (d, v)) => some (bif v.flat then ((.own 0, v), S) else bif decide (d ≤ 1) || v.inner then ((.bor, v), S) else ((.own 0, v), S.set i (some (0, v))))
    | _ => none
  | .mov i _ _, S => match S[i]? with
    | some (some (d, v)) => some ((.own d, v), S.set i none)
    | _ => none
  | .ref _ _ _, _ => none
  | .pth i _ _ k _, S => match S[i]? with
    | some (some _) => (ev D k S).bind fun q => match q.2[i]? with
      | some (some (_, v)) => (getS v q.1.2).bind fun u => bif u.flat then some ((.own 0, u), q.2) else gd u.inner (some ((.bor, u), q.2))
      | _ => none
    | _ => none
  | .glb x _, S => (D.const x).map fun v => ((.own 0, v), S)
  | .tup es _ _, S => (evs D es S).bind fun q => gd (fitsLine q.1.length) (some ((.own 0, .tup (q.1.map (·.2))), q.2))
  | .lst es _, S => (evs D es S).bind fun q => gd (fitsLine q.1.length) (some ((.own (dispD q.1), .lst (q.1.map (·.2))), q.2))
  | .dic0 _, S => some ((.own 1, .dic []), S)
  | .bin op a b _, S => (ev D a S).bind fun q => gd (q.1.1.lets b.pure) ((ev D b q.2).bind fun t => (binV op q.1.2 t.1.2).map fun r => ((.own r.1, r.2), t.2))
  | .neg a _, S => (ev D a S).bind fun q => match q.1.2 with
    | .int i => some ((.own 0, .int (-i)), q.2)
    | _ => none
  | .nt a _, S => (tst (ev D a S)).map fun q => ((.own 0, .bl (!q.1)), q.2)
  | .bop o es _, S => evb D o es S
  | .cmp op a b _, S => (ev D a S).bind fun q => gd (q.1.1.lets b.pure) ((ev D b q.2).bind fun t => (cmpV op q.1.2 t.1.2).map fun r => ((.own 0, .bl r), t.2))
  | .chn op op' a b c _, S => (ev D a S).bind fun q => gd (q.1.1.lets b.pure) ((ev D b q.2).bind fun t => (cmpV op q.1.2 t.1.2).bind fun r =>
      bif r then gd (t.1.1.lets c.pure) ((ev D c t.2).bind fun u => (cmpV op' t.1.2 u.1.2).map fun r' => ((.own 0, .bl r'), u.2)) else some ((.own 0, .bl false), t.2))
  | .ifx c a b _, S => (tst (ev D c S)).bind fun q => bif q.1 then ev D a q.2 else ev D b q.2
  | .isi a T _ _ _, S => (ev D a S).map fun q => ((.own 0, .bl (isiV q.1.2 T)), q.2)
  | .blt f _ es _, S => (evo D es S).bind fun q => (bltV f q.1).map fun r => ((.own r.1, r.2), q.2)
  | .call c _ _ es ks _, S => D.calls[c]?.bind fun sh => (eva D es S).bind fun q => (evk D ks q.2).bind fun t => (arrange q.1 t.1 (sh.dv.map .val) sh.ar).bind fun as => (argRs t.2 as).bind fun rs => gd (decide (refsOf as).Nodup) ((D.fn sh.f rs).bind fun w => (backS (wipeS t.2 (refsOf as)) as w.2).map fun S' => ((.own w.1.1, w.1.2), S'))
  | .idx a i _, S => (ev D a S).bind fun q => gd (q.1.1.lets i.pure) ((ev D i q.2).bind fun t => (getV q.1.2 t.1.2).map fun u => ((.own 0, u), t.2))
  | .slc a lo hi _ _, S => (ev D a S).bind fun q => gd (q.1.1.lets (lo.pure && hi.pure)) ((evi D lo q.2).bind fun t => (evi D hi t.2).bind fun u => (slcV q.1.2 t.1 u.1).map fun r => ((.own r.1, r.2), u.2))
  | .lc elt t it ifs _ own _, S => (evI D it S).bind fun q => (compL (fun v S1 => (t.set v S1).bind fun S2 => (evts D ifs S2).bind fun b => bif b.1 then (ev D elt b.2).bind fun r => match r.1.1 with
      | .own _ => some ([r.1.2], wipeS r.2 (own.map (·.2)))
      | .bor => none else some ([], wipeS b.2 (own.map (·.2)))) q.1 (wipeS q.2 (own.map (·.2)))).bind fun u => gd (fitsLine u.1.length) (some ((.own 1, .lst u.1), u.2))
  | .lc2 elt t it ifs t1 it1 ifs1 _ own vs1 _, S => (evI D it S).bind fun q => (compL (fun v S1 => (t.set v S1).bind fun S2 => (evts D ifs S2).bind fun b => bif b.1 then (evI D it1 b.2).bind fun q1 =>
      (compL (fun v1 S3 => (t1.set v1 S3).bind fun S4 => (evts D ifs1 S4).bind fun b1 => bif b1.1 then (ev D elt b1.2).bind fun r => match r.1.1 with
        | .own _ => some ([r.1.2], wipeS r.2 vs1)
        | .bor => none else some ([], wipeS b1.2 vs1)) q1.1 (wipeS q1.2 vs1)).map fun z => (z.1, wipeS z.2 (own.map (·.2))) else some ([], wipeS b.2 (own.map (·.2)))) q.1 (wipeS q.2 (own.map (·.2)))).bind fun u => gd (fitsLine u.1.length) (some ((.own 1, .lst u.1), u.2))
  | .popAt i _ _ k _ j _ _, S => match S[i]?, k, j with
    | some (some (d + 2, .lst xs)), .cst (.int m) _ _, .cst (.int 0) _ _ => (ixN xs.length m).bind fun n => match xs[n]? with
      | some (.lst (w :: ws)) => gd w.flat (some ((.own 0, w), S.set i (some (d + 2, .lst (xs.set n (.lst ws))))))
      | _ => none
    | _, _, _ => none
  | .dcm kx vx t it ifs _ own _, S => (evI D it S).bind fun q => (compL (fun v S1 => (t.set v S1).bind fun S2 => (evts D ifs S2).bind fun b => bif b.1 then (ev D kx b.2).bind fun r => (ev D vx r.2).bind fun u => match r.1.1, u.1.1 with
      | .own _, .own _ => some ([.tup [r.1.2, u.1.2]], wipeS u.2 (own.map (·.2)))
      | _, _ => none else some ([], wipeS b.2 (own.map (·.2)))) q.1 (wipeS q.2 (own.map (·.2)))).bind fun u => gd (fitsLine u.1.length) ((putAll [] u.1).map fun kvs => ((.own 1, .dic kvs), u.2))
  | .ssc _ elt t it ifs t1 it1 ifs1 _ own vs1 _ _, S => (evI D it S).bind fun q => (compL (fun v S1 => (t.set v S1).bind fun S2 => (evts D ifs S2).bind fun b => bif b.1 then (evI D it1 b.2).bind fun q1 =>
      (compL (fun v1 S3 => (t1.set v1 S3).bind fun S4 => (evts D ifs1 S4).bind fun b1 => bif b1.1 then (ev D elt b1.2).bind fun r => match r.1.1 with
        | .own _ => some ([r.1.2], wipeS r.2 vs1)
        | .bor => none else some ([], wipeS b1.2 vs1)) q1.1 (wipeS q1.2 vs1)).map fun z => (z.1, wipeS z.2 (own.map (·.2))) else some ([], wipeS b.2 (own.map (·.2)))) q.1 (wipeS q.2 (own.map (·.2)))).bind fun u => (intsOf u.1).bind fun ks => gd (decide (ks.length ≤ 4000)) (some ((.own 1, .lst ((sortU ks).map .int)), u.2))
  | .lzip _ _ _ x y _ _ _ _ _, S => (ev D x S).bind fun q => (ev D y q.2).bind fun t => match q.1, t.1 with
    | (.own _, .lst xs), (.own _, .lst ys) => gd (xs.length == ys.length) (some ((.own 1, .lst (pairUp xs ys)), t.2))
    | (.own _, .tup xs), (.own _, .tup ys) => gd (xs.length == ys.length) (some ((.own 1, .lst (pairUp xs ys)), t.2))
    | _, _ => none
  | .dcp _ _ x _, S => (D.tab x).map fun kvs => ((.own 1, .dic (kvs.map fun q => (.inr q.1, q.2))), S)
  | .rev a _ _ _ _ _, S => (ev D a S).bind fun q => match q.1 with
    | (.own _, .lst xs) => some ((.own 1, .lst xs.reverse), q.2)
    | (.own _, .tup xs) => some ((.own 0, .tup xs.reverse), q.2)
    | _ => none
  | .lrng _ _ a b _ _, S => (ev D a S).bind fun q => (ev D b q.2).bind fun t => match q.1.2, t.1.2 with
    | .int i, .int j => gd (rngOk i j) (some ((.own 1, .lst (intsFrom i (j - i).toNat)), t.2))
    | _, _ => none
/-- things of a display -/
def evs (D : Den) : CEs → Slots → Option (List R × Slots)
  | .nil, S => some ([], S)
  | .cons e es, S => (ev D e S).bind fun q => match q.1.1 with
    | .own d => (evs D es q.2).map fun t => ((d, q.1.2) :: t.1, t.2)
    | .bor => none
/-- operands -/
def evo (D : Den) : CEs → Slots → Option (List Val × Slots)
  | .nil, S => some ([], S)
  | .cons e es, S => (ev D e S).bind fun q => gd (q.1.1.lets es.pure) ((evo D es q.2).map fun t => (q.1.2 :: t.1, t.2))
/-- arguments of a def -/
def eva (D : Den) : CEs → Slots → Option (List Arg × Slots)
  | .nil, S => some ([], S)
  | .cons (.ref i _ _) es, S => match S[i]? with
    | some (some _) => (eva D es S).map fun t => (.byRef i :: t.1, t.2)
    | _ => none
  | .cons e es, S => (ev D e S).bind fun q => match q.1.1 with
    | .own _ => (eva D es q.2).map fun t => (.val q.1.2 :: t.1, t.2)
    | .bor => none
def evk (D : Den) : CKs → Slots → Option (List Arg × Slots)
  | .nil, S => some ([], S)
  | .cons _ e _ es, S => (ev D e S).bind fun q => match q.1.1 with
    | .own _ => (evk D es q.2).map fun t => (.val q.1.2 :: t.1, t.2)
    | .bor => none
def evi (D : Den) : CO → Slots → Option (Option Int × Slots)
  | .no, S => some (none, S)
  | .is e, S => (ev D e S).bind fun q => match q.1.2 with
    | .int i => some (some i, q.2)
    | _ => none
/-- and, or -/
def evb (D : Den) (o : BoolOp) : CEs → Slots → Option (Res × Slots)
  | .nil, _ => none
  | .cons e .nil, S => ev D e S
  | .cons e es, S => (ev D e S).bind fun q => (truV q.1.2).bind fun b => match o with
    | .And => bif b then evb D o es q.2 else some q
    | .Or => bif b then some q else evb D o es q.2
/-- the tests of a comprehension: none or one -/
def evts (D : Den) : CEs → Slots → Option (Bool × Slots)
  | .nil, S => some (true, S)
  | .cons e .nil, S => tst (ev D e S)
  | _, _ => none
def evI (D : Den) : CI → Slots → Option (List Val × Slots)
  | .seq e, S => (ev D e S).bind fun q => match q.1.1 with
    | .own _ => (itemsV q.1.2).map fun xs => (xs, q.2)
    | .bor => none
  | .rng1 _ a _, S => (ev D a S).bind fun q => match q.1.2 with
    | .int i => gd (inRange i) (some (intsFrom 0 i.toNat, q.2))
    | _ => none
  | .rng2 _ a b _, S => (ev D a S).bind fun q => (ev D b q.2).bind fun t => match q.1.2, t.1.2 with
    | .int i, .int j => gd (inRange i && inRange j) (some (intsFrom i (j - i).toNat, t.2))
    | _, _ => none
  | .enum _ a _, S => (ev D a S).bind fun q => match q.1.1, q.1.2 with
    | .own _, v => (itemsV v).map fun xs => (numbered 0 xs, q.2)
    | _, _ => none
  | .zip _ a b _, S => (ev D a S).bind fun q => (ev D b q.2).bind fun t => match q.1, t.1 with
    | (.own _, .lst xs), (.own _, .lst ys) => some (pairUp xs ys, t.2)
    | (.own _, .tup xs), (.own _, .tup ys) => some (pairUp xs ys, t.2)
    | _, _ => none
end
mutual
def ex (D : Den) : CS → Slots → Option Out
  | .asg t e _, S => (ev D e S).bind fun q => match t, q.1.1 with
    | .name i _ _, .own d => some (.nx (q.2.set i (some (d, q.1.2))))
    | t, .own _ => (t.set q.1.2 q.2).map .nx
    | _, .bor => none
  | .par i j _ _ _ _ _ _ a b _ _ _, S => (evs D (.cons a (.cons b .nil)) S).bind fun q => match q.1 with
    | [r, r'] => some (.nx ((q.2.set i (some r)).set j (some r')))
    | _ => none
  | .setI i _ _ k e _ _, S => (ev D e S).bind fun q => match q.2[i]? with
    | some (some _) => (ev D k q.2).bind fun t => match t.2[i]?, t.1.2, q.1.1 with
      | some (some (d + 1, .lst xs)), .int m, .own d' => gd (fitsIn d (d', q.1.2)) ((ixN xs.length m).map fun n => .nx (t.2.set i (some (d + 1, .lst (xs.set n q.1.2)))))
      | _, _, _ => none
    | _ => none
  | .expr e _, S => (ev D e S).map fun q => .nx q.2
  | .app i _ _ _ e _ _, S => match S[i]? with
    | some (some (_, .lst _)) => (ev D e S).bind fun q => match q.2[i]?, q.1.1 with
      | some (some (d + 1, .lst xs)), .own d' => gd (fitsIn d (d', q.1.2) && decide (xs.length < sizeLine)) (some (.nx (q.2.set i (some (d + 1, .lst (xs ++ [q.1.2]))))))
      | _, _ => none
    | _ => none
  | .aug i _ _ op e _, S => match S[i]? with
    | some (some (_, .int k)) => (ev D e S).bind fun q => match op, q.1.2 with
      | .Add, .int m => some (.nx (q.2.set i (some (0, .int (k + m)))))
      | .Sub, .int m => some (.nx (q.2.set i (some (0, .int (k - m)))))
      | _, _ => none
    | _ => none
  | .ife c a b _, S => (tst (ev D c S)).bind fun q => bif q.1 then exs D a q.2 else exs D b q.2
  | .forr t it body _, S => (evI D it S).bind fun q => forL (fun v S1 => (t.set v S1).bind fun S2 => exs D body S2) q.1 q.2
  | .ret e _, S => (ev D e S).bind fun q => match q.1.1 with
    | .own d => some (.rt (d, q.1.2) q.2)
    | .bor => none
  | .retN _, S => some (.rt (0, .non) S)
  | .pass _, S => some (.nx S)
  | .brk _, S => some (.bk S)
  | .cnt _, S => some (.ct S)
  | .nvr _, _ => none
def exs (D : Den) : CSs → Slots → Option Out
  | .nil, S => some (.nx S)
  | .cons s ss, S => match ex D s S with
    | some (.nx S1) => exs D ss S1
    | o => o
end
end BV
/-! What a by-value step gives over the heap: the kit. -/
namespace BV
open PySem PySem.Spec PyProof.Rows L2
section
variable {K : Frag} {Hf Hf' H H' H1 : Hp} {F F' : List Addr} {S S' : Slots} {σ : L2.St}
theorem Rel.dom (r : Rel K Hf F S σ H) : ∀ a ∈ F, ∃ o, H a = some o := r.plc.dom
theorem Rel.upd (r : Rel K Hf F S σ H) {p : Addr} {o : HO} (hp : H p = none) : Rel K Hf F S σ (upd H p o) :=
  ⟨r.sub.trans (HSub.upd hp), r.nd, r.off, r.plc.mono (HSub.refl _) fun a _ u e => HSub.upd hp a u e⟩
theorem Rel.grow (r : Rel K Hf F S σ H) (s : HSub Hf Hf') (s' : HSub Hf' H) (off : ∀ a ∈ F, Hf' a = none) : Rel K Hf' F S σ H :=
  ⟨s', r.nd, off, r.plc.mono s fun _ _ _ e => e⟩
theorem Step.upd (st : Step Hf F H Hf' F' H1) {p : Addr} {o : HO} (hp : H1 p = none) : Step Hf F H Hf' F' (upd H1 p o) :=
  ⟨st.hf, fun a u e n => HSub.upd hp a u (st.fr a u e n), st.new, st.own⟩
/-- what is new was not there, or owned -/
theorem Step.fresh (st : Step Hf F H Hf' F' H1) {p : Addr} (hp : H1 p = none) : p ∈ F ∨ H p = none := by
  by_cases h : p ∈ F
  · exact .inl h
  · cases q : H p with
    | none => exact .inr rfl
    | some o => rw [st.fr p o q h] at hp; cases hp

theorem RepL.ownL {Hf H : Hp} : ∀ {vs : List Val} {ys : List V}, RepL K Hf vs ys → OwnL K Hf H 0 vs ys []
  | _, _, .nil => .nil
  | _, _, .cons h r => OwnL.cons (F := []) (G := []) (.frz (.inl rfl) h) (RepL.ownL r)
theorem RepK.ownK {Hf H : Hp} : ∀ {vs : List (Key × Val)} {ys : List (Key × V)}, RepK K Hf vs ys → OwnK K Hf H 0 vs ys []
  | _, _, .nil => .nil
  | _, _, .cons h r => OwnK.cons (F := []) (G := []) (.frz (.inl rfl) h) (RepK.ownK r)
inductive RepE (K : Frag) (Hf H : Hp) : Val → V → Prop
  | flat {v : Val} {x : V} : v.flat = true → Rep K Hf v x → RepE K Hf H v x
  | lst {a : Addr} {xs : List Val} {ys : List V} : RdL K H a ys → RepL K Hf xs ys → RepE K Hf H (.lst xs) (.ref a)
  | dic {a : Addr} {kvs : List (Key × Val)} {ks : List (Key × V)} : H a = some (.dK ks) → RepK K Hf kvs ks → RepE K Hf H (.dic kvs) (.ref a)
theorem RepE.of {v : Val} {x : V} (h : Rep K Hf v x) (s : HSub Hf H) : RepE K Hf H v x := by
  cases h with
  | lst h r => exact .lst (rdL_mono s h) r
  | dic h r => exact .dic (s _ _ h) r
  | non => exact .flat rfl .non
  | bl b => exact .flat rfl (.bl b)
  | int b => exact .flat rfl (.int b)
  | str b => exact .flat rfl (.str b)
  | tup h r => exact .flat rfl (.tup h r)
theorem RepE.rep {v : Val} {x : V} (s : HSub Hf H) (h : RepE K Hf H v x) : Rep K H v x := by
  cases h with
  | flat _ h => exact h.mono s
  | lst h r => exact .lst h (r.mono s)
  | dic h r => exact .dic h (r.mono s)
theorem RepE.mono {v : Val} {x : V} (s : HSub Hf Hf') (k : HSub H H') (h : RepE K Hf H v x) : RepE K Hf' H' v x := by
  cases h with
  | flat e h => exact .flat e (h.mono s)
  | lst h r => exact .lst (rdL_mono k h) (r.mono s)
  | dic h r => exact .dic (k _ _ h) (r.mono s)

/-- the result of an expression -/
def ResOk (K : Frag) (F : List Addr) (H Hf' : Hp) (F' : List Addr) (H' : Hp) (r : Res) (x : V) : Prop := match r.1 with
  | .own d => ∃ G, Own K Hf' H' d r.2 x G ∧ (F' ++ G).Nodup ∧ (∀ a ∈ G, Hf' a = none) ∧ ∀ a ∈ G, a ∈ F ∨ H a = none
  | .bor => RepE K Hf' H' r.2 x
structure Gives (K : Frag) (Hf : Hp) (F : List Addr) (H : Hp) (S' : Slots) (σ : L2.St) (r : Res) (x : V) (Hf' : Hp) (F' : List Addr) (H' : Hp) : Prop where
  rel : Rel K Hf' F' S' σ H'
  st : Step Hf F H Hf' F' H'
  res : ResOk K F H Hf' F' H' r x
/-- as an operand -/
theorem Gives.opd {r : Res} {x : V} (g : Gives K Hf F H S' σ r x Hf' F' H') :
    ∃ Hf'', HSub Hf' Hf'' ∧ Rel K Hf'' F' S' σ H' ∧ Step Hf F H Hf'' F' H' ∧ RepE K Hf'' H' r.2 x ∧ ∀ d, r.1 = .own d → Rep K Hf'' r.2 x := by
  obtain ⟨rel, st, res⟩ := g
  obtain ⟨m, v⟩ := r
  cases m with
  | bor => exact ⟨Hf', HSub.refl _, rel, st, res, fun d e => by cases e⟩
  | own d =>
    obtain ⟨G, ow, nd, off, fr⟩ := res
    have s1 := frzH_sub (H := H') off
    have s2 := frzH_le (G := G) rel.sub
    have dis : ∀ a ∈ F', a ∉ G := fun a ha hg => by
      have := (List.nodup_append.mp nd).2.2 a ha a hg
      exact this rfl
    have rep : Rep K (frzH Hf' H' G) v x := ow.freeze off
    refine ⟨frzH Hf' H' G, s1, rel.grow s1 s2 fun a ha => ?_, ⟨st.hf.trans s1, st.fr, fun a o e n => ?_, st.own⟩, .of rep s2, fun _ _ => rep⟩
    · rw [frzH_out (dis a ha)]; exact rel.off a ha
    · have hg : a ∉ G := fun hg => by
        rcases fr a hg with z | z
        · exact n z
        · rw [z] at e; cases e
      rw [frzH_out hg]; exact st.new a o e n
theorem Gives.frz {v : Val} {x : V} {d : Nat} (rel : Rel K Hf' F' S' σ H') (st : Step Hf F H Hf' F' H') (r : Rep K Hf' v x) (hd : d = 0 ∨ v.flat = true) : Gives K Hf F H S' σ (.own d, v) x Hf' F' H' :=
  ⟨rel, st, [], .frz hd r, by simpa using rel.nd, fun a h => (by cases h), fun a h => (by cases h)⟩
theorem Gives.newL {vs : List Val} {ys : List V} {p : Addr} (rel : Rel K Hf' F' S' σ H1) (st : Step Hf F H Hf' F' H1) (hp : H1 p = none) (r : RepL K Hf' vs ys) :
    Gives K Hf F H S' σ (.own 1, .lst vs) (.ref p) Hf' F' (L2.upd H1 p (.lst ys)) := by
  have hpF : p ∉ F' := fun h => by obtain ⟨o, e⟩ := rel.dom p h; rw [e] at hp; cases hp
  have hf : Hf' p = none := by
    cases q : Hf' p with
    | none => rfl
    | some o => rw [rel.sub p o q] at hp; cases hp
  refine ⟨rel.upd hp, st.upd hp, [p], ?_, ?_, ?_, ?_⟩
  · exact .lst upd_same r.ownL
  · rw [List.nodup_append]
    refine ⟨rel.nd, by simp, fun a ha b hb e => ?_⟩
    have : b = p := by simpa using hb
    subst this; subst e; exact hpF ha
  · intro a ha
    have : a = p := by simpa using ha
    subst this; exact hf
  · intro a ha
    have : a = p := by simpa using ha
    subst this; exact st.fresh hp

theorem Gives.newT {vs : List Val} {ys : List V} {p : Addr} (rel : Rel K Hf' F' S' σ H1) (st : Step Hf F H Hf' F' H1) (hp : H1 p = none) (r : RepL K Hf' vs ys) :
    Gives K Hf F H S' σ (.own 0, .tup vs) (.ref p) (L2.upd Hf' p (.tup ys)) F' (L2.upd H1 p (.tup ys)) := by
  have hf : Hf' p = none := by
    cases q : Hf' p with
    | none => rfl
    | some o => rw [rel.sub p o q] at hp; cases hp
  have s1 : HSub Hf' (L2.upd Hf' p (.tup ys)) := HSub.upd hf
  have s2 : HSub (L2.upd Hf' p (.tup ys)) (L2.upd H1 p (.tup ys)) := fun a o e => by
    by_cases h : a = p
    · subst h; rw [upd_same] at e ⊢; exact e
    · rw [upd_ne h] at e ⊢; exact rel.sub a o e
  refine .frz ((rel.upd hp).grow s1 s2 fun a ha => ?_) ⟨st.hf.trans s1, (st.upd hp).fr, fun a o e n => ?_, st.own⟩ (.tup (.inl (.inl upd_same)) (r.mono s1)) (.inl rfl)
  · have : a ≠ p := fun e => by obtain ⟨o, q⟩ := rel.dom a ha; rw [e] at q; rw [q] at hp; cases hp
    rw [upd_ne this]; exact rel.off a ha
  · have : a ≠ p := fun z => by have q := st.fr a o e n; rw [z] at q; rw [q] at hp; cases hp
    rw [upd_ne this]; exact st.new a o e n

/-- a slot's thing is taken out -/
theorem Rel.take {i : Nat} {d : Nat} {v : Val} (r : Rel K Hf F S σ H) (h : S[i]? = some (some (d, v))) :
    ∃ x G F0, σ[i]? = some (some x) ∧ Own K Hf H d v x G ∧ Rel K Hf F0 (S.set i none) σ H ∧ (F0 ++ G).Nodup ∧ (∀ a, a ∈ F ↔ a ∈ F0 ∨ a ∈ G) ∧ ∀ a ∈ G, Hf a = none := by
  obtain ⟨y, F1, F2, F3, e1, e2, e3, e4⟩ := r.plc.split h
  cases e3 with
  | is ow =>
    rename_i x
    have nd := r.nd
    rw [e2] at nd
    have hset : σ.set i (some x) = σ := by
      apply List.ext_getElem?
      intro j
      rw [List.getElem?_set]
      split
      · rename_i hj; subst hj
        split
        · exact e1.symm
        · rename_i hl; rw [List.getElem?_eq_none (by omega)]
      · rfl
    refine ⟨x, F2, F1 ++ F3, e1, ow, ⟨r.sub, ?_, fun a ha => r.off a ?_, ?_⟩, ?_, fun a => ?_, fun a ha => r.off a ?_⟩
    · simp only [List.nodup_append, List.mem_append] at nd ⊢; grind
    · rw [e2]; simp only [List.mem_append] at ha ⊢; grind
    · have := e4 (Hf' := Hf) (H' := H) (HSub.refl _) (fun a _ o e => e) (.no (y := some x))
      rw [hset] at this
      simpa using this
    · simp only [List.nodup_append, List.mem_append] at nd ⊢; grind
    · rw [e2]; simp only [List.mem_append]; grind
    · rw [e2]; simp only [List.mem_append]; grind
/-- a thing is put into a slot -/
theorem Rel.put {i : Nat} {d : Nat} {v : Val} {x : V} {G : List Addr} (r : Rel K Hf F S σ H) (hi : i < S.length) (ow : Own K Hf H d v x G) (nd : (F ++ G).Nodup) (off : ∀ a ∈ G, Hf a = none) :
    ∃ F', Rel K Hf F' (S.set i (some (d, v))) (σ.set i (some x)) H ∧ ∀ a ∈ F', a ∈ F ∨ a ∈ G := by
  obtain ⟨y, F1, F2, F3, e1, e2, e3, e4⟩ := r.plc.split (i := i) (List.getElem?_eq_getElem hi)
  rw [e2] at nd
  refine ⟨F1 ++ G ++ F3, ⟨r.sub, ?_, fun a ha => ?_, e4 (HSub.refl _) (fun a _ o e => e) (.is ow)⟩, fun a ha => ?_⟩
  · simp only [List.nodup_append, List.mem_append] at nd ⊢; grind
  · have : a ∈ G ∨ a ∈ F := by rw [e2]; simp only [List.mem_append] at ha ⊢; grind
    rcases this with z | z
    · exact off a z
    · exact r.off a z
  · rw [e2]; simp only [List.mem_append] at ha ⊢; grind
theorem Rel.none {i : Nat} (r : Rel K Hf F S σ H) : ∃ F', Rel K Hf F' (S.set i Option.none) σ H ∧ ∀ a ∈ F', a ∈ F := by
  by_cases hi : i < S.length
  · obtain ⟨y, F1, F2, F3, e1, e2, e3, e4⟩ := r.plc.split (i := i) (List.getElem?_eq_getElem hi)
    have nd := r.nd
    rw [e2] at nd
    have hset : σ.set i y = σ := by
      apply List.ext_getElem?
      intro j
      rw [List.getElem?_set]
      split
      · rename_i hj; subst hj
        split
        · exact e1.symm
        · rename_i hl; rw [List.getElem?_eq_none (by omega)]
      · rfl
    have := e4 (Hf' := Hf) (H' := H) (HSub.refl _) (fun a _ o e => e) (.no (y := y))
    rw [hset] at this
    refine ⟨F1 ++ [] ++ F3, ⟨r.sub, ?_, fun a ha => r.off a ?_, this⟩, fun a ha => ?_⟩
    · simp only [List.nodup_append, List.mem_append] at nd ⊢; grind
    · rw [e2]; simp only [List.mem_append] at ha ⊢; grind
    · rw [e2]; simp only [List.mem_append] at ha ⊢; grind
  · rw [List.set_eq_of_length_le (by omega)]
    exact ⟨F, r, fun _ h => h⟩
theorem Rel.get {i : Nat} {d : Nat} {v : Val} (r : Rel K Hf F S σ H) (h : S[i]? = some (some (d, v))) : ∃ x G, σ[i]? = some (some x) ∧ Own K Hf H d v x G ∧ (∀ a ∈ G, a ∈ F) := by
  obtain ⟨x, G, F0, e1, e2, e3, e4, e5, e6⟩ := r.take h
  exact ⟨x, G, e1, e2, fun a ha => (e5 a).mpr (.inr ha)⟩
theorem Rel.len (r : Rel K Hf F S σ H) : σ.length = S.length := r.plc.length

/-- several own things, each with its depth -/
inductive OwnRs (K : Frag) (Hf H : Hp) : List R → List V → List Addr → Prop
  | nil : OwnRs K Hf H [] [] []
  | cons {d : Nat} {v : Val} {x : V} {rs : List R} {xs : List V} {F G : List Addr} : Own K Hf H d v x F → OwnRs K Hf H rs xs G → OwnRs K Hf H ((d, v) :: rs) (x :: xs) (F ++ G)
theorem OwnRs.rep (s : HSub Hf H') : ∀ {rs : List R} {xs : List V} {G : List Addr}, OwnRs K Hf H rs xs G → (∀ a ∈ G, ∀ o, H a = some o → H' a = some o) → RepL K H' (rs.map (·.2)) xs
  | _, _, _, .nil, _ => .nil
  | _, _, _, .cons h r, k => .cons (h.rep s fun a ha => k a (List.mem_append_left _ ha)) (OwnRs.rep s r fun a ha => k a (List.mem_append_right _ ha))
theorem OwnRs.mono (s : HSub Hf Hf') : ∀ {rs : List R} {xs : List V} {G : List Addr}, OwnRs K Hf H rs xs G → (∀ a ∈ G, ∀ o, H a = some o → H' a = some o) → OwnRs K Hf' H' rs xs G
  | _, _, _, .nil, _ => .nil
  | _, _, _, .cons h r, k => .cons (h.mono s fun a ha => k a (List.mem_append_left _ ha)) (OwnRs.mono s r fun a ha => k a (List.mem_append_right _ ha))
theorem OwnRs.length : ∀ {rs : List R} {xs : List V} {G : List Addr}, OwnRs K Hf H rs xs G → xs.length = rs.length
  | _, _, _, .nil => rfl
  | _, _, _, .cons _ r => congrArg Nat.succ (OwnRs.length r)
/-- a thing that is no container is everyone's, at whatever depth -/
theorem Own.flat {d d' : Nat} {v : Val} {x : V} {G : List Addr} (h : Own K Hf H d v x G) (f : v.flat = true) : G = [] ∧ Own K Hf H d' v x [] := by
  cases h with
  | frz _ r => exact ⟨rfl, .frz (.inr f) r⟩
  | lst _ _ => cases f
  | dic _ _ => cases f
theorem OwnRs.same {m : Nat} : ∀ {rs : List R} {xs : List V} {G : List Addr}, OwnRs K Hf H rs xs G → (rs.all fun q => q.2.flat || q.1 == m) = true → OwnL K Hf H m (rs.map (·.2)) xs G
  | _, _, _, .nil, _ => .nil
  | _, _, _, .cons (d := d) (v := v) h r, e => by
    simp only [List.all_cons, Bool.and_eq_true, Bool.or_eq_true] at e
    refine .cons ?_ (OwnRs.same r e.2)
    rcases e.1 with z | z
    · obtain ⟨rfl, q⟩ := h.flat (d' := m) z
      exact q
    · have : d = m := by simpa using z
      subst this; exact h
structure GivesL (K : Frag) (Hf : Hp) (F : List Addr) (H : Hp) (S' : Slots) (σ : L2.St) (rs : List R) (xs : List V) (Hf' : Hp) (F' : List Addr) (H' : Hp) : Prop where
  rel : Rel K Hf' F' S' σ H'
  st : Step Hf F H Hf' F' H'
  res : ∃ G, OwnRs K Hf' H' rs xs G ∧ (F' ++ G).Nodup ∧ (∀ a ∈ G, Hf' a = none) ∧ ∀ a ∈ G, a ∈ F ∨ H a = none
/-- all of them shared -/
theorem GivesL.frz {rs : List R} {xs : List V} (g : GivesL K Hf F H S' σ rs xs Hf' F' H') :
    ∃ Hf'', HSub Hf' Hf'' ∧ Rel K Hf'' F' S' σ H' ∧ Step Hf F H Hf'' F' H' ∧ RepL K Hf'' (rs.map (·.2)) xs := by
  obtain ⟨rel, st, G, ow, nd, off, fr⟩ := g
  have s1 := frzH_sub (H := H') off
  have s2 := frzH_le (G := G) rel.sub
  have dis : ∀ a ∈ F', a ∉ G := fun a ha hg => (List.nodup_append.mp nd).2.2 a ha a hg rfl
  refine ⟨frzH Hf' H' G, s1, rel.grow s1 s2 fun a ha => ?_, ⟨st.hf.trans s1, st.fr, fun a o e n => ?_, st.own⟩, ow.rep s1 fun a ha o e => ?_⟩
  · rw [frzH_out (dis a ha)]; exact rel.off a ha
  · have hg : a ∉ G := fun hg => by
      rcases fr a hg with z | z
      · exact n z
      · rw [z] at e; cases e
    rw [frzH_out hg]; exact st.new a o e n
  · rw [frzH_in ha]; exact e
/-- a list of them -/
theorem GivesL.newL {rs : List R} {xs : List V} {p : Addr} (g : GivesL K Hf F H S' σ rs xs Hf' F' H1) (hp : H1 p = none) :
    ∃ Hf'', Gives K Hf F H S' σ (.own (dispD rs), .lst (rs.map (·.2))) (.ref p) Hf'' F' (L2.upd H1 p (.lst xs)) := by
  have plain : ∃ Hf'', Gives K Hf F H S' σ (.own 1, .lst (rs.map (·.2))) (.ref p) Hf'' F' (L2.upd H1 p (.lst xs)) := by
    obtain ⟨Hf'', s, rel, st, r⟩ := g.frz
    exact ⟨Hf'', .newL rel st hp r⟩
  unfold dispD
  split
  · exact plain
  · rename_i r0 _
    cases e : rs.all (fun q => q.2.flat || q.1 == r0.1) with
    | false => exact plain
    | true =>
      obtain ⟨rel, st, G, ow, nd, off, fr⟩ := g
      have hpF : p ∉ F' := fun h => by obtain ⟨o, e⟩ := rel.dom p h; rw [e] at hp; cases hp
      have domG : ∀ {rs : List R} {xs : List V} {G : List Addr}, OwnRs K Hf' H1 rs xs G → ∀ a ∈ G, ∃ o, H1 a = some o := by
        intro rs xs G h
        induction h with
        | nil => intro a h; cases h
        | cons h _ ih => exact fun a ha => (List.mem_append.mp ha).elim (h.dom a) (ih a)
      have hpG : p ∉ G := fun h => by obtain ⟨o, e⟩ := domG ow p h; rw [e] at hp; cases hp
      have hf : Hf' p = none := by
        cases q : Hf' p with
        | none => rfl
        | some o => rw [rel.sub p o q] at hp; cases hp
      refine ⟨Hf', rel.upd hp, st.upd hp, p :: G, .lst upd_same ((ow.same e).mono (HSub.refl _) fun a ha o q => HSub.upd hp a o q), ?_, ?_, ?_⟩
      · simp only [List.nodup_append, List.nodup_cons, List.mem_cons] at nd ⊢; grind
      · intro a ha
        rcases List.mem_cons.mp ha with z | z
        · rw [z]; exact hf
        · exact off a z
      · intro a ha
        rcases List.mem_cons.mp ha with z | z
        · rw [z]; exact st.fresh hp
        · exact fr a z
end
end BV
/-! Defs that are called where no repr runs (guards told), and the operations on values. -/
namespace BV
open PySem PySem.Spec PyProof.Rows L2

/-- a def keeps a promise, called where no repr is under way -/
structure FnG (P : Program) (w : World) (K : Frag) (mg : Str → Option Value) (base : Heap)
    (k : Nat) (f : Addr) (fd : FuncData) (ps : List Str) (sp : Sp) : Prop where
  len : ∀ vs H Q E, sp vs H Q E → vs.length = ps.length
  go : ∀ (A : Around), A.guards = some [] → Room k A →
    ∀ (outer : List Env) (s : Shared) (H : Hp) (args : Args) (us : List Value) (vs : List V) (Q : VK) (E : XK),
      Env0 P w K mg base A outer s H → BindsTo s fd args (ps.zip us) → Vals vs us → sp vs H Q E →
      codeAny (model P w) A (.call (.ref f) args) (CR CX0 outer P w H s Q E) s
theorem FnG.mono {P : Program} {w : World} {K : Frag} {mg : Str → Option Value} {base : Heap} {j k : Nat}
    {f : Addr} {fd : FuncData} {ps : List Str} {sp : Sp} (F : FnG P w K mg base j f fd ps sp) (h : j ≤ k) :
    FnG P w K mg base k f fd ps sp := ⟨F.len, fun A g r => F.go A g (r.mono h)⟩
/-- nothing promised, nothing to keep -/
theorem FnG.idle {P : Program} {w : World} {K : Frag} {mg : Str → Option Value} {base : Heap} {k : Nat}
    {f : Addr} {fd : FuncData} {ps : List Str} {sp : Sp} (h : ∀ vs H Q E, ¬ sp vs H Q E) : FnG P w K mg base k f fd ps sp :=
  ⟨fun vs H Q E q => (h vs H Q E q).elim, fun _ _ _ _ _ H _ _ vs Q E _ _ _ q => (h vs H Q E q).elim⟩
/-- THE RULE of a def, by its body -/
theorem FnG.of {P : Program} {w : World} {K : Frag} {mg : Str → Option Value} {base : Heap} {k : Nat} {x qual : Str}
    {params : Arguments} {body : List Stmt} {scope : Scope} {dvs : List V} {kws : List (Str × V)} {f : Addr} {fd : FuncData}
    {N ps : List Str} {sp : Sp} (F : FunD K x qual params body scope dvs kws f fd) (S : FnScope N ps scope)
    (len : ∀ vs H Q E, sp vs H Q E → vs.length = ps.length)
    (walk : ∀ (X : Cx), X.prog = P → X.w = w → X.K = K → X.mg = mg → X.base = base → X.N = N → X.env.scope = scope → X.calm = true →
      X.xe = (fun _ _ => False) → X.A.guards = some [] → Room k X.A → X.fn = (fun _ => true) →
      ∀ (H : Hp) (vs : List V) (Q : VK) (E : XK), sp vs H Q E → ∃ t, PSs X body t ∧ t { nx := fun _ H' => Q .non H', rt := Q } (L2.start N vs) H) :
    FnG P w K mg base (k + 1) f fd ps sp := by
  obtain ⟨oc, od, dV, kV, doc, pm, an, cdv, ct, osl, rfl, lk, hcd, _, _⟩ := F.ex
  refine ⟨len, fun A hG hr outer s H args us vs Q E e0 hb r hsp => ?_⟩
  have hl := len vs H Q E hsp
  have keep : ∀ b o, base.get? b = some o → s.heap.get? b = some o := fun b o e => (e0.bs b o e).1
  have KX : K.In s.heap := e0.mod.kin.keeps keep
  have hkind : ∀ y ∈ ps.zip us, scope.names.lookup y.1 = some .local ∨
      (scope.names.lookup y.1 = some .cell ∧ ((cellsFrom (s.heap.objs.size + 1) scope.names []).lookup y.1).isSome = true) := by
    rintro ⟨n, v⟩ hy
    rcases S.par n (List.of_mem_zip hy).1 with z | z
    · exact Or.inl z
    · exact Or.inr ⟨z, PySem.W.cellsFrom_some _ _ _ (Or.inl z)⟩
  refine codeAny_call_function hr.depth (KX _ _ lk) rfl S.co S.gen rfl
    (PySem.W.codeRec_of KX hcd) (hb _ _ _ _ (wpAny_newFunctionEnv_cells S.kind hkind ?_))
  intro env he s1 x
  subst he
  refine ⟨(e0.mod.nolimit.keeps keep).keeps x.toInCall.keep, codeAny_func ?_⟩
  have I := inv_start (CX := CX0) (E := E) S hr.hd e0 hl r x
  obtain ⟨t, ht, hq⟩ := walk (cxOf CX0 P w K mg base N qual scope f cdv A outer s H E).nox rfl rfl rfl rfl rfl rfl rfl rfl rfl hG (hr.deeper _) rfl H vs Q E hsp
  refine wpAny_mono ((PSs.nox ht).run [] s1 (L2.start N vs) H _ I hq) ?_ (fun _ _ z => z)
  intro fl s' hs
  cases fl with
  | ret u => obtain ⟨v, σ', H', J, rv, z⟩ := hs; exact ⟨v, H', J.os, J.bare, J.base, J.hok, rv, z⟩
  | next => obtain ⟨σ', H', J, z⟩ := hs; exact ⟨.non, H', J.os, J.bare, J.base, J.hok, rfl, z⟩
  | brk => exact hs.elim fun _ z => z.elim fun _ z => z.2.elim
  | cont => exact hs.elim fun _ z => z.elim fun _ z => z.2.elim
/-- a def is called from a body -/
theorem FnG.call {X : Cx} {k : Nat} {f : Addr} {fd : FuncData} {ps : List Str} {sp : Sp} {pins : List (Addr × Obj)} {σ : L2.St} {H : Hp} {s : Shared}
    {args : Args} {us : List Value} {vs : List V} {Q : VK} {E : XK} (F : FnG X.prog X.w X.K X.mg X.base k f fd ps sp) (hG : X.A.guards = some []) (hr : Room k X.A)
    (I : Inv X pins σ H s) (hb : BindsTo s fd args (ps.zip us)) (r : Vals vs us) (h : sp vs H Q E) :
    wpAny (model X.prog X.w) X.A (call (.ref f) args.pos args.kw) (EP X pins σ Q) X.xe s := by
  refine wpAny_call (codeAny_mono (F.go X.A hG hr X.stack s H args us vs Q E I.env0 hb r h) ?_)
  intro r s' hq
  cases r with
  | error e => exact hq.elim
  | ok fl =>
    cases fl with
    | ret u => exact I.after hq
    | next => exact hq.elim
    | brk => exact hq.elim
    | cont => exact hq.elim
/-- the law's own call, at the heap behind the top -/
theorem law_callG {P : Program} {w : World} {K : Frag} {mg mb : Str → Option Value} {k : Nat} {fa a : Addr} {fd : FuncData} {x : Str} {sp : Sp}
    {s1 : Shared} {vs : List Value} {ns : List Int} (KX : K.In s1.heap) (hns : s1.heap.Ns mainGlobals mg) (hb : s1.heap.Ns builtinsNs mb)
    (hbb : ∀ x : Str, x ≠ "__name__" → mb x = bootBuiltins x) (hlim : s1.heap.NoLimit) (hg : s1.gens = #[])
    (ha : s1.heap.get? a = some { cls := .type "list", data := .seq vs.toArray }) (hi : IntsAre vs ns) (hl : ns.length ≤ sizeLine)
    (hr : Room k callerA) (F : ∀ base : Heap, K.In base → base.Ns mainGlobals mg → FnG P w K mg base k fa fd [x] sp)
    (hbind : ∀ (s : Shared) (u : Value), BindsTo s fd ⟨[u], []⟩ [(x, u)])
    (hsp : ∀ H : Hp, RdL K H a (ns.map V.int) → sp [.ref a] H (fun v _ => v = .bl true) fun _ _ _ => False) :
    codeAny (model P w) callerA (.call (.ref fa) ⟨[.ref a], []⟩)
      (fun r s' => r = .ok (.ret (.bool true)) ∧ OldK s1.heap s'.heap ∧ s'.os = s1.os ∧ AllBare s'.gens) s1 := by
  have rv := vals_ints hi
  let ob : Obj := { cls := .type "list", data := .seq vs.toArray }
  have core : ∀ H : Hp, (∀ b, H b = none ∨ (b = a ∧ H b = some (.frz ob (.lst (ns.map V.int))))) → (H a ≠ none → K.lookup a = none) → RdL K H a (ns.map V.int) →
      codeAny (model P w) callerA (.call (.ref fa) ⟨[.ref a], []⟩) (fun r s' => r = .ok (.ret (.bool true)) ∧ OldK s1.heap s'.heap ∧ s'.os = s1.os ∧ AllBare s'.gens) s1 := by
    intro H only hK hS
    have hok : HOk P w H s1.heap := by
      intro b u z
      rcases only b with e | ⟨rfl, e⟩
      · rw [e] at z; cases z
      · rw [e] at z; cases z
        exact ⟨ha, by rw [List.length_map]; exact hl, vs, _, rv, ha⟩
    have up : ∀ {b : Addr} {o : Obj}, s1.heap.get? b = some o → H b = none → (hidT s1.heap H).get? b = some o := fun e n => hidT_get e n
    have nsUp : ∀ {b : Addr} {m : Str → Option Value}, s1.heap.Ns b m → (hidT s1.heap H).Ns b m := by
      rintro b m ⟨o, es, ep, e, d, r⟩
      refine ⟨o, es, ep, up e ?_, d, r⟩
      rcases only b with z | ⟨rfl, z⟩
      · exact z
      · rw [ha] at e; cases e
        have d' : Data.seq vs.toArray _ = Data.dict es ep := d
        cases d'
    have Kup : K.In (hidT s1.heap H) := fun b o e => up (KX b o e) (by
      rcases only b with z | ⟨rfl, z⟩
      · exact z
      · rw [hK (by rw [z]; simp)] at e; cases e)
    have hM : Mod K mg (hidT s1.heap H) := by
      obtain ⟨mc, h1, h2⟩ := hlim
      exact ⟨Kup, nsUp hns, ⟨mb, nsUp hb, hbb⟩, ⟨mc, nsUp h1, h2⟩⟩
    have e0 : Env0 P w K mg (hidT s1.heap H) callerA [] s1 H := by
      refine ⟨rfl, hM, fun b o e => of_hidT e, Nat.le_of_eq (hidT_size _ _), trivial, fun b hb => ?_, hok, .of_eq hg⟩
      cases (show b ∈ ([] : List Addr) from hb)
    have go := (F _ Kup (nsUp hns)).go callerA rfl hr [] s1 H ⟨[.ref a], []⟩ [.ref a] [.ref a] _ _ e0 (hbind s1 (.ref a)) (.cons rfl .nil) (hsp H hS)
    refine codeAny_mono go ?_
    intro r s' h
    cases r with
    | error e => exact h.elim
    | ok fl =>
      cases fl with
      | next => exact h.elim
      | brk => exact h.elim
      | cont => exact h.elim
      | ret u =>
        obtain ⟨v, H', os, bare, un, hok', r', q⟩ := h
        obtain rfl : v = .bl true := q
        obtain rfl : u = Value.bool true := r'
        refine ⟨rfl, OldK.of_keep fun b o e => ?_, os, bare⟩
        rcases only b with z | ⟨rfl, z⟩
        · exact un.keep b o e z (by intro z; cases (show b ∈ ([] : List Addr) from z)) (by simp)
        · rw [ha] at e; cases e
          exact (hok' b _ (un.frzs b _ _ z)).1
  cases hk : K.lookup a with
  | some o =>
    have e := KX a o hk
    rw [ha] at e
    cases e
    exact core (fun _ => none) (fun _ => Or.inl rfl) (fun z => absurd rfl z) (.inr ⟨vs, _, hk, by rw [List.length_map]; exact hl, rv⟩)
  | none =>
    refine core (fun b => if b = a then some (.frz ob (.lst (ns.map V.int))) else none) (fun b => ?_) (fun _ => hk) (.inl (.inr ⟨ob, if_pos rfl⟩))
    by_cases h : b = a
    · exact .inr ⟨h, if_pos h⟩
    · exact .inl (if_neg h)
end BV
/-! Operations on values. -/
namespace BV
open PySem PySem.Spec PyProof.Rows L2
/-- what an operation hands back: a shared thing, a new list, a new tuple -/
inductive New (K : Frag) (Hf H : Hp) : R → V → Hp → Prop
  | frz {v : Val} {z : V} : Rep K Hf v z → New K Hf H (0, v) z H
  | lst {vs : List Val} {ys : List V} {p : Addr} : H p = none → RepL K Hf vs ys → New K Hf H (1, .lst vs) (.ref p) (upd H p (.lst ys))
  | tup {vs : List Val} {ys : List V} {p : Addr} : H p = none → RepL K Hf vs ys → New K Hf H (0, .tup vs) (.ref p) (upd H p (.tup ys))
section
variable {K : Frag} {Hf Hf0 H H0 H' : Hp} {F F0 : List Addr} {S : Slots} {σ : L2.St}
theorem New.sub {r : R} {z : V} (n : New K Hf H r z H') : HSub H H' := by
  cases n with
  | frz _ => exact HSub.refl _
  | lst h _ => exact HSub.upd h
  | tup h _ => exact HSub.upd h
theorem New.gives {r : R} {z : V} (n : New K Hf H r z H') (rel : Rel K Hf F S σ H) (st : Step Hf0 F0 H0 Hf F H) : ∃ Hf', Gives K Hf0 F0 H0 S σ (.own r.1, r.2) z Hf' F H' := by
  cases n with
  | frz h => exact ⟨Hf, .frz rel st h (.inl rfl)⟩
  | lst h r => exact ⟨Hf, .newL rel st h r⟩
  | tup h r => exact ⟨_, .newT rel st h r⟩
end
def rOp2 (K : Frag) (f : Val → Val → Option R) : R2 := fun x y H Q => ∃ va vb Hf r, HSub Hf H ∧ RepE K Hf H va x ∧ RepE K Hf H vb y ∧ f va vb = some r ∧ ∀ z H', New K Hf H r z H' → Q z H'
theorem gd_some {α : Type} {b : Bool} {o : Option α} {x : α} : gd b o = some x ↔ b = true ∧ o = some x := by
  cases b <;> simp [gd]
section
variable {K : Frag} {Hf H : Hp}
theorem RepE.int_ {i : Int} {x : V} (h : RepE K Hf H (.int i) x) : x = .int i := by
  cases h with | flat _ h => cases h; rfl
theorem RepE.str_ {i : Str} {x : V} (h : RepE K Hf H (.str i) x) : x = .str i := by
  cases h with | flat _ h => cases h; rfl
theorem RepE.bl_ {i : Bool} {x : V} (h : RepE K Hf H (.bl i) x) : x = .bl i := by
  cases h with | flat _ h => cases h; rfl
theorem RepE.non_ {x : V} (h : RepE K Hf H .non x) : x = .non := by
  cases h with | flat _ h => cases h; rfl
theorem RepE.lst_ {xs : List Val} {x : V} (h : RepE K Hf H (.lst xs) x) : ∃ a ys, x = .ref a ∧ RdL K H a ys ∧ RepL K Hf xs ys := by
  cases h with
  | flat e _ => cases e
  | lst h r => exact ⟨_, _, rfl, h, r⟩
theorem RepE.tup_ {xs : List Val} {x : V} (h : RepE K Hf H (.tup xs) x) : ∃ a ys, x = .ref a ∧ SqT K Hf a ys ∧ RepL K Hf xs ys ∧ Rep K Hf (.tup xs) x := by
  cases h with
  | flat _ h =>
    cases h with
    | tup h r => exact ⟨_, _, rfl, h, r, .tup h r⟩
theorem RepE.dic_ {xs : List (Key × Val)} {x : V} (h : RepE K Hf H (.dic xs) x) : ∃ a ys, x = .ref a ∧ H a = some (.dK ys) ∧ RepK K Hf xs ys := by
  cases h with
  | flat e _ => cases e
  | dic h r => exact ⟨_, _, rfl, h, r⟩
theorem RepL.flatRep {vs : List Val} {xs : List V} (h : RepL K H vs xs) : ∀ n : Nat, RepL K H (List.replicate n vs).flatten (List.replicate n xs).flatten
  | 0 => .nil
  | n + 1 => by
    rw [List.replicate_succ, List.replicate_succ, List.flatten_cons, List.flatten_cons]
    exact h.append (RepL.flatRep h n)
end
section
variable {X : Cx}
/-- list + list -/
theorem op_catR {pins : List (Addr × Obj)} {s : Shared} {σ : L2.St} {H : Hp} {a b : Addr} {xs ys : List V} {Q : VK} (I : Inv X pins σ H s) (h1 : RdL X.K H a xs) (h2 : RdL X.K H b ys)
    (hz : xs.length + ys.length ≤ sizeLine) (q : ∀ p, H p = none → Q (.ref p) (upd H p (.lst (xs ++ ys)))) :
    wpAny (model X.prog X.w) X.A (binaryOp .Add (.ref a) (.ref b)) (EP X pins σ Q) X.xe s := by
  obtain ⟨_, its, n, r, e⟩ := h1.obj I
  obtain ⟨_, its2, n2, r2, e2⟩ := h2.obj I
  have l1 := r.length
  have l2 := r2.length
  refine PySem.P.add_list e e2 ?_ (by rw [List.size_toArray, List.size_toArray]; omega)
  rw [show its.toArray ++ its2.toArray = (its ++ its2).toArray by simp]
  exact ⟨.ref _, _, I.lnew (t' := s.toks) (r.append r2) (by rw [List.length_append]; omega), rfl, q _ I.fresh⟩
/-- tuple * int -/
theorem tup_mul0 (l : Addr) (items : Array Value) (n : Nat) (dd : Option Addr) (sl : Array (Option Value)) (x : Int) (u : Tok)
    (c0 : (decide (x < -(2 ^ 63)) || decide (x ≥ 2 ^ 63)) = false) (c1 : (items.isEmpty || x == 1) = true) :
    Meets (Builtin.«tuple.__mul__» ⟨[.ref l, .int x u], []⟩) (fun _ R s => s.heap.get? l = some { cls := .type "tuple", dict := dd, data := .seq items n, slots := sl } ∧ R (.ok (.ret (Value.ref l))) s) :=
  .of_wp fun prog w A R s h => by
    obtain ⟨hp, g, d, tk, os⟩ := s
    obtain ⟨hl, h⟩ := h
    have f1 := AutoSeq1.idx_int
    wp_walk using wpAny_loadPart' hl
    repeat (first
      | (refine wpAny_ite_false (decide_eq_false (by rw [c0]; exact Bool.false_ne_true)) ?_; wp_walk using wpAny_loadPart' hl)
      | (refine wpAny_ite_true (decide_eq_true c1) ?_; wp_walk using wpAny_loadPart' hl))
    exact ⟨_, rfl, h⟩

theorem tup_mulN (l : Addr) (items : Array Value) (n : Nat) (dd : Option Addr) (sl : Array (Option Value)) (x : Int) (u : Tok)
    (c0 : (decide (x < -(2 ^ 63)) || decide (x ≥ 2 ^ 63)) = false) (c1 : (items.isEmpty || x == 1) = false) (c2 : (decide (x ≤ 0) || items.isEmpty) = true) :
    Meets (Builtin.«tuple.__mul__» ⟨[.ref l, .int x u], []⟩) (fun _ R s => s.heap.get? l = some { cls := .type "tuple", dict := dd, data := .seq items n, slots := sl } ∧
      R (.ok (.ret (Value.ref s.heap.objs.size))) { s with heap := s.heap.push { cls := Value.type "tuple", data := Data.seq #[] }, toks := s.toks }) :=
  .of_wp fun prog w A R s h => by
    obtain ⟨hp, g, d, tk, os⟩ := s
    obtain ⟨hl, h⟩ := h
    have f1 := AutoSeq1.idx_int
    wp_walk using wpAny_loadPart' hl
    repeat (first
      | (refine wpAny_ite_false (decide_eq_false (by rw [c0]; exact Bool.false_ne_true)) ?_; wp_walk using wpAny_loadPart' hl)
      | (refine wpAny_ite_false (decide_eq_false (by rw [c1]; exact Bool.false_ne_true)) ?_; wp_walk using wpAny_loadPart' hl)
      | (refine wpAny_ite_true (decide_eq_true c2) ?_; wp_walk using wpAny_loadPart' hl))
    exact ⟨_, rfl, h⟩
theorem op_repTR {pins : List (Addr × Obj)} {s : Shared} {σ : L2.St} {H : Hp} {l : Addr} {k : Int} {t : Tok} {xs : List V} {Q : VK} (I : Inv X pins σ H s) (hT : SqT X.K H l xs)
    (h1 : k ≤ 100000) (h2 : -100000 ≤ k) (hz : xs.length ≤ 100) (q0 : (List.replicate k.toNat xs).flatten = xs → Q (.ref l) H) (q : ∀ p, H p = none → Q (.ref p) (upd H p (.tup (List.replicate k.toNat xs).flatten))) :
    wpAny (model X.prog X.w) X.A (binaryOp .Mult (.ref l) (.int k t)) (EP X pins σ Q) X.xe s := by
  obtain ⟨its, r, ⟨⟨cls, dd, data, sl⟩, ho, hc, n, hd⟩, hs⟩ := I.tuple hT
  simp only at hc hd
  subst hc hd
  have hle : its.length = xs.length := r.length.symm
  have c0 : (decide (k < -(2 ^ 63)) || decide (k ≥ 2 ^ 63)) = false := by
    rw [decide_eq_false (by omega), decide_eq_false (by omega)] <;> rfl
  have road : wpAny (model X.prog X.w) X.A (call (.builtin "tuple.__mul__") [.ref l, .int k t]) (EP X pins σ Q) X.xe s → wpAny (model X.prog X.w) X.A (binaryOp .Mult (.ref l) (.int k t)) (EP X pins σ Q) X.xe s := by
    intro g
    have no := call_meets (prog := X.prog) (w := X.w) (A := X.A) (E := X.xe) (s := s) PySem.F.slot_int_rmul (typeIs_int s k t) PySem.F.entry_int_rmul (PySem.F.args_int_rmul_2 _ _) (int_rmul_tuple k t l its.toArray n dd sl)
      (Q := fun v s' => v = .notImplemented ∧ s'.TypeIs (.ref l) "tuple" ∧ wpAny (model X.prog X.w) X.A (call (.builtin "tuple.__mul__") [.ref l, .int k t]) (EP X pins σ Q) X.xe s') ⟨ho, rfl, ⟨_, ho, rfl⟩, g⟩
    exact wpAny_binaryOp_repeat_ref (T := "tuple") (U := "int") (by decide) ⟨_, ho, rfl⟩ (fun s' => typeIs_int s' k t) noFill_tuple_mul PySem.F.fills_int_mul PySem.F.slot_int_rmul repeat_tuple PySem.F.slot_int_index.lookup no
  have fl : (List.replicate k.toNat its).flatten.length ≤ 100000 * 100 := by
    rw [PyProof.Rows.lm_len_rep_flat, hle]
    exact Nat.mul_le_mul (by omega) hz
  by_cases e1 : (its.toArray.isEmpty || k == 1) = true
  · refine road (call_meets PySem.F.slot_tuple_mul ⟨_, ho, rfl⟩ PySem.F.entry_tuple_mul (PySem.F.args_tuple_mul_2 _ _) (tup_mul0 l its.toArray n dd sl k t c0 e1) ⟨ho, ?_⟩)
    refine ⟨.ref l, H, I, rfl, q0 ?_⟩
    rcases Bool.or_eq_true_iff.mp e1 with z | z
    · have : its = [] := by simpa using z
      rw [this] at hle
      have : xs = [] := List.eq_nil_of_length_eq_zero hle.symm
      rw [this]; simp
    · have : k = 1 := by simpa using z
      rw [this]; simp
  · have e1' : (its.toArray.isEmpty || k == 1) = false := by simpa using e1
    by_cases e2 : (decide (k ≤ 0) || its.toArray.isEmpty) = true
    · refine road (call_meets PySem.F.slot_tuple_mul ⟨_, ho, rfl⟩ PySem.F.entry_tuple_mul (PySem.F.args_tuple_mul_2 _ _) (tup_mulN l its.toArray n dd sl k t c0 e1' e2) ⟨ho, ?_⟩)
      have em : its.toArray.isEmpty = false := by
        cases q : its.toArray.isEmpty with
        | false => rfl
        | true => rw [q] at e1'; cases e1'
      have k0 : k.toNat = 0 := by
        rw [em, Bool.or_false] at e2
        have := of_decide_eq_true e2
        omega
      rw [k0] at q
      refine ⟨.ref s.heap.objs.size, _, I.laid (t' := s.toks) (o := .tup []) (fun b ob q => Heap.get?_push_of_some _ q) (Nat.le_refl _) ?_, rfl, q _ (I.hok.fresh (Nat.le_refl _))⟩
      exact ⟨Nat.zero_le _, [], .nil, IsTup.new _ _⟩
    · have e2' : (decide (k ≤ 0) || its.toArray.isEmpty) = false := by simpa using e2
      have hm : ((its.toArray.size : Nat) : Int) * k ≤ 10000000 := by
        have kp : 0 ≤ k := by
          rcases Bool.or_eq_false_iff.mp e2' with ⟨z, _⟩
          have := of_decide_eq_false z
          omega
        have a1 : ((its.toArray.size : Nat) : Int) * k ≤ 100 * k := Int.mul_le_mul_of_nonneg_right (by rw [List.size_toArray, hle]; omega) kp
        omega
      have c4 : Builtin.Tuple.tupleTooMany (((its.toArray.size : Nat) : Int) * k) = false := by
        unfold Builtin.Tuple.tupleTooMany
        rw [sizeLine_eq]
        exact decide_eq_false (by omega)
      refine road (call_meets PySem.F.slot_tuple_mul ⟨_, ho, rfl⟩ PySem.F.entry_tuple_mul (PySem.F.args_tuple_mul_2 _ _)
        (tuple_mulW l its.toArray n dd sl k t c0 e1' e2' (by omega) c4 (by rw [size_rep, List.size_toArray, sizeLine_eq]; omega)) ⟨ho, ?_⟩)
      rw [size_rep]
      refine ⟨.ref s.heap.objs.size, _, I.laid (t' := s.toks) (o := .tup (List.replicate k.toNat xs).flatten) (fun b ob q => Heap.get?_push_of_some _ q) (Nat.le_refl _) ?_, rfl, q _ (I.hok.fresh (Nat.le_refl _))⟩
      refine ⟨?_, _, r.rep k.toNat, IsTup.new _ _⟩
      rw [PyProof.Rows.lm_len_rep_flat, sizeLine_eq]
      rw [PyProof.Rows.lm_len_rep_flat, hle] at fl
      omega
/-- list * int -/
theorem op_repLR {pins : List (Addr × Obj)} {s : Shared} {σ : L2.St} {H : Hp} {l : Addr} {k : Int} {t : Tok} {xs : List V} {Q : VK} (I : Inv X pins σ H s) (hL : RdL X.K H l xs)
    (h1 : -(2 ^ 63) ≤ k) (h2 : k < 2 ^ 63) (hz : xs.length * k.toNat ≤ sizeLine) (q : ∀ p, H p = none → Q (.ref p) (upd H p (.lst (List.replicate k.toNat xs).flatten))) :
    wpAny (model X.prog X.w) X.A (binaryOp .Mult (.ref l) (.int k t)) (EP X pins σ Q) X.xe s := by
  obtain ⟨_, its, n, r, e⟩ := hL.obj I
  have sz : its.toArray.size * k.toNat ≤ sizeLine := by rw [List.size_toArray, ← r.length]; exact hz
  have a1 : ¬ its.toArray.size * k.toNat > (2 ^ 63 - 1) / 8 := by
    rw [sizeLine_eq] at sz
    omega
  have a2 : ¬ (!Builtin.List.listFitsIndex k) = true := by simp [fitsIndex_both h1 h2]
  have a3 : ¬ Builtin.List.listTooLong (its.toArray.size * k.toNat) = true := by rw [notLongL sz]; exact Bool.false_ne_true
  have a4 : List.foldl (fun x1 x2 => x1 ++ x2) #[] (List.replicate (if its.toArray.isEmpty = true then 0 else k.toNat) its.toArray) = (List.replicate k.toNat its).flatten.toArray := by
    rw [size_rep]
    cases its with
    | nil => simp
    | cons a b => simp
  have g := call_meets (prog := X.prog) (w := X.w) (A := X.A) (E := X.xe) (s := s) PySem.F.slot_list_mul (show s.TypeIs (.ref l) "list" from ⟨_, e, rfl⟩) PySem.F.entry_list_mul (PySem.F.args_list_mul_2 _ _) (AutoListH.list___mul___list_int_3 l its.toArray n k t a2 a1 a3)
    (Q := EP X pins σ Q) ⟨e, by rw [a4]; exact ⟨.ref _, _, I.lnew (t' := s.toks) (r.rep k.toNat) (by rw [PyProof.Rows.lm_len_rep_flat, Nat.mul_comm]; exact hz), rfl, q _ I.fresh⟩⟩
  have no := call_meets (prog := X.prog) (w := X.w) (A := X.A) (E := X.xe) (s := s) PySem.F.slot_int_rmul (typeIs_int s k t) PySem.F.entry_int_rmul (PySem.F.args_int_rmul_2 _ _) (int___rmul___int_list k t l its.toArray n)
      (Q := fun v s' => v = .notImplemented ∧ s'.TypeIs (.ref l) "list" ∧ wpAny (model X.prog X.w) X.A (call (.builtin "list.__mul__") [.ref l, .int k t]) (EP X pins σ Q) X.xe s') ⟨e, rfl, ⟨_, e, rfl⟩, g⟩
  exact wpAny_binaryOp_repeat_ref (T := "list") (U := "int") (by decide) ⟨_, e, rfl⟩ (fun s' => typeIs_int s' k t) noFill_list_mul PySem.F.fills_int_mul PySem.F.slot_int_rmul repeat_list PySem.F.slot_int_index.lookup no
theorem op_bin (op : Operator) : OpR X (binaryOp op) (rOp2 X.K (binV op)) := by
  intro pins s σ H x y v u Q I rx ry h
  obtain ⟨va, vb, Hf, r, hs, ha, hb, e, q⟩ := h
  unfold binV at e
  split at e <;> try (rw [gd_some] at e; obtain ⟨c, e⟩ := e)
  all_goals try (simp only [Option.some.injEq, reduceCtorEq] at e)
  all_goals subst e
  · obtain rfl := ha.int_; obtain rfl := hb.int_
    exact op_add pins s σ H _ _ v u Q I rx ry ⟨_, _, rfl, rfl, q _ _ (.frz (.int _))⟩
  · obtain rfl := ha.str_; obtain rfl := hb.str_
    exact op_add_str pins s σ H _ _ v u Q I rx ry ⟨_, _, rfl, rfl, of_decide_eq_true c, q _ _ (.frz (.str _))⟩
  · obtain ⟨a, ys, rfl, h1, r1⟩ := ha.lst_
    obtain ⟨b, zs, rfl, h2, r2⟩ := hb.lst_
    cases rx; cases ry
    refine op_catR I h1 h2 ?_ fun p hp => q _ _ (.lst hp (r1.append r2))
    rw [r1.length, r2.length]; exact of_decide_eq_true c
  · obtain ⟨a, ys, rfl, h1, r1, t1⟩ := ha.tup_
    obtain ⟨b, zs, rfl, h2, r2, t2⟩ := hb.tup_
    refine op_catA pins s σ H _ _ v u Q I rx ry ⟨a, b, ys, zs, rfl, rfl, sqT_mono hs h1, sqT_mono hs h2, ?_, fun z => ?_, fun _ z => ?_, fun _ _ p hp => q _ _ (.tup hp (r1.append r2))⟩
    · rw [r1.length, r2.length]; exact of_decide_eq_true c
    · subst z
      cases r1
      exact q _ _ (.frz t2)
    · subst z
      cases r2
      rw [List.append_nil] at q
      exact q _ _ (.frz t1)
  · obtain rfl := ha.int_; obtain rfl := hb.int_
    exact op_sub pins s σ H _ _ v u Q I rx ry ⟨_, _, rfl, rfl, q _ _ (.frz (.int _))⟩
  · obtain rfl := ha.int_; obtain rfl := hb.int_
    have c' := of_decide_eq_true c
    exact op_mul pins s σ H _ _ v u Q I rx ry ⟨_, _, rfl, rfl, c', q _ _ (.frz (.int _))⟩
  · obtain ⟨a, ys, rfl, h1, r1⟩ := ha.lst_
    obtain rfl := hb.int_
    cases rx
    obtain ⟨t, rfl⟩ := ry
    obtain ⟨c1, c2, c3⟩ := of_decide_eq_true c
    exact op_repLR I h1 c1 c2 (by rw [r1.length]; exact c3) fun p hp => q _ _ (.lst hp (r1.flatRep _))
  · obtain ⟨a, ys, rfl, h1, r1, t1⟩ := ha.tup_
    obtain rfl := hb.int_
    cases rx
    obtain ⟨t, rfl⟩ := ry
    obtain ⟨c1, c2, c3⟩ := of_decide_eq_true c
    refine op_repTR I (sqT_mono hs h1) c1 c2 (by rw [r1.length]; exact c3) (fun z => ?_) fun p hp => q _ _ (.tup hp (r1.flatRep _))
    refine q _ _ (.frz (.tup h1 ?_))
    have g : ∀ m : Nat, (List.replicate m ys).flatten = ys → RepL X.K Hf (List.replicate m _).flatten ys := fun m z => by
      have := r1.flatRep m
      rw [z] at this
      exact this
    exact g _ z
  · obtain rfl := ha.int_; obtain rfl := hb.int_
    exact op_mod pins s σ H _ _ v u Q I rx ry ⟨_, _, rfl, rfl, of_decide_eq_true c, q _ _ (.frz (.int _))⟩
  · obtain rfl := ha.int_; obtain rfl := hb.int_
    have c' := of_decide_eq_true c
    exact op_fdiv pins s σ H _ _ v u Q I rx ry ⟨_, _, rfl, rfl, c', q _ _ (.frz (.int _))⟩
  · obtain rfl := ha.int_; obtain rfl := hb.int_
    have c' := of_decide_eq_true c
    exact op_pow pins s σ H _ _ v u Q I rx ry ⟨_, _, rfl, rfl, c', q _ _ (.frz (.int _))⟩
/-! ### comparisons -/
mutual
theorem Rep.dp {K : Frag} {H : Hp} : ∀ {v : Val} {x : V}, Rep K H v x → PyData.canLay0 v.toD = true → Dp K H x v.toD
  | _, _, .non, _ => by unfold Val.toD; exact .non
  | _, _, .bl b, _ => by unfold Val.toD; exact .bl b
  | _, _, .int b, _ => by unfold Val.toD; exact .int b
  | _, _, .str b, _ => by unfold Val.toD; exact .str b
  | _, _, .tup h r, e => by
    unfold Val.toD at e ⊢
    unfold PyData.canLay0 at e
    exact .tup h (RepL.dp r e)
  | _, _, .lst h r, e => by
    unfold Val.toD at e ⊢
    unfold PyData.canLay0 at e
    exact .lst h.sq (RepL.dp r e)
  | _, _, .dic h r, e => by
    unfold Val.toD PyData.canLay0 at e
    cases e
theorem RepL.dp {K : Frag} {H : Hp} : ∀ {v : List Val} {x : List V}, RepL K H v x → PyData.canLayAll0 (toDs v) = true → DpAll K H x (toDs v)
  | _, _, .nil, _ => by unfold toDs; exact .nil
  | _, _, .cons h r, e => by
    unfold toDs at e ⊢
    unfold PyData.canLayAll0 at e
    rw [Bool.and_eq_true] at e
    exact .cons (Rep.dp h e.1) (RepL.dp r e.2)
end
def rCmp (K : Frag) (f : Val → Val → Option Bool) : R2 := fun x y H Q => ∃ va vb Hf r, HSub Hf H ∧ RepE K Hf H va x ∧ RepE K Hf H vb y ∧ f va vb = some r ∧ Q (.bl r) H
theorem eqS_cases {a b : Val} {r : Bool} (h : eqS a b = some r) : scalar a b = some r ∨ eqV a b = some r := by
  unfold eqS at h
  cases e : scalar a b with
  | none => rw [e] at h; exact .inr h
  | some c => rw [e] at h; exact .inl h
theorem eq_core {pins : List (Addr × Obj)} {s : Shared} {σ : L2.St} {H Hf : Hp} {x y : V} {v u : Value} {Q : VK} {va vb : Val} {r : Bool} (neg : Bool) (hu : X.A.units + 64 < cLine) (I : Inv X pins σ H s) (rx : RelV x v) (ry : RelV y u)
    (hs : HSub Hf H) (ha : RepE X.K Hf H va x) (hb : RepE X.K Hf H vb y) (e : eqS va vb = some r) (q : Q (.bl (bif neg then !r else r)) H) :
    wpAny (model X.prog X.w) X.A (compareOp (bif neg then .NotEq else .Eq) v u) (EP X pins σ Q) X.xe s := by
  rcases eqS_cases e with e | e
  · have fin : ∀ (sc : scal x y = true), decide (x = y) = r → wpAny (model X.prog X.w) X.A (compareOp (bif neg then .NotEq else .Eq) v u) (EP X pins σ Q) X.xe s := by
      intro sc hd
      cases neg with
      | false => exact op_eq pins s σ H _ _ v u Q I rx ry ⟨sc, by rw [hd]; exact q⟩
      | true => exact op_ne pins s σ H _ _ v u Q I rx ry ⟨sc, by rw [hd]; exact q⟩
    unfold scalar at e
    split at e
    · obtain rfl := ha.int_; obtain rfl := hb.int_
      exact fin rfl (by simpa using e)
    · obtain rfl := ha.str_; obtain rfl := hb.str_
      exact fin rfl (by simpa using e)
    · obtain rfl := ha.bl_; obtain rfl := hb.bl_
      exact fin rfl (by simpa using e)
    · rename_i xs ys _
      cases hne : (xs.length != ys.length) with
      | false => rw [hne] at e; cases e
      | true =>
        rw [hne] at e
        obtain rfl : false = r := Option.some.inj e
        cases ha with
        | flat z _ => cases z
        | lst h1 l1 =>
          cases hb with
          | flat z _ => cases z
          | lst h2 l2 =>
            obtain rfl : v = Value.ref _ := rx
            obtain rfl : u = Value.ref _ := ry
            obtain ⟨i1, r1, ⟨o1, n1, g1, c1, _, d1⟩, _⟩ := I.list h1.sq
            obtain ⟨i2, r2, ⟨o2, n2, g2, c2, _, d2⟩, _⟩ := I.list h2.sq
            have hz : (i1.toArray.size != i2.toArray.size) = true := by
              rw [List.size_toArray, List.size_toArray, ← r1.length, ← r2.length, l1.length, l2.length]
              exact hne
            cases neg with
            | false => exact SeqAt.RcAt.lists_lengths ⟨o1, g1, c1, n1, d1⟩ ⟨o2, g2, c2, n2, d2⟩ hz (by omega) _ _ _ _ ⟨.bl false, H, I, rfl, q⟩
            | true => exact SeqAt.RcNeAt.lists_lengths ⟨o1, g1, c1, n1, d1⟩ ⟨o2, g2, c2, n2, d2⟩ hz (by omega) _ _ _ _ ⟨.bl true, H, I, rfl, q⟩
    · cases e
  · unfold eqV at e
    rw [gd_some, Bool.and_eq_true] at e
    obtain ⟨⟨c1, c2⟩, e⟩ := e
    have d1 := (ha.rep hs).dp (SeqAt.canLay_of_shaped c1)
    have d2 := (hb.rep hs).dp (SeqAt.canLay_of_shaped c2)
    have e' : PyData.eqv va.toD vb.toD = r := by simpa using e
    cases neg with
    | false => exact op_eqD hu pins s σ H _ _ v u Q I rx ry ⟨_, _, d1, d2, c1, c2, by rw [e']; exact q⟩
    | true => exact op_neD hu pins s σ H _ _ v u Q I rx ry ⟨_, _, d1, d2, c1, c2, by rw [e']; exact q⟩
theorem flatS_ok {K : Frag} {Hf H : Hp} {v : Val} {x u : V} (h : Rep K Hf v x) (e : flatS v = some u) : x = u ∧ flatV u = true := by
  cases h with
  | non => cases e; exact ⟨rfl, rfl⟩
  | bl b => cases e; exact ⟨rfl, rfl⟩
  | int b => cases e; exact ⟨rfl, rfl⟩
  | str b => cases e; exact ⟨rfl, rfl⟩
  | tup _ _ => cases e
  | lst _ _ => cases e
  | dic _ _ => cases e
theorem flatSs_ok {K : Frag} {Hf H : Hp} : ∀ {vs : List Val} {xs us : List V}, RepL K Hf vs xs → flatSs vs = some us → xs = us ∧ us.all flatV = true
  | _, _, _, .nil, e => by cases e; exact ⟨rfl, rfl⟩
  | _, _, us, .cons h r, e => by
    unfold flatSs at e
    rw [Option.bind_eq_some_iff] at e
    obtain ⟨u, e1, e⟩ := e
    rw [Option.map_eq_some_iff] at e
    obtain ⟨us', e2, rfl⟩ := e
    obtain ⟨rfl, f1⟩ := flatS_ok (H := H) h e1
    obtain ⟨rfl, f2⟩ := flatSs_ok (H := H) r e2
    exact ⟨rfl, by rw [List.all_cons, f1, f2]; rfl⟩
theorem valV_any {K : Frag} {Hf : Hp} {k : Key} : ∀ {kvs : List (Key × Val)} {ks : List (Key × V)}, RepK K Hf kvs ks → (valV ks k).isSome = kvs.any fun q => decide (q.1 = k)
  | _, _, .nil => rfl
  | _, _, .cons (k := k') (v := v) (x := x) (vs := vs) (xs := xs) h r => by
    have ih := valV_any (k := k) r
    unfold valV at ih ⊢
    rw [List.find?_cons, List.any_cons]
    by_cases e : k' = k
    · simp [e]
    · simp only [e, decide_false, Bool.false_or]
      exact ih
theorem keyOf_ok {K : Frag} {Hf : Hp} {v : Val} {x : V} {k : Key} (h : Rep K Hf v x) (e : keyOf v = some k) : x = kV k := by
  cases h with
  | int b => cases e; rfl
  | str b => cases e; rfl
  | _ => cases e
theorem in_core {pins : List (Addr × Obj)} {s : Shared} {σ : L2.St} {H Hf : Hp} {x y : V} {v u : Value} {Q : VK} {va vb : Val} {r : Bool} (neg : Bool) (hu : X.A.units + 64 < cLine) (I : Inv X pins σ H s) (rx : RelV x v) (ry : RelV y u)
    (hs : HSub Hf H) (ha : RepE X.K Hf H va x) (hb : RepE X.K Hf H vb y) (e : inS va vb = some r) (q : Q (.bl (bif neg then !r else r)) H) :
    wpAny (model X.prog X.w) X.A (compareOp (bif neg then .NotIn else .In) v u) (EP X pins σ Q) X.xe s := by
  have ra := ha.rep hs
  have seq : ∀ {xs : List Val} {ys : List V} {a : Addr}, (SqL X.K H a ys ∨ SqT X.K H a ys) → RepL X.K H xs ys → y = .ref a → ((flatS va).bind fun u => (flatSs xs).map fun us => inV u us) = some r →
      wpAny (model X.prog X.w) X.A (compareOp (bif neg then .NotIn else .In) v u) (EP X pins σ Q) X.xe s := by
    intro xs ys a h l ey e
    rw [Option.bind_eq_some_iff] at e
    obtain ⟨w, e1, e⟩ := e
    rw [Option.map_eq_some_iff] at e
    obtain ⟨ws, e2, rfl⟩ := e
    obtain ⟨rfl, f1⟩ := flatS_ok (H := H) ra e1
    obtain ⟨rfl, f2⟩ := flatSs_ok (H := H) l e2
    cases neg with
    | false => exact op_in_seq pins s σ H _ _ v u Q I rx ry ⟨a, ys, ey, h, f1, f2, q⟩
    | true => exact op_notIn_seq pins s σ H _ _ v u Q I rx ry ⟨a, ys, ey, h, f1, f2, q⟩
  unfold inS at e
  split at e
  · cases hb with
    | flat z _ => cases z
    | lst h l => exact seq (.inl h.sq) (l.mono hs) rfl e
  · cases hb with
    | flat _ h => cases h with | tup h l => exact seq (.inr (sqT_mono hs h)) (l.mono hs) rfl e
  · cases hb with
    | flat z _ => cases z
    | dic h l =>
      rw [Option.map_eq_some_iff] at e
      obtain ⟨k, e1, rfl⟩ := e
      obtain rfl := keyOf_ok ra e1
      obtain rfl : u = Value.ref _ := ry
      have hv := valV_any (k := k) l
      cases neg with
      | false => exact d_in (by omega) I (DGet.k h) rx fun s' I' => ⟨.bl _, H, I', rfl, by rw [hv]; exact q⟩
      | true => exact d_notIn (by omega) I (DGet.k h) rx fun s' I' => ⟨.bl _, H, I', rfl, by rw [hv]; exact q⟩
  · split at e
    · have er := Option.some.inj e
      subst er
      cases hb.rep hs
      cases ra
      cases neg with
      | false => exact op_in_str pins s σ H _ _ v u Q I rx ry ⟨_, _, rfl, rfl, q⟩
      | true => exact op_notin_str pins s σ H _ _ v u Q I rx ry ⟨_, _, rfl, rfl, q⟩
    · cases e
  · cases e
theorem op_cmp (op : CmpOp) (hu : X.A.units + 64 < cLine) : OpR X (compareOp op) (rCmp X.K (cmpV op)) := by
  intro pins s σ H x y v u Q I rx ry h
  obtain ⟨va, vb, Hf, r, hs, ha, hb, e, q⟩ := h
  unfold cmpV at e
  split at e
  · exact in_core false hu I rx ry hs ha hb e q
  · cases e' : inS va vb with
    | none => rw [e'] at e; cases e
    | some c =>
      rw [e'] at e
      obtain rfl : (!c) = r := by simpa using e
      exact in_core true hu I rx ry hs ha hb e' q
  · exact eq_core false hu I rx ry hs ha hb e q
  · cases e' : eqS va vb with
    | none => rw [e'] at e; cases e
    | some c =>
      rw [e'] at e
      obtain rfl : (!c) = r := by simpa using e
      exact eq_core true hu I rx ry hs ha hb e' q
  · obtain rfl := ha.int_; obtain rfl := hb.int_
    obtain rfl : _ = r := by simpa using e
    exact op_lt pins s σ H _ _ v u Q I rx ry ⟨_, _, rfl, rfl, q⟩
  · obtain rfl := ha.int_; obtain rfl := hb.int_
    obtain rfl : _ = r := by simpa using e
    exact op_le pins s σ H _ _ v u Q I rx ry ⟨_, _, rfl, rfl, q⟩
  · obtain rfl := ha.int_; obtain rfl := hb.int_
    obtain rfl : _ = r := by simpa using e
    exact op_gt pins s σ H _ _ v u Q I rx ry ⟨_, _, rfl, rfl, q⟩
  · obtain rfl := ha.int_; obtain rfl := hb.int_
    obtain rfl : _ = r := by simpa using e
    exact op_ge pins s σ H _ _ v u Q I rx ry ⟨_, _, rfl, rfl, q⟩
  · obtain rfl := ha.non_; obtain rfl := hb.non_
    cases e
    exact op_isN pins s σ H _ _ v u Q I rx ry ⟨rfl, q⟩
  · obtain rfl := ha.bl_; obtain rfl := hb.bl_
    cases e
    exact op_is_bl pins s σ H _ _ v u Q I rx ry ⟨_, _, rfl, rfl, q⟩
  · obtain rfl := ha.non_; obtain rfl := hb.non_
    cases e
    exact op_notN pins s σ H _ _ v u Q I rx ry ⟨rfl, q⟩
  · obtain rfl := ha.bl_; obtain rfl := hb.bl_
    cases e
    exact op_isnot_bl pins s σ H _ _ v u Q I rx ry ⟨_, _, rfl, rfl, q⟩
  · cases e
end
end BV
/-! Built-ins, subscripts, truth. -/
namespace BV
open PySem PySem.Spec PyProof.Rows L2
inductive RepEs (K : Frag) (Hf H : Hp) : List Val → List V → Prop
  | nil : RepEs K Hf H [] []
  | cons {v : Val} {x : V} {vs : List Val} {xs : List V} : RepE K Hf H v x → RepEs K Hf H vs xs → RepEs K Hf H (v :: vs) (x :: xs)
def BF.val : BF → Value
  | .len => .builtin "len" | .repr => .builtin "repr" | .all => .builtin "all" | .any => .builtin "any" | .tuple => .type "tuple" | .list => .type "list" | .sum => .builtin "sum"
  | .min2 => .builtin "min" | .max2 => .builtin "max" | .sorted => .builtin "sorted" | .str => .type "str" | .int => .type "int" | .abs => .builtin "abs"
def rB (K : Frag) (f : List Val → Option R) : List V → Hp → VK → Prop := fun xs H Q => ∃ vs Hf r, HSub Hf H ∧ RepEs K Hf H vs xs ∧ f vs = some r ∧ ∀ z H', New K Hf H r z H' → Q z H'
section
variable {X : Cx}
mutual
theorem Rep.dpn {K : Frag} {H : Hp} : ∀ {v : Val} {x : V}, Rep K H v x → PyData.hasDict v.toD = false → Dp K H x v.toD
  | _, _, .non, _ => by unfold Val.toD; exact .non
  | _, _, .bl b, _ => by unfold Val.toD; exact .bl b
  | _, _, .int b, _ => by unfold Val.toD; exact .int b
  | _, _, .str b, _ => by unfold Val.toD; exact .str b
  | _, _, .tup h r, e => by
    unfold Val.toD at e ⊢
    unfold PyData.hasDict at e
    exact .tup h (RepL.dpn r e)
  | _, _, .lst h r, e => by
    unfold Val.toD at e ⊢
    unfold PyData.hasDict at e
    exact .lst h.sq (RepL.dpn r e)
  | _, _, .dic h r, e => by
    unfold Val.toD PyData.hasDict at e
    cases e
theorem RepL.dpn {K : Frag} {H : Hp} : ∀ {v : List Val} {x : List V}, RepL K H v x → PyData.hasDictAll (toDs v) = false → DpAll K H x (toDs v)
  | _, _, .nil, _ => by unfold toDs; exact .nil
  | _, _, .cons h r, e => by
    unfold toDs at e ⊢
    unfold PyData.hasDictAll at e
    rw [Bool.or_eq_false_iff] at e
    exact .cons (Rep.dpn h e.1) (RepL.dpn r e.2)
end
mutual
theorem Rep.readsP {pins : List (Addr × Obj)} {s : Shared} {σ : L2.St} {H : Hp} (I : Inv X pins σ H s) : ∀ {v : Val} {x : V} {u : Value}, Rep X.K H v x → RelV x u → v.plainD = true → ∃ as, Reads s.heap u v.toD as ∧ sysModules ∉ as
  | _, _, _, .non, r, _ => by unfold Val.toD; cases r; exact ⟨[], .none, by simp⟩
  | _, _, _, .bl b, r, _ => by unfold Val.toD; cases r; exact ⟨[], .bool b, by simp⟩
  | _, _, _, .int b, r, _ => by unfold Val.toD; obtain ⟨t, rfl⟩ := r; exact ⟨[], .int b t, by simp⟩
  | _, _, _, .str b, r, _ => by unfold Val.toD; obtain ⟨t, rfl⟩ := r; exact ⟨[], .str b t, by simp⟩
  | _, _, _, .tup h rl, r, e => by
    unfold Val.toD
    unfold Val.plainD at e
    cases r
    obtain ⟨its, rv, ⟨o, ho, hc, n, hd⟩, _⟩ := I.tuple h
    obtain ⟨as, h1, h2⟩ := RepL.readsP I rl rv e
    exact ⟨as, .tuple ho hc hd (by simpa using h1), h2⟩
  | _, _, _, .lst h rl, r, e => by unfold Val.plainD at e; cases e
  | _, _, _, .dic h rl, r, e => by
    unfold Val.plainD at e
    cases rl with
    | cons _ _ => cases e
    | nil =>
      unfold Val.toD
      cases r
      obtain ⟨_, ns, vs, kv, o, es, ep, ho, hx, hd, _, hp, _⟩ := I.hok _ _ h
      cases kv
      refine ⟨[_], .dict (as := []) (bs := []) ho ?_ hd ?_ ?_, ?_⟩
      · exact hx.1
      · have : es.toList = [] := by
          cases q : es.toList with
          | nil => rfl
          | cons a b => rw [q] at hp; cases hp
        rw [this]; unfold toDk; exact .nil
      · have : es.toList = [] := by
          cases q : es.toList with
          | nil => rfl
          | cons a b => rw [q] at hp; cases hp
        rw [this]; unfold toDk; exact .nil
      · intro z
        have z' := List.mem_singleton.mp z
        rw [← z'] at ns
        simp at ns
theorem RepL.readsP {pins : List (Addr × Obj)} {s : Shared} {σ : L2.St} {H : Hp} (I : Inv X pins σ H s) : ∀ {v : List Val} {x : List V} {u : List Value}, RepL X.K H v x → Vals x u → plainDs v = true → ∃ as, ReadsAll s.heap u (toDs v) as ∧ sysModules ∉ as
  | _, _, _, .nil, .nil, _ => by unfold toDs; exact ⟨[], .nil, by simp⟩
  | _, _, _, .cons h rl, .cons r rr, e => by
    unfold toDs
    unfold plainDs at e
    rw [Bool.and_eq_true] at e
    obtain ⟨as, h1, h2⟩ := Rep.readsP I h r e.1
    obtain ⟨bs, h3, h4⟩ := RepL.readsP I rl rr e.2
    exact ⟨as ++ bs, .cons h1 h3, by simp [h2, h4]⟩
end
theorem call_repr {pins : List (Addr × Obj)} {s : Shared} {σ : L2.St} {H : Hp} {v : Val} {x : V} {u : Value} {Q : VK} {z : Str} (hg : X.A.guards = some []) (hu : X.A.units + 80 < cLine) (I : Inv X pins σ H s) (h : Rep X.K H v x) (rx : RelV x u)
    (e : reprV v = some z) (q : Q (.str z) H) : wpAny (model X.prog X.w) X.A (call (.builtin "repr") [u]) (EP X pins σ Q) X.xe s := by
  unfold reprV at e
  rw [gd_some] at e
  simp only [Bool.and_eq_true, Bool.or_eq_true, Option.some.injEq] at e
  obtain ⟨⟨⟨⟨c1, c2⟩, c3⟩, c4⟩, rfl⟩ := e
  have c2 := of_decide_eq_true c2
  have c3 := of_decide_eq_true c3
  have fin : ∀ {a : Addr}, u = .ref a → wpAny (model X.prog X.w) X.A (call (.builtin "repr") [u]) (EP X pins σ Q) X.xe s := by
    rintro a rfl
    have rd : ∃ as, Reads s.heap (.ref a) v.toD as ∧ (v.toD.hasDict = true → sysModules ∉ as) := by
      rcases c4 with c4 | c4
      · have nd : v.toD.hasDict = false := by simpa using c4
        obtain ⟨as, r⟩ := Dp.reads I _ _ _ (h.dpn nd) rx
        exact ⟨as, r, fun z => by rw [nd] at z; cases z⟩
      · obtain ⟨as, r, n⟩ := Rep.readsP I h rx c4
        exact ⟨as, r, fun _ => n⟩
    obtain ⟨as, r, n⟩ := rd
    refine repr_of_reads' r c1 n hg (by omega) (fun _ _ e => e) (fun h' t tk k => ?_) c2
    exact ⟨.str _, H, I.kept k, ⟨_, rfl⟩, q⟩
  cases h with
  | non => cases rx; exact PySem.P.repr_of_none ⟨.str _, H, I.tok _, ⟨_, rfl⟩, q⟩
  | bl b => cases rx; exact PySem.P.repr_of_bool ⟨.str _, H, I.tok _, ⟨_, rfl⟩, q⟩
  | int i =>
    obtain ⟨t, rfl⟩ := rx
    refine PySem.P.repr_of_int ?_ ⟨.str _, H, I.tok _, ⟨_, rfl⟩, q⟩
    unfold Val.toD PyData.showable at c1
    exact of_decide_eq_true c1
  | str i =>
    obtain ⟨t, rfl⟩ := rx
    exact PySem.P.repr_of_str ⟨.str _, H, I.tok _, ⟨_, rfl⟩, q⟩ c2
  | tup _ _ => exact fin rx
  | lst _ _ => exact fin rx
  | dic _ _ => exact fin rx
theorem boolsOf_ok {K : Frag} {H : Hp} : ∀ {xs : List Val} {ys : List V} {bs : List Bool}, RepL K H xs ys → boolsOf xs = some bs → ys = bs.map V.bl
  | _, _, _, .nil, e => by cases e; rfl
  | _, _, bs, .cons h r, e => by
    cases h with
    | bl b =>
      unfold boolsOf at e
      rw [Option.map_eq_some_iff] at e
      obtain ⟨cs, e1, rfl⟩ := e
      rw [boolsOf_ok r e1]; rfl
    | _ => cases e
theorem intsOf_ok {K : Frag} {H : Hp} : ∀ {xs : List Val} {ys : List V} {bs : List Int}, RepL K H xs ys → intsOf xs = some bs → ys = bs.map V.int
  | _, _, _, .nil, e => by cases e; rfl
  | _, _, bs, .cons h r, e => by
    cases h with
    | int b =>
      unfold intsOf at e
      rw [Option.map_eq_some_iff] at e
      obtain ⟨cs, e1, rfl⟩ := e
      rw [intsOf_ok r e1]; rfl
    | _ => cases e
theorem insI_perm (x : Int) : ∀ l : List Int, (insI x l).Perm (x :: l)
  | [] => List.Perm.refl _
  | y :: r => by
    unfold insI
    split
    · exact List.Perm.refl _
    · exact ((insI_perm x r).cons y).trans (List.Perm.swap x y r)
theorem sortI_perm : ∀ l : List Int, (sortI l).Perm l
  | [] => List.Perm.refl _
  | x :: l => (insI_perm x (sortI l)).trans ((sortI_perm l).cons x)
theorem insI_up (x : Int) : ∀ l : List Int, l.Pairwise (· ≤ ·) → (insI x l).Pairwise (· ≤ ·)
  | [], _ => by simp [insI]
  | y :: r, h => by
    have h' := List.pairwise_cons.mp h
    unfold insI
    split
    · rename_i c
      refine List.pairwise_cons.mpr ⟨fun z hz => ?_, h⟩
      rcases List.mem_cons.mp hz with rfl | hz
      · exact c
      · exact Int.le_trans c (h'.1 z hz)
    · refine List.pairwise_cons.mpr ⟨fun z hz => ?_, insI_up x r h'.2⟩
      rcases List.mem_cons.mp ((insI_perm x r).mem_iff.mp hz) with rfl | hz
      · omega
      · exact h'.1 z hz
theorem sortI_up : ∀ l : List Int, (sortI l).Pairwise (· ≤ ·)
  | [] => by simp [sortI]
  | x :: l => insI_up x (sortI l) (sortI_up l)
theorem up_uniq : ∀ {l m : List Int}, l.Perm m → l.Pairwise (· ≤ ·) → m.Pairwise (· ≤ ·) → l = m
  | [], m, p, _, _ => by rw [List.nil_perm.mp p]
  | x :: l, m, p, hl, hm => by
    cases m with
    | nil => exact absurd p.length_eq (by simp)
    | cons y m =>
      have hl' := List.pairwise_cons.mp hl
      have hm' := List.pairwise_cons.mp hm
      have e : x = y := by
        rcases List.mem_cons.mp (p.mem_iff.mp (List.mem_cons_self ..)) with e | e
        · exact e
        · rcases List.mem_cons.mp (p.mem_iff.mpr (List.mem_cons_self ..)) with f | f
          · exact f.symm
          · exact Int.le_antisymm (hl'.1 y f) (hm'.1 x e)
      subst e
      rw [up_uniq (List.Perm.cons_inv p) hl'.2 hm'.2]
theorem sortI_uniq {l m : List Int} (p : m.Perm l) (h : m.Pairwise (· ≤ ·)) : m = sortI l := up_uniq (p.trans (sortI_perm l).symm) h (sortI_up l)
theorem repL_ints {K : Frag} {H : Hp} : ∀ (ns : List Int), RepL K H (ns.map Val.int) (ns.map V.int)
  | [] => .nil
  | i :: r => .cons (.int i) (repL_ints r)
theorem call_blt (f : BF) (hc : X.calm = true) (hg : X.A.guards = some []) (hu : X.A.units + 80 < cLine) : CallR X f.val (rB X.K (bltV f)) := by
  intro pins s σ H xs us Q I r h
  obtain ⟨vs, Hf, o, hs, rs, e, q⟩ := h
  unfold bltV at e
  split at e
  · cases rs with | cons h1 t => cases t; obtain ⟨a, ys, rfl, d, l⟩ := h1.lst_; cases e; exact call_len_seq pins s σ H _ us Q I r ⟨a, ys, rfl, .inl d.sq, by rw [l.length]; exact q _ _ (.frz (.int _))⟩
  · cases rs with | cons h1 t => cases t; obtain ⟨a, ys, rfl, d, l, _⟩ := h1.tup_; cases e; exact call_len_seq pins s σ H _ us Q I r ⟨a, ys, rfl, .inr (sqT_mono hs d), by rw [l.length]; exact q _ _ (.frz (.int _))⟩
  · rw [gd_some] at e; obtain ⟨c, e⟩ := e
    cases rs with | cons h1 t => cases t; obtain rfl := h1.str_; cases e; exact call_len_str pins s σ H _ us Q I r ⟨_, rfl, of_decide_eq_true c, q _ _ (.frz (.int _))⟩
  · rw [Option.map_eq_some_iff] at e
    obtain ⟨z, e, rfl⟩ := e
    cases rs with
    | cons h1 t =>
      cases t
      obtain ⟨u, rfl, ru⟩ := vals1 r
      exact call_repr hg hu I (h1.rep hs) ru e (q _ _ (.frz (.str _)))
  · rw [Option.map_eq_some_iff] at e
    obtain ⟨z, e, rfl⟩ := e
    cases rs with | cons h1 t => cases t; obtain ⟨a, ys, rfl, d, l⟩ := h1.lst_; obtain rfl := boolsOf_ok l e; exact cr_all hc pins s σ H _ us Q I r ⟨a, z, rfl, d.sq, q _ _ (.frz (.bl _))⟩
  · rw [Option.map_eq_some_iff] at e
    obtain ⟨z, e, rfl⟩ := e
    cases rs with | cons h1 t => cases t; obtain ⟨a, ys, rfl, d, l⟩ := h1.lst_; obtain rfl := boolsOf_ok l e; exact cr_any hc pins s σ H _ us Q I r ⟨a, z, rfl, d.sq, q _ _ (.frz (.bl _))⟩
  · rw [Option.map_eq_some_iff] at e
    obtain ⟨z, e, rfl⟩ := e
    cases rs with | cons h1 t => cases t; obtain ⟨a, ys, rfl, d, l⟩ := h1.lst_; obtain rfl := intsOf_ok l e; exact cr_sum hc pins s σ H _ us Q I r ⟨a, z, rfl, d.sq, q _ _ (.frz (.int _))⟩
  · cases rs with | cons h1 t => cases t; obtain ⟨a, ys, rfl, d, l⟩ := h1.lst_; cases e; exact call_tuple_of pins s σ H _ us Q I r ⟨a, ys, rfl, .inl ⟨d.sq, fun p hp => q _ _ (.tup hp l)⟩⟩
  · cases rs with | cons h1 t => cases t; obtain ⟨a, ys, rfl, d, l, t1⟩ := h1.tup_; cases e; exact call_tuple_of pins s σ H _ us Q I r ⟨a, ys, rfl, .inr ⟨sqT_mono hs d, q _ _ (.frz t1)⟩⟩
  · cases rs with | cons h1 t => cases t; obtain ⟨a, ys, rfl, d, l⟩ := h1.lst_; cases e; exact call_list_of pins s σ H _ us Q I r ⟨a, ys, rfl, .inl d.sq, fun p hp => q _ _ (.lst hp l)⟩
  · cases rs with | cons h1 t => cases t; obtain ⟨a, ys, rfl, d, l, _⟩ := h1.tup_; cases e; exact call_list_of pins s σ H _ us Q I r ⟨a, ys, rfl, .inr (sqT_mono hs d), fun p hp => q _ _ (.lst hp l)⟩
  · cases rs with
    | cons h1 t =>
      cases t with
      | cons h2 t => cases t; obtain rfl := h1.int_; obtain rfl := h2.int_; cases e; exact call_min2 hc pins s σ H _ us Q I r ⟨_, _, rfl, q _ _ (.frz (.int _))⟩
  · cases rs with
    | cons h1 t =>
      cases t with
      | cons h2 t => cases t; obtain rfl := h1.int_; obtain rfl := h2.int_; cases e; exact call_max2 hc pins s σ H _ us Q I r ⟨_, _, rfl, q _ _ (.frz (.int _))⟩
  · cases rs with | cons h1 t => cases t; obtain rfl := h1.int_; cases e; exact call_int1 pins s σ H _ us Q I r (.inl ⟨_, rfl, q _ _ (.frz (.int _))⟩)
  · cases rs with | cons h1 t => cases t; obtain rfl := h1.bl_; cases e; exact call_int1 pins s σ H _ us Q I r (.inr ⟨_, rfl, q _ _ (.frz (.int _))⟩)
  · cases rs with | cons h1 t => cases t; obtain rfl := h1.int_; cases e; exact call_abs pins s σ H _ us Q I r ⟨_, rfl, q _ _ (.frz (.int _))⟩
  · rw [Option.map_eq_some_iff] at e
    obtain ⟨z, e, rfl⟩ := e
    cases rs with | cons h1 t => cases t; obtain ⟨a, ys, rfl, d, l⟩ := h1.lst_; obtain rfl := intsOf_ok l e; exact cr_sortedI pins s σ H _ us Q I r ⟨a, z, rfl, d.sq, fun ns' p pm pw hp => q _ _ (.lst hp (by rw [sortI_uniq pm pw]; exact repL_ints _))⟩
  · cases e
/-! ### isinstance -/
theorem kit_isi (v : Val) (T : TN) : kitB (tyV v) T.name = some (isiV v T) := by
  cases v <;> cases T <;> (simp only [tyV, TN.name, isiV]; decide +kernel)
theorem RepE.ty {K : Frag} {Hf H : Hp} {v : Val} {x : V} (hs : HSub Hf H) (h : RepE K Hf H v x) : TyX K H x (.type (tyV v)) := by
  cases h with
  | flat f h =>
    cases h with
    | non => exact .base .non
    | bl b => exact .base (.bl b)
    | int b => exact .base (.int b)
    | str b => exact .base (.str b)
    | tup h r =>
      rcases h with h | ⟨o, its, n, hk, hc, _⟩
      · rcases h with h | ⟨o, h⟩
        · exact .base (.tup (hs _ _ h))
        · exact .fTuple (hs _ _ h)
      · exact .kTuple hk hc
    | lst _ _ => cases f
    | dic _ _ => cases f
  | lst h r =>
    rcases h with h | ⟨its, n, hk, _⟩
    · rcases h with h | ⟨o, h⟩
      · exact .base (.lst h)
      · exact .base (.frz h)
    · exact .kList hk rfl
  | dic h r => exact .base (.dK h)
/-! ### truth -/
theorem truV_ok {K : Frag} {Hf H : Hp} {v : Val} {x : V} {b : Bool} (hs : HSub Hf H) (h : RepE K Hf H v x) (e : truV v = some b) : TruV K x H b := by
  cases v with
  | non => obtain rfl := h.non_; cases e; rfl
  | bl c => obtain rfl := h.bl_; cases e; rfl
  | int c => obtain rfl := h.int_; cases e; rfl
  | str c =>
    obtain rfl := h.str_
    unfold truV at e
    rw [gd_some] at e
    obtain ⟨c, e⟩ := e
    cases e
    exact ⟨of_decide_eq_true c, rfl⟩
  | tup c => obtain ⟨a, ys, rfl, d, l, _⟩ := h.tup_; cases e; exact .inr (.inl ⟨ys, sqT_mono hs d, by cases l <;> rfl⟩)
  | lst c => obtain ⟨a, ys, rfl, d, l⟩ := h.lst_; cases e; exact .inl ⟨ys, d.sq, by cases l <;> rfl⟩
  | dic c => obtain ⟨a, ys, rfl, d, l⟩ := h.dic_; cases e; exact .inr (.inr ⟨ys, d, by cases l <;> rfl⟩)
/-! ### subscripts, slices -/
theorem RepL.at {K : Frag} {H : Hp} {xs : List Val} {ys : List V} {i : Int} {v : Val} (h : RepL K H xs ys) (e : getV.atI' xs i = some v) : ∃ y, atI ys i = some y ∧ Rep K H v y := by
  unfold getV.atI' at e
  unfold atI
  rw [h.length]
  cases q : ixN xs.length i with
  | none => rw [q] at e; cases e
  | some j =>
    rw [q] at e
    exact h.get e
def rIx (K : Frag) : R2 := fun x y H Q => ∃ va vb Hf u, HSub Hf H ∧ RepE K Hf H va x ∧ RepE K Hf H vb y ∧ getV va vb = some u ∧ ∀ z, Rep K Hf u z → Q z H
theorem keyE {K : Frag} {Hf H : Hp} {v : Val} {x : V} {k : Key} (h : RepE K Hf H v x) (e : BV.keyOf v = some k) : x = kV k := by
  cases v with
  | int i => obtain rfl := h.int_; cases e; rfl
  | str i =>
    cases h with
    | flat _ h => cases h; cases e; rfl
  | _ => cases e
theorem RepK.find {K : Frag} {H : Hp} {k : Key} {kv : Key × Val} : ∀ {kvs : List (Key × Val)} {ys : List (Key × V)}, RepK K H kvs ys → (kvs.find? fun z => decide (z.1 = k)) = some kv → ∃ z, valV ys k = some z ∧ Rep K H kv.2 z
  | _, _, .nil, e => by cases e
  | _, _, .cons (k := k') (v := v) (x := x) (vs := vs) (xs := xs) h r, e => by
    rw [List.find?_cons] at e
    by_cases c : k' = k
    · simp only [c, decide_true] at e
      cases e
      refine ⟨x, ?_, h⟩
      unfold valV
      rw [List.find?_cons]
      simp [c]
    · simp only [c, decide_false] at e
      obtain ⟨z, e1, e2⟩ := RepK.find r e
      refine ⟨z, ?_, e2⟩
      unfold valV at e1 ⊢
      rw [List.find?_cons]
      simp only [c, decide_false]
      exact e1
theorem ix_val (hu : X.A.units + 1 < cLine) : IxR X (rIx X.K) := by
  intro value slice pins s σ H x y v u Q I rx ry h hs
  obtain ⟨va, vb, Hf, w, hf, ha, hb, e, q⟩ := h
  unfold getV at e
  split at e
  · obtain ⟨a, ys, rfl, d, l⟩ := ha.lst_; obtain rfl := hb.int_
    obtain ⟨z, e1, e2⟩ := l.at e
    exact ix_list value slice pins s σ H _ _ v u Q I rx ry ⟨a, ys, _, z, rfl, rfl, d.sq, e1, q z e2⟩ hs
  · obtain ⟨a, ys, rfl, d, l, _⟩ := ha.tup_; obtain rfl := hb.int_
    obtain ⟨z, e1, e2⟩ := l.at e
    exact ix_tup value slice pins s σ H _ _ v u Q I rx ry ⟨a, ys, _, z, rfl, rfl, sqT_mono hf d, e1, q z e2⟩ hs
  · obtain ⟨a, ys, rfl, d, l⟩ := ha.dic_
    rw [Option.bind_eq_some_iff] at e
    obtain ⟨k, e1, e2⟩ := e
    rw [Option.map_eq_some_iff] at e2
    obtain ⟨kv, e2, rfl⟩ := e2
    have ky : y = kV k := keyE hb e1
    obtain ⟨z, e3, e4⟩ := l.find e2
    have g : DGet H a y (some z) := .inl ⟨ys, k, .inl d, ky, e3.symm⟩
    cases rx
    exact tail_any (dict_typeIs I g) PySem.F.slot_dict_getitem.lookup (d_getItem hu I g ry fun w' s' I' r' => ⟨z, H, I', r', q z e4⟩) hs
  · cases e
theorem RepL.cut {K : Frag} {H : Hp} {xs : List Val} {ys : List V} (h : RepL K H xs ys) (lo hi : Option Int) : RepL K H (cutL xs lo hi) (cutV ys lo hi) := by
  unfold cutL cutV
  rw [h.length]
  exact (h.drop _).take _
def rSl (K : Frag) : V → Option Int → Option Int → Hp → VK → Prop := fun x lo hi H Q => ∃ va Hf r, HSub Hf H ∧ RepE K Hf H va x ∧ slcV va lo hi = some r ∧ ∀ z H', New K Hf H r z H' → Q z H'
theorem sl_val : SlR X (rSl X.K) := by
  intro pins s σ H x v vl vu lo hi sl Q I rx hs pl pu h
  obtain ⟨va, Hf, r, hf, ha, e, q⟩ := h
  unfold slcV at e
  split at e
  · obtain ⟨a, ys, rfl, d, l⟩ := ha.lst_; cases e
    exact sl_list pins s σ H _ v vl vu lo hi sl Q I rx hs pl pu ⟨a, ys, rfl, d.sq, fun p hp => q _ _ (.lst hp (l.cut lo hi))⟩
  · obtain ⟨a, ys, rfl, d, l, t⟩ := ha.tup_; cases e
    refine sl_tupA pins s σ H _ v vl vu lo hi sl Q I rx hs pl pu ⟨a, ys, rfl, sqT_mono hf d, fun z => ?_, fun _ p hp => q _ _ (.tup hp (l.cut lo hi))⟩
    have : cutV ys lo hi = ys := by
      unfold cutV
      rw [z.1, z.2]
      simp
    refine q _ _ (.frz (.tup d ?_))
    have := l.cut lo hi
    rw [‹cutV ys lo hi = ys›] at this
    exact this
  · cases e
end
end BV
/-! Expressions: the parts. -/
namespace BV
open PySem PySem.Spec PyProof.Rows L2
def spOf (K : Frag) (fn : List R → Option (R × Slots)) : Sp := fun xs H Q _ => ∃ Hf F rs r fin, Rel K Hf F (rs.map some) (xs.map some) H ∧ fn rs = some (r, fin) ∧
  ∀ x H' Hf' F', Gives K Hf F H fin (xs.map some) (.own r.1, r.2) x Hf' F' H' → Q x H'
structure CallFact (D : Den) (n : Nat) (X : Cx) (sh : CallSh) : Prop where
  ex : ∃ (fa : Addr) (fd : FuncData) (ps : List Str) (ds : List Value) (dvs : List V), X.mg sh.x = some (.ref fa) ∧ PySem.W.keepIn X.K (.ref fa) = true ∧
    FnG X.prog X.w X.K X.mg X.base n fa fd ps (spOf X.K (D.fn sh.f)) ∧ Vals dvs ds ∧ RepL X.K (fun _ => none) sh.dv dvs ∧
    ∀ (s : Shared) (us ws : List Value), X.K.In s.heap → us.length = sh.n → ws.length = sh.ks.length → ∃ zs, arrange us ws ds sh.ar = some zs ∧ BindsTo s fd ⟨us, sh.ks.zip ws⟩ (ps.zip zs)
/-- the entries of a table of the module -/
inductive TabL (K : Frag) : List (Str × Val) → List DictEntry → Prop
  | nil : TabL K [] []
  | cons {k : Str} {t : Tok} {v : Val} {y : V} {e : DictEntry} {r : List (Str × Val)} {es : List DictEntry} : e.key = .str k t → RelV y e.val → Rep K (fun _ => none) v y → TabL K r es → TabL K ((k, v) :: r) (e :: es)
def TabAt (K : Frag) (w : World) (mg : Str → Option Value) (x : Str) (kvs : List (Str × Val)) : Prop := ∃ (d : Addr) (es : Array DictEntry) (n : Nat), mg x = some (.ref d) ∧ KDict K w d es n ∧ TabL K kvs es.toList ∧ (kvs.map (·.1)).Nodup ∧ kvs.length ≤ 1000
/-- what is known where a def's body, or a comprehension's block, runs -/
structure Ctx (free : List Str) (D : Den) (n : Nat) (N : List Str) (sc : Scope) (X : Cx) : Prop where
  hN : X.N = N
  nd : N.Nodup
  sc : X.env.scope = sc
  calm : X.calm = true
  xe : X.xe = fun _ _ => False
  gu : X.A.guards = some []
  room : Room n X.A
  con : ∀ x v, D.const x = some v → ∃ u y, X.mg x = some u ∧ RelV y u ∧ Rep X.K (fun _ => none) v y
  fre : ∀ x ∈ free, X.mg x = none
  cal : ∀ (c : Nat) (sh : CallSh), D.calls[c]? = some sh → CallFact D n X sh
  tab : ∀ x kvs, D.tab x = some kvs → TabAt X.K X.w X.mg x kvs
def visB (sc : Scope) (x : Str) : Bool := match sc.names.lookup x with
  | some .local => true | some .cell => true | some .free => true | _ => false
theorem visB_ok {sc : Scope} {x : Str} (h : visB sc x = true) : Vis sc x := by
  unfold visB at h
  split at h
  · exact .inl (by assumption)
  · exact .inr (.inl (by assumption))
  · exact .inr (.inr (by assumption))
  · cases h
def locB (sc : Scope) (x : Str) : Bool := match sc.names.lookup x with
  | some .local => true | some .cell => true | _ => false
theorem locB_ok {sc : Scope} {x : Str} (h : locB sc x = true) : Loc sc x := by
  unfold locB at h
  split at h
  · exact .inl (by assumption)
  · exact .inr (by assumption)
  · cases h
def glB (sc : Scope) (x : Str) : Bool := match sc.names.lookup x with
  | some .globalImplicit => true | _ => false
theorem glB_ok {sc : Scope} {x : Str} (h : glB sc x = true) : sc.names.lookup x = some .globalImplicit := by
  unfold glB at h
  split at h
  · assumption
  · cases h
/-- no name that Python treats apart -/
def okName (x : Str) : Bool := !(x == ("__debug__" : Str)) && !(x == ("__classdict__" : Str)) && !(x == ("__name__" : Str))
theorem okName_ok {x : Str} (h : okName x = true) : (x == ("__debug__" : Str)) = false ∧ (x == ("__classdict__" : Str)) = false ∧ x ≠ "__name__" := by
  unfold okName at h
  simp only [Bool.and_eq_true, Bool.not_eq_true'] at h
  exact ⟨h.1.1, h.1.2, fun e => by rw [e] at h; simp at h⟩

theorem peBy {X : Cx} {e : Expr} {t t' : TE} (h : PE X e t) (w : ∀ σ H Q, t' σ H Q → t σ H Q) : PE X e t' := ⟨fun pins s σ H Q I q => h.run pins s σ H Q I (w σ H Q q)⟩
theorem paBy {X : Cx} {e : List Expr} {t t' : TA} (h : PA X e t) (w : ∀ σ H Q, t' σ H Q → t σ H Q) : PA X e t' := ⟨fun pos pins s σ H Q I q => h.run pos pins s σ H Q I (w σ H Q q)⟩
theorem pkBy {X : Cx} {e : List Keyword} {t t' : TA} (h : PK X e t) (w : ∀ σ H Q, t' σ H Q → t σ H Q) : PK X e t' := ⟨fun pos pins s σ H Q I q => h.run pos pins s σ H Q I (w σ H Q q)⟩

def tEv (K : Frag) (D : Den) (e : CE) : TE := fun σ H Q => ∃ S Hf F r S', Rel K Hf F S σ H ∧ ev D e S = some (r, S') ∧ ∀ x H' Hf' F', Gives K Hf F H S' σ r x Hf' F' H' → (e.pure = true → HSub H H') → Q x H'
def tEvs (K : Frag) (D : Den) (es : CEs) : TA := fun σ H Q => ∃ S Hf F rs S', Rel K Hf F S σ H ∧ evs D es S = some (rs, S') ∧ ∀ xs H' Hf' F', GivesL K Hf F H S' σ rs xs Hf' F' H' → (es.pure = true → HSub H H') → Q xs H'
structure GivesO (K : Frag) (Hf : Hp) (F : List Addr) (H : Hp) (S' : Slots) (σ : L2.St) (vs : List Val) (xs : List V) (Hf' : Hp) (F' : List Addr) (H' : Hp) : Prop where
  rel : Rel K Hf' F' S' σ H'
  st : Step Hf F H Hf' F' H'
  res : RepEs K Hf' H' vs xs
def tEvo (K : Frag) (D : Den) (es : CEs) : TA := fun σ H Q => ∃ S Hf F vs S', Rel K Hf F S σ H ∧ evo D es S = some (vs, S') ∧ ∀ xs H' Hf' F', GivesO K Hf F H S' σ vs xs Hf' F' H' → (es.pure = true → HSub H H') → Q xs H'
/-- arguments: shared values, or slots -/
inductive ArgsOk (K : Frag) (Hf : Hp) (σ : L2.St) : List Arg → List V → Prop
  | nil : ArgsOk K Hf σ [] []
  | val {v : Val} {x : V} {as : List Arg} {xs : List V} : Rep K Hf v x → ArgsOk K Hf σ as xs → ArgsOk K Hf σ (.val v :: as) (x :: xs)
  | byRef {i : Nat} {x : V} {as : List Arg} {xs : List V} : σ[i]? = some (some x) → ArgsOk K Hf σ as xs → ArgsOk K Hf σ (.byRef i :: as) (x :: xs)
structure GivesA (K : Frag) (Hf : Hp) (F : List Addr) (H : Hp) (S' : Slots) (σ : L2.St) (as : List Arg) (xs : List V) (Hf' : Hp) (F' : List Addr) (H' : Hp) : Prop where
  rel : Rel K Hf' F' S' σ H'
  st : Step Hf F H Hf' F' H'
  res : ArgsOk K Hf' σ as xs
def tEva (K : Frag) (D : Den) (es : CEs) : TA := fun σ H Q => ∃ S Hf F as S', Rel K Hf F S σ H ∧ eva D es S = some (as, S') ∧ ∀ xs H' Hf' F', GivesA K Hf F H S' σ as xs Hf' F' H' → (es.pure = true → HSub H H') → Q xs H'
def tEvk (K : Frag) (D : Den) (es : CKs) : TA := fun σ H Q => ∃ S Hf F as S', Rel K Hf F S σ H ∧ evk D es S = some (as, S') ∧ ∀ xs H' Hf' F', GivesA K Hf F H S' σ as xs Hf' F' H' → (es.pure = true → HSub H H') → Q xs H'
section
variable {K : Frag} {Hf Hf1 Hf2 H H1 H2 : Hp} {F : List Addr} {S : Slots} {σ : L2.St}
theorem carry {m : Mode} {v : Val} {x : V} {b : Bool} (h : RepE K Hf1 H1 v x) (hf : ∀ d, m = .own d → Rep K Hf1 v x) (l : m.lets b = true) (p : b = true → HSub H1 H2) (s : HSub Hf1 Hf2) (s2 : HSub Hf2 H2) : RepE K Hf2 H2 v x := by
  cases m with
  | own d => exact .of ((hf d rfl).mono s) s2
  | bor => exact h.mono s (p l)
theorem set_same {i : Nat} {x : Option V} (h : σ[i]? = some x) : σ.set i x = σ := by
  apply List.ext_getElem?
  intro j
  rw [List.getElem?_set]
  split
  · rename_i e; subst e
    split
    · exact h.symm
    · rename_i hl; rw [List.getElem?_eq_none (by omega)]
  · rfl
theorem lt_of_get {α : Type} {l : List α} {i : Nat} {x : α} (h : l[i]? = some x) : i < l.length := (List.getElem?_eq_some_iff.mp h).1
/-- a slot's thing becomes everyone's -/
theorem Rel.share {i d : Nat} {v : Val} (r : Rel K Hf F S σ H) (h : S[i]? = some (some (d, v))) :
    ∃ x Hf' F', σ[i]? = some (some x) ∧ Rel K Hf' F' (S.set i (some (0, v))) σ H ∧ Step Hf F H Hf' F' H ∧ Rep K Hf' v x := by
  obtain ⟨x, G, F0, e1, ow, rel, nd, iff, off⟩ := r.take h
  have s1 := frzH_sub (H := H) off
  have s2 := frzH_le (G := G) rel.sub
  have dis : ∀ a ∈ F0, a ∉ G := fun a ha hg => (List.nodup_append.mp nd).2.2 a ha a hg rfl
  have rep := ow.freeze off
  have rel' : Rel K (frzH Hf H G) F0 (S.set i Option.none) σ H := rel.grow s1 s2 fun a ha => by rw [frzH_out (dis a ha)]; exact rel.off a ha
  obtain ⟨F', rel2, sub⟩ := rel'.put (i := i) (d := 0) (v := v) (x := x) (G := []) (by rw [List.length_set]; exact lt_of_get h) (.frz (.inl rfl) rep) (by simpa using rel'.nd) (fun a ha => by cases ha)
  rw [List.set_set, set_same e1] at rel2
  refine ⟨x, frzH Hf H G, F', e1, rel2, ⟨s1, fun a o e _ => e, fun a o e n => ?_, fun a ha => ?_⟩, rep⟩
  · rw [frzH_out fun hg => n ((iff a).mpr (.inr hg))]
  · rcases sub a ha with z | z
    · exact .inl ((iff a).mpr (.inl z))
    · cases z
theorem OwnL.inner {d : Nat} : ∀ {xs : List Val} {ys : List V} {G : List Addr}, OwnL K Hf H d xs ys G → (d = 0 ∨ xs.all Val.flat = true) → RepL K Hf xs ys
  | _, _, _, .nil, _ => .nil
  | _, _, _, .cons h r, e => by
    have e1 : d = 0 ∨ _ := e
    have hd : ∀ {v : Val} {x : V} {G : List Addr}, Own K Hf H d v x G → (d = 0 ∨ v.flat = true) → Rep K Hf v x := by
      intro v x G h e
      cases h with
      | frz _ r => exact r
      | lst _ _ => rcases e with e | e <;> cases e
      | dic _ _ => rcases e with e | e <;> cases e
    rw [List.all_cons, Bool.and_eq_true] at e
    exact .cons (hd h (e.imp id And.left)) (OwnL.inner r (e.imp id And.right))
theorem OwnK.inner {d : Nat} : ∀ {xs : List (Key × Val)} {ys : List (Key × V)} {G : List Addr}, OwnK K Hf H d xs ys G → (d = 0 ∨ (xs.all fun q => q.2.flat) = true) → RepK K Hf xs ys
  | _, _, _, .nil, _ => .nil
  | _, _, _, .cons h r, e => by
    have hd : ∀ {v : Val} {x : V} {G : List Addr}, Own K Hf H d v x G → (d = 0 ∨ v.flat = true) → Rep K Hf v x := by
      intro v x G h e
      cases h with
      | frz _ r => exact r
      | lst _ _ => rcases e with e | e <;> cases e
      | dic _ _ => rcases e with e | e <;> cases e
    rw [List.all_cons, Bool.and_eq_true] at e
    exact .cons (hd h (e.imp id And.left)) (OwnK.inner r (e.imp id And.right))
theorem Own.repE {d : Nat} {v : Val} {x : V} {G : List Addr} (h : Own K Hf H d v x G) (hs : HSub Hf H) (e : (decide (d ≤ 1) || v.inner) = true) : RepE K Hf H v x := by
  cases h with
  | frz _ r => exact .of r hs
  | lst h r =>
    rw [Bool.or_eq_true] at e
    exact .lst (.inl (.inl h)) (r.inner (e.imp (fun z => by have := of_decide_eq_true z; omega) id))
  | dic h r =>
    rw [Bool.or_eq_true] at e
    exact .dic h (r.inner (e.imp (fun z => by have := of_decide_eq_true z; omega) id))
theorem OwnL.get {d : Nat} : ∀ {xs : List Val} {ys : List V} {G : List Addr} {i : Nat} {v : Val}, OwnL K Hf H d xs ys G → xs[i]? = some v → ∃ y G', ys[i]? = some y ∧ Own K Hf H d v y G' ∧ ∀ a ∈ G', a ∈ G
  | _, _, _, _, _, .nil, e => by simp at e
  | _, _, _, 0, _, .cons h _, e => by simp at e; subst e; exact ⟨_, _, rfl, h, fun a ha => List.mem_append_left _ ha⟩
  | _, _, _, i + 1, v, .cons _ t, e => by
    obtain ⟨u, G', h1, h2, h3⟩ := OwnL.get (i := i) (v := v) t (by simpa using e)
    exact ⟨u, G', by simpa using h1, h2, fun a ha => List.mem_append_right _ (h3 a ha)⟩
theorem OwnL.length {d : Nat} : ∀ {xs : List Val} {ys : List V} {G : List Addr}, OwnL K Hf H d xs ys G → ys.length = xs.length
  | _, _, _, .nil => rfl
  | _, _, _, .cons _ r => congrArg Nat.succ (OwnL.length r)
end
section
variable {free : List Str} {D : Den} {n : Nat} {N : List Str} {sc : Scope} {X : Cx}
theorem Ctx.units (c : Ctx free D n N sc X) : X.A.units + 80 < cLine := by have := c.room.un; omega
theorem s_cst {c : Const} {k : Nat} {p : Pos} : PE X (CE.cst c k p).py (tEv X.K D (.cst c k p)) := by
  have go : ∀ {v : Val} {x : V}, (∀ Hf, Rep X.K Hf v x) → cstV c = some v → PE X (.Constant c k p) (tC x) → PE X (CE.cst c k p).py (tEv X.K D (.cst c k p)) := by
    intro v x hr e h
    refine peBy h fun σ H Q ⟨S, Hf, F, r, S', rel, he, q⟩ => ?_
    unfold ev at he
    rw [e] at he
    obtain ⟨rfl, rfl⟩ := Prod.mk.inj (Option.some.inj he)
    exact q x H Hf F (.frz rel (Step.refl _ _ _) (hr Hf) (.inl rfl)) fun _ => HSub.refl _
  cases c with
  | none => exact go (fun _ => .non) rfl pe_non
  | bool b => exact go (fun _ => .bl b) rfl pe_bl
  | int b => exact go (fun _ => .int b) rfl pe_int
  | str b => exact go (fun _ => .str b) rfl pe_str
  | _ =>
    refine ⟨fun pins s σ H Q I h => ?_⟩
    obtain ⟨S, Hf, F, r, S', rel, he, q⟩ := h
    cases he
theorem s_var (c : Ctx free D n N sc X) {i : Nat} {x : Str} {p : Pos} (hi : N[i]? = some x) (hv : visB sc x = true) (ok : okName x = true) : PE X (CE.var i x p).py (tEv X.K D (.var i x p)) := by
  refine peBy (pe_var (i := i) (by rw [c.hN]; exact hi) (by rw [c.sc]; exact visB_ok hv) (okName_ok ok).1 (okName_ok ok).2.1) fun σ H Q ⟨S, Hf, F, r, S', rel, he, q⟩ => ?_
  unfold ev at he
  split at he
  · rename_i d v e
    obtain ⟨rfl, rfl⟩ := Prod.mk.inj (Option.some.inj he)
    obtain ⟨y, Hf', F', e1, rel', st, rep⟩ := rel.share e
    exact ⟨y, e1, q y H Hf' F' (.frz rel' st rep (.inl rfl)) fun _ => HSub.refl _⟩
  · cases he
theorem s_brw (c : Ctx free D n N sc X) {i : Nat} {x : Str} {p : Pos} (hi : N[i]? = some x) (hv : visB sc x = true) (ok : okName x = true) : PE X (CE.brw i x p).py (tEv X.K D (.brw i x p)) := by
  refine peBy (pe_var (i := i) (by rw [c.hN]; exact hi) (by rw [c.sc]; exact visB_ok hv) (okName_ok ok).1 (okName_ok ok).2.1) fun σ H Q ⟨S, Hf, F, r, S', rel, he, q⟩ => ?_
  unfold ev at he
  split at he
  · rename_i d v e
    cases fl : v.flat with
    | true =>
      rw [fl] at he
      obtain ⟨rfl, rfl⟩ := Prod.mk.inj (Option.some.inj he)
      obtain ⟨y, G, e1, ow, sub⟩ := rel.get e
      obtain ⟨rfl, ow0⟩ := ow.flat (d' := 0) fl
      have rep : Rep X.K Hf v y := by cases ow0 with | frz _ r => exact r
      exact ⟨y, e1, q y H Hf F (.frz rel (Step.refl _ _ _) rep (.inl rfl)) fun _ => HSub.refl _⟩
    | false =>
      rw [fl] at he
      cases g : (decide (d ≤ 1) || v.inner) with
      | true =>
        rw [g] at he
        obtain ⟨rfl, rfl⟩ := Prod.mk.inj (Option.some.inj he)
        obtain ⟨y, G, e1, ow, sub⟩ := rel.get e
        exact ⟨y, e1, q y H Hf F ⟨rel, Step.refl _ _ _, ow.repE rel.sub g⟩ fun _ => HSub.refl _⟩
      | false =>
        rw [g] at he
        obtain ⟨rfl, rfl⟩ := Prod.mk.inj (Option.some.inj he)
        obtain ⟨y, Hf', F', e1, rel', st, rep⟩ := rel.share e
        exact ⟨y, e1, q y H Hf' F' (.frz rel' st rep (.inl rfl)) fun _ => HSub.refl _⟩
  · cases he
theorem s_mov (c : Ctx free D n N sc X) {i : Nat} {x : Str} {p : Pos} (hi : N[i]? = some x) (hv : visB sc x = true) (ok : okName x = true) : PE X (CE.mov i x p).py (tEv X.K D (.mov i x p)) := by
  refine peBy (pe_var (i := i) (by rw [c.hN]; exact hi) (by rw [c.sc]; exact visB_ok hv) (okName_ok ok).1 (okName_ok ok).2.1) fun σ H Q ⟨S, Hf, F, r, S', rel, he, q⟩ => ?_
  unfold ev at he
  split at he
  · rename_i d v e
    obtain ⟨rfl, rfl⟩ := Prod.mk.inj (Option.some.inj he)
    obtain ⟨y, G, F0, e1, ow, rel', nd, iff, off⟩ := rel.take e
    refine ⟨y, e1, q y H Hf F0 ⟨rel', ⟨HSub.refl _, fun _ _ e _ => e, fun _ _ _ _ => rfl, fun a ha => .inl ((iff a).mpr (.inl ha))⟩, G, ow, nd, off, fun a ha => .inl ((iff a).mpr (.inr ha))⟩ fun _ => HSub.refl _⟩
  · cases he
theorem s_glb (c : Ctx free D n N sc X) {x : Str} {p : Pos} (hg : glB sc x = true) (ok : okName x = true) : PE X (CE.glb x p).py (tEv X.K D (.glb x p)) := by
  refine ⟨fun pins s σ H Q I h => ?_⟩
  obtain ⟨S, Hf, F, r, S', rel, he, q⟩ := h
  unfold ev at he
  rw [Option.map_eq_some_iff] at he
  obtain ⟨v, e, he⟩ := he
  obtain ⟨rfl, rfl⟩ := Prod.mk.inj he
  obtain ⟨u, y, hm, ry, rep⟩ := c.con x v e
  refine (pe_glob (v := y) (show X.env.scope.names.lookup x = _ by rw [c.sc]; exact glB_ok hg) hm ry (okName_ok ok).1).run pins s σ H Q I ?_
  exact q y H Hf F (.frz rel (Step.refl _ _ _) (rep.mono fun a o e => by cases e) (.inl rfl)) fun _ => HSub.refl _
/-! ### lists of expressions -/
theorem pa_nilT : PA X [] (tEvs X.K D .nil) := by
  refine paBy pa_nil fun σ H Q ⟨S, Hf, F, rs, S', rel, he, q⟩ => ?_
  unfold evs at he
  obtain ⟨rfl, rfl⟩ := Prod.mk.inj (Option.some.inj he)
  exact q [] H Hf F ⟨rel, Step.refl _ _ _, [], .nil, by simpa using rel.nd, fun a h => (by cases h), fun a h => (by cases h)⟩ fun _ => HSub.refl _
theorem GivesL.cons {K : Frag} {Hf Hf1 Hf2 H H1 H2 : Hp} {F F1 F2 : List Addr} {S1 S2 : Slots} {σ : L2.St} {d : Nat} {v : Val} {x : V} {rs : List R} {xs : List V}
    (a : Gives K Hf F H S1 σ (.own d, v) x Hf1 F1 H1) (b : GivesL K Hf1 F1 H1 S2 σ rs xs Hf2 F2 H2) : GivesL K Hf F H S2 σ ((d, v) :: rs) (x :: xs) Hf2 F2 H2 := by
  obtain ⟨rel1, st1, G, ow, nd, off, fr⟩ := a
  obtain ⟨rel2, st2, G2, ow2, nd2, off2, fr2⟩ := b
  have dis : ∀ a ∈ G, a ∉ F1 := fun a ha hf => (List.nodup_append.mp nd).2.2 a hf a ha rfl
  obtain ⟨ow', dis', off'⟩ := ow.held st2 dis off
  refine ⟨rel2, st1.trans st2, G ++ G2, .cons ow' ow2, ?_, fun a ha => ?_, fun a ha => ?_⟩
  · have g2 : ∀ a ∈ G, a ∉ G2 := fun a ha h2 => by
      rcases fr2 a h2 with z | z
      · exact dis a ha z
      · obtain ⟨o, e⟩ := ow.dom a ha
        rw [e] at z; cases z
    simp only [List.nodup_append, List.mem_append] at nd nd2 ⊢
    grind
  · rcases List.mem_append.mp ha with z | z
    · exact off' a z
    · exact off2 a z
  · rcases List.mem_append.mp ha with z | z
    · exact fr a z
    · rcases fr2 a z with y | y
      · exact st1.own a y
      · exact st1.fresh y
theorem star_cons (e : CE) (es : List Expr) (env : Env) : starEach (e.py :: es) env = (false, eval e.py env) :: starEach es env := by cases e <;> rfl
theorem pa_consT {e : CE} {es : CEs} (h1 : PE X e.py (tEv X.K D e)) (h2 : PA X es.py (tEvs X.K D es)) : PA X (CEs.cons e es).py (tEvs X.K D (.cons e es)) := by
  refine paBy (pa_cons h1 h2 (star_cons e _ _)) fun σ H Q ⟨S, Hf, F, rs, S', rel, he, q⟩ => ?_
  unfold evs at he
  rw [Option.bind_eq_some_iff] at he
  obtain ⟨⟨⟨m, v⟩, S1⟩, e1, he⟩ := he
  cases m with
  | bor => cases he
  | own d =>
    simp only [Option.map_eq_some_iff] at he
    obtain ⟨⟨rs', S2⟩, e2, he⟩ := he
    obtain ⟨rfl, rfl⟩ := Prod.mk.inj he
    refine ⟨S, Hf, F, _, S1, rel, e1, fun x H1 Hf1 F1 g1 p1 => ?_⟩
    refine ⟨S1, Hf1, F1, rs', S2, g1.rel, e2, fun xs H2 Hf2 F2 g2 p2 => q _ _ _ _ (GivesL.cons g1 g2) fun hp => ?_⟩
    unfold CEs.pure at hp
    rw [Bool.and_eq_true] at hp
    exact (p1 hp.1).trans (p2 hp.2)
theorem pa_nilO : PA X [] (tEvo X.K D .nil) := by
  refine paBy pa_nil fun σ H Q ⟨S, Hf, F, rs, S', rel, he, q⟩ => ?_
  unfold evo at he
  obtain ⟨rfl, rfl⟩ := Prod.mk.inj (Option.some.inj he)
  exact q [] H Hf F ⟨rel, Step.refl _ _ _, .nil⟩ fun _ => HSub.refl _
theorem pa_consO {e : CE} {es : CEs} (h1 : PE X e.py (tEv X.K D e)) (h2 : PA X es.py (tEvo X.K D es)) : PA X (CEs.cons e es).py (tEvo X.K D (.cons e es)) := by
  refine paBy (pa_cons h1 h2 (star_cons e _ _)) fun σ H Q ⟨S, Hf, F, rs, S', rel, he, q⟩ => ?_
  unfold evo at he
  rw [Option.bind_eq_some_iff] at he
  obtain ⟨⟨⟨m, v⟩, S1⟩, e1, he⟩ := he
  rw [gd_some] at he
  obtain ⟨l, he⟩ := he
  rw [Option.map_eq_some_iff] at he
  obtain ⟨⟨vs', S2⟩, e2, he⟩ := he
  obtain ⟨rfl, rfl⟩ := Prod.mk.inj he
  refine ⟨S, Hf, F, _, S1, rel, e1, fun x H1 Hf1 F1 g1 p1 => ?_⟩
  obtain ⟨Hf1', s1, rel1, st1, re1, rf1⟩ := g1.opd
  refine ⟨S1, Hf1', F1, vs', S2, rel1, e2, fun xs H2 Hf2 F2 g2 p2 => q _ _ Hf2 F2 ⟨g2.rel, st1.trans g2.st, .cons (carry re1 rf1 l p2 g2.st.hf g2.rel.sub) g2.res⟩ fun hp => ?_⟩
  unfold CEs.pure at hp
  rw [Bool.and_eq_true] at hp
  exact (p1 hp.1).trans (p2 hp.2)

theorem ArgsOk.mono {K : Frag} {Hf Hf' : Hp} {σ : L2.St} (s : HSub Hf Hf') : ∀ {as : List Arg} {xs : List V}, ArgsOk K Hf σ as xs → ArgsOk K Hf' σ as xs
  | _, _, .nil => .nil
  | _, _, .val h r => .val (h.mono s) (ArgsOk.mono s r)
  | _, _, .byRef h r => .byRef h (ArgsOk.mono s r)
theorem pa_nilA : PA X [] (tEva X.K D .nil) := by
  refine paBy pa_nil fun σ H Q ⟨S, Hf, F, rs, S', rel, he, q⟩ => ?_
  unfold eva at he
  obtain ⟨rfl, rfl⟩ := Prod.mk.inj (Option.some.inj he)
  exact q [] H Hf F ⟨rel, Step.refl _ _ _, .nil⟩ fun _ => HSub.refl _
theorem pa_consA {e : CE} {es : CEs} (hne : ∀ i x p, e ≠ .ref i x p) (h1 : PE X e.py (tEv X.K D e)) (h2 : PA X es.py (tEva X.K D es)) : PA X (CEs.cons e es).py (tEva X.K D (.cons e es)) := by
  refine paBy (pa_cons h1 h2 (star_cons e _ _)) fun σ H Q ⟨S, Hf, F, rs, S', rel, he, q⟩ => ?_
  have he' : ((ev D e S).bind fun q => match q.1.1 with
    | .own _ => (eva D es q.2).map fun t => (Arg.val q.1.2 :: t.1, t.2)
    | .bor => none) = some (rs, S') := by
    cases e <;> first | exact he | exact absurd rfl (hne _ _ _)
  rw [Option.bind_eq_some_iff] at he'
  obtain ⟨⟨⟨m, v⟩, S1⟩, e1, he'⟩ := he'
  cases m with
  | bor => cases he'
  | own d =>
    simp only [Option.map_eq_some_iff] at he'
    obtain ⟨⟨vs', S2⟩, e2, he'⟩ := he'
    obtain ⟨rfl, rfl⟩ := Prod.mk.inj he'
    refine ⟨S, Hf, F, _, S1, rel, e1, fun x H1 Hf1 F1 g1 p1 => ?_⟩
    obtain ⟨Hf1', s1, rel1, st1, re1, rf1⟩ := g1.opd
    refine ⟨S1, Hf1', F1, vs', S2, rel1, e2, fun xs H2 Hf2 F2 g2 p2 => q _ _ Hf2 F2 ⟨g2.rel, st1.trans g2.st, .val ((rf1 d rfl).mono g2.st.hf) g2.res⟩ fun hp => ?_⟩
    unfold CEs.pure at hp
    rw [Bool.and_eq_true] at hp
    exact (p1 hp.1).trans (p2 hp.2)
theorem pa_refA (c : Ctx free D n N sc X) {i : Nat} {x : Str} {p : Pos} {es : CEs} (hi : N[i]? = some x) (hv : visB sc x = true) (ok : okName x = true) (h2 : PA X es.py (tEva X.K D es)) : PA X (CEs.cons (.ref i x p) es).py (tEva X.K D (.cons (.ref i x p) es)) := by
  have h1 : PE X (CE.ref i x p).py (tVar i) := pe_var (i := i) (by rw [c.hN]; exact hi) (by rw [c.sc]; exact visB_ok hv) (okName_ok ok).1 (okName_ok ok).2.1
  refine paBy (pa_cons h1 h2 (star_cons (.ref i x p) _ _)) fun σ H Q ⟨S, Hf, F, rs, S', rel, he, q⟩ => ?_
  unfold eva at he
  split at he
  · rename_i r e
    rw [Option.map_eq_some_iff] at he
    obtain ⟨⟨vs', S2⟩, e2, he⟩ := he
    obtain ⟨rfl, rfl⟩ := Prod.mk.inj he
    obtain ⟨y, G, hy, _⟩ := rel.get (d := r.1) (v := r.2) e
    refine ⟨y, hy, S, Hf, F, vs', S2, rel, e2, fun xs H2 Hf2 F2 g2 p2 => q _ _ Hf2 F2 ⟨g2.rel, g2.st, .byRef hy g2.res⟩ fun hp => ?_⟩
    unfold CEs.pure CE.pure at hp
    cases hp
  · cases he
theorem pk_nilA : PK X [] (tEvk X.K D .nil) := by
  refine pkBy pk_nil fun σ H Q ⟨S, Hf, F, rs, S', rel, he, q⟩ => ?_
  unfold evk at he
  obtain ⟨rfl, rfl⟩ := Prod.mk.inj (Option.some.inj he)
  exact q [] H Hf F ⟨rel, Step.refl _ _ _, .nil⟩ fun _ => HSub.refl _
theorem pk_consA {x : Str} {p : Pos} {e : CE} {es : CKs} (h1 : PE X e.py (tEv X.K D e)) (h2 : PK X es.py (tEvk X.K D es)) : PK X (CKs.cons x e p es).py (tEvk X.K D (.cons x e p es)) := by
  refine pkBy (pk_cons (nm := some x) (kpos := p) h1 h2) fun σ H Q ⟨S, Hf, F, rs, S', rel, he, q⟩ => ?_
  unfold evk at he
  rw [Option.bind_eq_some_iff] at he
  obtain ⟨⟨⟨m, v⟩, S1⟩, e1, he⟩ := he
  cases m with
  | bor => cases he
  | own d =>
    simp only [Option.map_eq_some_iff] at he
    obtain ⟨⟨vs', S2⟩, e2, he⟩ := he
    obtain ⟨rfl, rfl⟩ := Prod.mk.inj he
    refine ⟨S, Hf, F, _, S1, rel, e1, fun x H1 Hf1 F1 g1 p1 => ?_⟩
    obtain ⟨Hf1', s1, rel1, st1, re1, rf1⟩ := g1.opd
    refine ⟨S1, Hf1', F1, vs', S2, rel1, e2, fun xs H2 Hf2 F2 g2 p2 => q _ _ Hf2 F2 ⟨g2.rel, st1.trans g2.st, .val ((rf1 d rfl).mono g2.st.hf) g2.res⟩ fun hp => ?_⟩
    unfold CKs.pure at hp
    rw [Bool.and_eq_true] at hp
    exact (p1 hp.1).trans (p2 hp.2)
/-! ### displays, operators -/
theorem s_tup {es : CEs} {k : Nat} {p : Pos} (h : PA X es.py (tEvs X.K D es)) : PE X (CE.tup es k p).py (tEv X.K D (.tup es k p)) := by
  refine peBy (pe_tup h) fun σ H Q ⟨S, Hf, F, r, S', rel, he, q⟩ => ?_
  unfold ev at he
  rw [Option.bind_eq_some_iff] at he
  obtain ⟨⟨rs, S1⟩, e1, he⟩ := he
  rw [gd_some] at he
  obtain ⟨l, he⟩ := he
  obtain ⟨rfl, rfl⟩ := Prod.mk.inj (Option.some.inj he)
  refine ⟨S, Hf, F, rs, S1, rel, e1, fun xs H1 Hf1 F1 g p1 => ?_⟩
  obtain ⟨Hf1', s1, rel1, st1, rl⟩ := g.frz
  refine ⟨by rw [rl.length, List.length_map]; exact of_decide_eq_true l, fun a ha => q _ _ _ _ (.newT rel1 st1 ha rl) fun hp => ?_⟩
  unfold CE.pure at hp
  exact (p1 hp).trans (HSub.upd ha)
theorem s_lst {es : CEs} {p : Pos} (h : PA X es.py (tEvs X.K D es)) : PE X (CE.lst es p).py (tEv X.K D (.lst es p)) := by
  refine peBy (pe_lst h) fun σ H Q ⟨S, Hf, F, r, S', rel, he, q⟩ => ?_
  unfold ev at he
  rw [Option.bind_eq_some_iff] at he
  obtain ⟨⟨rs, S1⟩, e1, he⟩ := he
  rw [gd_some] at he
  obtain ⟨l, he⟩ := he
  obtain ⟨rfl, rfl⟩ := Prod.mk.inj (Option.some.inj he)
  refine ⟨S, Hf, F, rs, S1, rel, e1, fun xs H1 Hf1 F1 g p1 => ?_⟩
  have hl : xs.length = rs.length := by obtain ⟨_, _, G, ow, _⟩ := g; exact ow.length
  refine ⟨by rw [hl]; exact of_decide_eq_true l, fun a ha => ?_⟩
  obtain ⟨Hf2, g2⟩ := g.newL ha
  refine q _ _ _ _ g2 fun hp => ?_
  unfold CE.pure at hp
  exact (p1 hp).trans (HSub.upd ha)
/-- two operands, then what is done with them -/
theorem two {a b : CE} {K : Frag} {σ : L2.St} {H : Hp} {S S1 S2 : Slots} {Hf : Hp} {F : List Addr} {q : Res} {t : Res} (rel : Rel K Hf F S σ H) (e1 : ev D a S = some (q, S1)) (l : q.1.lets b.pure = true) (e2 : ev D b S1 = some (t, S2))
    {Rr : V → V → Hp → Prop} (h : ∀ x y H2 Hf2 F2, Rel K Hf2 F2 S2 σ H2 → Step Hf F H Hf2 F2 H2 → RepE K Hf2 H2 q.2 x → RepE K Hf2 H2 t.2 y → (∀ d, t.1 = .own d → Rep K Hf2 t.2 y) → ((a.pure && b.pure) = true → HSub H H2) → Rr x y H2) :
    tEv K D a σ H fun x H1 => tEv K D b σ H1 fun y H2 => Rr x y H2 := by
  refine ⟨S, Hf, F, q, S1, rel, e1, fun x H1 Hf1 F1 g1 p1 => ?_⟩
  obtain ⟨Hf1', s1, rel1, st1, re1, rf1⟩ := g1.opd
  refine ⟨S1, Hf1', F1, t, S2, rel1, e2, fun y H2 Hf2 F2 g2 p2 => ?_⟩
  obtain ⟨Hf2', s2, rel2, st2, re2, rf2⟩ := g2.opd
  refine h x y H2 Hf2' F2 rel2 (st1.trans st2) (carry re1 rf1 l p2 st2.hf rel2.sub) re2 rf2 fun hp => ?_
  rw [Bool.and_eq_true] at hp
  exact (p1 hp.1).trans (p2 hp.2)
theorem s_bin {op : Operator} {a b : CE} {p : Pos} (ha : PE X a.py (tEv X.K D a)) (hb : PE X b.py (tEv X.K D b)) : PE X (CE.bin op a b p).py (tEv X.K D (.bin op a b p)) := by
  refine peBy (pe_op (op_bin op) ha hb) fun σ H Q ⟨S, Hf, F, r, S', rel, he, q⟩ => ?_
  unfold ev at he
  rw [Option.bind_eq_some_iff] at he
  obtain ⟨⟨w, S1⟩, e1, he⟩ := he
  rw [gd_some] at he
  obtain ⟨l, he⟩ := he
  rw [Option.bind_eq_some_iff] at he
  obtain ⟨⟨t, S2⟩, e2, he⟩ := he
  rw [Option.map_eq_some_iff] at he
  obtain ⟨z, e3, he⟩ := he
  obtain ⟨rfl, rfl⟩ := Prod.mk.inj he
  refine two rel e1 l e2 fun x y H2 Hf2 F2 rel2 st2 rx ry _ p2 => ?_
  refine ⟨_, _, Hf2, z, rel2.sub, rx, ry, e3, fun v H3 nw => ?_⟩
  obtain ⟨Hf3, g⟩ := nw.gives rel2 st2
  exact q v H3 Hf3 F2 g fun hp => (p2 (by unfold CE.pure at hp; exact hp)).trans nw.sub
theorem s_cmp (c : Ctx free D n N sc X) {op : CmpOp} {a b : CE} {p : Pos} (hm : behindInMarks op b.py = false) (ha : PE X a.py (tEv X.K D a)) (hb : PE X b.py (tEv X.K D b)) : PE X (CE.cmp op a b p).py (tEv X.K D (.cmp op a b p)) := by
  refine peBy (pe_cmpR (op_cmp op (by have := c.units; omega)) ha hb hm) fun σ H Q ⟨S, Hf, F, r, S', rel, he, q⟩ => ?_
  unfold ev at he
  rw [Option.bind_eq_some_iff] at he
  obtain ⟨⟨w, S1⟩, e1, he⟩ := he
  rw [gd_some] at he
  obtain ⟨l, he⟩ := he
  rw [Option.bind_eq_some_iff] at he
  obtain ⟨⟨t, S2⟩, e2, he⟩ := he
  rw [Option.map_eq_some_iff] at he
  obtain ⟨z, e3, he⟩ := he
  obtain ⟨rfl, rfl⟩ := Prod.mk.inj he
  refine two rel e1 l e2 fun x y H2 Hf2 F2 rel2 st2 rx ry _ p2 => ?_
  exact ⟨_, _, Hf2, z, rel2.sub, rx, ry, e3, q _ H2 Hf2 F2 (.frz rel2 st2 (.bl z) (.inl rfl)) fun hp => p2 (by unfold CE.pure at hp; exact hp)⟩
theorem s_chn (c : Ctx free D n N sc X) {op op' : CmpOp} {a b c' : CE} {p : Pos} (hm : lastMarks [op, op'] [b.py, c'.py] = false) (ha : PE X a.py (tEv X.K D a)) (hb : PE X b.py (tEv X.K D b)) (hc : PE X c'.py (tEv X.K D c')) :
    PE X (CE.chn op op' a b c' p).py (tEv X.K D (.chn op op' a b c' p)) := by
  have hu : X.A.units + 64 < cLine := by have := c.units; omega
  refine peBy (pe_chain (op_cmp op hu) (op_cmp op' hu) ha hb hc hm) fun σ H Q ⟨S, Hf, F, r, S', rel, he, q⟩ => ?_
  unfold ev at he
  rw [Option.bind_eq_some_iff] at he
  obtain ⟨⟨w, S1⟩, e1, he⟩ := he
  rw [gd_some] at he
  obtain ⟨l, he⟩ := he
  rw [Option.bind_eq_some_iff] at he
  obtain ⟨⟨t, S2⟩, e2, he⟩ := he
  rw [Option.bind_eq_some_iff] at he
  obtain ⟨z, e3, he⟩ := he
  refine two rel e1 l e2 fun x y H2 Hf2 F2 rel2 st2 rx ry rf p2 => ?_
  refine ⟨_, _, Hf2, z, rel2.sub, rx, ry, e3, z, rfl, ?_⟩
  cases z with
  | false =>
    rw [if_neg (by decide)]
    obtain ⟨rfl, rfl⟩ := Prod.mk.inj (Option.some.inj he)
    refine q _ H2 Hf2 F2 (.frz rel2 st2 (.bl false) (.inl rfl)) fun hp => p2 ?_
    unfold CE.pure at hp
    rw [Bool.and_eq_true] at hp
    exact hp.1
  | true =>
    rw [if_pos rfl]
    have he : gd (t.1.lets c'.pure) ((ev D c' S2).bind fun u => (cmpV op' t.2 u.1.2).map fun r' => (((.own 0, .bl r') : Res), u.2)) = some (r, S') := he
    rw [gd_some] at he
    obtain ⟨l2, he⟩ := he
    rw [Option.bind_eq_some_iff] at he
    obtain ⟨⟨u, S3⟩, e4, he⟩ := he
    rw [Option.map_eq_some_iff] at he
    obtain ⟨z', e5, he⟩ := he
    obtain ⟨rfl, rfl⟩ := Prod.mk.inj he
    refine ⟨S2, Hf2, F2, u, S3, rel2, e4, fun y3 H3 Hf3 F3 g3 p3 => ?_⟩
    obtain ⟨Hf3', s3, rel3, st3, re3, rf3⟩ := g3.opd
    refine ⟨_, _, Hf3', z', rel3.sub, carry ry rf l2 p3 st3.hf rel3.sub, re3, e5, q _ H3 Hf3' F3 (.frz rel3 (st2.trans st3) (.bl z') (.inl rfl)) fun hp => ?_⟩
    unfold CE.pure at hp
    rw [Bool.and_eq_true] at hp
    exact (p2 hp.1).trans (p3 hp.2)
theorem s_neg {a : CE} {p : Pos} (ha : PE X a.py (tEv X.K D a)) : PE X (CE.neg a p).py (tEv X.K D (.neg a p)) := by
  refine peBy (pe_un un_neg ha) fun σ H Q ⟨S, Hf, F, r, S', rel, he, q⟩ => ?_
  unfold ev at he
  rw [Option.bind_eq_some_iff] at he
  obtain ⟨⟨⟨m, v⟩, S1⟩, e1, he⟩ := he
  refine ⟨S, Hf, F, _, S1, rel, e1, fun x H1 Hf1 F1 g1 p1 => ?_⟩
  obtain ⟨Hf1', s1, rel1, st1, re1, rf1⟩ := g1.opd
  cases v with
  | int i =>
    obtain ⟨rfl, rfl⟩ := Prod.mk.inj (Option.some.inj he)
    obtain rfl := re1.int_
    exact ⟨i, rfl, q _ H1 Hf1' F1 (.frz rel1 st1 (.int _) (.inl rfl)) fun hp => p1 (by unfold CE.pure at hp; exact hp)⟩
  | _ => cases he
theorem s_nt {a : CE} {p : Pos} (ha : PE X a.py (tEv X.K D a)) : PE X (CE.nt a p).py (tEv X.K D (.nt a p)) := by
  refine peBy (pe_notT ha) fun σ H Q ⟨S, Hf, F, r, S', rel, he, q⟩ => ?_
  unfold ev tst at he
  rw [Option.map_eq_some_iff] at he
  obtain ⟨⟨b, S1⟩, e1, he⟩ := he
  rw [Option.bind_eq_some_iff] at e1
  obtain ⟨⟨w, S2⟩, e1, e2⟩ := e1
  rw [Option.map_eq_some_iff] at e2
  obtain ⟨b', e2, e3⟩ := e2
  obtain ⟨rfl, rfl⟩ := Prod.mk.inj e3
  obtain ⟨rfl, rfl⟩ := Prod.mk.inj he
  refine ⟨S, Hf, F, _, S2, rel, e1, fun x H1 Hf1 F1 g1 p1 => ?_⟩
  obtain ⟨Hf1', s1, rel1, st1, re1, rf1⟩ := g1.opd
  exact ⟨b', truV_ok rel1.sub re1 e2, q _ H1 Hf1' F1 (.frz rel1 st1 (.bl _) (.inl rfl)) fun hp => p1 (by unfold CE.pure at hp; exact hp)⟩
end
end BV
/-! Expressions: tests, calls, subscripts. -/
namespace BV
open PySem PySem.Spec PyProof.Rows L2
section
variable {free : List Str} {D : Den} {n : Nat} {N : List Str} {sc : Scope} {X : Cx}
/-! ### tests -/
def tEt (K : Frag) (D : Den) (o : Slots → Option (Bool × Slots)) (pu : Bool) : TT := fun σ H Q => ∃ S Hf F b S', Rel K Hf F S σ H ∧ o S = some (b, S') ∧ ∀ H' Hf' F', Rel K Hf' F' S' σ H' → Step Hf F H Hf' F' H' → (pu = true → HSub H H') → Q b H'
abbrev tTs (K : Frag) (D : Den) (e : CE) : TT := tEt K D (fun S => tst (ev D e S)) e.pure
theorem ptBy {X : Cx} {e : Expr} {t t' : TT} (h : PT X e t) (w : ∀ σ H Q, t' σ H Q → t σ H Q) : PT X e t' := ⟨fun pins s σ H Q I q => h.run pins s σ H Q I (w σ H Q q)⟩
theorem pwBy {X : Cx} {e : Expr} {t t' : TT} (h : PW X e t) (w : ∀ σ H Q, t' σ H Q → t σ H Q) : PW X e t' := ⟨fun wh pins s σ H Q I q => h.run wh pins s σ H Q I (w σ H Q q)⟩
theorem tst_some {o : Option (Res × Slots)} {b : Bool} {S : Slots} (h : tst o = some (b, S)) : ∃ r, o = some (r, S) ∧ truV r.2 = some b := by
  unfold tst at h
  rw [Option.bind_eq_some_iff] at h
  obtain ⟨⟨r, S1⟩, e1, h⟩ := h
  rw [Option.map_eq_some_iff] at h
  obtain ⟨b', e2, h⟩ := h
  obtain ⟨rfl, rfl⟩ := Prod.mk.inj h
  exact ⟨r, e1, e2⟩
/-- a test by its value's truth -/
theorem t_val {e : CE} (h : PE X e.py (tEv X.K D e)) (he : ∀ whole, isTrue e.py X.env whole = (do let v ← whole; standAt e.py.pos; holding [v] (truthy v))) : PT X e.py (tTs X.K D e) := by
  refine ptBy (pt_truth h he) fun σ H Q ⟨S, Hf, F, b, S', rel, ht, q⟩ => ?_
  obtain ⟨r, e1, e2⟩ := tst_some ht
  refine ⟨S, Hf, F, r, S', rel, e1, fun x H1 Hf1 F1 g1 p1 => ?_⟩
  obtain ⟨Hf1', s1, rel1, st1, re1, rf1⟩ := g1.opd
  exact ⟨b, truV_ok rel1.sub re1 e2, q H1 Hf1' F1 rel1 st1 p1⟩
theorem t_nt {a : CE} {p : Pos} (h : PT X a.py (tTs X.K D a)) : PT X (CE.nt a p).py (tTs X.K D (.nt a p)) := by
  refine ptBy (pt_not h) fun σ H Q ⟨S, Hf, F, b, S', rel, ht, q⟩ => ?_
  obtain ⟨r, e1, e2⟩ := tst_some ht
  unfold ev at e1
  rw [Option.map_eq_some_iff] at e1
  obtain ⟨⟨b', S1⟩, e1, e3⟩ := e1
  obtain ⟨rfl, rfl⟩ := Prod.mk.inj e3
  obtain rfl : (!b') = b := by simpa [truV] using e2
  exact ⟨S, Hf, F, b', S1, rel, e1, fun H1 Hf1 F1 rel1 st1 p1 => q H1 Hf1 F1 rel1 st1 fun hp => p1 (by unfold CE.pure at hp; exact hp)⟩
theorem t_cmp (c : Ctx free D n N sc X) {op : CmpOp} {a b : CE} {p : Pos} (hm : behindInMarks op b.py = false) (ha : PE X a.py (tEv X.K D a)) (hb : PE X b.py (tEv X.K D b)) : PT X (CE.cmp op a b p).py (tTs X.K D (.cmp op a b p)) := by
  refine ptBy (pt_cmpR (op_cmp op (by have := c.units; omega)) ha hb hm) fun σ H Q ⟨S, Hf, F, bb, S', rel, ht, q⟩ => ?_
  obtain ⟨r, he, et⟩ := tst_some ht
  unfold ev at he
  rw [Option.bind_eq_some_iff] at he
  obtain ⟨⟨w, S1⟩, e1, he⟩ := he
  rw [gd_some] at he
  obtain ⟨l, he⟩ := he
  rw [Option.bind_eq_some_iff] at he
  obtain ⟨⟨t, S2⟩, e2, he⟩ := he
  rw [Option.map_eq_some_iff] at he
  obtain ⟨z, e3, he⟩ := he
  obtain ⟨rfl, rfl⟩ := Prod.mk.inj he
  obtain rfl : z = bb := by simpa [truV] using et
  refine two rel e1 l e2 fun x y H2 Hf2 F2 rel2 st2 rx ry _ p2 => ?_
  exact ⟨_, _, Hf2, z, rel2.sub, rx, ry, e3, z, rfl, q H2 Hf2 F2 rel2 st2 fun hp => p2 (by unfold CE.pure at hp; exact hp)⟩
theorem t_chn (c : Ctx free D n N sc X) {op op' : CmpOp} {a b c' : CE} {p : Pos} (hm : lastMarks [op, op'] [b.py, c'.py] = false) (ha : PE X a.py (tEv X.K D a)) (hb : PE X b.py (tEv X.K D b)) (hc : PE X c'.py (tEv X.K D c')) :
    PT X (CE.chn op op' a b c' p).py (tTs X.K D (.chn op op' a b c' p)) := by
  have hu : X.A.units + 64 < cLine := by have := c.units; omega
  refine ptBy (pt_chain (op_cmp op hu) (op_cmp op' hu) ha hb hc hm) fun σ H Q ⟨S, Hf, F, bb, S', rel, ht, q⟩ => ?_
  obtain ⟨r, he, et⟩ := tst_some ht
  unfold ev at he
  rw [Option.bind_eq_some_iff] at he
  obtain ⟨⟨w, S1⟩, e1, he⟩ := he
  rw [gd_some] at he
  obtain ⟨l, he⟩ := he
  rw [Option.bind_eq_some_iff] at he
  obtain ⟨⟨t, S2⟩, e2, he⟩ := he
  rw [Option.bind_eq_some_iff] at he
  obtain ⟨z, e3, he⟩ := he
  refine two rel e1 l e2 fun x y H2 Hf2 F2 rel2 st2 rx ry rf p2 => ?_
  refine ⟨_, _, Hf2, z, rel2.sub, rx, ry, e3, z, rfl, ?_⟩
  cases z with
  | false =>
    rw [if_neg (by decide)]
    obtain ⟨rfl, rfl⟩ := Prod.mk.inj (Option.some.inj he)
    obtain rfl : false = bb := by simpa [truV] using et
    refine ⟨false, rfl, q H2 Hf2 F2 rel2 st2 fun hp => p2 ?_⟩
    unfold CE.pure at hp
    rw [Bool.and_eq_true] at hp
    exact hp.1
  | true =>
    rw [if_pos rfl]
    have he : gd (t.1.lets c'.pure) ((ev D c' S2).bind fun u => (cmpV op' t.2 u.1.2).map fun r' => (((.own 0, .bl r') : Res), u.2)) = some (r, S') := he
    rw [gd_some] at he
    obtain ⟨l2, he⟩ := he
    rw [Option.bind_eq_some_iff] at he
    obtain ⟨⟨u, S3⟩, e4, he⟩ := he
    rw [Option.map_eq_some_iff] at he
    obtain ⟨z', e5, he⟩ := he
    obtain ⟨rfl, rfl⟩ := Prod.mk.inj he
    obtain rfl : z' = bb := by simpa [truV] using et
    refine ⟨S2, Hf2, F2, u, S3, rel2, e4, fun y3 H3 Hf3 F3 g3 p3 => ?_⟩
    obtain ⟨Hf3', s3, rel3, st3, re3, rf3⟩ := g3.opd
    refine ⟨_, _, Hf3', z', rel3.sub, carry ry rf l2 p3 st3.hf rel3.sub, re3, e5, z', rfl, q H3 Hf3' F3 rel3 (st2.trans st3) fun hp => ?_⟩
    unfold CE.pure at hp
    rw [Bool.and_eq_true] at hp
    exact (p2 hp.1).trans (p3 hp.2)
/-- and, or as tests -/
theorem t_bop1 {o : BoolOp} {e : CE} {p : Pos} (h : PT X e.py (tTs X.K D e)) : PW X (.BoolOp o [e.py] p) (tEt X.K D (fun S => tst (evb D o (.cons e .nil) S)) (CEs.cons e .nil).pure) := by
  have w : ∀ σ H Q, tEt X.K D (fun S => tst (evb D o (.cons e .nil) S)) (CEs.cons e .nil).pure σ H Q → tTs X.K D e σ H Q := by
    rintro σ H Q ⟨S, Hf, F, b, S', rel, ht, q⟩
    refine ⟨S, Hf, F, b, S', rel, by unfold evb at ht; exact ht, fun H1 Hf1 F1 rel1 st1 p1 => q H1 Hf1 F1 rel1 st1 fun hp => p1 ?_⟩
    simpa [CEs.pure] using hp
  cases o with
  | And => exact pwBy (pw_and1 h) w
  | Or => exact pwBy (pw_or1 h) w
theorem t_bop2 {o : BoolOp} {e e2 : CE} {es : CEs} {p : Pos} (h : PT X e.py (tTs X.K D e)) (h2 : PW X (.BoolOp o (CEs.cons e2 es).py p) (tEt X.K D (fun S => tst (evb D o (.cons e2 es) S)) (CEs.cons e2 es).pure)) :
    PW X (.BoolOp o (CEs.cons e (.cons e2 es)).py p) (tEt X.K D (fun S => tst (evb D o (.cons e (.cons e2 es)) S)) (CEs.cons e (.cons e2 es)).pure) := by
  have st : ∀ S b S', tst (evb D o (.cons e (.cons e2 es)) S) = some (b, S') → ∃ b1 S1, tst (ev D e S) = some (b1, S1) ∧ ((match o with | .And => b1 | .Or => !b1) = true → tst (evb D o (.cons e2 es) S1) = some (b, S')) ∧ ((match o with | .And => b1 | .Or => !b1) = false → b = b1 ∧ S' = S1) := by
    intro S b S' ht
    obtain ⟨r, he, et⟩ := tst_some ht
    unfold evb at he
    rw [Option.bind_eq_some_iff] at he
    obtain ⟨⟨w, S1⟩, e1, he⟩ := he
    rw [Option.bind_eq_some_iff] at he
    obtain ⟨b1, e2', he⟩ := he
    refine ⟨b1, S1, by unfold tst; rw [e1]; simp [e2'], ?_, ?_⟩
    · intro hb
      cases o with
      | And =>
        have hb : b1 = true := hb
        subst hb
        have he : evb D .And (.cons e2 es) S1 = some (r, S') := he
        unfold tst; rw [he]; simp [et]
      | Or =>
        have hb : b1 = false := by simpa using hb
        subst hb
        have he : evb D .Or (.cons e2 es) S1 = some (r, S') := he
        unfold tst; rw [he]; simp [et]
    · intro hb
      cases o with
      | And =>
        have hb : b1 = false := hb
        subst hb
        have he : some (w, S1) = some (r, S') := he
        obtain ⟨rfl, rfl⟩ := Prod.mk.inj (Option.some.inj he)
        rw [e2'] at et
        exact ⟨(Option.some.inj et).symm, rfl⟩
      | Or =>
        have hb : b1 = true := by simpa using hb
        subst hb
        have he : some (w, S1) = some (r, S') := he
        obtain ⟨rfl, rfl⟩ := Prod.mk.inj (Option.some.inj he)
        rw [e2'] at et
        exact ⟨(Option.some.inj et).symm, rfl⟩
  cases o with
  | And =>
    refine pwBy (pw_and h h2) fun σ H Q ⟨S, Hf, F, b, S', rel, ht, q⟩ => ?_
    obtain ⟨b1, S1, e1, g1, g2⟩ := st S b S' ht
    refine ⟨S, Hf, F, b1, S1, rel, e1, fun H1 Hf1 F1 rel1 st1 p1 => ?_⟩
    cases b1 with
    | true =>
      rw [if_pos rfl]
      refine ⟨S1, Hf1, F1, b, S', rel1, g1 rfl, fun H2 Hf2 F2 rel2 st2 p2 => q H2 Hf2 F2 rel2 (st1.trans st2) fun hp => ?_⟩
      have hp : (e.pure && (CEs.cons e2 es).pure) = true := hp
      rw [Bool.and_eq_true] at hp
      exact (p1 hp.1).trans (p2 hp.2)
    | false =>
      rw [if_neg (by decide)]
      obtain ⟨rfl, rfl⟩ := g2 rfl
      refine q H1 Hf1 F1 rel1 st1 fun hp => ?_
      have hp : (e.pure && (CEs.cons e2 es).pure) = true := hp
      rw [Bool.and_eq_true] at hp
      exact p1 hp.1
  | Or =>
    refine pwBy (pw_or h h2) fun σ H Q ⟨S, Hf, F, b, S', rel, ht, q⟩ => ?_
    obtain ⟨b1, S1, e1, g1, g2⟩ := st S b S' ht
    refine ⟨S, Hf, F, b1, S1, rel, e1, fun H1 Hf1 F1 rel1 st1 p1 => ?_⟩
    cases b1 with
    | false =>
      rw [if_neg (by decide)]
      refine ⟨S1, Hf1, F1, b, S', rel1, g1 rfl, fun H2 Hf2 F2 rel2 st2 p2 => q H2 Hf2 F2 rel2 (st1.trans st2) fun hp => ?_⟩
      have hp : (e.pure && (CEs.cons e2 es).pure) = true := hp
      rw [Bool.and_eq_true] at hp
      exact (p1 hp.1).trans (p2 hp.2)
    | true =>
      rw [if_pos rfl]
      obtain ⟨rfl, rfl⟩ := g2 rfl
      refine q H1 Hf1 F1 rel1 st1 fun hp => ?_
      have hp : (e.pure && (CEs.cons e2 es).pure) = true := hp
      rw [Bool.and_eq_true] at hp
      exact p1 hp.1
/-! ### and, or as values -/
def tEb (K : Frag) (D : Den) (o : BoolOp) (es : CEs) : TE := fun σ H Q => ∃ S Hf F r S', Rel K Hf F S σ H ∧ evb D o es S = some (r, S') ∧ ∀ x H' Hf' F', Gives K Hf F H S' σ r x Hf' F' H' → (es.pure = true → HSub H H') → Q x H'
theorem b_one {o : BoolOp} {e : CE} {p : Pos} (h : PE X e.py (tEv X.K D e)) : PE X (.BoolOp o [e.py] p) (tEb X.K D o (.cons e .nil)) := by
  refine peBy (pe_one h) fun σ H Q ⟨S, Hf, F, r, S', rel, he, q⟩ => ?_
  refine ⟨S, Hf, F, r, S', rel, by unfold evb at he; exact he, fun x H1 Hf1 F1 g p1 => q x H1 Hf1 F1 g fun hp => p1 ?_⟩
  simpa [CEs.pure] using hp
theorem b_more {o : BoolOp} {e e2 : CE} {es : CEs} {p : Pos} (h : PE X e.py (tEv X.K D e)) (h2 : PE X (.BoolOp o (CEs.cons e2 es).py p) (tEb X.K D o (.cons e2 es))) : PE X (.BoolOp o (CEs.cons e (.cons e2 es)).py p) (tEb X.K D o (.cons e (.cons e2 es))) := by
  have go : ∀ {t : TE}, PE X (.BoolOp o (CEs.cons e (.cons e2 es)).py p) t → (∀ σ H Q, (∃ S Hf F w S1 b1, Rel X.K Hf F S σ H ∧ ev D e S = some (w, S1) ∧ truV w.2 = some b1 ∧
      ∀ x H1 Hf1 F1, Gives X.K Hf F H S1 σ w x Hf1 F1 H1 → (e.pure = true → HSub H H1) → TruV X.K x H1 b1 ∧ if (match o with | .And => b1 | .Or => !b1) = true then tEb X.K D o (.cons e2 es) σ H1 Q else Q x H1) → t σ H Q) →
      PE X (.BoolOp o (CEs.cons e (.cons e2 es)).py p) (tEb X.K D o (.cons e (.cons e2 es))) := by
    intro t hp ht
    refine peBy hp fun σ H Q ⟨S, Hf, F, r, S', rel, he, q⟩ => ht σ H Q ?_
    unfold evb at he
    rw [Option.bind_eq_some_iff] at he
    obtain ⟨⟨w, S1⟩, e1, he⟩ := he
    rw [Option.bind_eq_some_iff] at he
    obtain ⟨b1, e2', he⟩ := he
    refine ⟨S, Hf, F, w, S1, b1, rel, e1, e2', fun x H1 Hf1 F1 g1 p1 => ?_⟩
    obtain ⟨Hf1', s1, rel1, st1, re1, rf1⟩ := g1.opd
    refine ⟨truV_ok rel1.sub re1 e2', ?_⟩
    have cont : evb D o (.cons e2 es) S1 = some (r, S') → tEb X.K D o (.cons e2 es) σ H1 Q := fun he => by
      refine ⟨S1, Hf1, F1, r, S', g1.rel, he, fun y H2 Hf2 F2 g2 p2 => q y H2 Hf2 F2 ⟨g2.rel, g1.st.trans g2.st, ?_⟩ fun hp => ?_⟩
      · have res := g2.res
        unfold ResOk at res ⊢
        cases q1 : r.1 with
        | bor => rw [q1] at res; exact res
        | own d =>
          rw [q1] at res
          obtain ⟨G, a1, a2, a3, a4⟩ := res
          exact ⟨G, a1, a2, a3, fun a ha => (a4 a ha).elim (g1.st.own a) g1.st.fresh⟩
      · have hp : (e.pure && (CEs.cons e2 es).pure) = true := hp
        rw [Bool.and_eq_true] at hp
        exact (p1 hp.1).trans (p2 hp.2)
    have stop : some (w, S1) = some (r, S') → Q x H1 := fun he => by
      obtain ⟨rfl, rfl⟩ := Prod.mk.inj (Option.some.inj he)
      refine q x H1 Hf1 F1 g1 fun hp => ?_
      have hp : (e.pure && (CEs.cons e2 es).pure) = true := hp
      rw [Bool.and_eq_true] at hp
      exact p1 hp.1
    cases o with
    | And =>
      cases b1 with
      | true => exact cont he
      | false => exact stop he
    | Or =>
      cases b1 with
      | false => exact cont he
      | true => exact stop he
  cases o with
  | And =>
    refine go (pe_andT h h2) fun σ H Q ⟨S, Hf, F, w, S1, b1, rel, e1, _, k⟩ => ?_
    refine ⟨S, Hf, F, w, S1, rel, e1, fun x H1 Hf1 F1 g1 p1 => ?_⟩
    obtain ⟨tr, r⟩ := k x H1 Hf1 F1 g1 p1
    exact ⟨b1, tr, r⟩
  | Or =>
    refine go (pe_orT h h2) fun σ H Q ⟨S, Hf, F, w, S1, b1, rel, e1, _, k⟩ => ?_
    refine ⟨S, Hf, F, w, S1, rel, e1, fun x H1 Hf1 F1 g1 p1 => ?_⟩
    obtain ⟨tr, r⟩ := k x H1 Hf1 F1 g1 p1
    refine ⟨b1, tr, ?_⟩
    cases b1 with
    | true => exact r
    | false => exact r
theorem s_bop {o : BoolOp} {es : CEs} {p : Pos} (h : PE X (.BoolOp o es.py p) (tEb X.K D o es)) : PE X (CE.bop o es p).py (tEv X.K D (.bop o es p)) := by
  refine peBy h fun σ H Q ⟨S, Hf, F, r, S', rel, he, q⟩ => ⟨S, Hf, F, r, S', rel, by unfold ev at he; exact he, fun x H1 Hf1 F1 g p1 => q x H1 Hf1 F1 g fun hp => p1 (by unfold CE.pure at hp; exact hp)⟩
theorem t_bop {o : BoolOp} {es : CEs} {p : Pos} (h : PW X (.BoolOp o es.py p) (tEt X.K D (fun S => tst (evb D o es S)) es.pure)) : PT X (CE.bop o es p).py (tTs X.K D (.bop o es p)) := by
  refine ptBy h.pt fun σ H Q ⟨S, Hf, F, b, S', rel, ht, q⟩ => ⟨S, Hf, F, b, S', rel, ?_, fun H1 Hf1 F1 rel1 st1 p1 => q H1 Hf1 F1 rel1 st1 fun hp => p1 (by unfold CE.pure at hp; exact hp)⟩
  have ht : tst (ev D (.bop o es p) S) = some (b, S') := ht
  unfold ev at ht
  exact ht
theorem resTrans {K : Frag} {Hf Hf1 Hf2 H H1 H2 : Hp} {F F1 F2 : List Addr} {S2 : Slots} {σ : L2.St} {r : Res} {x : V} (st : Step Hf F H Hf1 F1 H1) (g : Gives K Hf1 F1 H1 S2 σ r x Hf2 F2 H2) : Gives K Hf F H S2 σ r x Hf2 F2 H2 := by
  refine ⟨g.rel, st.trans g.st, ?_⟩
  have res := g.res
  unfold ResOk at res ⊢
  cases q1 : r.1 with
  | bor => rw [q1] at res; exact res
  | own d =>
    rw [q1] at res
    obtain ⟨G, a1, a2, a3, a4⟩ := res
    exact ⟨G, a1, a2, a3, fun a ha => (a4 a ha).elim (st.own a) st.fresh⟩
theorem s_ifx {c a b : CE} {p : Pos} (hc : PT X c.py (tTs X.K D c)) (ha : PE X a.py (tEv X.K D a)) (hb : PE X b.py (tEv X.K D b)) : PE X (CE.ifx c a b p).py (tEv X.K D (.ifx c a b p)) := by
  refine peBy (pe_ifExp hc ha hb) fun σ H Q ⟨S, Hf, F, r, S', rel, he, q⟩ => ?_
  unfold ev at he
  rw [Option.bind_eq_some_iff] at he
  obtain ⟨⟨t, S1⟩, e1, he⟩ := he
  refine ⟨S, Hf, F, t, S1, rel, e1, fun H1 Hf1 F1 rel1 st1 p1 => ?_⟩
  cases t with
  | true =>
    rw [if_pos rfl]
    refine ⟨S1, Hf1, F1, r, S', rel1, he, fun x H2 Hf2 F2 g p2 => q x H2 Hf2 F2 (resTrans st1 g) fun hp => ?_⟩
    unfold CE.pure at hp
    simp only [Bool.and_eq_true] at hp
    exact (p1 hp.1.1).trans (p2 hp.1.2)
  | false =>
    rw [if_neg (by decide)]
    refine ⟨S1, Hf1, F1, r, S', rel1, he, fun x H2 Hf2 F2 g p2 => q x H2 Hf2 F2 (resTrans st1 g) fun hp => ?_⟩
    unfold CE.pure at hp
    simp only [Bool.and_eq_true] at hp
    exact (p1 hp.1.1).trans (p2 hp.2)
end
end BV
/-! Expressions: calls, subscripts. -/
namespace BV
open PySem PySem.Spec PyProof.Rows L2
section
variable {free : List Str} {D : Den} {n : Nat} {N : List Str} {sc : Scope} {X : Cx}
theorem OwnL.split {K : Frag} {Hf H : Hp} {d : Nat} : ∀ {xs : List Val} {ys : List V} {G : List Addr} {j : Nat} {v : Val}, OwnL K Hf H d xs ys G → xs[j]? = some v →
    ∃ y G1 G2 G3, ys[j]? = some y ∧ G = G1 ++ G2 ++ G3 ∧ Own K Hf H d v y G2 ∧
      ∀ {H' : Hp} {u : Val} {z : V} {G' : List Addr}, (∀ a, (a ∈ G1 ∨ a ∈ G3) → ∀ o, H a = some o → H' a = some o) → Own K Hf H' d u z G' → OwnL K Hf H' d (xs.set j u) (ys.set j z) (G1 ++ G' ++ G3)
  | _, _, _, _, _, .nil, e => by simp at e
  | _, _, _, 0, _, .cons (x := x) (F := F) (G := G) h r, e => by
    simp at e; subst e
    refine ⟨x, [], F, G, rfl, rfl, h, fun k q => ?_⟩
    exact .cons q (r.mono (HSub.refl _) fun a ha => k a (.inr ha))
  | _, _, _, j + 1, v, .cons (x := x) (F := F) (G := G) h r, e => by
    obtain ⟨z, F1, F2, F3, e1, e2, e3, e4⟩ := OwnL.split (j := j) (v := v) r (by simpa using e)
    refine ⟨z, F ++ F1, F2, F3, by simpa using e1, by rw [e2]; simp, e3, fun k q => ?_⟩
    have := OwnL.cons (h.mono (HSub.refl _) fun a ha => k a (.inl (List.mem_append_left _ ha))) (e4 (fun a ha => k a (ha.elim (fun z => .inl (List.mem_append_right _ z)) .inr)) q)
    simpa using this
/-- something owned by nobody here is changed -/
theorem Rel.mut {K : Frag} {Hf H : Hp} {F : List Addr} {S : Slots} {σ : L2.St} (r : Rel K Hf F S σ H) {p : Addr} {o : HO} (hp : p ∉ F) (hf : Hf p = Option.none) : Rel K Hf F S σ (L2.upd H p o) := by
  refine ⟨fun a u e => ?_, r.nd, r.off, r.plc.mono (HSub.refl _) fun a ha u e => ?_⟩
  · rw [upd_ne (fun z => by rw [z, hf] at e; cases e)]; exact r.sub a u e
  · rw [upd_ne (fun z => hp (by rw [← z]; exact ha))]; exact e
theorem no_marks (op : CmpOp) (b : CE) : behindInMarks op b.py = false := by cases b <;> rfl
theorem no_star : ∀ (es : CEs) (p : Pos) (env : Env), (backTo p (starEach es.py env)).any (·.1) = false
  | .nil, _, _ => rfl
  | .cons e es, p, env => by
    show (backTo p (starEach (e.py :: es.py) env)).any (·.1) = false
    rw [star_cons]
    exact no_star es p env
def CKs.names : CKs → List Str
  | .nil => []
  | .cons x _ _ ks => x :: ks.names
theorem kw_all : ∀ (ks : CKs) (p : Pos) (env : Env), (backToKw p (keywordEach ks.py env)).all (·.1.isSome) = true ∧ (backToKw p (keywordEach ks.py env)).any (·.1.isNone) = false ∧ (backToKw p (keywordEach ks.py env)).filterMap (·.1) = ks.names
  | .nil, _, _ => ⟨rfl, rfl, rfl⟩
  | .cons x e q ks, p, env => ⟨(kw_all ks p env).1, (kw_all ks p env).2.1, congrArg (x :: ·) (kw_all ks p env).2.2⟩
theorem boot_bf (f : BF) : bootBuiltins f.name = some f.val := by cases f <;> decide +kernel
theorem bf_ok (f : BF) : okName f.name = true := by cases f <;> decide +kernel
theorem boot_tn (T : TN) : bootBuiltins (Str.ofString T.name) = some (.type T.name) := by cases T <;> decide +kernel
theorem tn_ok (T : TN) : okName (Str.ofString T.name) = true := by cases T <;> decide +kernel
theorem Ctx.gl (c : Ctx free D n N sc X) {x : Str} (h : glB sc x = true) : Gl X x := by
  show X.env.scope.names.lookup x = _
  rw [c.sc]; exact glB_ok h
theorem s_isi (c : Ctx free D n N sc X) {a : CE} {T : TN} {np tp p : Pos} (g1 : glB sc "isinstance" = true) (g2 : glB sc (Str.ofString T.name) = true) (m1 : ("isinstance" : Str) ∈ free) (m2 : Str.ofString T.name ∈ free)
    (ha : PE X a.py (tEv X.K D a)) : PE X (CE.isi a T np tp p).py (tEv X.K D (.isi a T np tp p)) := by
  have ht : PE X (.Name (Str.ofString T.name) tp) (tC (.ty T.name)) := pe_bltn (c.gl g2) (c.fre _ m2) (boot_tn T) rfl (okName_ok (tn_ok T)).2.2 (okName_ok (tn_ok T)).1
  refine peBy (pe_callB call_isi (c.gl g1) (c.fre _ m1) PyProof.Rows.boot_isinstance (pa_cons ha (pa_cons ht pa_nil rfl) (star_cons a _ _)) (by decide) (by decide) (star_cons a _ _) rfl) fun σ H Q ⟨S, Hf, F, r, S', rel, he, q⟩ => ?_
  unfold ev at he
  rw [Option.map_eq_some_iff] at he
  obtain ⟨⟨w, S1⟩, e1, he⟩ := he
  obtain ⟨rfl, rfl⟩ := Prod.mk.inj he
  refine ⟨S, Hf, F, w, S1, rel, e1, fun x H1 Hf1 F1 g1 p1 => ?_⟩
  obtain ⟨Hf1', s1, rel1, st1, re1, rf1⟩ := g1.opd
  exact ⟨x, .ty T.name, .type (tyV w.2), .type T.name, isiV w.2 T, rfl, .ty _, re1.ty rel1.sub, kit_ty (kit_isi w.2 T), q _ H1 Hf1' F1 (.frz rel1 st1 (.bl _) (.inl rfl)) fun hp => p1 (by unfold CE.pure at hp; exact hp)⟩
theorem s_blt (c : Ctx free D n N sc X) {f : BF} {np p : Pos} {e : CE} {es : CEs} (g : glB sc f.name = true) (m : f.name ∈ free) (ha : PA X (CEs.cons e es).py (tEvo X.K D (.cons e es))) : PE X (CE.blt f np (.cons e es) p).py (tEv X.K D (.blt f np (.cons e es) p)) := by
  have rule := call_blt (X := X) f c.calm c.gu c.units
  have ok := okName_ok (bf_ok f)
  have pe : PE X (CE.blt f np (.cons e es) p).py (tCB (rB X.K (bltV f)) (tEvo X.K D (.cons e es))) := by
    have hb := boot_bf f
    have viaB : ∀ {id : String}, f.val = .builtin id → PE X (CE.blt f np (.cons e es) p).py (tCB (rB X.K (bltV f)) (tEvo X.K D (.cons e es))) := by
      intro id hv
      rw [hv] at hb rule
      exact pe_callB rule (c.gl g) (c.fre _ m) hb ha ok.2.2 ok.1 (star_cons e _ _) (no_star es p _)
    have viaT : ∀ {id : String}, f.val = .type id → PE X (CE.blt f np (.cons e es) p).py (tCB (rB X.K (bltV f)) (tEvo X.K D (.cons e es))) := by
      intro id hv
      rw [hv] at hb rule
      exact pe_callTy rule (c.gl g) (c.fre _ m) hb ha ok.2.2 ok.1 (star_cons e _ _) (no_star es p _)
    cases f <;> first | exact viaB rfl | exact viaT rfl
  refine peBy pe fun σ H Q ⟨S, Hf, F, r, S', rel, he, q⟩ => ?_
  unfold ev at he
  rw [Option.bind_eq_some_iff] at he
  obtain ⟨⟨vs, S1⟩, e1, he⟩ := he
  rw [Option.map_eq_some_iff] at he
  obtain ⟨z, e2, he⟩ := he
  obtain ⟨rfl, rfl⟩ := Prod.mk.inj he
  refine ⟨S, Hf, F, vs, S1, rel, e1, fun xs H1 Hf1 F1 g1 p1 => ?_⟩
  refine ⟨vs, Hf1, z, g1.rel.sub, g1.res, e2, fun v H2 nw => ?_⟩
  obtain ⟨Hf2, g2⟩ := nw.gives g1.rel g1.st
  exact q v H2 Hf2 F1 g2 fun hp => (p1 (by unfold CE.pure at hp; exact hp)).trans nw.sub
theorem plain_ix (i : CE) : PlainIx i.py := by intro o k; cases i <;> rfl
theorem s_idx (c : Ctx free D n N sc X) {a i : CE} {p : Pos} (ha : PE X a.py (tEv X.K D a)) (hi : PE X i.py (tEv X.K D i)) : PE X (CE.idx a i p).py (tEv X.K D (.idx a i p)) := by
  refine peBy (pe_ix (ix_val (by have := c.units; omega)) ha hi (plain_ix i)) fun σ H Q ⟨S, Hf, F, r, S', rel, he, q⟩ => ?_
  unfold ev at he
  rw [Option.bind_eq_some_iff] at he
  obtain ⟨⟨w, S1⟩, e1, he⟩ := he
  rw [gd_some] at he
  obtain ⟨l, he⟩ := he
  rw [Option.bind_eq_some_iff] at he
  obtain ⟨⟨t, S2⟩, e2, he⟩ := he
  rw [Option.map_eq_some_iff] at he
  obtain ⟨z, e3, he⟩ := he
  obtain ⟨rfl, rfl⟩ := Prod.mk.inj he
  refine two rel e1 l e2 fun x y H2 Hf2 F2 rel2 st2 rx ry _ p2 => ?_
  exact ⟨_, _, Hf2, z, rel2.sub, rx, ry, e3, fun v rv => q v H2 Hf2 F2 (.frz rel2 st2 rv (.inl rfl)) fun hp => p2 (by unfold CE.pure at hp; exact hp)⟩
theorem s_pth (c : Ctx free D n N sc X) {i : Nat} {x : Str} {px p : Pos} {k : CE} (hi : N[i]? = some x) (hv : visB sc x = true) (ok : okName x = true) (hk : PE X k.py (tEv X.K D k)) : PE X (CE.pth i x px k p).py (tEv X.K D (.pth i x px k p)) := by
  have h1 : PE X (.Name x px) (tVar i) := pe_var (i := i) (by rw [c.hN]; exact hi) (by rw [c.sc]; exact visB_ok hv) (okName_ok ok).1 (okName_ok ok).2.1
  refine peBy (pe_ix (IxR.or ix_list ix_tup) h1 hk (plain_ix k)) fun σ H Q ⟨S, Hf, F, r, S', rel, he, q⟩ => ?_
  unfold ev at he
  split at he
  · rename_i r0 e0
    obtain ⟨y, _, hy, _⟩ := rel.get (d := r0.1) (v := r0.2) e0
    rw [Option.bind_eq_some_iff] at he
    obtain ⟨⟨w, S1⟩, e1, he⟩ := he
    dsimp only at he
    split at he
    · rename_i d v e2
      rw [Option.bind_eq_some_iff] at he
      obtain ⟨u, e3, he⟩ := he
      refine ⟨y, hy, S, Hf, F, w, S1, rel, e1, fun z H1 Hf1 F1 g1 p1 => ?_⟩
      obtain ⟨Hf1', s1, rel1, st1, re1, rf1⟩ := g1.opd
      obtain ⟨y', G, hy', ow, sub⟩ := rel1.get e2
      rw [hy] at hy'
      cases hy'
      have fin : ∀ {b : V} {G' : List Addr} {d' : Nat}, Own X.K Hf1' H1 d' u b G' → Q b H1 := by
        intro b G' d' ow
        cases fl : u.flat with
        | true =>
          rw [fl] at he
          obtain ⟨rfl, rfl⟩ := Prod.mk.inj (Option.some.inj he)
          obtain ⟨rfl, ow0⟩ := ow.flat (d' := 0) fl
          have rep : Rep X.K Hf1' u b := by cases ow0 with | frz _ r => exact r
          exact q b H1 Hf1' F1 (.frz rel1 st1 rep (.inl rfl)) fun hp => p1 (by unfold CE.pure at hp; exact hp)
        | false =>
          rw [fl] at he
          have he : gd u.inner (some (((.bor, u) : Res), S1)) = some (r, S') := he
          rw [gd_some] at he
          obtain ⟨inn, he⟩ := he
          obtain ⟨rfl, rfl⟩ := Prod.mk.inj (Option.some.inj he)
          exact q b H1 Hf1' F1 ⟨rel1, st1, ow.repE rel1.sub (by rw [inn, Bool.or_true])⟩ fun hp => p1 (by unfold CE.pure at hp; exact hp)
      have frz : ∀ {b : V}, Rep X.K Hf1' u b → Q b H1 := fun rb => fin (.frz (d := 0) (.inl rfl) rb)
      obtain ⟨wm, wv⟩ := w
      dsimp only at re1
      cases v with
      | lst xs =>
        cases wv with
        | int m =>
          obtain rfl := re1.int_
          have e3 : getV.atI' xs m = some u := e3
          cases ow with
          | frz _ rp =>
            cases rp with
            | lst dd l =>
              obtain ⟨b, e5, e6⟩ := l.at e3
              exact .inl ⟨_, _, m, b, rfl, rfl, (rdL_mono rel1.sub dd).sq, e5, frz e6⟩
          | lst dd l =>
            unfold getV.atI' at e3
            cases hx : ixN xs.length m with
            | none => rw [hx] at e3; cases e3
            | some j =>
              rw [hx] at e3
              obtain ⟨b, G', e5, e6, _⟩ := l.get e3
              exact .inl ⟨_, _, m, b, rfl, rfl, .inl (.inl dd), by unfold atI; rw [l.length, hx]; exact e5, fin e6⟩
        | _ => cases e3
      | tup xs =>
        cases wv with
        | int m =>
          obtain rfl := re1.int_
          have e3 : getV.atI' xs m = some u := e3
          cases ow with
          | frz _ rp =>
            cases rp with
            | tup dd l =>
              obtain ⟨b, e5, e6⟩ := l.at e3
              exact .inr ⟨_, _, m, b, rfl, rfl, sqT_mono rel1.sub dd, e5, frz e6⟩
        | _ => cases e3
      | _ => cases e3
    · cases he
  · cases he
theorem s_slc {a : CE} {lo hi : CO} {sp p : Pos} (ha : PE X a.py (tEv X.K D a)) (hl : ∀ e, lo = .is e → PE X e.py (tEv X.K D e)) (hh : ∀ e, hi = .is e → PE X e.py (tEv X.K D e)) : PE X (CE.slc a lo hi sp p).py (tEv X.K D (.slc a lo hi sp p)) := by
  have part : ∀ (o : CO), (∀ e, o = .is e → PE X e.py (tEv X.K D e)) → PO X o.py (fun σ H Q => ∃ S Hf F i S', Rel X.K Hf F S σ H ∧ evi D o S = some (i, S') ∧ ∀ H' Hf' F', Rel X.K Hf' F' S' σ H' → Step Hf F H Hf' F' H' → (o.pure = true → HSub H H') → Q i H') := by
    intro o ho
    cases o with
    | no =>
      refine ⟨fun pins s σ H Q I h => po_none.run pins s σ H Q I ?_⟩
      obtain ⟨S, Hf, F, i, S', rel, he, q⟩ := h
      obtain ⟨rfl, rfl⟩ := Prod.mk.inj (Option.some.inj (show some (none, S) = some (i, S') from he))
      exact q H Hf F rel (Step.refl _ _ _) fun _ => HSub.refl _
    | is e =>
      refine ⟨fun pins s σ H Q I h => (po_some (ho e rfl)).run pins s σ H Q I ?_⟩
      obtain ⟨S, Hf, F, i, S', rel, he, q⟩ := h
      unfold evi at he
      rw [Option.bind_eq_some_iff] at he
      obtain ⟨⟨⟨m, v⟩, S1⟩, e1, he⟩ := he
      refine ⟨S, Hf, F, _, S1, rel, e1, fun x H1 Hf1 F1 g1 p1 => ?_⟩
      obtain ⟨Hf1', s1, rel1, st1, re1, rf1⟩ := g1.opd
      cases v with
      | int k =>
        obtain ⟨rfl, rfl⟩ := Prod.mk.inj (Option.some.inj he)
        obtain rfl := re1.int_
        exact ⟨k, rfl, q H1 Hf1' F1 rel1 st1 fun hp => p1 (by unfold CO.pure at hp; exact hp)⟩
      | _ => cases he
  refine peBy (pe_slice (p2 := sp) sl_val ha (part lo hl) (part hi hh)) fun σ H Q ⟨S, Hf, F, r, S', rel, he, q⟩ => ?_
  unfold ev at he
  rw [Option.bind_eq_some_iff] at he
  obtain ⟨⟨w, S1⟩, e1, he⟩ := he
  rw [gd_some] at he
  obtain ⟨l, he⟩ := he
  rw [Option.bind_eq_some_iff] at he
  obtain ⟨⟨t, S2⟩, e2, he⟩ := he
  rw [Option.bind_eq_some_iff] at he
  obtain ⟨⟨u, S3⟩, e3, he⟩ := he
  rw [Option.map_eq_some_iff] at he
  obtain ⟨z, e4, he⟩ := he
  obtain ⟨rfl, rfl⟩ := Prod.mk.inj he
  refine ⟨S, Hf, F, w, S1, rel, e1, fun x H1 Hf1 F1 g1 p1 => ?_⟩
  obtain ⟨Hf1', s1, rel1, st1, re1, rf1⟩ := g1.opd
  refine ⟨S1, Hf1', F1, t, S2, rel1, e2, fun H2 Hf2 F2 rel2 st2 p2 => ?_⟩
  refine ⟨S2, Hf2, F2, u, S3, rel2, e3, fun H3 Hf3 F3 rel3 st3 p3 => ?_⟩
  refine ⟨_, Hf3, z, rel3.sub, carry re1 rf1 l (fun hp => ?_) (st2.hf.trans st3.hf) rel3.sub, e4, fun v H4 nw => ?_⟩
  · rw [Bool.and_eq_true] at hp
    exact (p2 hp.1).trans (p3 hp.2)
  · obtain ⟨Hf4, g⟩ := nw.gives rel3 (st1.trans (st2.trans st3))
    refine q v H4 Hf4 F3 g fun hp => ?_
    unfold CE.pure at hp
    simp only [Bool.and_eq_true] at hp
    exact (p1 hp.1.1).trans ((p2 hp.1.2).trans ((p3 hp.2).trans nw.sub))
/-- x[m].pop(0) -/
theorem s_popAt (c : Ctx free D n N sc X) {i : Nat} {x : Str} {px pk pa p : Pos} {k j : CE} (hi : N[i]? = some x) (hv : visB sc x = true) (ok : okName x = true) (hl : (pa.endLine == p.line) = true) :
    PE X (CE.popAt i x px k pk j pa p).py (tEv X.K D (.popAt i x px k pk j pa p)) := by
  refine ⟨fun pins s σ H Q I h => ?_⟩
  obtain ⟨S, Hf, F, r, S', rel, he, q⟩ := h
  unfold ev at he
  split at he
  · rename_i d xs m k1 k2 k3 k4 hS
    rw [Option.bind_eq_some_iff] at he
    obtain ⟨jj, e1, he⟩ := he
    split at he
    · rename_i w ws e2
      rw [gd_some] at he
      obtain ⟨fl, he⟩ := he
      obtain ⟨rfl, rfl⟩ := Prod.mk.inj (Option.some.inj he)
      have h1 : PE X (.Name x px) (tVar i) := pe_var (i := i) (by rw [c.hN]; exact hi) (by rw [c.sc]; exact visB_ok hv) (okName_ok ok).1 (okName_ok ok).2.1
      have pe := pe_bm (cpos := p) (apos := pa) PySem.F.plainAttrs_list PySem.F.slot_list_pop PySem.F.type_list_pop (mt_popAt (X := X)) (pe_ix (pos := pk) ix_list h1 (pe_int (i := m) (j := k1) (pos := k2)) (fun _ _ => rfl)) (pa_cons (pe_int (i := 0) (j := k3) (pos := k4)) pa_nil rfl) rfl rfl hl rfl rfl
      refine pe.run pins s σ H Q I ?_
      obtain ⟨y, G, F0, hy, ow, rel0, nd, iff, off⟩ := rel.take hS
      cases ow with
      | frz hd _ => rcases hd with z | z <;> cases z
      | lst ha l =>
        rename_i a ys G0
        obtain ⟨b, G1, G2, G3, eb, eG, owb, put⟩ := l.split e2
        cases owb with
        | frz hd _ => rcases hd with z | z <;> cases z
        | lst hb lb =>
          rename_i ab zs Gc
          cases lb with
          | cons ow1 lt =>
            rename_i z1 zt Ga Gt
            obtain ⟨rfl, ow1'⟩ := ow1.flat (d' := 0) fl
            have rep : Rep X.K Hf w z1 := by cases ow1' with | frz _ r => exact r
            rw [List.nil_append] at eG
            subst eG
            have inG : ab ∈ a :: (G1 ++ ab :: Gt ++ G3) := by simp
            have offb : Hf ab = none := off ab inG
            have nd2 := nd
            simp only [List.nodup_append, List.nodup_cons, List.mem_append, List.mem_cons] at nd2
            have ab0 : ab ∉ F0 := fun z => by have := nd2.2.2 ab z ab (by simp); exact this rfl
            have aab : a ≠ ab := fun z => by
              have := nd2.2.1.1
              rw [z] at this
              exact this (by simp)
            have s1 : ab ∉ G1 := by grind
            have s3 : ab ∉ G3 := by grind
            have st : ab ∉ Gt := by grind
            let H' := upd H ab (.lst zt)
            have keep : ∀ c, c ≠ ab → ∀ o, H c = some o → H' c = some o := fun c n o e => by
              show upd H ab (.lst zt) c = some o
              rw [upd_ne n]; exact e
            have own' : Own X.K Hf H' (d + 2) (.lst (xs.set jj (.lst ws))) (.ref a) (a :: (G1 ++ ab :: Gt ++ G3)) := by
              have inner : Own X.K Hf H' (d + 1) (.lst ws) (.ref ab) (ab :: Gt) := .lst upd_same (lt.mono (HSub.refl _) fun c hc o e => keep c (fun z => st (z ▸ hc)) o e)
              have outer := put (H' := H') (fun c hc o e => keep c (fun z => by subst z; exact hc.elim s1 s3) o e) inner
              rw [show ys.set jj (.ref ab) = ys by
                apply List.ext_getElem?
                intro t
                rw [List.getElem?_set]
                split
                · rename_i e; subst e
                  split
                  · exact eb.symm
                  · rename_i hl; rw [List.getElem?_eq_none (by omega)]
                · rfl] at outer
              exact .lst (keep a aab _ ha) outer
            obtain ⟨F', relN, subN⟩ := (rel0.mut (p := ab) (o := .lst zt) ab0 offb).put (i := i) (by rw [List.length_set]; exact lt_of_get hS) own' nd off
            rw [List.set_set, set_same hy] at relN
            refine ⟨_, hy, a, ys, m, .ref ab, rfl, rfl, .inl (.inl ha), by unfold atI; rw [l.length, e1]; exact eb, .inl ⟨rfl, _, .inl (.inl hb)⟩, ab, _, 0, 0, z1, rfl, rfl, hb, by decide, by decide, by simp [seqIndex?], rfl, ?_⟩
            refine q z1 H' Hf F' (.frz relN ⟨HSub.refl _, fun c o e nF => keep c (fun z => nF ((iff c).mpr (.inr (z ▸ inG)))) o e, fun _ _ _ _ => rfl, fun c hc => .inl ((iff c).mpr (subN c hc))⟩ rep (.inl rfl)) fun hp => ?_
            unfold CE.pure at hp
            cases hp
    · cases he
  · cases he
end
end BV
/-! A def's call. -/
namespace BV
open PySem PySem.Spec PyProof.Rows L2
def CEs.len : CEs → Nat
  | .nil => 0
  | .cons _ es => es.len + 1
theorem CEs.py_len : ∀ es : CEs, es.py.length = es.len
  | .nil => rfl
  | .cons _ es => congrArg Nat.succ (CEs.py_len es)
theorem CKs.names_len : ∀ ks : CKs, ks.py.length = ks.names.length
  | .nil => rfl
  | .cons _ _ _ ks => congrArg Nat.succ (CKs.names_len ks)
section
variable {K : Frag} {Hf Hf' H H' : Hp} {F F' : List Addr} {S : Slots} {σ : L2.St}
theorem arrange_vals {xs zs dvs : List V} {us ws ds : List Value} (h1 : Vals xs us) (h2 : Vals zs ws) (h3 : Vals dvs ds) : ∀ {ar : List Src} {vs : List Value}, arrange us ws ds ar = some vs → ∃ ys, arrange xs zs dvs ar = some ys ∧ Vals ys vs
  | [], vs, e => by cases e; exact ⟨[], rfl, .nil⟩
  | s :: r, vs, e => by
    have pick : ∀ {l : List V} {m : List Value} {i : Nat}, Vals l m → (m[i]?.bind fun a => (arrange us ws ds r).map (a :: ·)) = some vs → ∃ ys, (l[i]?.bind fun a => (arrange xs zs dvs r).map (a :: ·)) = some ys ∧ Vals ys vs := by
      intro l m i hv e
      rw [Option.bind_eq_some_iff] at e
      obtain ⟨a, e1, e⟩ := e
      rw [Option.map_eq_some_iff] at e
      obtain ⟨vs', e2, rfl⟩ := e
      obtain ⟨ys', e3, r'⟩ := arrange_vals h1 h2 h3 e2
      cases q : l[i]? with
      | none => rw [Vals.none_of hv q] at e1; cases e1
      | some y =>
        obtain ⟨u, e4, ru⟩ := hv.get q
        rw [e4] at e1; cases e1
        exact ⟨y :: ys', by simp [e3], .cons ru r'⟩
    cases s with
    | pos i => exact pick h1 e
    | kw i => exact pick h2 e
    | dfl i => exact pick h3 e
theorem ArgsOk.get : ∀ {as : List Arg} {xs : List V} {i : Nat} {a : Arg} {x : V}, ArgsOk K Hf σ as xs → as[i]? = some a → xs[i]? = some x → ArgsOk K Hf σ [a] [x]
  | _, _, _, _, _, .nil, e, _ => by simp at e
  | _, _, 0, _, _, .val h _, e, e2 => by simp at e e2; subst e; subst e2; exact .val h .nil
  | _, _, 0, _, _, .byRef h _, e, e2 => by simp at e e2; subst e; subst e2; exact .byRef h .nil
  | _, _, i + 1, _, _, .val _ r, e, e2 => ArgsOk.get (i := i) r (by simpa using e) (by simpa using e2)
  | _, _, i + 1, _, _, .byRef _ r, e, e2 => ArgsOk.get (i := i) r (by simpa using e) (by simpa using e2)
theorem ArgsOk.put {a : Arg} {x : V} {as : List Arg} {xs : List V} (h : ArgsOk K Hf σ [a] [x]) (r : ArgsOk K Hf σ as xs) : ArgsOk K Hf σ (a :: as) (x :: xs) := by
  cases h with
  | val h _ => exact .val h r
  | byRef h _ => exact .byRef h r
theorem arrange_args {as bs ds : List Arg} {xs zs dvs : List V} (h1 : ArgsOk K Hf σ as xs) (h2 : ArgsOk K Hf σ bs zs) (h3 : ArgsOk K Hf σ ds dvs) : ∀ {ar : List Src} {as' : List Arg} {ys : List V}, arrange as bs ds ar = some as' → arrange xs zs dvs ar = some ys → ArgsOk K Hf σ as' ys
  | [], _, _, e, e2 => by cases e; cases e2; exact .nil
  | s :: r, as', ys, e, e2 => by
    have pick : ∀ {l : List Arg} {m : List V} {i : Nat}, ArgsOk K Hf σ l m → (l[i]?.bind fun a => (arrange as bs ds r).map (a :: ·)) = some as' → (m[i]?.bind fun a => (arrange xs zs dvs r).map (a :: ·)) = some ys → ArgsOk K Hf σ as' ys := by
      intro l m i hv e e2
      rw [Option.bind_eq_some_iff] at e e2
      obtain ⟨a, e1, e⟩ := e
      obtain ⟨y, e4, e2⟩ := e2
      rw [Option.map_eq_some_iff] at e e2
      obtain ⟨vs', e5, rfl⟩ := e
      obtain ⟨ys', e6, rfl⟩ := e2
      exact (hv.get e1 e4).put (arrange_args h1 h2 h3 e5 e6)
    cases s with
    | pos i => exact pick h1 e e2
    | kw i => exact pick h2 e e2
    | dfl i => exact pick h3 e e2
theorem arrange_vals_only {as bs ds : List Arg} (h1 : refsOf as = []) (h2 : refsOf bs = []) (h3 : refsOf ds = []) : ∀ {ar : List Src} {as' : List Arg}, arrange as bs ds ar = some as' → refsOf as' = []
  | [], _, e => by cases e; rfl
  | s :: r, as', e => by
    have mem : ∀ {l : List Arg} {i : Nat} {a : Arg}, refsOf l = [] → l[i]? = some a → ∃ v, a = .val v := by
      intro l
      induction l with
      | nil => intro i a _ e; simp at e
      | cons b l ih =>
        intro i a h e
        cases b with
        | byRef j => cases h
        | val v =>
          cases i with
          | zero => simp at e; exact ⟨v, e.symm⟩
          | succ i => exact ih (i := i) h (by simpa using e)
    have pick : ∀ {l : List Arg} {i : Nat}, refsOf l = [] → (l[i]?.bind fun a => (arrange as bs ds r).map (a :: ·)) = some as' → refsOf as' = [] := by
      intro l i hl e
      rw [Option.bind_eq_some_iff] at e
      obtain ⟨a, e1, e⟩ := e
      rw [Option.map_eq_some_iff] at e
      obtain ⟨vs', e5, rfl⟩ := e
      obtain ⟨v, rfl⟩ := mem hl e1
      show refsOf vs' = []
      exact arrange_vals_only h1 h2 h3 e5
    cases s with
    | pos i => exact pick h1 e
    | kw i => exact pick h2 e
    | dfl i => exact pick h3 e
theorem ArgsOk.ofRepL : ∀ {vs : List Val} {xs : List V}, RepL K Hf vs xs → ArgsOk K Hf σ (vs.map .val) xs
  | _, _, .nil => .nil
  | _, _, .cons h r => .val h (ArgsOk.ofRepL r)
theorem argRs_set {i : Nat} : ∀ {as : List Arg}, i ∉ refsOf as → argRs (S.set i none) as = argRs S as
  | [], _ => rfl
  | .val v :: r, h => by
    unfold argRs
    rw [argRs_set (as := r) h]
    rfl
  | .byRef j :: r, h => by
    have h' : i ≠ j ∧ i ∉ refsOf r := by simpa [refsOf] using h
    unfold argRs
    rw [argRs_set (as := r) h'.2]
    have : argR (S.set i none) (.byRef j) = argR S (.byRef j) := by
      show (match (S.set i none)[j]? with
        | some (some r) => some r
        | _ => none) = match S[j]? with
        | some (some r) => some r
        | _ => none
      rw [List.getElem?_set_ne h'.1]
    rw [this]
theorem argR_ref {i : Nat} {x : R} (h : argR S (.byRef i) = some x) : S[i]? = some (some x) := by
  have h : (match S[i]? with
    | some (some r) => some r
    | _ => none) = some x := h
  split at h
  · rename_i e; cases h; exact e
  · cases h
theorem wipeS_set {i : Nat} : ∀ {l : List Nat}, (wipeS S l).set i none = wipeS (S.set i none) l
  | [] => rfl
  | j :: l => by
    unfold wipeS
    rw [← wipeS_set (i := i) (l := l)]
    by_cases h : j = i
    · subst h; rfl
    · rw [List.set_comm _ _ h]
/-- the slots that are handed on are taken out -/
theorem callRel : ∀ {as : List Arg} {ys : List V} {rs : List R} {S : Slots} {F : List Addr}, Rel K Hf F S σ H → ArgsOk K Hf σ as ys → argRs S as = some rs → (refsOf as).Nodup →
    ∃ Fc Fr, Rel K Hf Fc (rs.map some) (ys.map some) H ∧ Rel K Hf Fr (wipeS S (refsOf as)) σ H ∧ (Fr ++ Fc).Nodup ∧ (∀ a, a ∈ F ↔ a ∈ Fr ∨ a ∈ Fc) ∧ (refsOf as = [] → Fc = [])
  | [], _, _, S, F, rel, .nil, e, _ => by
    cases e
    exact ⟨[], F, ⟨rel.sub, List.nodup_nil, fun a h => (by cases h), .nil⟩, rel, by simpa using rel.nd, fun a => by simp, fun _ => rfl⟩
  | .val v :: as, _, rs, S, F, rel, .val h r, e, nd => by
    unfold argRs at e
    rw [Option.bind_eq_some_iff] at e
    obtain ⟨x, e1, e⟩ := e
    cases e1
    rw [Option.map_eq_some_iff] at e
    obtain ⟨rs', e2, rfl⟩ := e
    obtain ⟨Fc, Fr, a1, a2, a3, a4, a5⟩ := callRel rel r e2 nd
    refine ⟨Fc, Fr, ⟨a1.sub, a1.nd, a1.off, ?_⟩, a2, a3, a4, a5⟩
    have := Plcs.cons (.is (.frz (H := H) (d := 0) (.inl rfl) h)) a1.plc
    simpa using this
  | .byRef i :: as, _, rs, S, F, rel, .byRef h r, e, nd => by
    unfold argRs at e
    rw [Option.bind_eq_some_iff] at e
    obtain ⟨x, e1, e⟩ := e
    rw [Option.map_eq_some_iff] at e
    obtain ⟨rs', e2, rfl⟩ := e
    have hS := argR_ref e1
    · have nd' : i ∉ refsOf as ∧ (refsOf as).Nodup := by simpa [refsOf] using nd
      obtain ⟨y, G, F0, hy, ow, rel0, nd0, iff, off⟩ := rel.take (d := x.1) (v := x.2) hS
      rw [h] at hy
      cases hy
      obtain ⟨Fc, Fr, a1, a2, a3, a4, a5⟩ := callRel rel0 r (by rw [argRs_set nd'.1]; exact e2) nd'.2
      have g0 : ∀ a ∈ G, a ∉ F0 := fun a ha hf => (List.nodup_append.mp nd0).2.2 a hf a ha rfl
      refine ⟨G ++ Fc, Fr, ⟨a1.sub, ?_, fun a ha => ?_, ?_⟩, ?_, ?_, fun a => ?_, fun z => by cases z⟩
      · have := a1.nd
        rw [List.nodup_append] at nd0 ⊢
        refine ⟨nd0.2.1, this, fun a ha b hb e => ?_⟩
        subst e
        exact g0 a ha ((a4 a).mpr (.inr hb))
      · rcases List.mem_append.mp ha with z | z
        · exact off a z
        · exact a1.off a z
      · have := Plcs.cons (.is ow) a1.plc
        simpa using this
      · show Rel K Hf Fr ((wipeS S (refsOf as)).set i none) σ H
        rw [wipeS_set]; exact a2
      · rw [List.nodup_append] at nd0 a3 ⊢
        refine ⟨a3.1, ?_, fun a ha b hb e => ?_⟩
        · rw [List.nodup_append]
          refine ⟨nd0.2.1, a3.2.1, fun a ha b hb e => ?_⟩
          subst e
          exact g0 a ha ((a4 a).mpr (.inr hb))
        · subst e
          rcases List.mem_append.mp hb with z | z
          · exact g0 a z ((a4 a).mpr (.inl ha))
          · exact a3.2.2 a ha a z rfl
      · rw [iff a, a4 a, List.mem_append]
        grind
/-- the others stand as they stood -/
theorem Rel.frame {Fr Fc F2 : List Addr} (r : Rel K Hf Fr S σ H) (st : Step Hf Fc H Hf' F2 H') (dis : ∀ a ∈ Fr, a ∉ Fc) (s : HSub Hf' H') : Rel K Hf' Fr S σ H' ∧ ∀ a ∈ Fr, a ∉ F2 := by
  refine ⟨⟨s, r.nd, fun a ha => ?_, r.plc.mono st.hf fun a ha o e => st.fr a o e (dis a ha)⟩, fun a ha h => ?_⟩
  · obtain ⟨o, e⟩ := r.dom a ha
    rw [st.new a o e (dis a ha)]; exact r.off a ha
  · rcases st.own a h with z | z
    · exact dis a ha z
    · obtain ⟨o, e⟩ := r.dom a ha
      rw [e] at z; cases z
theorem Rel.uncons {p : Option R} {y : Option V} {P : Slots} {ys : L2.St} (r : Rel K Hf F (p :: P) (y :: ys) H) : ∃ F1 F2, F = F1 ++ F2 ∧ Plc K Hf H p y F1 ∧ Rel K Hf F2 P ys H := by
  obtain ⟨a, b, c, d⟩ := r
  cases d with
  | cons h t =>
    rename_i F1 F2
    exact ⟨F1, F2, rfl, h, a, (List.nodup_append.mp b).2.1, fun x hx => c x (List.mem_append_right _ hx), t⟩
/-- what was handed on comes back -/
theorem backRel : ∀ {as : List Arg} {ys : List V} {fin S S' : Slots} {Fr F2 : List Addr}, Rel K Hf Fr S σ H → Rel K Hf F2 fin (ys.map some) H → (Fr ++ F2).Nodup → ArgsOk K Hf' σ as ys → (∀ i ∈ refsOf as, i < S.length) → backS S as fin = some S' →
    ∃ F3, Rel K Hf F3 S' σ H ∧ ∀ a ∈ F3, a ∈ Fr ∨ a ∈ F2
  | [], _, _, S, S', Fr, F2, rel, _, _, _, _, e => by
    cases e
    exact ⟨Fr, rel, fun a h => .inl h⟩
  | .val v :: as, _, fin, S, S', Fr, F2, rel, rf, nd, .val _ r, hl, e => by
    unfold backS at e
    cases fin with
    | nil => have := rf.len; simp at this
    | cons p fin =>
      obtain ⟨G1, G2, rfl, _, rf'⟩ := Rel.uncons (by simpa using rf)
      obtain ⟨F3, a1, a2⟩ := backRel rel rf' (by simp only [List.nodup_append, List.mem_append] at nd ⊢; grind) r hl (by simpa using e)
      exact ⟨F3, a1, fun a h => (a2 a h).imp id fun z => List.mem_append_right _ z⟩
  | .byRef i :: as, _, fin, S, S', Fr, F2, rel, rf, nd, .byRef hy r, hl, e => by
    unfold backS at e
    cases fin with
    | nil => have := rf.len; simp at this
    | cons p fin =>
      obtain ⟨G1, G2, rfl, hp, rf'⟩ := Rel.uncons (by simpa using rf)
      split at e
      · rename_i x0 ex
        have : p = some x0 := by simpa using ex
        subst this
        cases hp with
        | is ow =>
          have n1 : (Fr ++ G1).Nodup := by simp only [List.nodup_append, List.mem_append] at nd ⊢; grind
          obtain ⟨F3, b1, b2⟩ := rel.put (i := i) (hl i (by simp [refsOf])) ow n1 (fun a ha => rf.off a (List.mem_append_left _ ha))
          rw [set_same hy] at b1
          have n2 : (F3 ++ G2).Nodup := by
            have k1 := b1.nd
            rw [List.nodup_append]
            refine ⟨k1, rf'.nd, fun a ha b hb e => ?_⟩
            subst e
            simp only [List.nodup_append, List.mem_append] at nd
            rcases b2 a ha with z | z <;> grind
          obtain ⟨F4, c1, c2⟩ := backRel b1 rf' n2 r (fun j hj => by rw [List.length_set]; exact hl j (by simp [refsOf, hj])) (by simpa using e)
          refine ⟨F4, c1, fun a h => ?_⟩
          rcases c2 a h with z | z
          · exact (b2 a z).imp id fun z => List.mem_append_left _ z
          · exact .inr (List.mem_append_right _ z)
      · cases e
end
section
variable {free : List Str} {D : Den} {n : Nat} {N : List Str} {sc : Scope} {X : Cx}
theorem eva_pure : ∀ {es : CEs} {S S' : Slots} {as : List Arg}, es.pure = true → eva D es S = some (as, S') → refsOf as = []
  | .nil, _, _, _, _, e => by unfold eva at e; cases e; rfl
  | .cons e es, S, S', as, hp, h => by
    have hp : (e.pure && es.pure) = true := hp
    rw [Bool.and_eq_true] at hp
    have h' : ((ev D e S).bind fun q => match q.1.1 with
      | .own _ => (eva D es q.2).map fun t => (Arg.val q.1.2 :: t.1, t.2)
      | .bor => none) = some (as, S') := by
      cases e <;> first | exact h | cases hp.1
    rw [Option.bind_eq_some_iff] at h'
    obtain ⟨⟨⟨m, v⟩, S1⟩, e1, h'⟩ := h'
    cases m with
    | bor => cases h'
    | own d =>
      simp only [Option.map_eq_some_iff] at h'
      obtain ⟨⟨vs', S2⟩, e2, h'⟩ := h'
      obtain ⟨rfl, rfl⟩ := Prod.mk.inj h'
      exact (eva_pure hp.2 e2 : refsOf vs' = [])
theorem evk_refs : ∀ {es : CKs} {S S' : Slots} {as : List Arg}, evk D es S = some (as, S') → refsOf as = []
  | .nil, _, _, _, e => by unfold evk at e; cases e; rfl
  | .cons x e p es, S, S', as, h => by
    unfold evk at h
    rw [Option.bind_eq_some_iff] at h
    obtain ⟨⟨⟨m, v⟩, S1⟩, e1, h⟩ := h
    cases m with
    | bor => cases h
    | own d =>
      simp only [Option.map_eq_some_iff] at h
      obtain ⟨⟨vs', S2⟩, e2, h⟩ := h
      obtain ⟨rfl, rfl⟩ := Prod.mk.inj h
      exact (evk_refs e2 : refsOf vs' = [])
theorem evk_len : ∀ {ks : CKs} {S S' : Slots} {bs : List Arg}, evk D ks S = some (bs, S') → bs.length = ks.names.length
  | .nil, _, _, _, e => by unfold evk at e; cases e; rfl
  | .cons x e p es, S, S', as, h => by
    unfold evk at h
    rw [Option.bind_eq_some_iff] at h
    obtain ⟨⟨⟨m, v⟩, S1⟩, e1, h⟩ := h
    cases m with
    | bor => cases h
    | own d =>
      simp only [Option.map_eq_some_iff] at h
      obtain ⟨⟨vs', S2⟩, e2, h⟩ := h
      obtain ⟨rfl, rfl⟩ := Prod.mk.inj h
      exact congrArg Nat.succ (evk_len e2)
theorem eva_len : ∀ {es : CEs} {S S' : Slots} {as : List Arg}, eva D es S = some (as, S') → as.length = es.len
  | .nil, _, _, _, e => by unfold eva at e; cases e; rfl
  | .cons e es, S, S', as, h => by
    by_cases hr : ∃ i x p, e = .ref i x p
    · obtain ⟨i, x, p, rfl⟩ := hr
      unfold eva at h
      split at h
      · rw [Option.map_eq_some_iff] at h
        obtain ⟨⟨vs', S2⟩, e2, h⟩ := h
        obtain ⟨rfl, rfl⟩ := Prod.mk.inj h
        exact congrArg Nat.succ (eva_len e2)
      · cases h
    · have h' : ((ev D e S).bind fun q => match q.1.1 with
        | .own _ => (eva D es q.2).map fun t => (Arg.val q.1.2 :: t.1, t.2)
        | .bor => none) = some (as, S') := by
        cases e <;> first | exact h | exact absurd ⟨_, _, _, rfl⟩ hr
      rw [Option.bind_eq_some_iff] at h'
      obtain ⟨⟨⟨m, v⟩, S1⟩, e1, h'⟩ := h'
      cases m with
      | bor => cases h'
      | own d =>
        simp only [Option.map_eq_some_iff] at h'
        obtain ⟨⟨vs', S2⟩, e2, h'⟩ := h'
        obtain ⟨rfl, rfl⟩ := Prod.mk.inj h'
        exact congrArg Nat.succ (eva_len e2)
theorem ArgsOk.length {K : Frag} {Hf : Hp} {σ : L2.St} : ∀ {as : List Arg} {xs : List V}, ArgsOk K Hf σ as xs → xs.length = as.length
  | _, _, .nil => rfl
  | _, _, .val _ r => congrArg Nat.succ (ArgsOk.length r)
  | _, _, .byRef _ r => congrArg Nat.succ (ArgsOk.length r)
theorem refs_vals : ∀ (vs : List Val), refsOf (vs.map Arg.val) = []
  | [] => rfl
  | _ :: vs => refs_vals vs
theorem s_call (c : Ctx free D n N sc X) {ci : Nat} {x : Str} {np p : Pos} {es : CEs} {ks : CKs} {sh : CallSh} (hsh : D.calls[ci]? = some sh) (hx : sh.x = x) (hn : es.len = sh.n) (hk : ks.names = sh.ks) (g : glB sc x = true) (ok : okName x = true)
    (ha : PA X es.py (tEva X.K D es)) (hkw : PK X ks.py (tEvk X.K D ks)) : PE X (CE.call ci x np es ks p).py (tEv X.K D (.call ci x np es ks p)) := by
  refine ⟨fun pins s σ H Q I h => ?_⟩
  obtain ⟨S, Hf, F, r, S', rel, he, q⟩ := h
  unfold ev at he
  rw [hsh] at he
  simp only [Option.bind_some] at he
  rw [Option.bind_eq_some_iff] at he
  obtain ⟨⟨as, S1⟩, e1, he⟩ := he
  rw [Option.bind_eq_some_iff] at he
  obtain ⟨⟨bs, S2⟩, e2, he⟩ := he
  rw [Option.bind_eq_some_iff] at he
  obtain ⟨as', e3, he⟩ := he
  rw [Option.bind_eq_some_iff] at he
  obtain ⟨rs, e4, he⟩ := he
  rw [gd_some] at he
  obtain ⟨nd, he⟩ := he
  have nd := of_decide_eq_true nd
  rw [Option.bind_eq_some_iff] at he
  obtain ⟨⟨w, fin⟩, e5, he⟩ := he
  rw [Option.map_eq_some_iff] at he
  obtain ⟨S3, e6, he⟩ := he
  obtain ⟨rfl, rfl⟩ := Prod.mk.inj he
  obtain ⟨fa, fd, ps, ds, dvs, hm, hkp, G, rd, rdv, hb⟩ := (c.cal ci sh hsh).ex
  rw [hx] at hm
  -- behind the arguments
  have core : ∀ (s2 : Shared) (us ws : List Value) (xs zs : List V) (H2 Hf2 : Hp) (F2 : List Addr), Inv X pins σ H2 s2 → Vals xs us → Vals zs ws → us.length = sh.n → ws.length = sh.ks.length → Rel X.K Hf2 F2 S2 σ H2 → Step Hf F H Hf2 F2 H2 →
      ArgsOk X.K Hf2 σ as xs → ArgsOk X.K Hf2 σ bs zs → ((es.pure && ks.pure) = true → HSub H H2) → wpAny (model X.prog X.w) X.A (call (.ref fa) us (sh.ks.zip ws)) (EP X pins σ Q) X.xe s2 := by
    intro s2 us ws xs zs H2 Hf2 F2 I2 r1 r2 l1 l2 rel2 st2 o1 o2 p2
    obtain ⟨vs, ev', bt⟩ := hb s2 us ws I2.kIn l1 l2
    obtain ⟨ys, ey, ry⟩ := arrange_vals r1 r2 rd ev'
    have o3 : ArgsOk X.K Hf2 σ (sh.dv.map .val) dvs := .ofRepL (rdv.mono fun a o e => by cases e)
    have oy := arrange_args o1 o2 o3 e3 ey
    obtain ⟨Fc, Fr, a1, a2, a3, a4, a5⟩ := callRel rel2 oy e4 nd
    refine G.call (E := fun _ _ _ => False) (args := ⟨us, sh.ks.zip ws⟩) c.gu c.room I2 bt ry ⟨Hf2, Fc, rs, w, fin, a1, e5, fun y H3 Hf3 F3 gv => ?_⟩
    obtain ⟨rel3, st3, Gr, ow, nd3, off3, fr3⟩ := gv
    have dis : ∀ a ∈ Fr, a ∉ Fc := fun a ha hf => (List.nodup_append.mp a3).2.2 a ha a hf rfl
    obtain ⟨relR, disR⟩ := a2.frame st3 dis rel3.sub
    have n4 : (Fr ++ F3).Nodup := by
      rw [List.nodup_append]
      exact ⟨relR.nd, rel3.nd, fun a ha b hb e => disR a ha (e ▸ hb)⟩
    have lens : ∀ i ∈ refsOf as', i < (wipeS S2 (refsOf as')).length := by
      intro i hi
      have lw : ∀ l : List Nat, (wipeS S2 l).length = S2.length := by
        intro l
        induction l with
        | nil => rfl
        | cons a b ih => unfold wipeS; rw [List.length_set, ih]
      rw [lw]
      have mem : ∀ {l : List Arg} {rs : List R}, argRs S2 l = some rs → i ∈ refsOf l → i < S2.length := by
        intro l
        induction l with
        | nil => intro rs _ h; cases h
        | cons a l ih =>
          intro rs e h
          unfold argRs at e
          rw [Option.bind_eq_some_iff] at e
          obtain ⟨x, e7, e⟩ := e
          rw [Option.map_eq_some_iff] at e
          obtain ⟨rs', e8, _⟩ := e
          cases a with
          | val v => exact ih e8 h
          | byRef j =>
            rcases List.mem_cons.mp h with z | z
            · subst z
              exact lt_of_get (argR_ref e7)
            · exact ih e8 z
      exact mem e4 hi
    obtain ⟨F4, b1, b2⟩ := backRel relR rel3 n4 oy lens e6
    have grF : ∀ a ∈ Gr, a ∉ Fr := fun a ha hf => by
      rcases fr3 a ha with z | z
      · exact dis a hf z
      · obtain ⟨o, e⟩ := a2.dom a hf
        rw [e] at z; cases z
    refine q y H3 Hf3 F4 ⟨b1, st2.trans ⟨st3.hf, fun a o e nF => st3.fr a o e fun z => nF ((a4 a).mpr (.inr z)), fun a o e nF => st3.new a o e fun z => nF ((a4 a).mpr (.inr z)), fun a ha => ?_⟩, Gr, ow, ?_, off3, fun a ha => ?_⟩ fun hp => ?_
    · rcases b2 a ha with z | z
      · exact .inl ((a4 a).mpr (.inl z))
      · exact (st3.own a z).imp (fun z => (a4 a).mpr (.inr z)) id
    · rw [List.nodup_append] at nd3 ⊢
      refine ⟨b1.nd, nd3.2.1, fun a ha b hb e => ?_⟩
      subst e
      rcases b2 a ha with z | z
      · exact grF a hb z
      · exact nd3.2.2 a z a hb rfl
    · rcases fr3 a ha with z | z
      · exact st2.own a ((a4 a).mpr (.inr z))
      · exact st2.fresh z
    · unfold CE.pure at hp
      have hp' := hp
      rw [Bool.and_eq_true] at hp'
      have : Fc = [] := a5 (arrange_vals_only (eva_pure hp'.1 e1) (evk_refs e2) (refs_vals _) e3)
      subst this
      exact (p2 hp).trans fun a o e => st3.fr a o e (by simp)
  obtain ⟨ka1, ka2, ka3⟩ := kw_all ks p X.env
  rw [hk] at ka3
  show wpAny (model X.prog X.w) X.A (eval (.Call (.Name x np) es.py ks.py p) X.env) (EP X pins σ Q) X.xe s
  refine wpAny_Call_Name_kw (ld_glob I (c.gl g) hm ?_ (okName_ok ok).1)
  -- lengths of what comes
  have kwRun : ∀ (s1 : Shared) (H1 Hf1 : Hp) (F1 : List Addr) (us : List Value) (xs : List V), Inv X pins σ H1 s1 → Vals xs us → us.length = sh.n → Rel X.K Hf1 F1 S1 σ H1 → Step Hf F H Hf1 F1 H1 → ArgsOk X.K Hf1 σ as xs → (es.pure = true → HSub H H1) →
      wpAny (model X.prog X.w) X.A (evalAll ((backToKw p (keywordEach ks.py X.env)).map (·.2))) (fun ws s2 => X.K.In s2.heap ∧ wpAny (model X.prog X.w) X.A (call (.ref fa) us (((backToKw p (keywordEach ks.py X.env)).filterMap (·.1)).zip ws)) (EP X pins σ Q) X.xe s2) X.xe s1 := by
    intro s1 H1 Hf1 F1 us xs I1 r1 l1 rel1 st1 o1 p1
    refine thn (hkw.run p pins s1 σ H1 _ I1 ⟨S1, Hf1, F1, bs, S2, rel1, e2, fun zs H2 Hf2 F2 g2 p2 => (⟨Hf2, F2, g2, p2⟩ : ∃ Hf2 F2, GivesA X.K Hf1 F1 H1 S2 σ bs zs Hf2 F2 H2 ∧ (ks.pure = true → HSub H1 H2))⟩) ?_
    rintro ws s2 ⟨zs, H2, I2, r2, Hf2, F2, g2, p2⟩
    refine ⟨I2.kIn, ?_⟩
    rw [ka3]
    have lw : ws.length = sh.ks.length := by rw [← r2.length, g2.res.length, evk_len e2, hk]
    refine core s2 us ws xs zs H2 Hf2 F2 I2 r1 r2 l1 lw g2.rel (st1.trans g2.st) (o1.mono g2.st.hf) g2.res fun hp => ?_
    rw [Bool.and_eq_true] at hp
    exact (p1 hp.1).trans (p2 hp.2)
  have posRun : wpAny (model X.prog X.w) X.A (spliced (backTo p (starEach es.py X.env))) (fun us s1 => ∃ xs H1 Hf1 F1, Inv X pins σ H1 s1 ∧ Vals xs us ∧ us.length = sh.n ∧ Rel X.K Hf1 F1 S1 σ H1 ∧ Step Hf F H Hf1 F1 H1 ∧ ArgsOk X.K Hf1 σ as xs ∧ (es.pure = true → HSub H H1)) X.xe s := by
    refine thn (ha.run p pins s σ H _ I ⟨S, Hf, F, as, S1, rel, e1, fun xs H1 Hf1 F1 g1 p1 => (⟨Hf1, F1, g1, p1⟩ : ∃ Hf1 F1, GivesA X.K Hf F H S1 σ as xs Hf1 F1 H1 ∧ (es.pure = true → HSub H H1))⟩) ?_
    rintro us s1 ⟨xs, H1, I1, r1, Hf1, F1, g1, p1⟩
    exact ⟨xs, H1, Hf1, F1, I1, r1, by rw [← r1.length, g1.res.length, eva_len e1, hn], g1.rel, g1.st, g1.res, p1⟩
  cases es with
  | nil =>
    have e1' : some (([] : List Arg), S) = some (as, S1) := by have := e1; unfold eva at this; exact this
    obtain ⟨rfl, rfl⟩ := Prod.mk.inj (Option.some.inj e1')
    have hn0 : ([] : List Value).length = sh.n := hn
    have kw := kwRun s H Hf F [] [] I .nil hn0 rel (Step.refl _ _ _) .nil (fun _ => HSub.refl _)
    cases ks with
    | nil =>
      have e2' : some (([] : List Arg), S) = some (bs, S2) := by have := e2; unfold evk at this; exact this
      obtain ⟨rfl, rfl⟩ := Prod.mk.inj (Option.some.inj e2')
      have hk0 : sh.ks = [] := hk.symm
      have := core s [] [] [] [] H Hf F I .nil .nil hn0 (by rw [hk0]; rfl) rel (Step.refl _ _ _) .nil .nil (fun _ => HSub.refl _)
      rw [hk0] at this
      exact PySem.W.callWith_K0 (first := []) I.kIn hkp this
    | cons y e qq ks =>
      exact PySem.W.callWith_KW0 (first := []) I.ok.mod.kin hkp ka1 kw ka2
  | cons e es =>
    have kwAfter := thn posRun (Q' := fun us s1 => wpAny (model X.prog X.w) X.A (evalAll ((backToKw p (keywordEach ks.py X.env)).map (·.2))) (fun ws s2 => X.K.In s2.heap ∧ wpAny (model X.prog X.w) X.A (call (.ref fa) us (((backToKw p (keywordEach ks.py X.env)).filterMap (·.1)).zip ws)) (EP X pins σ Q) X.xe s2) X.xe s1) (by
      rintro us s1 ⟨xs, H1, Hf1, F1, I1, r1, l1, rel1, st1, o1, p1⟩
      exact kwRun s1 H1 Hf1 F1 us xs I1 r1 l1 rel1 st1 o1 p1)
    cases ks with
    | nil =>
      have e2' : some (([] : List Arg), S1) = some (bs, S2) := by have := e2; unfold evk at this; exact this
      obtain ⟨rfl, rfl⟩ := Prod.mk.inj (Option.some.inj e2')
      have hk0 : sh.ks = [] := hk.symm
      refine PySem.W.callWith_K (first := []) (h₀ := X.base) I.ok.mod.kin hkp (thn posRun ?_) (star_cons e _ _) (no_star es p _)
      rintro us s1 ⟨xs, H1, Hf1, F1, I1, r1, l1, rel1, st1, o1, p1⟩
      have := core s1 us [] xs [] H1 Hf1 F1 I1 r1 .nil l1 (by rw [hk0]; rfl) rel1 st1 o1 .nil (fun hp => by rw [Bool.and_eq_true] at hp; exact p1 hp.1)
      rw [hk0] at this
      exact ⟨I1.kIn, this⟩
    | cons y e' qq ks =>
      refine PySem.W.callWith_KW (first := []) (h₀ := X.base) I.ok.mod.kin hkp ka1 kwAfter ?_ (star_cons e _ _)
      rw [ka2, Bool.or_false]
      exact no_star (.cons e es) p _
end
end BV
/-! enumerate over tuples and texts. -/
namespace BV
open PySem PySem.Spec PyProof.Rows L2
/-- the tuple at a, each item in a new pair -/
def IteT (K : Frag) (a : Addr) : It :=
  ⟨fun i H => ∃ (xs : List V) (x : V), SqT K H a xs ∧ xs[i]? = some x, fun i H v H' => ∃ T x, v = .ref T ∧ H T = none ∧ H' = upd H T (.tup [.int (i : Nat), x]) ∧ ∀ xs, SqT K H a xs → xs[i]? = some x, fun i H => ∃ xs : List V, SqT K H a xs ∧ xs.length = i⟩
/-- the signs of a text, each in a new pair -/
def IteS (x : Str) : It :=
  ⟨fun i H => i < x.cps.size, fun i H v H' => ∃ T c, v = .ref T ∧ H T = none ∧ H' = upd H T (.tup [.int (i : Nat), .str ⟨#[c]⟩]) ∧ x.cps[i]? = some c, fun i H => x.cps.size = i⟩
/-- one turn of enumerate over any iterator -/
theorem enum_turn {X : Cx} {i n : Nat} {pins : List (Addr × Obj)} {s : Shared} {σ : L2.St} {H : Hp} {E : Value → Shared → Prop} {e it : Addr} {fp : List Addr} {P : Nat → Value → Prop} {St : Nat → Heap → Prop} {elts : List Expr} {kk : Nat} {tpos : Pos} {old : Value}
    {Qf : V → Hp → Shared → Prop} (D : Draws X.prog X.w X.A.in1 it fp n P St) (I : Inv X pins σ H s) (hf : ∀ b ∈ [e, it], FpOk X pins H b) (he : IsEnum s.heap e it ((i : Nat) : Int) old) (hst : St i s.heap) (hi : i < n) (hne : e ≠ it) (hef : e ∉ fp)
    (go : ∀ (u : Value) (h' : Heap) (tk : Nat) (v : V), P i u → RelV v u → (∃ old, IsEnum h' e it ((i + 1 : Nat) : Int) old) → St (i + 1) h' →
      Inv X pins σ (upd H s.heap.objs.size (.tup [.int (i : Nat), v])) { s with heap := h', toks := tk } → H s.heap.objs.size = none → (∀ b ∈ [e, it], upd H s.heap.objs.size (.tup [.int (i : Nat), v]) b = none) → Qf (.ref s.heap.objs.size) (upd H s.heap.objs.size (.tup [.int (i : Nat), v])) { s with heap := h', toks := tk })
    (val : ∀ u, P i u → ∃ v, RelV v u) :
    wpAny (model X.prog X.w) X.A (pyNext (.ref e)) (fun r s1 => ∃ u, r = some u ∧
      wpAny (model X.prog X.w) X.A (letOwnedTupleGo (.Tuple elts kk tpos) (.ref e) u) (fun _ s2 => ∃ x H', RelV x u ∧ Qf x H' s2) E s1) E s := by
  have hel : e < s.heap.objs.size := Heap.lt_size he
  obtain ⟨oi, hoi⟩ := D.live _ _ hst
  have hil : it < s.heap.objs.size := Heap.lt_size hoi
  refine wpAny_pyNext_enum_itemD D he hst hi hne hef fun u h' tk hP ho hst' hT hsz hk => ?_
  refine ⟨_, rfl, wpAny_letOwnedTupleGo_enum (s := { s with heap := h', toks := tk + 1 }) ho fun h'' he' sb => ?_⟩
  obtain ⟨v, rv⟩ := val u hP
  have hT2 : h''.get? s.heap.objs.size = some { cls := .type "tuple", data := .seq #[.int i tk, u] } := (sb.2 _ (Nat.ne_of_gt hel)).trans hT
  have new : ObjOk X.prog X.w (upd H s.heap.objs.size (.tup [.int (i : Nat), v])) h'' s.heap.objs.size (.tup [.int (i : Nat), v]) :=
    ⟨by show 2 ≤ sizeLine; decide, [.int i tk, u], .cons ⟨_, rfl⟩ (.cons rv .nil), ⟨_, hT2, rfl, _, rfl⟩⟩
  have I1 : Inv X pins σ (upd H s.heap.objs.size (.tup [.int (i : Nat), v])) { s with heap := h'', toks := tk + 1 } :=
    I.turnedNew (ch := [e, it]) (fun b ob hb q => (sb.2 b (fun z => hb (by simp [z]))).trans (hk b ob (fun z => hb (by simp [z])) (fun z => hb (by simp [z])) q)) hf (Nat.le_refl _) new
  refine ⟨.ref s.heap.objs.size, _, rfl, go u h'' (tk + 1) v hP rv ⟨u, ?_⟩ (D.frame _ _ _ hst' fun b hb o q => (sb.2 b fun z => hef (z ▸ hb)).trans q) I1 (I.hok.fresh (Nat.le_refl _)) fun b hb => ?_⟩
  · have e1 : ((i + 1 : Nat) : Int) = (i : Int) + 1 := by omega
    rw [e1]; exact he'
  · have hb' : b < s.heap.objs.size := by
      have e' : b = e ∨ b = it := by simpa using hb
      rcases e' with z | z
      · rw [z]; exact hel
      · rw [z]; exact hil
    rw [upd_ne (Nat.ne_of_lt hb')]
    exact (hf b hb).1
theorem turn_enumT {P : Program} {w : World} {K : Frag} {elts : List Expr} {kk : Nat} {tpos : Pos} (a e it : Addr) (hae : a ≠ e) (hai : a ≠ it) :
    Turn P w K (.Tuple elts kk tpos) (IteT K a) [e, it] e (fun i h => (∃ old, IsEnum h e it ((i : Nat) : Int) old) ∧ h.IsTupleIter it a i ∧ e ≠ it) where
  mem := by simp
  obj := fun i h st b hb => by
    obtain ⟨⟨old, he⟩, ⟨o, ho, hc, hd⟩, _⟩ := st
    have e' : b = e ∨ b = it := by simpa using hb
    rcases e' with z | z
    · rw [z]; exact ⟨_, he, fun v q => nomatch q⟩
    · rw [z]; exact ⟨o, ho, fun v q => by rw [hd] at q; cases q⟩
  keep := fun i h h' st k => let ⟨⟨old, he⟩, hi, hne⟩ := st; ⟨⟨old, k e (by simp) _ he⟩, hi.at fun o q => k it (by simp) o q, hne⟩
  item := by
    intro X hP hw hK hc i pins s σ H E I hf st hg
    subst hP hw hK
    obtain ⟨⟨old, he⟩, hit, hne⟩ := st
    obtain ⟨xs, x, hq, hx⟩ := hg
    obtain ⟨its, rv, p, hz⟩ := I.tuple hq
    obtain ⟨u, hu, ru⟩ := rv.get hx
    have hu' : its.toArray[i]? = some u := by simpa using hu
    have hlt : i < its.toArray.size := (Array.getElem?_eq_some_iff.mp hu').1
    have D := Draws.tuple (prog := X.prog) (w := X.w) (A := X.A.in1) (I.ok.hd hc) it a hai its.toArray
    refine wpAny_mono (enum_turn (elts := elts) (kk := kk) (tpos := tpos) (E := E) (Qf := fun v H' s2 => ∃ T, v = .ref T ∧ H T = none ∧ H' = upd H T (.tup [.int (i : Nat), x]) ∧ Inv X pins σ H' s2 ∧ (∃ old, IsEnum s2.heap e it ((i + 1 : Nat) : Int) old) ∧ s2.heap.IsTupleIter it a (i + 1) ∧ ∀ b ∈ [e, it], H' b = none)
      D I hf he ⟨hit, p⟩ hlt hne (by simp only [List.mem_cons, List.not_mem_nil, or_false, not_or]; exact ⟨hne, fun z => hae z.symm⟩) (fun u1 h' tk v hP1 rv1 he1 st1 I1 hn1 hb1 => ?_) (fun u1 hP1 => ?_)) (fun r s1 ⟨u1, e1, h1⟩ => ⟨u1, e1, thn h1 fun _ s2 ⟨x2, H2, r2, T, e2, e3, e4, I2, he2, st2, hb2⟩ => ?_⟩) (fun _ _ z => z)
    · rw [hu'] at hP1
      cases hP1
      obtain rfl := RelV.inj rv1 ru
      exact ⟨_, rfl, hn1, rfl, I1, he1, st1.1, hb1⟩
    · rw [hu'] at hP1
      cases hP1
      exact ⟨x, ru⟩
    · exact ⟨x2, H2, I2, r2, ⟨T, x, e2, e3, e4, fun ys hy => by rw [I.tuple_inj hy hq]; exact hx⟩, ⟨he2, st2, hne⟩, hb2⟩
  done := by
    intro X hP hw hK hc i pins s σ H E I hf st hg
    subst hP hw hK
    obtain ⟨⟨old, he⟩, hit, hne⟩ := st
    obtain ⟨xs, hq, hx⟩ := hg
    obtain ⟨its, rv, p, hz⟩ := I.tuple hq
    obtain ⟨f0, f1, f2, f3, f4, f5⟩ := hf it (by simp)
    have hl := rv.length
    have D := Draws.tuple (prog := X.prog) (w := X.w) (A := X.A.in1) (I.ok.hd hc) it a hai its.toArray
    have ei : i = its.toArray.size := by simp; omega
    subst ei
    exact wpAny_pyNext_enum_endD D he ⟨hit, p⟩ fun h' eb => ⟨rfl, I.turned (t' := s.toks) (fun b o hb q => eb b o hb q) f0 f1 f3 f4 f5⟩
  self := fun A i s Q E st h => let ⟨⟨_, he⟩, _⟩ := st; wpAny_pyIter_enum he h
theorem turn_enumS {P : Program} {w : World} {K : Frag} {elts : List Expr} {kk : Nat} {tpos : Pos} (x : Str) (t : Tok) (e it : Addr) :
    Turn P w K (.Tuple elts kk tpos) (IteS x) [e, it] e (fun i h => (∃ old, IsEnum h e it ((i : Nat) : Int) old) ∧ h.IsStrIter it (strIterType x) x t i ∧ e ≠ it) where
  mem := by simp
  obj := fun i h st b hb => by
    obtain ⟨⟨old, he⟩, ⟨o, ho, hc, hd⟩, _⟩ := st
    have e' : b = e ∨ b = it := by simpa using hb
    rcases e' with z | z
    · rw [z]; exact ⟨_, he, fun v q => nomatch q⟩
    · rw [z]; exact ⟨o, ho, fun v q => by rw [hd] at q; cases q⟩
  keep := fun i h h' st k => let ⟨⟨old, he⟩, ⟨o, ho, r⟩, hne⟩ := st; ⟨⟨old, k e (by simp) _ he⟩, ⟨o, k it (by simp) o ho, r⟩, hne⟩
  item := by
    intro X hP hw hK hc i pins s σ H E I hf st hg
    subst hP hw hK
    obtain ⟨⟨old, he⟩, hit, hne⟩ := st
    have D := Draws.text (prog := X.prog) (w := X.w) (A := X.A.in1) (I.ok.hd hc) it x t
    refine wpAny_mono (enum_turn (elts := elts) (kk := kk) (tpos := tpos) (E := E) (Qf := fun v H' s2 => ∃ T c, v = .ref T ∧ H T = none ∧ H' = upd H T (.tup [.int (i : Nat), .str ⟨#[c]⟩]) ∧ x.cps[i]? = some c ∧ Inv X pins σ H' s2 ∧ (∃ old, IsEnum s2.heap e it ((i + 1 : Nat) : Int) old) ∧ s2.heap.IsStrIter it (strIterType x) x t (i + 1) ∧ ∀ b ∈ [e, it], H' b = none)
      D I hf he hit hg hne (by simp only [List.mem_cons, List.not_mem_nil, or_false]; exact hne) (fun u1 h' tk v hP1 rv1 he1 st1 I1 hn1 hb1 => ?_) (fun u1 hP1 => ?_)) (fun r s1 ⟨u1, e1, h1⟩ => ⟨u1, e1, thn h1 fun _ s2 ⟨x2, H2, r2, T, c, e2, e3, e4, ec, I2, he2, st2, hb2⟩ => ?_⟩) (fun _ _ z => z)
    · obtain ⟨c, u, hcx, rfl⟩ := hP1
      obtain rfl := RelV.inj rv1 (show RelV (.str ⟨#[c]⟩) _ from ⟨u, rfl⟩)
      exact ⟨_, c, rfl, hn1, rfl, hcx, I1, he1, st1, hb1⟩
    · obtain ⟨c, u, hcx, rfl⟩ := hP1
      exact ⟨.str ⟨#[c]⟩, u, rfl⟩
    · exact ⟨x2, H2, I2, r2, ⟨T, c, e2, e3, e4, ec⟩, ⟨he2, st2, hne⟩, hb2⟩
  done := by
    intro X hP hw hK hc i pins s σ H E I hf st hg
    subst hP hw hK
    obtain ⟨⟨old, he⟩, hit, hne⟩ := st
    obtain ⟨f0, f1, f2, f3, f4, f5⟩ := hf it (by simp)
    have D := Draws.text (prog := X.prog) (w := X.w) (A := X.A.in1) (I.ok.hd hc) it x t
    have hg : x.cps.size = i := hg
    subst hg
    exact wpAny_pyNext_enum_endD D he hit fun h' eb => ⟨rfl, I.turned (t' := s.toks) (fun b o hb q => eb b o hb q) f0 f1 f3 f4 f5⟩
  self := fun A i s Q E st h => let ⟨⟨_, he⟩, _⟩ := st; wpAny_pyIter_enum he h
theorem meets_enumerate_newT (l : Addr) (items : Array Value) :
    Meets (Builtin.«enumerate.__new__» ⟨[.type "enumerate", .ref l], []⟩) (fun _ R s => s.heap.IsTuple l items ∧
      R (.ok (.ret (.ref (s.heap.push { cls := .type "tuple_iterator", data := .fields #[.ref l, .int 0 0] }).objs.size)))
        { s with heap := (s.heap.push { cls := .type "tuple_iterator", data := .fields #[.ref l, .int 0 0] }).push { cls := .type "enumerate", data := .fields #[.none, .bool false, .ref s.heap.objs.size, rawInt 0, .none, .none] } }) :=
  .of_wp fun prog w A R s h => by
    obtain ⟨hT, h⟩ := h
    have hsub := sub_enumerate
    wp_walk
    refine wpAny_stack_any fun st => wpAny_pure ?_
    split
    · rename_i c _ _ _ _ _
      cases (c == Value.type "enumerate")
      · wp_walk using wpAny_pyIter_tuple hT
        exact ⟨_, rfl, h⟩
      · wp_walk using wpAny_pyIter_tuple hT
        exact ⟨_, rfl, h⟩
    · wp_walk using wpAny_pyIter_tuple hT
      exact ⟨_, rfl, h⟩
theorem call_enumerate_tup {prog : Program} {w : World} {A : Around} {E : Value → Shared → Prop} {s : Shared} {l : Addr} {items : Array Value} {Q : Value → Shared → Prop} (hL : s.heap.IsTuple l items)
    (h : ∀ h', IsEnum h' (s.heap.objs.size + 1) s.heap.objs.size 0 .none → h'.IsTupleIter s.heap.objs.size l 0 → h'.objs.size = s.heap.objs.size + 2 →
      (∀ b o, s.heap.get? b = some o → h'.get? b = some o) → Q (.ref (s.heap.objs.size + 1)) { s with heap := h' }) :
    wpAny (model prog w) A (call (.type "enumerate") [.ref l]) Q E s := by
  refine callType_new F.called_enumerate (by decide) (F.typeCall_enumerate_1 _) (F.newCall_enumerate_1 _) (fun obj => F.args_object_init_2 obj _) F.entry_enumerate_new
    (meets_enumerate_newT l items) ⟨hL, ?_⟩
  have hz : (s.heap.push { cls := .type "tuple_iterator", data := .fields #[.ref l, .int 0 0] }).objs.size = s.heap.objs.size + 1 := Heap.size_push ..
  show _ ∧ _
  rw [hz]
  have he : IsEnum ((s.heap.push { cls := .type "tuple_iterator", data := .fields #[.ref l, .int 0 0] }).push
      { cls := .type "enumerate", data := .fields #[.none, .bool false, .ref s.heap.objs.size, rawInt 0, .none, .none] }) (s.heap.objs.size + 1) s.heap.objs.size 0 .none := by
    have := Heap.get?_push_size (s.heap.push { cls := .type "tuple_iterator", data := .fields #[.ref l, .int 0 0] })
      (o := { cls := .type "enumerate", data := .fields #[.none, .bool false, .ref s.heap.objs.size, rawInt 0, .none, .none] }) rfl
    rw [hz] at this; exact this
  refine ⟨⟨_, he, rfl⟩, h _ he ⟨_, Heap.get?_push_of_some _ (Heap.get?_push_size _ rfl), rfl, rfl⟩ (by rw [Heap.size_push, hz]) fun b o x => Heap.get?_push_of_some _ (Heap.get?_push_of_some _ x)⟩
/-- enumerate of a list, a tuple, a text -/
def iEnumA (K : Frag) (ta : TA) : TI := fun σ H R => ta σ H fun vs H1 => (∃ a xs, vs = [.ref a] ∧ SqL K H1 a xs ∧ R (Ite K a) H1) ∨ (∃ a xs, vs = [.ref a] ∧ SqT K H1 a xs ∧ R (IteT K a) H1) ∨ ∃ x, vs = [.str x] ∧ R (IteS x) H1
theorem pi_enumA {X : Cx} {e : Expr} {ta : TA} {p pos tpos : Pos} {elts : List Expr} {kk : Nat} (hg : Gl X "enumerate") (hm : X.mg "enumerate" = none) (ha : PA X [e] ta) (hs : starEach [e] X.env = [(false, eval e X.env)]) :
    PI X (.Tuple elts kk tpos) (.Call (.Name "enumerate" p) [e] [] pos) (iEnumA X.K ta) := by
  refine ⟨fun pins s σ H R I h => ?_⟩
  refine Call_ (ld_blt I hg hm boot_enumerate (PyProof.Rows.callWith_type1 (thn (ha.run pos pins s σ H _ I h) fun us s1 ⟨vs, H1, I1, r1, q1⟩ => ?_) hs rfl))
  have fresh2 : ∀ b ∈ [s1.heap.objs.size + 1, s1.heap.objs.size], FpOk X pins H1 b := fun b hb => by
    have e' : b = s1.heap.objs.size + 1 ∨ b = s1.heap.objs.size := by simpa using hb
    have hle : s1.heap.objs.size ≤ b := by
      rcases e' with z | z
      · rw [z]; exact Nat.le_add_right _ _
      · rw [z]; exact Nat.le_refl _
    exact I1.fpOk hle (I1.hok.fresh hle)
  rcases q1 with ⟨a, xs, ex, hq, q⟩ | ⟨a, xs, ex, hq, q⟩ | ⟨x, ex, q⟩
  · subst ex
    cases r1 with
    | cons r rr =>
      cases rr
      cases r
      obtain ⟨its, rv, p', hz⟩ := I1.list hq
      refine call_enumerate_list p'.isList fun h' he hit hsz hk => wpAny_pyIter_enum he ?_
      have I2 : Inv X pins σ H1 { s1 with heap := h' } := I1.kept (t' := s1.toks) hk
      exact ⟨s1.heap.objs.size + 1, [s1.heap.objs.size + 1, s1.heap.objs.size], _, _, H1, rfl, I2, turn_enum a (s1.heap.objs.size + 1) s1.heap.objs.size, ⟨⟨.none, he⟩, hit, Nat.succ_ne_self _⟩, fresh2, q⟩
  · subst ex
    cases r1 with
    | cons r rr =>
      cases rr
      cases r
      obtain ⟨its, rv, p', hz⟩ := I1.tuple hq
      obtain ⟨o1, ho1, _⟩ := id p'
      have hlt := Heap.lt_size ho1
      refine call_enumerate_tup (show s1.heap.IsTuple a its.toArray from p') fun h' he hit hsz hk => wpAny_pyIter_enum he ?_
      have I2 : Inv X pins σ H1 { s1 with heap := h' } := I1.kept (t' := s1.toks) hk
      exact ⟨s1.heap.objs.size + 1, [s1.heap.objs.size + 1, s1.heap.objs.size], _, _, H1, rfl, I2, turn_enumT a (s1.heap.objs.size + 1) s1.heap.objs.size (Nat.ne_of_lt (Nat.lt_succ_of_lt hlt)) (Nat.ne_of_lt hlt), ⟨⟨.none, he⟩, hit, Nat.succ_ne_self _⟩, fresh2, q⟩
  · subst ex
    cases r1 with
    | cons r rr =>
      cases rr
      obtain ⟨t, rfl⟩ := r
      refine call_enumerate_str fun h' he hit hsz hk => wpAny_pyIter_enum he ?_
      have I2 : Inv X pins σ H1 { s1 with heap := h' } := I1.kept (t' := s1.toks) hk
      exact ⟨s1.heap.objs.size + 1, [s1.heap.objs.size + 1, s1.heap.objs.size], _, _, H1, rfl, I2, turn_enumS x t (s1.heap.objs.size + 1) s1.heap.objs.size, ⟨⟨.none, he⟩, hit, Nat.succ_ne_self _⟩, fresh2, q⟩
end BV
/-! What is walked, targets, comprehensions. -/
namespace BV
open PySem PySem.Spec PyProof.Rows L2
/-- the i-th thing comes: it stands, or is a new pair -/
def YItem (K : Frag) (Hf : Hp) (vs : List Val) : Nat → Hp → V → Hp → Prop := fun i H x H' => ∃ v, vs[i]? = some v ∧
  ((H' = H ∧ Rep K Hf v x) ∨ ∃ T a b y z, v = .tup [a, b] ∧ x = .ref T ∧ H T = none ∧ H' = upd H T (.tup [y, z]) ∧ Rep K Hf a y ∧ Rep K Hf b z)
def tI (K : Frag) (D : Den) (it : CI) : TI := fun σ H Rr => ∃ S Hf F vs S', Rel K Hf F S σ H ∧ evI D it S = some (vs, S') ∧
  ∀ J H' Hf' F', Rel K Hf' F' S' σ H' → Step Hf F H Hf' F' H' → (it.pure = true → HSub H H') → Walk J vs.length (fun H => HSub Hf' H) (YItem K Hf' vs) → Rr J H'
section
variable {K : Frag} {Hf H : Hp}
theorem RepL.get' : ∀ {vs : List Val} {xs : List V} {i : Nat} {x : V}, RepL K H vs xs → xs[i]? = some x → ∃ v, vs[i]? = some v ∧ Rep K H v x
  | _, _, _, _, .nil, e => by simp at e
  | _, _, 0, _, .cons h _, e => by simp at e; subst e; exact ⟨_, rfl, h⟩
  | _, _, i + 1, x, .cons _ t, e => by
    obtain ⟨u, h1, h2⟩ := RepL.get' (i := i) (x := x) t (by simpa using e)
    exact ⟨u, by simpa using h1, h2⟩
theorem intsFrom_len (lo : Int) : ∀ n, (intsFrom lo n).length = n
  | 0 => rfl
  | n + 1 => congrArg Nat.succ (intsFrom_len (lo + 1) n)
theorem intsFrom_get : ∀ {n : Nat} {lo : Int} {i : Nat}, i < n → (intsFrom lo n)[i]? = some (.int (lo + i))
  | 0, _, _, h => by omega
  | n + 1, lo, 0, _ => by simp [intsFrom]
  | n + 1, lo, i + 1, h => by
    show (intsFrom (lo + 1) n)[i]? = _
    rw [intsFrom_get (by omega)]
    congr 2
    omega
theorem numbered_len : ∀ (xs : List Val) (k : Nat), (numbered k xs).length = xs.length
  | [], _ => rfl
  | _ :: xs, k => congrArg Nat.succ (numbered_len xs (k + 1))
theorem numbered_get : ∀ {xs : List Val} {k i : Nat} {v : Val}, xs[i]? = some v → (numbered k xs)[i]? = some (.tup [.int ((k + i : Nat) : Int), v])
  | [], _, _, _, e => by simp at e
  | x :: xs, k, 0, v, e => by simp at e; subst e; simp [numbered]
  | x :: xs, k, i + 1, v, e => by
    show (numbered (k + 1) xs)[i]? = _
    rw [numbered_get (by simpa using e)]
    congr 5
    omega
theorem pairUp_len : ∀ (xs ys : List Val), (pairUp xs ys).length = min xs.length ys.length
  | [], _ => by simp [pairUp]
  | _ :: _, [] => by simp [pairUp]
  | x :: xs, y :: ys => by simp only [pairUp, List.length_cons, pairUp_len xs ys]; omega
theorem pairUp_get : ∀ {xs ys : List Val} {i : Nat} {v w : Val}, xs[i]? = some v → ys[i]? = some w → (pairUp xs ys)[i]? = some (.tup [v, w])
  | [], _, _, _, _, e, _ => by simp at e
  | _ :: _, [], _, _, _, _, e => by simp at e
  | x :: xs, y :: ys, 0, v, w, e, e2 => by simp at e e2; subst e; subst e2; simp [pairUp]
  | x :: xs, y :: ys, i + 1, v, w, e, e2 => by
    show (pairUp xs ys)[i]? = _
    exact pairUp_get (by simpa using e) (by simpa using e2)
theorem walk_rl {a : Addr} {vs : List Val} {ys : List V} (h : RdL K Hf a ys) (l : RepL K Hf vs ys) : Walk (Itl K a) vs.length (fun H => HSub Hf H) (YItem K Hf vs) := by
  rw [← l.length]
  exact walk_list.mono (fun H s => (rdL_mono s h).sq) fun i H x H' hi s y => by
    obtain ⟨rfl, e⟩ := y
    obtain ⟨v, e1, e2⟩ := l.get' e
    exact ⟨v, e1, .inl ⟨rfl, e2⟩⟩
theorem walk_rt {a : Addr} {vs : List Val} {ys : List V} (h : SqT K Hf a ys) (l : RepL K Hf vs ys) : Walk (Itt K a) vs.length (fun H => HSub Hf H) (YItem K Hf vs) := by
  rw [← l.length]
  exact walk_tup.mono (fun H s => sqT_mono s h) fun i H x H' hi s y => by
    obtain ⟨rfl, e⟩ := y
    obtain ⟨v, e1, e2⟩ := l.get' e
    exact ⟨v, e1, .inl ⟨rfl, e2⟩⟩
theorem walk_rr {lo : Int} {n : Nat} : Walk (Itr lo n) (intsFrom lo n).length (fun H => HSub Hf H) (YItem K Hf (intsFrom lo n)) := by
  rw [intsFrom_len]
  exact walk_range.mono (fun H s => trivial) fun i H x H' hi s y => by
    obtain ⟨rfl, rfl⟩ := y
    exact ⟨_, intsFrom_get hi, .inl ⟨rfl, .int _⟩⟩
theorem walk_re {a : Addr} {vs : List Val} {ys : List V} (h : RdL K Hf a ys) (l : RepL K Hf vs ys) : Walk (Ite K a) (numbered 0 vs).length (fun H => HSub Hf H) (YItem K Hf (numbered 0 vs)) := by
  rw [numbered_len, ← l.length]
  exact walk_enum.mono (fun H s => (rdL_mono s h).sq) fun i H x H' hi s y => by
    obtain ⟨T, y1, y2, rfl, e1, e2, e3, e4⟩ := y
    obtain ⟨v, e5, e6⟩ := l.get' e4
    cases e3
    refine ⟨_, numbered_get e5, .inr ⟨T, _, _, _, _, rfl, rfl, e1, e2, ?_, e6⟩⟩
    rw [Nat.zero_add]
    exact .int _
theorem walk_ret {a : Addr} {vs : List Val} {ys : List V} (h : SqT K Hf a ys) (l : RepL K Hf vs ys) : Walk (IteT K a) (numbered 0 vs).length (fun H => HSub Hf H) (YItem K Hf (numbered 0 vs)) := by
  rw [numbered_len, ← l.length]
  refine ⟨fun i H hi s => ⟨ys, ys[i], sqT_mono s h, by simp [hi]⟩, fun H s => ⟨ys, sqT_mono s h, rfl⟩, fun i H x H' hi s y => ?_⟩
  obtain ⟨T, y2, rfl, e1, e2, e4⟩ := y
  obtain ⟨v, e5, e6⟩ := l.get' (e4 ys (sqT_mono s h))
  refine ⟨_, numbered_get e5, .inr ⟨T, _, _, _, _, rfl, rfl, e1, e2, ?_, e6⟩⟩
  rw [Nat.zero_add]
  exact .int _
theorem signs_len (s : Str) : (signs s).length = s.cps.size := by unfold signs; simp
theorem signs_get {s : Str} {i c : Nat} (h : s.cps[i]? = some c) : (signs s)[i]? = some (.str ⟨#[c]⟩) := by unfold signs; simp [h]
theorem walk_res {x : Str} : Walk (IteS x) (numbered 0 (signs x)).length (fun H => HSub Hf H) (YItem K Hf (numbered 0 (signs x))) := by
  rw [numbered_len, signs_len]
  refine ⟨fun i H hi s => hi, fun H s => rfl, fun i H v H' hi s y => ?_⟩
  obtain ⟨T, c, rfl, e1, e2, e4⟩ := y
  refine ⟨_, numbered_get (signs_get e4), .inr ⟨T, _, _, _, _, rfl, rfl, e1, e2, ?_, .str _⟩⟩
  rw [Nat.zero_add]
  exact .int _
theorem walk_rs {x : Str} : Walk (Its x) (signs x).length (fun H => HSub Hf H) (YItem K Hf (signs x)) := by
  rw [signs_len]
  refine ⟨fun i H hi s => hi, fun H s => Nat.le_refl _, fun i H v H' hi s y => ?_⟩
  obtain ⟨rfl, c, e1, rfl⟩ := y
  exact ⟨_, signs_get e1, .inl ⟨rfl, .str _⟩⟩
theorem walk_rzt {a b : Addr} {vs ws : List Val} {ys zs : List V} (h : SqT K Hf a ys) (l : RepL K Hf vs ys) (h2 : SqT K Hf b zs) (l2 : RepL K Hf ws zs) : Walk (RZ.ItzT K a b) (pairUp vs ws).length (fun H => HSub Hf H) (YItem K Hf (pairUp vs ws)) := by
  rw [pairUp_len, ← l.length, ← l2.length]
  refine ⟨fun i H hi s => ?_, fun H s => ⟨ys, zs, sqT_mono s h, sqT_mono s h2, by omega⟩, fun i H x H' hi s y => ?_⟩
  · have q1 : i < ys.length := by omega
    have q2 : i < zs.length := by omega
    exact ⟨ys, zs, ys[i], zs[i], sqT_mono s h, sqT_mono s h2, by simp [q1], by simp [q2]⟩
  · obtain ⟨T, y1, y2, rfl, e1, e2, e3, e4⟩ := y
    obtain ⟨v, e5, e6⟩ := l.get' (e3 ys (sqT_mono s h))
    obtain ⟨w, e7, e8⟩ := l2.get' (e4 zs (sqT_mono s h2))
    exact ⟨_, pairUp_get e5 e7, .inr ⟨T, _, _, _, _, rfl, rfl, e1, e2, e6, e8⟩⟩
theorem walk_rz {a b : Addr} {vs ws : List Val} {ys zs : List V} (h : RdL K Hf a ys) (l : RepL K Hf vs ys) (h2 : RdL K Hf b zs) (l2 : RepL K Hf ws zs) : Walk (Itz K a b) (pairUp vs ws).length (fun H => HSub Hf H) (YItem K Hf (pairUp vs ws)) := by
  rw [pairUp_len, ← l.length, ← l2.length]
  exact (walk_zip rfl).mono (fun H s => ⟨(rdL_mono s h).sq, (rdL_mono s h2).sq⟩) fun i H x H' hi s y => by
    obtain ⟨T, y1, y2, rfl, e1, e2, e3, e4⟩ := y
    obtain ⟨v, e5, e6⟩ := l.get' e3
    obtain ⟨w, e7, e8⟩ := l2.get' e4
    exact ⟨_, pairUp_get e5 e7, .inr ⟨T, _, _, _, _, rfl, rfl, e1, e2, e6, e8⟩⟩
end
section
variable {free : List Str} {D : Den} {n : Nat} {N : List Str} {sc : Scope} {X : Cx}
theorem i_seq {tg : Expr} {e : CE} (h : PE X e.py (tEv X.K D e)) : PI X tg (CI.seq e).py (tI X.K D (.seq e)) := by
  refine ⟨fun pins s σ H Rr I hw => ?_⟩
  obtain ⟨S, Hf, F, vs, S', rel, he, q⟩ := hw
  unfold evI at he
  rw [Option.bind_eq_some_iff] at he
  obtain ⟨⟨⟨m, v⟩, S1⟩, e1, he⟩ := he
  cases m with
  | bor => cases he
  | own d =>
    simp only [Option.map_eq_some_iff] at he
    obtain ⟨xs, e2, he⟩ := he
    obtain ⟨rfl, rfl⟩ := Prod.mk.inj he
    cases v with
    | lst ys =>
      cases e2
      refine (pi_list h).run pins s σ H Rr I ⟨S, Hf, F, _, S1, rel, e1, fun x H1 Hf1 F1 g1 p1 => ?_⟩
      obtain ⟨Hf1', s1, rel1, st1, re1, rf1⟩ := g1.opd
      cases rf1 d rfl with
      | lst hd l => exact ⟨_, rfl, ⟨_, (rdL_mono rel1.sub hd).sq⟩, q _ H1 Hf1' F1 rel1 st1 (fun hp => p1 (by unfold CI.pure at hp; exact hp)) (walk_rl hd l)⟩
    | tup ys =>
      cases e2
      refine (pi_tup h).run pins s σ H Rr I ⟨S, Hf, F, _, S1, rel, e1, fun x H1 Hf1 F1 g1 p1 => ?_⟩
      obtain ⟨Hf1', s1, rel1, st1, re1, rf1⟩ := g1.opd
      cases rf1 d rfl with
      | tup hd l => exact ⟨_, rfl, ⟨_, sqT_mono rel1.sub hd⟩, q _ H1 Hf1' F1 rel1 st1 (fun hp => p1 (by unfold CI.pure at hp; exact hp)) (walk_rt hd l)⟩
    | str z =>
      cases e2
      refine (pi_str h).run pins s σ H Rr I ⟨S, Hf, F, _, S1, rel, e1, fun x H1 Hf1 F1 g1 p1 => ?_⟩
      obtain ⟨Hf1', s1, rel1, st1, re1, rf1⟩ := g1.opd
      cases rf1 d rfl with
      | str _ => exact ⟨_, rfl, q _ H1 Hf1' F1 rel1 st1 (fun hp => p1 (by unfold CI.pure at hp; exact hp)) walk_rs⟩
    | _ => cases e2
theorem i_rng1 (c : Ctx free D n N sc X) {tg : Expr} {e : CE} {np p : Pos} (g : glB sc "range" = true) (m : ("range" : Str) ∈ free) (h : PE X e.py (tEv X.K D e)) : PI X tg (CI.rng1 np e p).py (tI X.K D (.rng1 np e p)) := by
  refine ⟨fun pins s σ H Rr I hw => ?_⟩
  obtain ⟨S, Hf, F, vs, S', rel, he, q⟩ := hw
  unfold evI at he
  rw [Option.bind_eq_some_iff] at he
  obtain ⟨⟨⟨m', v⟩, S1⟩, e1, he⟩ := he
  refine (pi_range1 (c.gl g) (c.fre _ m) (pa_cons h pa_nil (star_cons e _ _)) (star_cons e _ _)).run pins s σ H Rr I ⟨S, Hf, F, _, S1, rel, e1, fun x H1 Hf1 F1 g1 p1 => ?_⟩
  obtain ⟨Hf1', s1, rel1, st1, re1, rf1⟩ := g1.opd
  cases v with
  | int i =>
    have he : gd (inRange i) (some (intsFrom 0 i.toNat, S1)) = some (vs, S') := he
    rw [gd_some] at he
    obtain ⟨ir, he⟩ := he
    obtain ⟨rfl, rfl⟩ := Prod.mk.inj (Option.some.inj he)
    obtain rfl := re1.int_
    have ir := of_decide_eq_true ir
    exact ⟨i, rfl, ir.1, ir.2, q _ H1 Hf1' F1 rel1 st1 (fun hp => p1 (by unfold CI.pure at hp; exact hp)) walk_rr⟩
  | _ => cases he
theorem i_rng2 (c : Ctx free D n N sc X) {tg : Expr} {a b : CE} {np p : Pos} (g : glB sc "range" = true) (m : ("range" : Str) ∈ free) (ha : PE X a.py (tEv X.K D a)) (hb : PE X b.py (tEv X.K D b)) : PI X tg (CI.rng2 np a b p).py (tI X.K D (.rng2 np a b p)) := by
  refine ⟨fun pins s σ H Rr I hw => ?_⟩
  obtain ⟨S, Hf, F, vs, S', rel, he, q⟩ := hw
  unfold evI at he
  rw [Option.bind_eq_some_iff] at he
  obtain ⟨⟨⟨m1, v1⟩, S1⟩, e1, he⟩ := he
  rw [Option.bind_eq_some_iff] at he
  obtain ⟨⟨⟨m2, v2⟩, S2⟩, e2, he⟩ := he
  refine (pi_range2 (c.gl g) (c.fre _ m) (pa_cons ha (pa_cons hb pa_nil (star_cons b _ _)) (star_cons a _ _)) (by rw [star_cons, star_cons]; rfl) (star_cons b _ _)).run pins s σ H Rr I ⟨S, Hf, F, _, S1, rel, e1, fun x H1 Hf1 F1 g1 p1 => ?_⟩
  obtain ⟨Hf1', s1, rel1, st1, re1, rf1⟩ := g1.opd
  refine ⟨S1, Hf1', F1, _, S2, rel1, e2, fun y H2 Hf2 F2 g2 p2 => ?_⟩
  obtain ⟨Hf2', s2, rel2, st2, re2, rf2⟩ := g2.opd
  cases v1 with
  | int i =>
    cases v2 with
    | int j =>
      have he : gd (inRange i && inRange j) (some (intsFrom i (j - i).toNat, S2)) = some (vs, S') := he
      rw [gd_some, Bool.and_eq_true] at he
      obtain ⟨⟨i1, i2⟩, he⟩ := he
      obtain ⟨rfl, rfl⟩ := Prod.mk.inj (Option.some.inj he)
      obtain rfl := re1.int_
      obtain rfl := re2.int_
      have i1 := of_decide_eq_true i1
      have i2 := of_decide_eq_true i2
      refine ⟨i, j, rfl, ⟨i1.1, i1.2, i2.1, i2.2⟩, q _ H2 Hf2' F2 rel2 (st1.trans st2) (fun hp => ?_) walk_rr⟩
      unfold CI.pure at hp
      rw [Bool.and_eq_true] at hp
      exact (p1 hp.1).trans (p2 hp.2)
    | _ => cases he
  | _ => cases he
theorem i_enum (c : Ctx free D n N sc X) {es : List Expr} {kk : Nat} {tp : Pos} {e : CE} {np p : Pos} (g : glB sc "enumerate" = true) (m : ("enumerate" : Str) ∈ free) (h : PE X e.py (tEv X.K D e)) : PI X (.Tuple es kk tp) (CI.enum np e p).py (tI X.K D (.enum np e p)) := by
  refine ⟨fun pins s σ H Rr I hw => ?_⟩
  obtain ⟨S, Hf, F, vs, S', rel, he, q⟩ := hw
  unfold evI at he
  rw [Option.bind_eq_some_iff] at he
  obtain ⟨⟨⟨m', v⟩, S1⟩, e1, he⟩ := he
  refine (pi_enumA (c.gl g) (c.fre _ m) (pa_cons h pa_nil (star_cons e _ _)) (star_cons e _ _)).run pins s σ H Rr I ⟨S, Hf, F, _, S1, rel, e1, fun x H1 Hf1 F1 g1 p1 => ?_⟩
  obtain ⟨Hf1', s1, rel1, st1, re1, rf1⟩ := g1.opd
  cases m' with
  | bor => cases he
  | own d =>
    simp only [Option.map_eq_some_iff] at he
    obtain ⟨xs, e2, he⟩ := he
    obtain ⟨rfl, rfl⟩ := Prod.mk.inj he
    cases v with
    | lst ys =>
      cases e2
      cases rf1 d rfl with
      | lst hd l => exact .inl ⟨_, _, rfl, (rdL_mono rel1.sub hd).sq, q _ H1 Hf1' F1 rel1 st1 (fun hp => p1 (by unfold CI.pure at hp; exact hp)) (walk_re hd l)⟩
    | tup ys =>
      cases e2
      cases rf1 d rfl with
      | tup hd l => exact .inr (.inl ⟨_, _, rfl, sqT_mono rel1.sub hd, q _ H1 Hf1' F1 rel1 st1 (fun hp => p1 (by unfold CI.pure at hp; exact hp)) (walk_ret hd l)⟩)
    | str z =>
      cases e2
      cases rf1 d rfl with
      | str _ => exact .inr (.inr ⟨_, rfl, q _ H1 Hf1' F1 rel1 st1 (fun hp => p1 (by unfold CI.pure at hp; exact hp)) walk_res⟩)
    | _ => cases e2
theorem i_zip (c : Ctx free D n N sc X) {es : List Expr} {kk : Nat} {tp : Pos} {a b : CE} {np p : Pos} (g : glB sc "zip" = true) (m : ("zip" : Str) ∈ free) (ha : PE X a.py (tEv X.K D a)) (hb : PE X b.py (tEv X.K D b)) : PI X (.Tuple es kk tp) (CI.zip np a b p).py (tI X.K D (.zip np a b p)) := by
  refine ⟨fun pins s σ H Rr I hw => ?_⟩
  obtain ⟨S, Hf, F, vs, S', rel, he, q⟩ := hw
  unfold evI at he
  rw [Option.bind_eq_some_iff] at he
  obtain ⟨⟨⟨m1, v1⟩, S1⟩, e1, he⟩ := he
  rw [Option.bind_eq_some_iff] at he
  obtain ⟨⟨⟨m2, v2⟩, S2⟩, e2, he⟩ := he
  refine (RZ.pi_zipA (c.gl g) (c.fre _ m) (pa_cons ha (pa_cons hb pa_nil (star_cons b _ _)) (star_cons a _ _)) (star_cons a _ _) (no_star (.cons b .nil) p _)).run pins s σ H Rr I ⟨S, Hf, F, _, S1, rel, e1, fun x H1 Hf1 F1 g1 p1 => ?_⟩
  obtain ⟨Hf1', s1, rel1, st1, re1, rf1⟩ := g1.opd
  refine ⟨S1, Hf1', F1, _, S2, rel1, e2, fun y H2 Hf2 F2 g2 p2 => ?_⟩
  obtain ⟨Hf2', s2, rel2, st2, re2, rf2⟩ := g2.opd
  cases m1 with
  | bor => cases he
  | own d1 =>
    cases m2 with
    | bor => cases v1 <;> cases he
    | own d2 =>
      cases v1 with
      | lst xs =>
        cases v2 with
        | lst zs =>
          obtain ⟨rfl, rfl⟩ := Prod.mk.inj (Option.some.inj he)
          cases (rf1 d1 rfl).mono st2.hf with
          | lst hd l =>
            cases rf2 d2 rfl with
            | lst hd2 l2 =>
              refine ⟨_, _, _, _, rfl, .inl ⟨(rdL_mono rel2.sub hd).sq, (rdL_mono rel2.sub hd2).sq, q _ H2 Hf2' F2 rel2 (st1.trans st2) (fun hp => ?_) (walk_rz hd l hd2 l2)⟩⟩
              unfold CI.pure at hp
              rw [Bool.and_eq_true] at hp
              exact (p1 hp.1).trans (p2 hp.2)
        | _ => cases he
      | tup xs =>
        cases v2 with
        | tup zs =>
          obtain ⟨rfl, rfl⟩ := Prod.mk.inj (Option.some.inj he)
          cases (rf1 d1 rfl).mono st2.hf with
          | tup hd l =>
            cases rf2 d2 rfl with
            | tup hd2 l2 =>
              refine ⟨_, _, _, _, rfl, .inr ⟨sqT_mono rel2.sub hd, sqT_mono rel2.sub hd2, q _ H2 Hf2' F2 rel2 (st1.trans st2) (fun hp => ?_) (walk_rzt hd l hd2 l2)⟩⟩
              unfold CI.pure at hp
              rw [Bool.and_eq_true] at hp
              exact (p1 hp.1).trans (p2 hp.2)
        | _ => cases he
      | _ => cases he
/-! ### targets -/
mutual
def CT.slots : CT → List Nat
  | .name i _ _ => [i]
  | .tup ts _ _ => ts.slots
def CTs.slots : CTs → List Nat
  | .nil => []
  | .cons t ts => t.slots ++ ts.slots
end
def tT (K : Frag) (t : CT) : TG := fun x σ H Q => ∃ S Hf F v S', Rel K Hf F S σ H ∧ Rep K Hf v x ∧ t.set v S = some S' ∧
  ∀ σ' F', Rel K Hf F' S' σ' H → (∀ a ∈ F', a ∈ F) → (∀ l : List Nat, (∀ i ∈ t.slots, i ∈ l) → wipe σ' l = wipe σ l) → Q σ' H
def tTs' (K : Frag) (ts : CTs) : TGs := fun xs σ H Q => ∃ S Hf F vs S', Rel K Hf F S σ H ∧ RepL K Hf vs xs ∧ ts.set vs S = some S' ∧
  ∀ σ' F', Rel K Hf F' S' σ' H → (∀ a ∈ F', a ∈ F) → (∀ l : List Nat, (∀ i ∈ ts.slots, i ∈ l) → wipe σ' l = wipe σ l) → Q σ' H
theorem wipe_set {σ : L2.St} {i : Nat} {y : Option V} : ∀ {l : List Nat}, i ∈ l → wipe (σ.set i y) l = wipe σ l
  | [], h => by cases h
  | j :: l, h => by
    unfold wipe
    by_cases hj : i = j
    · subst hj
      have g : ∀ {l : List Nat} {σ : L2.St}, (wipe (σ.set i y) l).set i none = (wipe σ l).set i none := by
        intro l
        induction l with
        | nil => intro σ; unfold wipe; rw [List.set_set]
        | cons k l ih =>
          intro σ
          unfold wipe
          by_cases hk : k = i
          · subst hk; rw [List.set_set, List.set_set]; exact ih
          · rw [List.set_comm _ _ hk, List.set_comm _ _ hk, ih]
      exact g
    · rcases List.mem_cons.mp h with z | z
      · exact absurd z hj
      · rw [wipe_set z]
mutual
/-- a target that may be stored -/
def CT.wf (N : List Str) (sc : Scope) (fb : Str → Bool) : CT → Bool
  | .name i x _ => decide (N[i]? = some x) && locB sc x && fb x
  | .tup ts _ _ => ts.wf N sc fb
def CTs.wf (N : List Str) (sc : Scope) (fb : Str → Bool) : CTs → Bool
  | .nil => true
  | .cons t ts => t.wf N sc fb && ts.wf N sc fb
end
theorem CT.each (t : CT) (es : List Expr) (env : Env) : assignEach (t.py :: es) env = (false, assign t.py env) :: assignEach es env := by cases t <;> rfl
def CTs.len : CTs → Nat
  | .nil => 0
  | .cons _ ts => ts.len + 1
theorem CTs.each_len : ∀ (ts : CTs) (env : Env), (assignEach ts.py env).length = ts.len ∧ (assignEach ts.py env).findIdx? (·.1) = none
  | .nil, _ => ⟨rfl, rfl⟩
  | .cons t ts, env => by
    have ih := CTs.each_len ts env
    show (assignEach (t.py :: ts.py) env).length = _ ∧ (assignEach (t.py :: ts.py) env).findIdx? (·.1) = none
    rw [CT.each]
    refine ⟨congrArg Nat.succ ih.1, ?_⟩
    rw [List.findIdx?_cons, ih.2]
    rfl
theorem CTs.set_len : ∀ {ts : CTs} {vs : List Val} {S S' : Slots}, ts.set vs S = some S' → vs.length = ts.len
  | .nil, [], _, _, _ => rfl
  | .nil, _ :: _, _, _, e => by unfold CTs.set at e; cases e
  | .cons t ts, [], _, _, e => by unfold CTs.set at e; cases e
  | .cons t ts, v :: vs, S, S', e => by
    unfold CTs.set at e
    rw [Option.bind_eq_some_iff] at e
    obtain ⟨S1, _, e⟩ := e
    exact congrArg Nat.succ (CTs.set_len e)
mutual
theorem g_ct (c : Ctx free D n N sc X) {fb : Str → Bool} (hfn : ∀ x, fb x = true → X.fn x = true ∨ X.env.scope.names.lookup x = some .local) : ∀ (t : CT), t.wf N sc fb = true → PG X t.py (tT X.K t)
  | .name i x p, w => by
    unfold CT.wf at w
    simp only [Bool.and_eq_true] at w
    obtain ⟨⟨w1, w2⟩, w3⟩ := w
    have w1 := of_decide_eq_true w1
    have pg := pg_name (X := X) (pos := p) (i := i) (x := x) (by rw [c.hN]; exact c.nd) (by rw [c.hN]; exact w1) (by rw [c.sc]; exact locB_ok w2) (hfn x w3)
    refine ⟨fun pins s σ H v u Q I r h => pg.run pins s σ H v u Q I r ?_⟩
    obtain ⟨S, Hf, F, vv, S', rel, rep, e, q⟩ := h
    unfold CT.set at e
    cases e
    have hl : i < S.length := by
      have e1 := I.len
      have e2 := rel.len
      have := lt_of_get w1
      rw [c.hN] at e1
      omega
    obtain ⟨F', rel', sub⟩ := rel.put (i := i) (d := 0) (v := vv) (x := v) (G := []) hl (.frz (.inl rfl) rep) (by simpa using rel.nd) (fun a h => by cases h)
    refine q _ F' rel' (fun a ha => (sub a ha).elim id fun z => by cases z) fun l hl => wipe_set (hl i (by simp [CT.slots]))
  | .tup ts k p, w => by
    unfold CT.wf at w
    have pgs := g_cts c hfn ts w
    have el := CTs.each_len ts X.env
    have pg := pg_tup (X := X) (pos := p) (k := k) c.calm pgs el.1 el.2
    refine ⟨fun pins s σ H v u Q I r h => pg.run pins s σ H v u Q I r ?_⟩
    obtain ⟨S, Hf, F, vv, S', rel, rep, e, q⟩ := h
    unfold CT.set at e
    cases vv with
    | tup xs =>
      have e : ts.set xs S = some S' := e
      cases rep with
      | tup hd l => exact ⟨_, _, rfl, sqT_mono rel.sub hd, by rw [l.length]; exact CTs.set_len e, S, Hf, F, xs, S', rel, l, e, q⟩
    | _ => cases e
theorem g_cts (c : Ctx free D n N sc X) {fb : Str → Bool} (hfn : ∀ x, fb x = true → X.fn x = true ∨ X.env.scope.names.lookup x = some .local) : ∀ (ts : CTs), ts.wf N sc fb = true → PGs X ts.py (tTs' X.K ts)
  | .nil, _ => by
    refine ⟨fun pins s σ H vs us Q I r h => pgs_nil.run pins s σ H vs us Q I r ?_⟩
    obtain ⟨S, Hf, F, vv, S', rel, rep, e, q⟩ := h
    cases rep with
    | nil =>
      unfold CTs.set at e
      cases e
      exact ⟨rfl, q σ F rel (fun a h => h) fun l _ => rfl⟩
    | cons _ _ => unfold CTs.set at e; cases e
  | .cons t ts, w => by
    unfold CTs.wf at w
    rw [Bool.and_eq_true] at w
    have pg := pgs_cons (g_ct c hfn t w.1) (g_cts c hfn ts w.2) (by rw [CT.each]; rfl)
    refine ⟨fun pins s σ H vs us Q I r h => pg.run pins s σ H vs us Q I r ?_⟩
    obtain ⟨S, Hf, F, vv, S', rel, rep, e, q⟩ := h
    cases rep with
    | nil => unfold CTs.set at e; cases e
    | cons h1 h2 =>
      unfold CTs.set at e
      rw [Option.bind_eq_some_iff] at e
      obtain ⟨S1, e1, e2⟩ := e
      refine ⟨_, _, rfl, S, Hf, F, _, S1, rel, h1, e1, fun σ1 F1 rel1 sub1 wp1 => ?_⟩
      refine ⟨S1, Hf, F1, _, S', rel1, h2, e2, fun σ2 F2 rel2 sub2 wp2 => q σ2 F2 rel2 (fun a h => sub1 a (sub2 a h)) fun l hl => ?_⟩
      rw [wp2 l fun i hi => hl i (List.mem_append_right _ hi), wp1 l fun i hi => hl i (List.mem_append_left _ hi)]
end
end
end BV
/-! Comprehensions. -/
namespace BV
open PySem PySem.Spec PyProof.Rows L2
/-- a list at D0 that is being made, beside the slots -/
structure Acc (K : Frag) (Hf0 : Hp) (F0 : List Addr) (H0 : Hp) (D0 : Addr) (pu : Bool) (τ : L2.St) (done : List Val) (S : Slots) (Hf : Hp) (F : List Addr) (ys : List V) (H : Hp) : Prop where
  rel : Rel K Hf F S τ H
  st : Step Hf0 F0 H0 Hf F H
  at_ : H D0 = some (.lst ys)
  out : D0 ∉ F
  off : Hf D0 = none
  rep : RepL K Hf done ys
  new : H0 D0 = none
  pu : pu = true → HSub H0 H
section
variable {K : Frag} {Hf0 Hf Hf2 H0 H H2 : Hp} {F0 F F2 : List Addr} {D0 : Addr} {pu : Bool} {τ τ2 : L2.St} {done : List Val} {S S2 : Slots} {ys : List V}
theorem wipe_wipe {σ : L2.St} {vl : List Nat} : L2.wipe (L2.wipe σ vl) vl = L2.wipe σ vl := by
  apply List.ext_getElem?
  intro j
  by_cases hj : j ∈ vl
  · have z : ∀ {τ : L2.St}, j < τ.length → (L2.wipe τ vl)[j]? = some none := by
      intro τ hl
      have go : ∀ {l : List Nat}, j ∈ l → (L2.wipe τ l)[j]? = some none := by
        intro l
        induction l with
        | nil => intro h; cases h
        | cons k l ih =>
          intro h
          unfold L2.wipe
          by_cases hk : k = j
          · subst hk; rw [List.getElem?_set_self (by rw [wipe_length]; exact hl)]
          · rw [List.getElem?_set_ne hk]
            exact ih ((List.mem_cons.mp h).elim (fun z => absurd z.symm hk) id)
      exact go hj
    by_cases hl : j < σ.length
    · rw [z (by rw [wipe_length]; exact hl), z hl]
    · rw [List.getElem?_eq_none (by rw [wipe_length, wipe_length]; omega), List.getElem?_eq_none (by rw [wipe_length]; omega)]
  · rw [wipe_out hj]
theorem Acc.start (rel : Rel K Hf0 F0 S τ H0) (hn : H0 D0 = none) : Acc K Hf0 F0 H0 D0 pu τ [] S Hf0 F0 [] (upd H0 D0 (.lst [])) := by
  refine ⟨rel.upd hn, (Step.refl _ _ _).upd hn, upd_same, fun h => ?_, ?_, .nil, hn, fun _ => HSub.upd hn⟩
  · obtain ⟨o, e⟩ := rel.dom D0 h
    rw [e] at hn; cases hn
  · cases q : Hf0 D0 with
    | none => rfl
    | some o => rw [rel.sub D0 o q] at hn; cases hn
theorem Acc.step {b : Bool} (a : Acc K Hf0 F0 H0 D0 pu τ done S Hf F ys H) (rel : Rel K Hf2 F2 S2 τ2 H2) (st : Step Hf F H Hf2 F2 H2) (p : b = true → HSub H H2) (hb : pu = true → b = true) : Acc K Hf0 F0 H0 D0 pu τ2 done S2 Hf2 F2 ys H2 := by
  refine ⟨rel, a.st.trans st, st.fr D0 _ a.at_ a.out, fun h => ?_, ?_, a.rep.mono st.hf, a.new, fun hp => (a.pu hp).trans (p (hb hp))⟩
  · rcases st.own D0 h with z | z
    · exact a.out z
    · rw [a.at_] at z; cases z
  · rw [st.new D0 _ a.at_ a.out]; exact a.off
theorem Acc.push (a : Acc K Hf0 F0 H0 D0 pu τ done S Hf F ys H) {v : Val} {y : V} (r : Rep K Hf v y) : Acc K Hf0 F0 H0 D0 pu τ (done ++ [v]) S Hf F (ys ++ [y]) (upd H D0 (.lst (ys ++ [y]))) := by
  refine ⟨a.rel.mut a.out a.off, ⟨a.st.hf, fun b o e n => ?_, a.st.new, a.st.own⟩, upd_same, a.out, a.off, a.rep.append (.cons r .nil), a.new, fun hp b o e => ?_⟩
  · rw [upd_ne fun z => by rw [z, a.new] at e; cases e]
    exact a.st.fr b o e n
  · rw [upd_ne fun z => by rw [z, a.new] at e; cases e]
    exact a.pu hp b o e
theorem Rel.none_any {i : Nat} {y : Option V} (r : Rel K Hf F S τ H) (h : S[i]? = some Option.none) : Rel K Hf F S (τ.set i y) H := by
  obtain ⟨z, F1, G2, F3, e1, e2, e3, e4⟩ := r.plc.split h
  cases e3
  have := e4 (Hf' := Hf) (H' := H) (HSub.refl _) (fun a _ o e => e) (.no (y := y))
  refine ⟨r.sub, r.nd, r.off, ?_⟩
  rw [e2]
  have hs : S.set i Option.none = S := by
    apply List.ext_getElem?
    intro j
    rw [List.getElem?_set]
    split
    · rename_i hj; subst hj
      split
      · exact h.symm
      · rename_i hl; rw [List.getElem?_eq_none (by omega)]
    · rfl
  rw [hs] at this
  exact this
theorem wipeS_len : ∀ (l : List Nat), (wipeS S l).length = S.length
  | [] => rfl
  | v :: l => by unfold wipeS; rw [List.length_set, wipeS_len l]
theorem wipeS_at {i : Nat} : ∀ {l : List Nat}, i ∈ l → i < S.length → (wipeS S l)[i]? = some Option.none
  | [], h, _ => by cases h
  | j :: l, h, hl => by
    unfold wipeS
    by_cases hj : j = i
    · subst hj; rw [List.getElem?_set_self (by rw [wipeS_len]; exact hl)]
    · rw [List.getElem?_set_ne hj]
      exact wipeS_at ((List.mem_cons.mp h).elim (fun z => absurd z.symm hj) id) hl
/-- names are forgotten -/
theorem Rel.wipe : ∀ (l : List Nat), Rel K Hf F S τ H → ∃ F', Rel K Hf F' (wipeS S l) τ H ∧ ∀ a ∈ F', a ∈ F
  | [], r => ⟨F, r, fun _ h => h⟩
  | i :: l, r => by
    obtain ⟨F1, r1, s1⟩ := Rel.wipe l r
    obtain ⟨G2, r2, s2⟩ := r1.none (i := i)
    exact ⟨G2, r2, fun a h => s1 a (s2 a h)⟩
/-- what stands in a forgotten slot does not matter -/
theorem Rel.anyAt {T : Slots} (r : Rel K Hf F T τ H) : ∀ (l : List Nat), (∀ i ∈ l, i < T.length → T[i]? = some Option.none) → Rel K Hf F T (L2.wipe τ l) H
  | [], _ => r
  | i :: l, h => by
    unfold L2.wipe
    have r1 := Rel.anyAt r l fun j hj => h j (List.mem_cons_of_mem _ hj)
    by_cases hi : i < T.length
    · exact r1.none_any (h i (List.mem_cons_self ..) hi)
    · rw [List.set_eq_of_length_le (by rw [r1.len]; omega)]
      exact r1
theorem Rel.ofWipe {T : Slots} : ∀ (l : List Nat) {τ : L2.St}, (∀ i ∈ l, i < T.length → T[i]? = some Option.none) → Rel K Hf F T (L2.wipe τ l) H → Rel K Hf F T τ H
  | [], _, _, r => r
  | i :: l, τ, h, r => by
    unfold L2.wipe at r
    refine Rel.ofWipe l (fun j hj => h j (List.mem_cons_of_mem _ hj)) ?_
    by_cases hi : i < T.length
    · have hl : i < (L2.wipe τ l).length := by have := r.len; rw [List.length_set] at this; omega
      have := r.none_any (y := (L2.wipe τ l)[i]) (h i (List.mem_cons_self ..) hi)
      rw [List.set_set] at this
      rw [show (L2.wipe τ l).set i (L2.wipe τ l)[i] = L2.wipe τ l from set_same (by rw [List.getElem?_eq_getElem hl])] at this
      exact this
    · rw [List.set_eq_of_length_le (by have := r.len; rw [List.length_set] at this; omega)] at r
      exact r
theorem Acc.wipe (a : Acc K Hf0 F0 H0 D0 pu τ done S Hf F ys H) (l : List Nat) : ∃ F', Acc K Hf0 F0 H0 D0 pu (L2.wipe τ l) done (wipeS S l) Hf F' ys H := by
  obtain ⟨F', r, sub⟩ := a.rel.wipe l
  have r2 := r.anyAt l fun i hi hl => wipeS_at hi (by rw [wipeS_len] at hl; exact hl)
  exact ⟨F', r2, ⟨a.st.hf, a.st.fr, a.st.new, fun b h => a.st.own b (sub b h)⟩, a.at_, fun h => a.out (sub _ h), a.off, a.rep, a.new, a.pu⟩
/-- the next thing comes -/
theorem Acc.item {vs : List Val} {i : Nat} {x : V} {H' Hfi : Hp} (a : Acc K Hf0 F0 H0 D0 pu τ done S Hf F ys H) (s : HSub Hfi Hf) (y : YItem K Hfi vs i H x H') :
    ∃ v Hf', vs[i]? = some v ∧ HSub Hf Hf' ∧ Acc K Hf0 F0 H0 D0 pu τ done S Hf' F ys H' ∧ Rep K Hf' v x := by
  obtain ⟨v, e, y⟩ := y
  rcases y with ⟨rfl, r⟩ | ⟨T, p, q, y1, y2, rfl, rfl, hT, rfl, r1, r2⟩
  · exact ⟨v, Hf, e, HSub.refl _, a, r.mono s⟩
  · have g := Gives.newT (Hf := Hf) (F := F) (H := H) a.rel (Step.refl _ _ _) hT (.cons (r1.mono s) (.cons (r2.mono s) .nil))
    obtain ⟨Hf', s1, rel', st', re, rf⟩ := g.opd
    refine ⟨_, Hf', e, st'.hf, a.step (b := true) rel' st' (fun _ => HSub.upd hT) (fun _ => rfl), rf 0 rfl⟩
end
section
variable {free : List Str} {D : Den} {n : Nat} {N : List Str} {sc : Scope} {X : Cx}
theorem compL_step {f : Val → Slots → Option (List Val × Slots)} {vs ws : List Val} {i : Nat} {v : Val} {S S' : Slots} (hv : vs[i]? = some v) (h : compL f (vs.drop i) S = some (ws, S')) :
    ∃ o S1 rest, f v S = some (o, S1) ∧ compL f (vs.drop (i + 1)) S1 = some (rest, S') ∧ ws = o ++ rest := by
  have hl := lt_of_get hv
  have e : vs.drop i = v :: vs.drop (i + 1) := by
    rw [List.drop_eq_getElem_cons hl]
    congr 1
    rw [List.getElem?_eq_getElem hl] at hv
    exact Option.some.inj hv
  rw [e] at h
  unfold compL at h
  rw [Option.bind_eq_some_iff] at h
  obtain ⟨⟨o, S1⟩, e1, h⟩ := h
  rw [Option.map_eq_some_iff] at h
  obtain ⟨⟨rest, S2⟩, e2, h⟩ := h
  obtain ⟨rfl, rfl⟩ := Prod.mk.inj h
  exact ⟨o, S1, rest, e1, e2, rfl⟩
theorem compL_end {f : Val → Slots → Option (List Val × Slots)} {vs ws : List Val} {S S' : Slots} (h : compL f (vs.drop vs.length) S = some (ws, S')) : ws = [] ∧ S' = S := by
  rw [List.drop_length] at h
  unfold compL at h
  obtain ⟨rfl, rfl⟩ := Prod.mk.inj (Option.some.inj h)
  exact ⟨rfl, rfl⟩
/-- the tests of a comprehension -/
abbrev tTests (K : Frag) (D : Den) (ifs : CEs) : TT := tEt K D (fun S => evts D ifs S) ifs.pure
theorem pts_ce {ifs : CEs} (h : ∀ e, ifs = .cons e .nil → PT X e.py (tTs X.K D e)) (hl : ifs.len ≤ 1) : PTs X ifs.py (tTests X.K D ifs) := by
  cases ifs with
  | nil =>
    refine ⟨fun pins s σ H Q I hw => pts_nil.run pins s σ H Q I ?_⟩
    obtain ⟨S, Hf, F, b, S', rel, e, q⟩ := hw
    have e : some (true, S) = some (b, S') := e
    obtain ⟨rfl, rfl⟩ := Prod.mk.inj (Option.some.inj e)
    exact q H Hf F rel (Step.refl _ _ _) fun _ => HSub.refl _
  | cons e es =>
    cases es with
    | nil =>
      refine ⟨fun pins s σ H Q I hw => (pts_one (h e rfl)).run pins s σ H Q I ?_⟩
      obtain ⟨S, Hf, F, b, S', rel, ht, q⟩ := hw
      refine ⟨S, Hf, F, b, S', rel, ht, fun H1 Hf1 F1 rel1 st1 p1 => q H1 Hf1 F1 rel1 st1 fun hp => p1 ?_⟩
      have hp : (e.pure && true) = true := hp
      simpa using hp
    | cons a b => unfold CEs.len CEs.len at hl; omega
theorem folded_not (it : CI) (env : Env) (x : Value) : foldedSetIterable it.py env x = pure x := by
  cases it with
  | seq e => cases e <;> rfl
  | _ => rfl
/-- one turn behind the target: tests, then the thing or not -/
def lcTurn (D : Den) (elt : CE) (t : CT) (ifs : CEs) (vs : List Nat) : Val → Slots → Option (List Val × Slots) := fun v S1 => (t.set v S1).bind fun S2 => (evts D ifs S2).bind fun b => bif b.1 then (ev D elt b.2).bind fun r => match r.1.1 with
      | .own _ => some ([r.1.2], wipeS r.2 vs)
      | .bor => none else some ([], wipeS b.2 vs)
theorem lcTurn_wiped {elt : CE} {t : CT} {ifs : CEs} {vs : List Nat} {v : Val} {S S1 : Slots} {o : List Val} (e : lcTurn D elt t ifs vs v S = some (o, S1)) : ∃ R, S1 = wipeS R vs := by
  unfold lcTurn at e
  rw [Option.bind_eq_some_iff] at e
  obtain ⟨S2, e1, e⟩ := e
  rw [Option.bind_eq_some_iff] at e
  obtain ⟨⟨b, S3⟩, e2, e⟩ := e
  cases b with
  | false => exact ⟨S3, (Prod.mk.inj (Option.some.inj (show some (([] : List Val), wipeS S3 vs) = some (o, S1) from e))).2.symm⟩
  | true =>
    have e : ((ev D elt S3).bind fun r => match r.1.1 with
      | .own _ => some ([r.1.2], wipeS r.2 vs)
      | .bor => none) = some (o, S1) := e
    rw [Option.bind_eq_some_iff] at e
    obtain ⟨⟨⟨m, w⟩, S4⟩, e3, e⟩ := e
    cases m with
    | bor => cases e
    | own d => exact ⟨S4, (Prod.mk.inj (Option.some.inj e)).2.symm⟩
theorem lc_turn {K : Frag} {Hf0 Hf H0 H Hfi H' : Hp} {F0 F : List Addr} {D0 : Addr} {pu : Bool} {τ : L2.St} {done o vs' : List Val} {S S1 : Slots} {ys : List V} {elt : CE} {t : CT} {ifs : CEs} {vs : List Nat} {i : Nat} {v : Val} {x : V} {tot : Nat}
    (a : Acc K Hf0 F0 H0 D0 pu τ done S Hf F ys H) (s : HSub Hfi Hf) (y : YItem K Hfi vs' i H x H') (hv : vs'[i]? = some v) (e : lcTurn D elt t ifs vs v S = some (o, S1)) (hsl : ∀ j ∈ t.slots, j ∈ vs) (hp : pu = true → (elt.pure && ifs.pure) = true)
    (hz : (done ++ o).length ≤ tot) (hz2 : tot ≤ sizeLine) {τw : L2.St} (hw : wipe τ vs = τw)
    {Nx : Hp → Prop} (nx : ∀ Hf2 F2 ys2 H2 τ2, wipe τ2 vs = τw → Acc K Hf0 F0 H0 D0 pu τw (done ++ o) S1 Hf2 F2 ys2 H2 → HSub Hf Hf2 → Nx H2) :
    tT K t x τ H' fun σ2 H2 => wipe σ2 vs = τw ∧ tTests K D ifs σ2 H2 fun b H3 => if b = true then tEv K D elt σ2 H3 fun y H4 => ∃ acc, H4 D0 = some (.lst acc) ∧ acc.length < sizeLine ∧ Nx (upd H4 D0 (.lst (acc ++ [y]))) else Nx H3 := by
  obtain ⟨v', Hf', ev', s', a', rv⟩ := a.item s y
  rw [hv] at ev'
  cases ev'
  unfold lcTurn at e
  rw [Option.bind_eq_some_iff] at e
  obtain ⟨S2, e1, e⟩ := e
  rw [Option.bind_eq_some_iff] at e
  obtain ⟨⟨b, S3⟩, e2, e⟩ := e
  refine ⟨S, Hf', F, v, S2, a'.rel, rv, e1, fun σ2 F2 rel2 sub2 wp => ⟨(wp vs hsl).trans hw, ?_⟩⟩
  have st2 : Step Hf' F H' Hf' F2 H' := ⟨HSub.refl _, fun _ _ e _ => e, fun _ _ _ _ => rfl, fun a h => .inl (sub2 a h)⟩
  have a2 := a'.step (b := true) rel2 st2 (fun _ => HSub.refl _) (fun _ => rfl)
  refine ⟨S2, Hf', F2, b, S3, rel2, e2, fun H3 Hf3 F3 rel3 st3 p3 => ?_⟩
  have a3 := a2.step (b := ifs.pure) rel3 st3 p3 (fun h => by have := hp h; rw [Bool.and_eq_true] at this; exact this.2)
  dsimp only
  cases b with
  | false =>
    rw [if_neg (by decide)]
    obtain ⟨rfl, rfl⟩ := Prod.mk.inj (Option.some.inj (show some (([] : List Val), wipeS S3 vs) = some (o, S1) from e))
    rw [List.append_nil] at nx
    obtain ⟨F4, a4⟩ := a3.wipe vs
    rw [(wp vs hsl).trans hw] at a4
    exact nx _ _ _ _ σ2 ((wp vs hsl).trans hw) a4 (s'.trans st3.hf)
  | true =>
    rw [if_pos rfl]
    have e : ((ev D elt S3).bind fun r => match r.1.1 with
      | .own _ => some ([r.1.2], wipeS r.2 vs)
      | .bor => none) = some (o, S1) := e
    rw [Option.bind_eq_some_iff] at e
    obtain ⟨⟨⟨m, w⟩, S4⟩, e3, e⟩ := e
    cases m with
    | bor => cases e
    | own d =>
      obtain ⟨rfl, rfl⟩ := Prod.mk.inj (Option.some.inj e)
      refine ⟨S3, Hf3, F3, _, S4, rel3, e3, fun y H4 Hf4 F4 g4 p4 => ?_⟩
      obtain ⟨Hf4', s4, rel4, st4, re4, rf4⟩ := g4.opd
      have a4 := a3.step (b := elt.pure) rel4 st4 p4 (fun h => by have := hp h; rw [Bool.and_eq_true] at this; exact this.1)
      refine ⟨ys, a4.at_, ?_, ?_⟩
      · rw [a4.rep.length]
        rw [List.length_append, List.length_singleton] at hz
        omega
      · obtain ⟨F5, a5⟩ := (a4.push (rf4 d rfl)).wipe vs
        rw [(wp vs hsl).trans hw] at a5
        exact nx _ _ _ _ σ2 ((wp vs hsl).trans hw) a5 (s'.trans (st3.hf.trans st4.hf))
theorem s_lc (c : Ctx free D n N sc X) {elt : CE} {t : CT} {it : CI} {ifs : CEs} {scp : Scope} {own : List (Str × Nat)} {p : Pos} (ok : blkC N sc scp own = true) (hsl : ∀ j ∈ t.slots, j ∈ own.map (·.2))
    (hi : PI X t.py it.py (tI X.K D it))
    (hg : ∀ (s : Shared) (H : Hp) (C : Addr) (cl : List (Str × Addr)) (fp : List Addr), PG (X.blk s H scp (compEnvC scp cl C X.env) fp) t.py (tT X.K t)) (ht : ∀ (s : Shared) (H : Hp) (C : Addr) (cl : List (Str × Addr)) (fp : List Addr), PTs (X.blk s H scp (compEnvC scp cl C X.env) fp) ifs.py (tTests X.K D ifs))
    (he : ∀ (s : Shared) (H : Hp) (C : Addr) (cl : List (Str × Addr)) (fp : List Addr), PE (X.blk s H scp (compEnvC scp cl C X.env) fp) elt.py (tEv X.K D elt)) :
    ∃ tl, (∀ σ H Q, tEv X.K D (.lc elt t it ifs scp own p) σ H Q → tl σ H Q) ∧ PE X (CE.lc elt t it ifs scp own p).py tl ∧
      (∀ {i : Nat} {y : Str} {py spos : Pos}, N[i]? = some y → sc.names.lookup y = some .local → swapsWith (CE.lc elt t it ifs scp own p).py (some (.Name y py)) spos.line X.env = pure true → PS X (.Assign [.Name y py] (CE.lc elt t it ifs scp own p).py spos) (tAsg tl (gName i))) := by
  have blk : BlkOk X.N X.env.scope scp own := by rw [c.hN, c.sc]; exact blkOk_by ok
  refine ⟨tLc (tI X.K D it) (tT X.K t) (tTests X.K D ifs) (tEv X.K D elt) (own.map fun z : Str × Nat => z.2), ?_, pe_lc (pos := p) c.calm (by rw [c.hN]; exact c.nd) hi blk hg ht he (fun x => folded_not it _ x), fun hy hyl hsw => ?_⟩
  · rintro σ H Q ⟨S, Hf, F, r, S', rel, hev, q⟩
    unfold ev at hev
    rw [Option.bind_eq_some_iff] at hev
    obtain ⟨⟨vs, S1⟩, e1, hev⟩ := hev
    rw [Option.bind_eq_some_iff] at hev
    obtain ⟨⟨ws, S2⟩, e2, hev⟩ := hev
    rw [gd_some] at hev
    obtain ⟨fl, hev⟩ := hev
    obtain ⟨rfl, rfl⟩ := Prod.mk.inj (Option.some.inj hev)
    have fl := of_decide_eq_true fl
    have e2 : compL (lcTurn D elt t ifs (own.map (·.2))) vs (wipeS S1 (own.map (·.2))) = some (ws, S2) := e2
    refine ⟨S, Hf, F, vs, S1, rel, e1, fun J H1 Hf1 F1 rel1 st1 p1 w => fun D0 hD => ?_⟩
    obtain ⟨F1', relw, subw⟩ := rel1.wipe (own.map (·.2))
    have relw2 := relw.anyAt (own.map (·.2)) fun i hi hl => wipeS_at hi (by rw [wipeS_len] at hl; exact hl)
    let vl := own.map (·.2)
    let pu := elt.pure && ifs.pure
    have a0 : Acc X.K Hf1 F1' H1 D0 pu (wipe σ vl) [] (wipeS S1 vl) Hf1 F1' [] (upd H1 D0 (.lst [])) := Acc.start relw2 hD
    refine lc_it w (fun i H' => ∃ Si Hfi Fi ys done rest, Acc X.K Hf1 F1' H1 D0 pu (wipe σ vl) done Si Hfi Fi ys H' ∧ compL (lcTurn D elt t ifs vl) (vs.drop i) Si = some (rest, S2) ∧ done ++ rest = ws ∧ ∃ R, Si = wipeS R vl) ?_ ?_ ?_ ?_
    · exact ⟨_, _, _, _, [], ws, a0, by rw [List.drop_zero]; exact e2, rfl, _, rfl⟩
    · rintro i H' _ ⟨Si, Hfi, Fi, ys, done, rest, a, _⟩
      exact a.st.hf.trans a.rel.sub
    · rintro i x H2 H3 hi ⟨Si, Hfi, Fi, ys, done, rest, a, ec, ew, _⟩ yi
      obtain ⟨v, hv⟩ : ∃ v, vs[i]? = some v := ⟨vs[i], List.getElem?_eq_getElem hi⟩
      obtain ⟨o, S3, rest', f1, f2, rfl⟩ := compL_step hv ec
      refine lc_turn (tot := ws.length) a a.st.hf yi hv f1 hsl (fun h => h) ?_ fl wipe_wipe fun Hf4 F4 ys4 H4 τ4 wp a4 _ => ?_
      · have := congrArg List.length ew
        simp only [List.length_append] at this ⊢
        omega
      · exact ⟨S3, Hf4, F4, ys4, done ++ o, rest', a4, f2, by rw [List.append_assoc]; exact ew, lcTurn_wiped f1⟩
    · rintro H2 ⟨Si, Hfi, Fi, ys, done, rest, a, ec, ew, R, eR⟩
      obtain ⟨rfl, rfl⟩ := compL_end ec
      rw [List.append_nil] at ew
      subst ew
      have hw0 : ∀ i ∈ vl, i < S2.length → S2[i]? = some none := by
        intro i hi hl
        rw [eR] at hl ⊢
        exact wipeS_at hi (by rw [wipeS_len] at hl; exact hl)
      have relF := Rel.ofWipe vl hw0 a.rel
      have ow : Own X.K Hfi H2 1 (.lst done) (.ref D0) [D0] := .lst a.at_ a.rep.ownL
      refine q _ H2 Hfi Fi ⟨relF, st1.trans ⟨a.st.hf, fun b o e n => a.st.fr b o e fun z => n (subw b z), fun b o e n => a.st.new b o e fun z => n (subw b z), fun b h => (a.st.own b h).imp (subw b) id⟩, [D0], ow, ?_, ?_, ?_⟩ fun hp => ?_
      · rw [List.nodup_append]
        refine ⟨a.rel.nd, by simp, fun b hb d hd e => ?_⟩
        have : d = D0 := by simpa using hd
        rw [e, this] at hb
        exact a.out hb
      · intro b hb
        have : b = D0 := by simpa using hb
        rw [this]; exact a.off
      · intro b hb
        have : b = D0 := by simpa using hb
        rw [this]; exact st1.fresh hD
      · unfold CE.pure at hp
        simp only [Bool.and_eq_true] at hp
        exact (p1 hp.1.2).trans (a.pu (by show (elt.pure && ifs.pure) = true; rw [hp.1.1, hp.2]; rfl))
  · exact ps_setLc c.calm (by rw [c.hN]; exact c.nd) (by rw [c.hN]; exact hy) (by rw [c.sc]; exact hyl) hsw hi blk hg ht he (fun x => folded_not it _ x)

theorem it_loop {J : It} {m : Nat} {G : Hp → Prop} {Y : Nat → Hp → V → Hp → Prop} (w : Walk J m G Y) {B : (Hp → Prop) → V → Hp → Prop} {H4 : Hp} {Qd : Hp → Prop} (Pv : Nat → Hp → Prop) (h0 : Pv 0 H4) (hG : ∀ i H, i ≤ m → Pv i H → G H)
    (hs : ∀ i x H H', i < m → Pv i H → Y i H x H' → B (Pv (i + 1)) x H') (hd : ∀ H, Pv m H → Qd H) :
    ∃ W : Nat → Nat → Hp → Prop, (∃ k, W 0 k H4) ∧ ∀ i k H, W i k H → (J.stop i H ∧ Qd H) ∨ (J.go i H ∧ ∃ Nx : Hp → Prop, (∀ H', Nx H' → ∃ k', k' < k ∧ W (i + 1) k' H') ∧ ∀ x H', J.yld i H x H' → B Nx x H') := by
  refine ⟨fun i k H => k = m - i ∧ i ≤ m ∧ Pv i H, ⟨m, by simp, Nat.zero_le _, h0⟩, ?_⟩
  rintro i k H ⟨rfl, hi, p⟩
  have q := hG i H hi p
  by_cases hlt : i < m
  · exact .inr ⟨w.goes i H hlt q, Pv (i + 1), fun H' p' => ⟨m - (i + 1), by omega, rfl, hlt, p'⟩, fun x H' y => hs i x H H' hlt p (w.yields i H x H' hlt q y)⟩
  · have e : i = m := by omega
    subst e
    exact .inl ⟨w.stops H q, hd H p⟩
theorem wipe_sub {σ : L2.St} {own : List Nat} : ∀ {l : List Nat}, (∀ i ∈ l, i ∈ own) → wipe (wipe σ l) own = wipe σ own
  | [], _ => rfl
  | i :: l, h => by
    show wipe ((wipe σ l).set i none) own = _
    rw [wipe_set (h i (List.mem_cons_self ..))]
    exact wipe_sub fun j hj => h j (List.mem_cons_of_mem _ hj)
def lc2Turn (D : Den) (elt : CE) (t : CT) (ifs : CEs) (t1 : CT) (it1 : CI) (ifs1 : CEs) (own vs1 : List Nat) : Val → Slots → Option (List Val × Slots) := fun v S1 => (t.set v S1).bind fun S2 => (evts D ifs S2).bind fun b => bif b.1 then (evI D it1 b.2).bind fun q1 =>
      (compL (lcTurn D elt t1 ifs1 vs1) q1.1 (wipeS q1.2 vs1)).map fun z => (z.1, wipeS z.2 own) else some ([], wipeS b.2 own)
theorem lc2Turn_wiped {elt : CE} {t t1 : CT} {it1 : CI} {ifs ifs1 : CEs} {own vs1 : List Nat} {v : Val} {S S1 : Slots} {o : List Val} (e : lc2Turn D elt t ifs t1 it1 ifs1 own vs1 v S = some (o, S1)) : ∃ R, S1 = wipeS R own := by
  unfold lc2Turn at e
  rw [Option.bind_eq_some_iff] at e
  obtain ⟨S2, e1, e⟩ := e
  rw [Option.bind_eq_some_iff] at e
  obtain ⟨⟨b, S3⟩, e2, e⟩ := e
  cases b with
  | false => exact ⟨S3, (Prod.mk.inj (Option.some.inj (show some (([] : List Val), wipeS S3 own) = some (o, S1) from e))).2.symm⟩
  | true =>
    have e : ((evI D it1 S3).bind fun q1 => (compL (lcTurn D elt t1 ifs1 vs1) q1.1 (wipeS q1.2 vs1)).map fun z => (z.1, wipeS z.2 own)) = some (o, S1) := e
    rw [Option.bind_eq_some_iff] at e
    obtain ⟨q1, e3, e⟩ := e
    rw [Option.map_eq_some_iff] at e
    obtain ⟨z, _, e⟩ := e
    exact ⟨z.2, (Prod.mk.inj e).2.symm⟩
theorem s_lc2 (c : Ctx free D n N sc X) {elt : CE} {t t1 : CT} {it it1 : CI} {ifs ifs1 : CEs} {scp : Scope} {own : List (Str × Nat)} {vs1 : List Nat} {p : Pos} (ok : blkC N sc scp own = true) (hsl : ∀ j ∈ t.slots, j ∈ own.map (·.2)) (hsl1 : ∀ j ∈ t1.slots, j ∈ vs1) (hv : ∀ i ∈ vs1, i ∈ own.map (·.2))
    (hi : PI X t.py it.py (tI X.K D it))
    (hg : ∀ (s : Shared) (H : Hp) (C : Addr) (cl : List (Str × Addr)) (fp : List Addr), PG (X.blk s H scp (compEnvC scp cl C X.env) fp) t.py (tT X.K t)) (ht : ∀ (s : Shared) (H : Hp) (C : Addr) (cl : List (Str × Addr)) (fp : List Addr), PTs (X.blk s H scp (compEnvC scp cl C X.env) fp) ifs.py (tTests X.K D ifs))
    (hi1 : ∀ (s : Shared) (H : Hp) (C : Addr) (cl : List (Str × Addr)) (fp : List Addr), PI (X.blk s H scp (compEnvC scp cl C X.env) fp) t1.py it1.py (tI X.K D it1))
    (hg1 : ∀ (s : Shared) (H : Hp) (C : Addr) (cl : List (Str × Addr)) (fp : List Addr), PG (X.blk s H scp (compEnvC scp cl C X.env) fp) t1.py (tT X.K t1)) (ht1 : ∀ (s : Shared) (H : Hp) (C : Addr) (cl : List (Str × Addr)) (fp : List Addr), PTs (X.blk s H scp (compEnvC scp cl C X.env) fp) ifs1.py (tTests X.K D ifs1))
    (he : ∀ (s : Shared) (H : Hp) (C : Addr) (cl : List (Str × Addr)) (fp : List Addr), PE (X.blk s H scp (compEnvC scp cl C X.env) fp) elt.py (tEv X.K D elt)) :
    ∃ tl, (∀ σ H Q, tEv X.K D (.lc2 elt t it ifs t1 it1 ifs1 scp own vs1 p) σ H Q → tl σ H Q) ∧ PE X (CE.lc2 elt t it ifs t1 it1 ifs1 scp own vs1 p).py tl ∧
      (∀ {i : Nat} {y : Str} {py spos : Pos}, N[i]? = some y → sc.names.lookup y = some .local → swapsWith (CE.lc2 elt t it ifs t1 it1 ifs1 scp own vs1 p).py (some (.Name y py)) spos.line X.env = pure true → PS X (.Assign [.Name y py] (CE.lc2 elt t it ifs t1 it1 ifs1 scp own vs1 p).py spos) (tAsg tl (gName i))) := by
  have blk : BlkOk X.N X.env.scope scp own := by rw [c.hN, c.sc]; exact blkOk_by ok
  refine ⟨tLc2 (tI X.K D it) (tT X.K t) (tTests X.K D ifs) (tI X.K D it1) (tT X.K t1) (tTests X.K D ifs1) (tEv X.K D elt) (own.map fun z : Str × Nat => z.2) vs1, ?_, pe_lc2 (pos := p) c.calm (by rw [c.hN]; exact c.nd) hi blk hv hg ht hi1 hg1 ht1 he (fun x => folded_not it _ x) (fun _ x => folded_not it1 _ x), fun hy hyl hsw => ?_⟩
  · rintro σ H Q ⟨S, Hf, F, r, S', rel, hev, q⟩
    unfold ev at hev
    rw [Option.bind_eq_some_iff] at hev
    obtain ⟨⟨vs, S1⟩, e1, hev⟩ := hev
    rw [Option.bind_eq_some_iff] at hev
    obtain ⟨⟨ws, S2⟩, e2, hev⟩ := hev
    rw [gd_some] at hev
    obtain ⟨fl, hev⟩ := hev
    obtain ⟨rfl, rfl⟩ := Prod.mk.inj (Option.some.inj hev)
    have fl := of_decide_eq_true fl
    have e2 : compL (lc2Turn D elt t ifs t1 it1 ifs1 (own.map (·.2)) vs1) vs (wipeS S1 (own.map (·.2))) = some (ws, S2) := e2
    refine ⟨S, Hf, F, vs, S1, rel, e1, fun J H1 Hf1 F1 rel1 st1 p1 w => fun D0 hD => ?_⟩
    obtain ⟨F1', relw, subw⟩ := rel1.wipe (own.map (·.2))
    have relw2 := relw.anyAt (own.map (·.2)) fun i hi hl => wipeS_at hi (by rw [wipeS_len] at hl; exact hl)
    let vl := own.map (·.2)
    let pu := elt.pure && ifs.pure && it1.pure && ifs1.pure
    have a0 : Acc X.K Hf1 F1' H1 D0 pu (wipe σ vl) [] (wipeS S1 vl) Hf1 F1' [] (upd H1 D0 (.lst [])) := Acc.start relw2 hD
    refine it_loop (B := fun Nx x H' => tT X.K t x (wipe σ vl) H' fun σ2 H2 => wipe σ2 vl = wipe σ vl ∧ tTests X.K D ifs σ2 H2 fun b H3 => if b = true then tI X.K D it1 σ2 H3 fun J1 H4 => ∃ W1 : Nat → Nat → Hp → Prop, (∃ m, W1 0 m H4) ∧ ∀ j k H, W1 j k H →
      (J1.stop j H ∧ Nx H) ∨ (J1.go j H ∧ ∃ Nx1 : Hp → Prop, (∀ H', Nx1 H' → ∃ k', k' < k ∧ W1 (j + 1) k' H') ∧ ∀ x H', J1.yld j H x H' → tT X.K t1 x (wipe σ2 vs1) H' fun σ3 H5 => wipe σ3 vs1 = wipe σ2 vs1 ∧ tTests X.K D ifs1 σ3 H5 fun b H6 =>
        if b = true then tEv X.K D elt σ3 H6 fun y H7 => ∃ acc, H7 D0 = some (.lst acc) ∧ acc.length < sizeLine ∧ Nx1 (upd H7 D0 (.lst (acc ++ [y]))) else Nx1 H6) else Nx H3) w
      (fun i H' => ∃ Si Hfi Fi ys done rest, Acc X.K Hf1 F1' H1 D0 pu (wipe σ vl) done Si Hfi Fi ys H' ∧ compL (lc2Turn D elt t ifs t1 it1 ifs1 vl vs1) (vs.drop i) Si = some (rest, S2) ∧ done ++ rest = ws ∧ ∃ R, Si = wipeS R vl) ?_ ?_ ?_ ?_
    · exact ⟨_, _, _, _, [], ws, a0, by rw [List.drop_zero]; exact e2, rfl, _, rfl⟩
    · rintro i H' _ ⟨Si, Hfi, Fi, ys, done, rest, a, _⟩
      exact a.st.hf.trans a.rel.sub
    · rintro i x H2 H3 hi ⟨Si, Hfi, Fi, ys, done, rest, a, ec, ew, _⟩ yi
      obtain ⟨v, hv'⟩ : ∃ v, vs[i]? = some v := ⟨vs[i], List.getElem?_eq_getElem hi⟩
      obtain ⟨o, S3, rest', f1, f2, rfl⟩ := compL_step hv' ec
      have wiped := lc2Turn_wiped f1
      obtain ⟨v', Hf', ev', s', a', rv⟩ := a.item a.st.hf yi
      rw [hv'] at ev'
      cases ev'
      have f1' := f1
      unfold lc2Turn at f1
      rw [Option.bind_eq_some_iff] at f1
      obtain ⟨T2, g1, f1⟩ := f1
      rw [Option.bind_eq_some_iff] at f1
      obtain ⟨⟨b, T3⟩, g2, f1⟩ := f1
      refine ⟨Si, Hf', Fi, v, T2, a'.rel, rv, g1, fun σ2 F2 rel2 sub2 wp => ⟨(wp vl hsl).trans wipe_wipe, ?_⟩⟩
      have st2 : Step Hf' Fi H3 Hf' F2 H3 := ⟨HSub.refl _, fun _ _ e _ => e, fun _ _ _ _ => rfl, fun a h => .inl (sub2 a h)⟩
      have a2 := a'.step (b := true) rel2 st2 (fun _ => HSub.refl _) (fun _ => rfl)
      refine ⟨T2, Hf', F2, b, T3, rel2, g2, fun H4 Hf4 F4 rel4 st4 p4 => ?_⟩
      have a4 := a2.step (b := ifs.pure) rel4 st4 p4 (fun h => by
        have h : (elt.pure && ifs.pure && it1.pure && ifs1.pure) = true := h
        simp only [Bool.and_eq_true] at h
        exact h.1.1.2)
      have fin : ∀ {τ : L2.St} {So : Slots} {Hf5 : Hp} {F5 : List Addr} {ys5 : List V} {H5 : Hp}, wipe τ vl = wipe σ vl → wipeS So vl = S3 → Acc X.K Hf1 F1' H1 D0 pu τ (done ++ o) So Hf5 F5 ys5 H5 →
          ∃ Si Hfi Fi ys done' rest, Acc X.K Hf1 F1' H1 D0 pu (wipe σ vl) done' Si Hfi Fi ys H5 ∧ compL (lc2Turn D elt t ifs t1 it1 ifs1 vl vs1) (vs.drop (i + 1)) Si = some (rest, S2) ∧ done' ++ rest = ws ∧ ∃ R, Si = wipeS R vl := by
        intro τ So Hf5 F5 ys5 H5 hw hS a5
        obtain ⟨F6, a6⟩ := a5.wipe vl
        rw [hw, hS] at a6
        exact ⟨S3, Hf5, F6, ys5, done ++ o, rest', a6, f2, by rw [List.append_assoc]; exact ew, wiped⟩
      dsimp only
      cases b with
      | false =>
        rw [if_neg (by decide)]
        obtain ⟨e5, e6⟩ := Prod.mk.inj (Option.some.inj (show some (([] : List Val), wipeS T3 vl) = some (o, S3) from f1))
        subst e5
        rw [List.append_nil] at fin
        exact fin ((wp vl hsl).trans wipe_wipe) e6 a4
      | true =>
        rw [if_pos rfl]
        have f1 : ((evI D it1 T3).bind fun q1 => (compL (lcTurn D elt t1 ifs1 vs1) q1.1 (wipeS q1.2 vs1)).map fun z => (z.1, wipeS z.2 vl)) = some (o, S3) := f1
        rw [Option.bind_eq_some_iff] at f1
        obtain ⟨⟨us, T4⟩, g3, f1⟩ := f1
        rw [Option.map_eq_some_iff] at f1
        obtain ⟨⟨o', T5⟩, g4, f1⟩ := f1
        obtain ⟨rfl, e7⟩ := Prod.mk.inj f1
        refine ⟨T3, Hf4, F4, us, T4, rel4, g3, fun J1 H5 Hf5 F5 rel5 st5 p5 w1 => ?_⟩
        have a5 := a4.step (b := it1.pure) rel5 st5 p5 (fun h => by
          have h : (elt.pure && ifs.pure && it1.pure && ifs1.pure) = true := h
          simp only [Bool.and_eq_true] at h
          exact h.1.2)
        obtain ⟨F6, a6⟩ := a5.wipe vs1
        refine it_loop (B := fun Nx1 x H' => tT X.K t1 x (wipe σ2 vs1) H' fun σ3 H5 => wipe σ3 vs1 = wipe σ2 vs1 ∧ tTests X.K D ifs1 σ3 H5 fun b H6 =>
          if b = true then tEv X.K D elt σ3 H6 fun y H7 => ∃ acc, H7 D0 = some (.lst acc) ∧ acc.length < sizeLine ∧ Nx1 (upd H7 D0 (.lst (acc ++ [y]))) else Nx1 H6) w1
          (fun j H' => ∃ Sj Hfj Fj ys1 done1 rest1, Acc X.K Hf1 F1' H1 D0 pu (wipe σ2 vs1) done1 Sj Hfj Fj ys1 H' ∧ HSub Hf5 Hfj ∧ compL (lcTurn D elt t1 ifs1 vs1) (us.drop j) Sj = some (rest1, T5) ∧ done1 ++ rest1 = done ++ o') ?_ ?_ ?_ ?_
        · exact ⟨_, _, _, _, done, o', a6, HSub.refl _, by rw [List.drop_zero]; exact g4, rfl⟩
        · rintro j H' _ ⟨Sj, Hfj, Fj, ys1, done1, rest1, b1, b2, _⟩
          exact b2.trans b1.rel.sub
        · rintro j y H7 H8 hj ⟨Sj, Hfj, Fj, ys1, done1, rest1, b1, b2, b3, b4⟩ yj
          obtain ⟨u, hu⟩ : ∃ v, us[j]? = some v := ⟨us[j], List.getElem?_eq_getElem hj⟩
          obtain ⟨o1, S6, rest2, k1, k2, rfl⟩ := compL_step hu b3
          refine lc_turn (tot := ws.length) b1 b2 yj hu k1 hsl1 (fun h => ?_) ?_ fl wipe_wipe fun Hf9 F9 ys9 H9 τ9 wp9 a9 s9 => ?_
          · have h : (elt.pure && ifs.pure && it1.pure && ifs1.pure) = true := h
            simp only [Bool.and_eq_true] at h ⊢
            exact ⟨h.1.1.1, h.2⟩
          · have q1 := congrArg List.length ew
            have q2 := congrArg List.length b4
            simp only [List.length_append] at q1 q2 ⊢
            omega
          · exact ⟨S6, Hf9, F9, ys9, done1 ++ o1, rest2, a9, b2.trans s9, k2, by rw [List.append_assoc]; exact b4⟩
        · rintro H7 ⟨Sj, Hfj, Fj, ys1, done1, rest1, b1, b2, b3, b4⟩
          obtain ⟨rfl, rfl⟩ := compL_end b3
          rw [List.append_nil] at b4
          subst b4
          exact fin ((wipe_sub hv).trans ((wp vl hsl).trans wipe_wipe)) e7 b1
    · rintro H2 ⟨Si, Hfi, Fi, ys, done, rest, a, ec, ew, R, eR⟩
      obtain ⟨rfl, rfl⟩ := compL_end ec
      rw [List.append_nil] at ew
      subst ew
      have hw0 : ∀ i ∈ vl, i < S2.length → S2[i]? = some none := by
        intro i hi hl
        rw [eR] at hl ⊢
        exact wipeS_at hi (by rw [wipeS_len] at hl; exact hl)
      have relF := Rel.ofWipe vl hw0 a.rel
      have ow : Own X.K Hfi H2 1 (.lst done) (.ref D0) [D0] := .lst a.at_ a.rep.ownL
      refine q _ H2 Hfi Fi ⟨relF, st1.trans ⟨a.st.hf, fun b o e n => a.st.fr b o e fun z => n (subw b z), fun b o e n => a.st.new b o e fun z => n (subw b z), fun b h => (a.st.own b h).imp (subw b) id⟩, [D0], ow, ?_, ?_, ?_⟩ fun hp => ?_
      · rw [List.nodup_append]
        refine ⟨a.rel.nd, by simp, fun b hb d hd e => ?_⟩
        have : d = D0 := by simpa using hd
        rw [e, this] at hb
        exact a.out hb
      · intro b hb
        have : b = D0 := by simpa using hb
        rw [this]; exact a.off
      · intro b hb
        have : b = D0 := by simpa using hb
        rw [this]; exact st1.fresh hD
      · unfold CE.pure at hp
        simp only [Bool.and_eq_true] at hp
        exact (p1 hp.1.1.1.2).trans (a.pu (by show (elt.pure && ifs.pure && it1.pure && ifs1.pure) = true; rw [hp.1.1.1.1, hp.1.1.2, hp.1.2, hp.2]; rfl))
  · exact ps_setLc2 c.calm (by rw [c.hN]; exact c.nd) (by rw [c.hN]; exact hy) (by rw [c.sc]; exact hyl) hsw hi blk hv hg ht hi1 hg1 ht1 he (fun x => folded_not it _ x) (fun _ x => folded_not it1 _ x)
end
end BV
/-! Dict comprehensions. -/
namespace BV
open PySem PySem.Spec PyProof.Rows L2
/-- a thing at D0 that is being made, beside the slots -/
structure AccG (Mk : Hp → List Val → HO → Prop) (K : Frag) (Hf0 : Hp) (F0 : List Addr) (H0 : Hp) (D0 : Addr) (pu : Bool) (τ : L2.St) (done : List Val) (S : Slots) (Hf : Hp) (F : List Addr) (ob : HO) (H : Hp) : Prop where
  rel : Rel K Hf F S τ H
  st : Step Hf0 F0 H0 Hf F H
  at_ : H D0 = some ob
  out : D0 ∉ F
  off : Hf D0 = none
  rep : Mk Hf done ob
  new : H0 D0 = none
  pu : pu = true → HSub H0 H
section
variable {Mk : Hp → List Val → HO → Prop} {K : Frag} {Hf0 Hf Hf2 H0 H H2 : Hp} {F0 F F2 : List Addr} {D0 : Addr} {pu : Bool} {τ τ2 : L2.St} {done done2 : List Val} {S S2 : Slots} {ob ob2 : HO}
theorem AccG.start (rel : Rel K Hf0 F0 S τ H0) (hn : H0 D0 = none) (h : Mk Hf0 [] ob) : AccG Mk K Hf0 F0 H0 D0 pu τ [] S Hf0 F0 ob (upd H0 D0 ob) := by
  refine ⟨rel.upd hn, (Step.refl _ _ _).upd hn, upd_same, fun h => ?_, ?_, h, hn, fun _ => HSub.upd hn⟩
  · obtain ⟨o, e⟩ := rel.dom D0 h
    rw [e] at hn; cases hn
  · cases q : Hf0 D0 with
    | none => rfl
    | some o => rw [rel.sub D0 o q] at hn; cases hn
theorem AccG.step {b : Bool} (mono : ∀ {Hf Hf' : Hp}, HSub Hf Hf' → Mk Hf done ob → Mk Hf' done ob) (a : AccG Mk K Hf0 F0 H0 D0 pu τ done S Hf F ob H) (rel : Rel K Hf2 F2 S2 τ2 H2) (st : Step Hf F H Hf2 F2 H2) (p : b = true → HSub H H2) (hb : pu = true → b = true) : AccG Mk K Hf0 F0 H0 D0 pu τ2 done S2 Hf2 F2 ob H2 := by
  refine ⟨rel, a.st.trans st, st.fr D0 _ a.at_ a.out, fun h => ?_, ?_, mono st.hf a.rep, a.new, fun hp => (a.pu hp).trans (p (hb hp))⟩
  · rcases st.own D0 h with z | z
    · exact a.out z
    · rw [a.at_] at z; cases z
  · rw [st.new D0 _ a.at_ a.out]; exact a.off
theorem AccG.push (a : AccG Mk K Hf0 F0 H0 D0 pu τ done S Hf F ob H) (r : Mk Hf done2 ob2) : AccG Mk K Hf0 F0 H0 D0 pu τ done2 S Hf F ob2 (upd H D0 ob2) := by
  refine ⟨a.rel.mut a.out a.off, ⟨a.st.hf, fun b o e n => ?_, a.st.new, a.st.own⟩, upd_same, a.out, a.off, r, a.new, fun hp b o e => ?_⟩
  · rw [upd_ne fun z => by rw [z, a.new] at e; cases e]
    exact a.st.fr b o e n
  · rw [upd_ne fun z => by rw [z, a.new] at e; cases e]
    exact a.pu hp b o e
theorem AccG.wipe (a : AccG Mk K Hf0 F0 H0 D0 pu τ done S Hf F ob H) (l : List Nat) : ∃ F', AccG Mk K Hf0 F0 H0 D0 pu (L2.wipe τ l) done (wipeS S l) Hf F' ob H := by
  obtain ⟨F', r, sub⟩ := a.rel.wipe l
  have r2 := r.anyAt l fun i hi hl => wipeS_at hi (by rw [wipeS_len] at hl; exact hl)
  exact ⟨F', r2, ⟨a.st.hf, a.st.fr, a.st.new, fun b h => a.st.own b (sub b h)⟩, a.at_, fun h => a.out (sub _ h), a.off, a.rep, a.new, a.pu⟩
theorem AccG.item (mono : ∀ {Hf Hf' : Hp}, HSub Hf Hf' → Mk Hf done ob → Mk Hf' done ob) {vs : List Val} {i : Nat} {x : V} {H' Hfi : Hp} (a : AccG Mk K Hf0 F0 H0 D0 pu τ done S Hf F ob H) (s : HSub Hfi Hf) (y : YItem K Hfi vs i H x H') :
    ∃ v Hf', vs[i]? = some v ∧ HSub Hf Hf' ∧ AccG Mk K Hf0 F0 H0 D0 pu τ done S Hf' F ob H' ∧ Rep K Hf' v x := by
  obtain ⟨v, e, y⟩ := y
  rcases y with ⟨rfl, r⟩ | ⟨T, p, q, y1, y2, rfl, rfl, hT, rfl, r1, r2⟩
  · exact ⟨v, Hf, e, HSub.refl _, a, r.mono s⟩
  · have g := Gives.newT (Hf := Hf) (F := F) (H := H) a.rel (Step.refl _ _ _) hT (.cons (r1.mono s) (.cons (r2.mono s) .nil))
    obtain ⟨Hf', s1, rel', st', re, rf⟩ := g.opd
    exact ⟨_, Hf', e, st'.hf, a.step mono (b := true) rel' st' (fun _ => HSub.upd hT) (fun _ => rfl), rf 0 rfl⟩
end
/-! ### dicts -/
theorem RepK.keysB {K : Frag} {Hf : Hp} {k : Key} : ∀ {kvs : List (Key × Val)} {ks : List (Key × V)}, RepK K Hf kvs ks → (ks.any fun q => decide (q.1 = k)) = kvs.any fun q => decide (q.1 = k)
  | _, _, .nil => rfl
  | _, _, .cons h r => by rw [List.any_cons, List.any_cons, RepK.keysB r]
theorem RepK.length' {K : Frag} {Hf : Hp} : ∀ {kvs : List (Key × Val)} {ks : List (Key × V)}, RepK K Hf kvs ks → ks.length = kvs.length
  | _, _, .nil => rfl
  | _, _, .cons h r => congrArg Nat.succ (RepK.length' r)
theorem RepK.over {K : Frag} {Hf : Hp} {k : Key} {v : Val} {z : V} (rv : Rep K Hf v z) : ∀ {kvs : List (Key × Val)} {ks : List (Key × V)}, RepK K Hf kvs ks → RepK K Hf (kvs.map fun q => bif decide (q.1 = k) then (q.1, v) else q) (ks.map fun q => if q.1 = k then (q.1, z) else q)
  | _, _, .nil => .nil
  | _, _, .cons (k := k') h r => by
    rw [List.map_cons, List.map_cons]
    by_cases e : k' = k
    · simp only [e, decide_true, cond_true, if_true]
      exact .cons rv (RepK.over rv r)
    · simp only [e, decide_false, cond_false, if_false]
      exact .cons h (RepK.over rv r)
theorem RepK.snoc {K : Frag} {Hf : Hp} {k : Key} {v : Val} {z : V} (rv : Rep K Hf v z) : ∀ {kvs : List (Key × Val)} {ks : List (Key × V)}, RepK K Hf kvs ks → RepK K Hf (kvs ++ [(k, v)]) (ks ++ [(k, z)])
  | _, _, .nil => .cons rv .nil
  | _, _, .cons h r => .cons h (RepK.snoc rv r)
theorem RepK.put {K : Frag} {Hf : Hp} {k : Key} {v : Val} {z : V} (rv : Rep K Hf v z) {kvs : List (Key × Val)} {ks : List (Key × V)} (r : RepK K Hf kvs ks) : RepK K Hf (putD kvs k v) (putK ks k z) := by
  unfold putD putK
  rw [RepK.keysB (k := k) r]
  cases kvs.any fun q => decide (q.1 = k) with
  | true => exact RepK.over rv r
  | false => exact RepK.snoc rv r
theorem putD_len {kvs : List (Key × Val)} {k : Key} {v : Val} : (putD kvs k v).length ≤ kvs.length + 1 := by
  unfold putD
  cases kvs.any fun q => decide (q.1 = k) <;> simp
theorem putAll_app : ∀ {ws us : List Val} {acc : List (Key × Val)}, putAll acc (ws ++ us) = (putAll acc ws).bind fun a => putAll a us
  | [], us, acc => rfl
  | w :: ws, us, acc => by
    show (pairOf w).bind (fun q => putAll (putD acc q.1 q.2) (ws ++ us)) = ((pairOf w).bind fun q => putAll (putD acc q.1 q.2) ws).bind fun a => putAll a us
    cases e : pairOf w with
    | none => rfl
    | some q => exact putAll_app
theorem putAll_len : ∀ {ws : List Val} {acc kvs : List (Key × Val)}, putAll acc ws = some kvs → kvs.length ≤ acc.length + ws.length
  | [], acc, kvs, h => by cases h; simp
  | w :: ws, acc, kvs, h => by
    have h : (pairOf w).bind (fun q => putAll (putD acc q.1 q.2) ws) = some kvs := h
    rw [Option.bind_eq_some_iff] at h
    obtain ⟨q, _, h⟩ := h
    have := putAll_len h
    have := putD_len (kvs := acc) (k := q.1) (v := q.2)
    rw [List.length_cons]
    omega
def MkD (K : Frag) (Hf : Hp) (done : List Val) (ob : HO) : Prop := ∃ kvs ks, ob = .dK ks ∧ putAll [] done = some kvs ∧ RepK K Hf kvs ks
theorem MkD.mono {K : Frag} {Hf Hf' : Hp} {done : List Val} {ob : HO} (s : HSub Hf Hf') (h : MkD K Hf done ob) : MkD K Hf' done ob := by
  obtain ⟨kvs, ks, e1, e2, r⟩ := h
  exact ⟨kvs, ks, e1, e2, r.mono s⟩
section
variable {free : List Str} {D : Den} {n : Nat} {N : List Str} {sc : Scope} {X : Cx}
def dcTurn (D : Den) (kx vx : CE) (t : CT) (ifs : CEs) (vs : List Nat) : Val → Slots → Option (List Val × Slots) := fun v S1 => (t.set v S1).bind fun S2 => (evts D ifs S2).bind fun b => bif b.1 then (ev D kx b.2).bind fun r => (ev D vx r.2).bind fun u => match r.1.1, u.1.1 with
      | .own _, .own _ => some ([.tup [r.1.2, u.1.2]], wipeS u.2 vs)
      | _, _ => none else some ([], wipeS b.2 vs)
theorem dcTurn_wiped {kx vx : CE} {t : CT} {ifs : CEs} {vs : List Nat} {v : Val} {S S1 : Slots} {o : List Val} (e : dcTurn D kx vx t ifs vs v S = some (o, S1)) : ∃ R, S1 = wipeS R vs := by
  unfold dcTurn at e
  rw [Option.bind_eq_some_iff] at e
  obtain ⟨S2, e1, e⟩ := e
  rw [Option.bind_eq_some_iff] at e
  obtain ⟨⟨b, S3⟩, e2, e⟩ := e
  cases b with
  | false => exact ⟨S3, (Prod.mk.inj (Option.some.inj (show some (([] : List Val), wipeS S3 vs) = some (o, S1) from e))).2.symm⟩
  | true =>
    have e : ((ev D kx S3).bind fun r => (ev D vx r.2).bind fun u => match r.1.1, u.1.1 with
      | .own _, .own _ => some ([Val.tup [r.1.2, u.1.2]], wipeS u.2 vs)
      | _, _ => none) = some (o, S1) := e
    rw [Option.bind_eq_some_iff] at e
    obtain ⟨⟨⟨m, w⟩, S4⟩, e3, e⟩ := e
    rw [Option.bind_eq_some_iff] at e
    obtain ⟨⟨⟨m', w'⟩, S5⟩, e4, e⟩ := e
    cases m with
    | bor => cases e
    | own d =>
      cases m' with
      | bor => cases e
      | own d' => exact ⟨S5, (Prod.mk.inj (Option.some.inj e)).2.symm⟩
theorem keyV {K : Frag} {Hf : Hp} {v : Val} {x : V} {k : Key} (h : Rep K Hf v x) (e : keyOf v = some k) : x = kV k := keyOf_ok h e
theorem dc_turn {K : Frag} {Hf0 Hf H0 H Hfi H' : Hp} {F0 F : List Addr} {D0 : Addr} {pu : Bool} {τ : L2.St} {done o vs' : List Val} {S S1 : Slots} {ob : HO} {kx vx : CE} {t : CT} {ifs : CEs} {vs : List Nat} {i : Nat} {v : Val} {x : V} {tot : Nat}
    (a : AccG (MkD K) K Hf0 F0 H0 D0 pu τ done S Hf F ob H) (s : HSub Hfi Hf) (y : YItem K Hfi vs' i H x H') (hv : vs'[i]? = some v) (e : dcTurn D kx vx t ifs vs v S = some (o, S1)) (hsl : ∀ j ∈ t.slots, j ∈ vs) (hp : pu = true → (kx.pure && vx.pure && ifs.pure) = true)
    (hz : (done ++ o).length ≤ tot) (hz2 : tot ≤ sizeLine) (hput : ∃ all, putAll [] (done ++ o) = some all) {τw : L2.St} (hw : wipe τ vs = τw)
    {Nx : Hp → Prop} (nx : ∀ Hf2 F2 ob2 H2 τ2, wipe τ2 vs = τw → AccG (MkD K) K Hf0 F0 H0 D0 pu τw (done ++ o) S1 Hf2 F2 ob2 H2 → HSub Hf Hf2 → Nx H2) :
    tT K t x τ H' fun σ2 H2 => wipe σ2 vs = τw ∧ tTests K D ifs σ2 H2 fun b H3 => if b = true then tEv K D kx σ2 H3 fun y H4 => tEv K D vx σ2 H4 fun z H5 => ∃ kvs k, y = kV k ∧ H5 D0 = some (.dK kvs) ∧ kvs.length < sizeLine ∧ Nx (upd H5 D0 (.dK (putK kvs k z))) else Nx H3 := by
  obtain ⟨v', Hf', ev', s', a', rv⟩ := a.item MkD.mono s y
  rw [hv] at ev'
  cases ev'
  unfold dcTurn at e
  rw [Option.bind_eq_some_iff] at e
  obtain ⟨S2, e1, e⟩ := e
  rw [Option.bind_eq_some_iff] at e
  obtain ⟨⟨b, S3⟩, e2, e⟩ := e
  refine ⟨S, Hf', F, v, S2, a'.rel, rv, e1, fun σ2 F2 rel2 sub2 wp => ⟨(wp vs hsl).trans hw, ?_⟩⟩
  have st2 : Step Hf' F H' Hf' F2 H' := ⟨HSub.refl _, fun _ _ e _ => e, fun _ _ _ _ => rfl, fun a h => .inl (sub2 a h)⟩
  have a2 := a'.step MkD.mono (b := true) rel2 st2 (fun _ => HSub.refl _) (fun _ => rfl)
  refine ⟨S2, Hf', F2, b, S3, rel2, e2, fun H3 Hf3 F3 rel3 st3 p3 => ?_⟩
  have a3 := a2.step MkD.mono (b := ifs.pure) rel3 st3 p3 (fun h => by have := hp h; simp only [Bool.and_eq_true] at this; exact this.2)
  dsimp only
  cases b with
  | false =>
    rw [if_neg (by decide)]
    obtain ⟨rfl, rfl⟩ := Prod.mk.inj (Option.some.inj (show some (([] : List Val), wipeS S3 vs) = some (o, S1) from e))
    rw [List.append_nil] at nx
    obtain ⟨F4, a4⟩ := a3.wipe vs
    rw [(wp vs hsl).trans hw] at a4
    exact nx _ _ _ _ σ2 ((wp vs hsl).trans hw) a4 (s'.trans st3.hf)
  | true =>
    rw [if_pos rfl]
    have e : ((ev D kx S3).bind fun r => (ev D vx r.2).bind fun u => match r.1.1, u.1.1 with
      | .own _, .own _ => some ([Val.tup [r.1.2, u.1.2]], wipeS u.2 vs)
      | _, _ => none) = some (o, S1) := e
    rw [Option.bind_eq_some_iff] at e
    obtain ⟨⟨⟨m, w⟩, S4⟩, e3, e⟩ := e
    rw [Option.bind_eq_some_iff] at e
    obtain ⟨⟨⟨m', w'⟩, S5⟩, e4, e⟩ := e
    cases m with
    | bor => cases e
    | own d =>
      cases m' with
      | bor => cases e
      | own d' =>
        obtain ⟨rfl, rfl⟩ := Prod.mk.inj (Option.some.inj e)
        refine ⟨S3, Hf3, F3, _, S4, rel3, e3, fun y H4 Hf4 F4 g4 p4 => ?_⟩
        obtain ⟨Hf4', s4, rel4, st4, re4, rf4⟩ := g4.opd
        have a4 := a3.step MkD.mono (b := kx.pure) rel4 st4 p4 (fun h => by have := hp h; simp only [Bool.and_eq_true] at this; exact this.1.1)
        refine ⟨S4, Hf4', F4, _, S5, rel4, e4, fun z H5 Hf5 F5 g5 p5 => ?_⟩
        obtain ⟨Hf5', s5, rel5, st5, re5, rf5⟩ := g5.opd
        have a5 := a4.step MkD.mono (b := vx.pure) rel5 st5 p5 (fun h => by have := hp h; simp only [Bool.and_eq_true] at this; exact this.1.2)
        obtain ⟨kvs, ks, eo, e6, rk⟩ := a5.rep
        subst eo
        obtain ⟨all, hall⟩ := hput
        rw [putAll_app, e6] at hall
        have hall : (pairOf (.tup [w, w'])).bind (fun q => putAll (putD kvs q.1 q.2) []) = some all := hall
        rw [Option.bind_eq_some_iff] at hall
        obtain ⟨q, hq, hall⟩ := hall
        have hq : (keyOf w).map (fun q => (q, w')) = some q := hq
        rw [Option.map_eq_some_iff] at hq
        obtain ⟨k, hk, rfl⟩ := hq
        cases hall
        have hy := keyV ((rf4 d rfl).mono st5.hf) hk
        refine ⟨ks, k, hy, a5.at_, ?_, ?_⟩
        · rw [rk.length']
          have := putAll_len e6
          rw [List.length_append, List.length_singleton] at hz
          simp only [List.length_nil] at this
          omega
        · have mk : MkD K Hf5' (done ++ [.tup [w, w']]) (.dK (putK ks k z)) := ⟨putD kvs k w', putK ks k z, rfl, by
            rw [putAll_app, e6]
            show (pairOf (.tup [w, w'])).bind (fun q => putAll (putD kvs q.1 q.2) []) = _
            show ((keyOf w).map (fun q => (q, w'))).bind _ = _
            rw [hk]
            rfl, RepK.put (rf5 d' rfl) rk⟩
          obtain ⟨F6, a6⟩ := (a5.push mk).wipe vs
          rw [(wp vs hsl).trans hw] at a6
          exact nx _ _ _ _ σ2 ((wp vs hsl).trans hw) a6 (s'.trans (st3.hf.trans (st4.hf.trans st5.hf)))
/-- name = {..} on one line, the name a local -/
theorem ps_nameDc {i : Nat} {nm : Str} {pn : Pos} {kx vx tg iter : Expr} {ifs : List Expr} {scp : Scope} {own : List (Str × Nat)} {pc ps : Pos} {wi : TI} {g : TG} {tt : TT} {tk tv : TE} (calm : X.calm = true) (nd : X.N.Nodup) (at_ : X.N[i]? = some nm) (loc : X.env.scope.names.lookup nm = some .local)
    (sw : swapsWith (.DictComp kx vx [⟨tg, iter, ifs, 0⟩] scp pc) (some (.Name nm pn)) ps.line X.env = pure true) (hi : PI X tg iter wi) (blk : BlkOk X.N X.env.scope scp own)
    (hg : ∀ (s : Shared) (H : Hp) (C : Addr) (cl : List (Str × Addr)) (fp : List Addr), PG (X.blk s H scp (compEnvC scp cl C X.env) fp) tg g)
    (ht : ∀ (s : Shared) (H : Hp) (C : Addr) (cl : List (Str × Addr)) (fp : List Addr), PTs (X.blk s H scp (compEnvC scp cl C X.env) fp) ifs tt)
    (hk : ∀ (s : Shared) (H : Hp) (C : Addr) (cl : List (Str × Addr)) (fp : List Addr), PE (X.blk s H scp (compEnvC scp cl C X.env) fp) kx tk)
    (he : ∀ (s : Shared) (H : Hp) (C : Addr) (cl : List (Str × Addr)) (fp : List Addr), PE (X.blk s H scp (compEnvC scp cl C X.env) fp) vx tv) (hs : ∀ x, foldedSetIterable iter X.env x = pure x) :
    PS X (.Assign [.Name nm pn] (.DictComp kx vx [⟨tg, iter, ifs, 0⟩] scp pc) ps) (tAsg (tDc wi g tt tk tv (own.map (·.2))) (gName i)) := by
  refine ⟨fun pins s σ H E I hq => ?_⟩
  rw [exec_Assign_Name_used _ _ _ _ sw]
  refine wpAny_bind (wpAny_standAt (wpAny_bind ?_))
  show wpAny _ X.A (do let _ ← comprehension (.DictComp kx vx [⟨tg, iter, ifs, 0⟩] scp pc) scp X.env (firstIterPos [⟨tg, iter, ifs, 0⟩] pc) newDict false (eval iter X.env) (some (assign (.Name nm pn) X.env))) _ _ s
  have hq : tDc wi g tt tk tv (own.map (·.2)) σ H (fun x H1 => gName i x σ H1 E.nx) := hq
  refine wpAny_bind (thn (dc_core (Qf := fun _ s' => SP X pins E .next s') calm nd I hi blk hg ht hk he hs hq fun L C s' m H' I' q hn f => ?_) fun _ s' z => wpAny_pure (wpAny_pure z))
  show wpAny _ _ (assign (.Name nm pn) X.env (.ref L)) _ _ _
  refine wpAny_assign_Name (store_ok2 (v := V.ref L) I' nd at_ (.inl loc) rfl (fun s2 I2 ⟨ad, sb, had⟩ => ?_) (.inr loc))
  obtain ⟨f0, f1, f2, f3, f4, f5⟩ := f
  have ne : C ≠ ad := by
    rcases had with z | z
    · rw [z]; exact f1
    · exact fun e => f4 nm ad z e.symm
  exact ⟨m, hn.sameBut sb ne, fun h3 sb3 => ⟨_, H', I2.turned (t' := s2.toks) (fun b o hb e => (sb3.2 b hb).trans e) f0 f1 f3 f4 f5, q⟩⟩
theorem s_dc (c : Ctx free D n N sc X) {kx vx : CE} {t : CT} {it : CI} {ifs : CEs} {scp : Scope} {own : List (Str × Nat)} {p : Pos} (ok : blkC N sc scp own = true) (hsl : ∀ j ∈ t.slots, j ∈ own.map (·.2))
    (hi : PI X t.py it.py (tI X.K D it))
    (hg : ∀ (s : Shared) (H : Hp) (C : Addr) (cl : List (Str × Addr)) (fp : List Addr), PG (X.blk s H scp (compEnvC scp cl C X.env) fp) t.py (tT X.K t)) (ht : ∀ (s : Shared) (H : Hp) (C : Addr) (cl : List (Str × Addr)) (fp : List Addr), PTs (X.blk s H scp (compEnvC scp cl C X.env) fp) ifs.py (tTests X.K D ifs))
    (hk : ∀ (s : Shared) (H : Hp) (C : Addr) (cl : List (Str × Addr)) (fp : List Addr), PE (X.blk s H scp (compEnvC scp cl C X.env) fp) kx.py (tEv X.K D kx))
    (he : ∀ (s : Shared) (H : Hp) (C : Addr) (cl : List (Str × Addr)) (fp : List Addr), PE (X.blk s H scp (compEnvC scp cl C X.env) fp) vx.py (tEv X.K D vx)) :
    ∃ tl, (∀ σ H Q, tEv X.K D (.dcm kx vx t it ifs scp own p) σ H Q → tl σ H Q) ∧ PE X (CE.dcm kx vx t it ifs scp own p).py tl ∧
      (∀ {i : Nat} {y : Str} {py spos : Pos}, N[i]? = some y → sc.names.lookup y = some .local → swapsWith (CE.dcm kx vx t it ifs scp own p).py (some (.Name y py)) spos.line X.env = pure true → PS X (.Assign [.Name y py] (CE.dcm kx vx t it ifs scp own p).py spos) (tAsg tl (gName i))) := by
  have blk : BlkOk X.N X.env.scope scp own := by rw [c.hN, c.sc]; exact blkOk_by ok
  refine ⟨tDc (tI X.K D it) (tT X.K t) (tTests X.K D ifs) (tEv X.K D kx) (tEv X.K D vx) (own.map fun z : Str × Nat => z.2), ?_, pe_dc (pos := p) c.calm (by rw [c.hN]; exact c.nd) hi blk hg ht hk he (fun x => folded_not it _ x), fun hy hyl hsw => ?_⟩
  · rintro σ H Q ⟨S, Hf, F, r, S', rel, hev, q⟩
    unfold ev at hev
    rw [Option.bind_eq_some_iff] at hev
    obtain ⟨⟨vs, S1⟩, e1, hev⟩ := hev
    rw [Option.bind_eq_some_iff] at hev
    obtain ⟨⟨ws, S2⟩, e2, hev⟩ := hev
    rw [gd_some] at hev
    obtain ⟨fl, hev⟩ := hev
    rw [Option.map_eq_some_iff] at hev
    obtain ⟨kvs, eput, hev⟩ := hev
    obtain ⟨rfl, rfl⟩ := Prod.mk.inj hev
    have fl := of_decide_eq_true fl
    have e2 : compL (dcTurn D kx vx t ifs (own.map (·.2))) vs (wipeS S1 (own.map (·.2))) = some (ws, S2) := e2
    refine ⟨S, Hf, F, vs, S1, rel, e1, fun J H1 Hf1 F1 rel1 st1 p1 w => fun D0 hD => ?_⟩
    obtain ⟨F1', relw, subw⟩ := rel1.wipe (own.map (·.2))
    have relw2 := relw.anyAt (own.map (·.2)) fun i hi hl => wipeS_at hi (by rw [wipeS_len] at hl; exact hl)
    let vl := own.map (·.2)
    let pu := kx.pure && vx.pure && ifs.pure
    have a0 : AccG (MkD X.K) X.K Hf1 F1' H1 D0 pu (wipe σ vl) [] (wipeS S1 vl) Hf1 F1' (.dK []) (upd H1 D0 (.dK [])) := AccG.start relw2 hD ⟨[], [], rfl, rfl, .nil⟩
    refine it_loop w (fun i H' => ∃ Si Hfi Fi ob done rest, AccG (MkD X.K) X.K Hf1 F1' H1 D0 pu (wipe σ vl) done Si Hfi Fi ob H' ∧ compL (dcTurn D kx vx t ifs vl) (vs.drop i) Si = some (rest, S2) ∧ done ++ rest = ws ∧ ∃ R, Si = wipeS R vl) ?_ ?_ ?_ ?_
    · exact ⟨_, _, _, _, [], ws, a0, by rw [List.drop_zero]; exact e2, rfl, _, rfl⟩
    · rintro i H' _ ⟨Si, Hfi, Fi, ob, done, rest, a, _⟩
      exact a.st.hf.trans a.rel.sub
    · rintro i x H2 H3 hi ⟨Si, Hfi, Fi, ob, done, rest, a, ec, ew, _⟩ yi
      obtain ⟨v, hv⟩ : ∃ v, vs[i]? = some v := ⟨vs[i], List.getElem?_eq_getElem hi⟩
      obtain ⟨o, S3, rest', f1, f2, rfl⟩ := compL_step hv ec
      refine dc_turn (tot := ws.length) a a.st.hf yi hv f1 hsl (fun h => h) ?_ fl ?_ wipe_wipe fun Hf4 F4 ob4 H4 τ4 wp a4 _ => ?_
      · have := congrArg List.length ew
        simp only [List.length_append] at this ⊢
        omega
      · rw [← ew, ← List.append_assoc, putAll_app] at eput
        rw [Option.bind_eq_some_iff] at eput
        obtain ⟨z, hz, _⟩ := eput
        exact ⟨z, hz⟩
      · exact ⟨S3, Hf4, F4, ob4, done ++ o, rest', a4, f2, by rw [List.append_assoc]; exact ew, dcTurn_wiped f1⟩
    · rintro H2 ⟨Si, Hfi, Fi, ob, done, rest, a, ec, ew, R, eR⟩
      obtain ⟨rfl, rfl⟩ := compL_end ec
      rw [List.append_nil] at ew
      subst ew
      have hw0 : ∀ i ∈ vl, i < S2.length → S2[i]? = some none := by
        intro i hi hl
        rw [eR] at hl ⊢
        exact wipeS_at hi (by rw [wipeS_len] at hl; exact hl)
      have relF := Rel.ofWipe vl hw0 a.rel
      obtain ⟨kvs', ks, eo, ep, rk⟩ := a.rep
      subst eo
      rw [eput] at ep
      cases ep
      have ow : Own X.K Hfi H2 1 (.dic kvs) (.ref D0) [D0] := .dic a.at_ rk.ownK
      refine q _ H2 Hfi Fi ⟨relF, st1.trans ⟨a.st.hf, fun b o e n => a.st.fr b o e fun z => n (subw b z), fun b o e n => a.st.new b o e fun z => n (subw b z), fun b h => (a.st.own b h).imp (subw b) id⟩, [D0], ow, ?_, ?_, ?_⟩ fun hp => ?_
      · rw [List.nodup_append]
        refine ⟨a.rel.nd, by simp, fun b hb d hd e => ?_⟩
        have : d = D0 := by simpa using hd
        rw [e, this] at hb
        exact a.out hb
      · intro b hb
        have : b = D0 := by simpa using hb
        rw [this]; exact a.off
      · intro b hb
        have : b = D0 := by simpa using hb
        rw [this]; exact st1.fresh hD
      · unfold CE.pure at hp
        simp only [Bool.and_eq_true] at hp
        exact (p1 hp.1.2).trans (a.pu (by show (kx.pure && vx.pure && ifs.pure) = true; rw [hp.1.1.1, hp.1.1.2, hp.2]; rfl))
  · exact ps_nameDc c.calm (by rw [c.hN]; exact c.nd) (by rw [c.hN]; exact hy) (by rw [c.sc]; exact hyl) hsw hi blk hg ht hk he (fun x => folded_not it _ x)
end
end BV
/-! Set comprehensions of two clauses. -/
namespace BV
open PySem PySem.Spec PyProof.Rows L2
/-- a set comprehension of two clauses -/
abbrev scE (el a i b j : Expr) (us vs : List Expr) (scp : Scope) (p : Pos) : Expr := .SetComp el [⟨a, i, us, 0⟩, ⟨b, j, vs, 0⟩] scp p
section
variable {el a i b j : Expr} {us vs : List Expr} {scp : Scope} {p : Pos} {env : Env} {it acc : Value}
theorem sc_turn0 : compTurn (scE el a i b j us vs scp p) 0 it acc env = (do
      standAt i.pos
      match ← pyNext it with
      | none => pure (.done .next)
      | some v =>
        letOwnedTupleGo a it v
        assign a env v
        let mut ok := true
        for c in us do
          if ok then ok ← isTrue c env (eval c env)
        if ok then
          let x ← eval j env
          standAt j.pos
          let x ← foldedSetIterable j env x
          let _ ← runOwn (.compStart (scE el a i b j us vs scp p) 1 (← holding [x] (pyIter x)) acc env) env
        again (.compLoop (scE el a i b j us vs scp p) 0 it acc env)) := by rfl
theorem sc_turn1 : compTurn (scE el a i b j us vs scp p) 1 it acc env = (do
      standAt j.pos
      match ← pyNext it with
      | none => pure (.done .next)
      | some v =>
        letOwnedTupleGo b it v
        assign b env v
        let mut ok := true
        for c in vs do
          if ok then ok ← isTrue c env (eval c env)
        if ok then
          (do let v ← eval el env; standAt el.pos; let _ ← call (.builtin "set.add") [acc, v])
        again (.compLoop (scE el a i b j us vs scp p) 1 it acc env)) := by rfl
variable {prog : Program} {w : World} {A : Around} {R : Result → Shared → Prop} {s : Shared}
/-- the tests of a clause, one after the other -/
abbrev testsOf (cs : List Expr) (env : Env) : Sem Bool := forIn cs true fun c r => if r = true then do let ok ← isTrue c env (eval c env); pure (ForInStep.yield ok) else pure (ForInStep.yield r)
theorem sc_loop0 (hj : ∀ x, foldedSetIterable j env x = pure x) (J : Nat → Shared → Prop)
    (turn : ∀ n s, J n s → wpAny (model prog w) A (pyNext it) (fun r s1 => match r with
      | none => R (.ok .next) s1
      | some v => wpAny (model prog w) A (letOwnedTupleGo a it v) (fun _ s2 => wpAny (model prog w) A (assign a env v) (fun _ s3 => wpAny (model prog w) A (testsOf us env) (fun ok s4 =>
          if ok = true then wpAny (model prog w) A (eval j env) (fun x s5 => wpAny (model prog w) A (pyIter x) (fun it1 s6 =>
              codeAny (model prog w) A (.compStart (scE el a i b j us vs scp p) 1 it1 acc env) (fun r s' => match r with
                | .ok _ => ∃ m, m < n ∧ J m s'
                | .error _ => False) s6) (fun _ _ => False) s5) (fun _ _ => False) s4
          else ∃ m, m < n ∧ J m s4) (fun _ _ => False) s3) (fun _ _ => False) s2) (fun _ _ => False) s1) (fun _ _ => False) s) (n : Nat) (h : J n s) :
    codeAny (model prog w) A (.compLoop (scE el a i b j us vs scp p) 0 it acc env) R s := by
  refine codeAny_loop rfl J (fun n s hJ => ?_) n h
  refine wpAny_noted (show wpAny _ A (compTurn (scE el a i b j us vs scp p) 0 it acc env) _ _ s from ?_)
  rw [sc_turn0]
  refine wpAny_bind (wpAny_standAt (wpAny_bind (thnF (turn n s hJ) fun r s1 h1 => ?_)))
  cases r with
  | none => exact wpAny_pure h1
  | some v =>
    refine wpAny_bind (thnF h1 fun _ s2 h2 => wpAny_bind (thnF h2 fun _ s3 h3 => wpAny_bind (thnF h3 fun ok s4 h4 => ?_)))
    cases ok with
    | false => exact wpAny_pure ⟨rfl, h4⟩
    | true =>
      refine wpAny_bind (thnF h4 fun x s5 h5 => wpAny_bind (wpAny_standAt (wpAny_bind (wpAny_of_eq (hj x) (wpAny_bind (wpAny_holding (thnF h5 fun it1 s6 h6 => wpAny_bind (wpAny_runOwn ?_))))))))
      rw [Around.mark_none]
      refine codeAny_mono h6 fun r s' hr => ?_
      cases r with
      | ok f => exact wpAny_pure ⟨rfl, hr⟩
      | error e => exact hr.elim
theorem sc_loop1 (J : Nat → Shared → Prop)
    (turn : ∀ n s, J n s → wpAny (model prog w) A (pyNext it) (fun r s1 => match r with
      | none => R (.ok .next) s1
      | some v => wpAny (model prog w) A (letOwnedTupleGo b it v) (fun _ s2 => wpAny (model prog w) A (assign b env v) (fun _ s3 => wpAny (model prog w) A (testsOf vs env) (fun ok s4 =>
          if ok = true then wpAny (model prog w) A (eval el env) (fun x s5 => wpAny (model prog w) A (call (.builtin "set.add") [acc, x]) (fun _ s6 => ∃ m, m < n ∧ J m s6) (fun _ _ => False) s5) (fun _ _ => False) s4
          else ∃ m, m < n ∧ J m s4) (fun _ _ => False) s3) (fun _ _ => False) s2) (fun _ _ => False) s1) (fun _ _ => False) s) (n : Nat) (h : J n s) :
    codeAny (model prog w) A (.compLoop (scE el a i b j us vs scp p) 1 it acc env) R s := by
  refine codeAny_loop rfl J (fun n s hJ => ?_) n h
  refine wpAny_noted (show wpAny _ A (compTurn (scE el a i b j us vs scp p) 1 it acc env) _ _ s from ?_)
  rw [sc_turn1]
  refine wpAny_bind (wpAny_standAt (wpAny_bind (thnF (turn n s hJ) fun r s1 h1 => ?_)))
  cases r with
  | none => exact wpAny_pure h1
  | some v =>
    refine wpAny_bind (thnF h1 fun _ s2 h2 => wpAny_bind (thnF h2 fun _ s3 h3 => wpAny_bind (thnF h3 fun ok s4 h4 => ?_)))
    cases ok with
    | false => exact wpAny_pure ⟨rfl, h4⟩
    | true => exact wpAny_bind (wpAny_bind (thnF h4 fun x s5 h5 => wpAny_bind (wpAny_standAt (wpAny_bind (thnF h5 fun _ s6 h6 => wpAny_pure (wpAny_pure ⟨rfl, h6⟩))))))
theorem sc_start (k : Nat) (hk : k = 0 ∨ k = 1) (h0 : codeAny (model prog w) A (.compLoop (scE el a i b j us vs scp p) k it acc env) R s)
    (h : wpAny (model prog w) A (pyIter it) (fun it' s' => codeAny (model prog w) A (.compLoop (scE el a i b j us vs scp p) k it' acc env) R s') (fun _ _ => False) s) :
    codeAny (model prog w) A (.compStart (scE el a i b j us vs scp p) k it acc env) R s := by
  refine codeAny_of_tree (wpAny_notedAt (show wpAny _ _ (compStart (scE el a i b j us vs scp p) k it acc env) _ _ s from ?_))
  rcases hk with rfl | rfl
  · unfold compStart
    refine wpAny_bind (m := ask) (wpAny_askSetting (wpAny_ite ?_))
    split
    · exact wpAny_pure ⟨rfl, h0⟩
    · refine wpAny_bind (wpAny_rule (wpAny_bind (m := standAt i.pos) (wpAny_standAt (wpAny_bind (thnF h fun it' s' h' => wpAny_pure ⟨rfl, h'⟩)))))
  · unfold compStart
    refine wpAny_bind (m := ask) (wpAny_askSetting (wpAny_ite ?_))
    split
    · exact wpAny_pure ⟨rfl, h0⟩
    · refine wpAny_bind (wpAny_rule (wpAny_bind (m := standAt j.pos) (wpAny_standAt (wpAny_bind (thnF h fun it' s' h' => wpAny_pure ⟨rfl, h'⟩)))))
end
/-- the set at D, a thing more -/
def addS (w : World) (D : Addr) (H : Hp) (Nx : Hp → Prop) (y : V) : Prop := ∃ (k : Int) (S : Int → Bool) (n : Nat), y = .int k ∧ H D = some (SetO w D S n) ∧ n + 1 < scanBound ∧ Nx (upd H D (SetO w D (fun z => S z || decide (z = k)) (if S k = true then n else n + 1)))
/-- what a walk over J is asked: at each turn it stops, or a thing comes and B leads on -/
def walks (J : It) (B : (Hp → Prop) → V → Hp → Prop) (H0 : Hp) (Qd : Hp → Prop) : Prop := ∃ W : Nat → Nat → Hp → Prop, (∃ m, W 0 m H0) ∧ ∀ i m H, W i m H →
  (J.stop i H ∧ Qd H) ∨ (J.go i H ∧ ∃ Nx : Hp → Prop, (∀ H', Nx H' → ∃ m', m' < m ∧ W (i + 1) m' H') ∧ ∀ x H', J.yld i H x H' → B Nx x H')
def tSc2 (w : World) (wi : TI) (g : TG) (tt : TT) (wj : TI) (h : TG) (tu : TT) (te : TE) (all own1 : List Nat) : TE := fun σ H Q => wi σ H fun J H1 => ∀ D, H1 D = none →
  walks J (fun Nx x H2 => g x (wipe σ all) H2 fun σ2 H3 => wipe σ2 all = wipe σ all ∧ tt σ2 H3 fun t H4 => if t = true then
      wj σ2 H4 fun J1 H5 => walks J1 (fun Ny y H6 => h y (wipe σ2 own1) H6 fun σ3 H7 => wipe σ3 own1 = wipe σ2 own1 ∧ tu σ3 H7 fun u H8 => if u = true then te σ3 H8 fun z H9 => addS w D H9 Ny z else Ny H8) H5 Nx
    else Nx H4) (upd H1 D (SetO w D (fun _ => false) 0)) fun H2 => Q (.ref D) H2
section
variable {X : Cx}
/-- set.add of an int -/
theorem add_int {pins : List (Addr × Obj)} {σ : L2.St} {H : Hp} {s : Shared} {E : Value → Shared → Prop} {D : Addr} {y : V} {u : Value} {Nx : Hp → Prop} {Q : Value → Shared → Prop} (I : Inv X pins σ H s) (r : RelV y u) (h : addS X.w D H Nx y)
    (k : ∀ s' H', Inv X pins σ H' s' → Nx H' → Q .none s') : wpAny (model X.prog X.w) X.A (call (.builtin "set.add") [.ref D, u]) Q E s := by
  obtain ⟨z, S, n, rfl, hD, room, nx⟩ := h
  obtain ⟨t, rfl⟩ := r
  refine setR_add (setO_get I hD) room fun h' sb new => k _ _ ?_ nx
  refine I.write (e := D) (t' := s.toks + 1) (by rw [hD]; trivial) (.inl rfl) (fun c o hc ho => (sb.2 c hc).trans ho) ?_ (setO_new new)
  have ⟨o, _, _, _, ho, _⟩ := new
  exact ⟨o, ho⟩
theorem sc2_core {pins : List (Addr × Obj)} {s : Shared} {σ : L2.St} {H : Hp} {Q : VK} {el a i b j : Expr} {us vs : List Expr} {scp : Scope} {own : List (Str × Nat)} {own1 : List Nat} {p p' : Pos} {wi wj : TI} {g h : TG} {tt tu : TT} {te : TE}
    (calm : X.calm = true) (nd : X.N.Nodup) (inv : Inv X pins σ H s) (hi : PI X a i wi) (blk : BlkOk X.N X.env.scope scp own) (sub : ∀ k ∈ own1, k ∈ own.map (·.2))
    (hg : ∀ (s : Shared) (H : Hp) (C : Addr) (cl : List (Str × Addr)) (fp : List Addr), PG (X.blk s H scp (compEnvC scp cl C X.env) fp) a g)
    (ht : ∀ (s : Shared) (H : Hp) (C : Addr) (cl : List (Str × Addr)) (fp : List Addr), PTs (X.blk s H scp (compEnvC scp cl C X.env) fp) us tt)
    (hj : ∀ (s : Shared) (H : Hp) (C : Addr) (cl : List (Str × Addr)) (fp : List Addr), PI (X.blk s H scp (compEnvC scp cl C X.env) fp) b j wj)
    (hh : ∀ (s : Shared) (H : Hp) (C : Addr) (cl : List (Str × Addr)) (fp : List Addr), PG (X.blk s H scp (compEnvC scp cl C X.env) fp) b h)
    (hu : ∀ (s : Shared) (H : Hp) (C : Addr) (cl : List (Str × Addr)) (fp : List Addr), PTs (X.blk s H scp (compEnvC scp cl C X.env) fp) vs tu)
    (he : ∀ (s : Shared) (H : Hp) (C : Addr) (cl : List (Str × Addr)) (fp : List Addr), PE (X.blk s H scp (compEnvC scp cl C X.env) fp) el te)
    (fi : ∀ x, foldedSetIterable i X.env x = pure x) (fj : ∀ env x, foldedSetIterable j env x = pure x) (q : tSc2 X.w wi g tt wj h tu te (own.map (·.2)) own1 σ H Q) :
    wpAny (model X.prog X.w) X.A (eval (scE el a i b j us vs scp p) X.env) (EP X pins σ Q) X.xe s := by
  have cells : ∀ y ∈ scp.names, y.2 = .free → ∃ c, X.env.cells.lookup y.1 = some c := fun y hy e => (blk.free y hy e).elim (fun k => inv.ok.has _ (.inl k)) fun k => inv.ok.has _ (.inr k)
  refine wpAny_comprehension_free (use := none) rfl fi (closure_ok cells) blk.kind (fun y hy e => by rw [blk.uniq y hy, e]) (thn (hi.run pins s σ H _ inv q) fun xv sA hx => thn hx fun itv sB hB => ?_)
  obtain ⟨it, fp, tn, J, HB, rfl, invB, T, stB, fpB, wk⟩ := hB
  refine PpSet.newSet_ok (newEnv_comp ?_)
  obtain ⟨W, ⟨m0, w0⟩, turn⟩ := wk sB.heap.objs.size (invB.hok.fresh (Nat.le_refl _))
  let D : Addr := sB.heap.objs.size
  let H0 : Hp := upd HB D (SetO X.w D (fun _ => false) 0)
  let sC : Shared := { sB with heap := sB.heap.push { cls := .type "set", dict := none, data := .set #[] 0 (.fresh 0 0 (!X.w.params.followText "set-order")) } }
  have invC : Inv X pins σ H0 sC := invB.laid (t' := sB.toks) (fun c o e => Heap.get?_push_of_some _ e) (Nat.le_refl _) (setO_new (setR_fresh X.w))
  have low : ∀ c ∈ fp, c < sB.heap.objs.size := fun c hc => let ⟨_, e, _⟩ := T.obj _ _ stB c hc; Heap.lt_size e
  have fpC : ∀ c ∈ fp, FpOk X pins H0 c ∧ c < sC.heap.objs.size := fun c hc => by
    refine ⟨⟨?_, (fpB c hc).2⟩, ?_⟩
    · show upd HB D _ c = none
      rw [upd_ne (Nat.ne_of_lt (low c hc))]
      exact (fpB c hc).1
    · show c < (sB.heap.push _).objs.size
      rw [Heap.size_push]
      exact Nat.lt_succ_of_lt (low c hc)
  have stC : tn 0 sC.heap := T.keep _ _ _ stB fun c _ o e => Heap.get?_push_of_some _ e
  have invD := block_start invC blk nd fpC
  let cl := cellsFrom (sC.heap.objs.size + 1) scp.names (cloFrom X.env.cells scp.names [])
  have pg := hg sC H0 sC.heap.objs.size cl fp
  have pt := ht sC H0 sC.heap.objs.size cl fp
  have pj := hj sC H0 sC.heap.objs.size cl fp
  have ph := hh sC H0 sC.heap.objs.size cl fp
  have pu := hu sC H0 sC.heap.objs.size cl fp
  have pe := he sC H0 sC.heap.objs.size cl fp
  have eL : (compEnvC scp cl sC.heap.objs.size X.env).locals = sC.heap.objs.size := rfl
  show codeAny _ _ (.compStart (scE el a i b j us vs scp p) 0 (.ref it) (.ref D) (compEnvC scp cl sC.heap.objs.size X.env)) (compPost (model X.prog X.w) X.A X.xe none (EP X pins σ Q) (.ref D) sC.heap.objs.size) { sC with heap := pushCells (sC.heap.push { cls := .type "dict", data := .dict #[] }) scp.names }
  have gone : ∀ c ∈ fp, H0 c = none := fun c hc => (fpC c hc).1.1
  have stD : tn 0 (pushCells (sC.heap.push { cls := .type "dict", data := .dict #[] }) scp.names) := T.keep _ _ _ stC fun c _ o e => pushCells_keeps _ _ _ _ (Heap.get?_push_of_some _ e)
  have invD : Inv (X.blk sC H0 scp (compEnvC scp cl sC.heap.objs.size X.env) fp) [] (wipe σ (own.map (·.2))) H0 { sC with heap := pushCells (sC.heap.push { cls := .type "dict", data := .dict #[] }) scp.names } := invD
  generalize (compEnvC scp cl sC.heap.objs.size X.env) = ce at *
  let B := X.blk sC H0 scp ce fp
  have free : ∀ {σ' : L2.St} {H' : Hp} {s' : Shared}, Inv B [] σ' H' s' → (∀ c ∈ fp, H' c = none) → ∀ c ∈ fp, FpOk B [] H' c := fun {σ' H' s'} I' hn c hc =>
    ⟨hn c hc, (I'.ok.exf c hc).1, I'.ok.exfs c hc, .inl hc, fun x d e => (I'.ok.exf c hc).2 x d e, fun q hq => by
      have hq : q ∈ ([] : List (Addr × Obj)) ++ [] := hq
      cases hq⟩
  let All : Nat → Shared → Prop := fun n s' => ∃ k H', Inv B [] (wipe σ (own.map (·.2))) H' s' ∧ tn k s'.heap ∧ (∀ c ∈ fp, H' c = none) ∧ W k n H'
  have loop : codeAny (model X.prog X.w) X.A (.compLoop (scE el a i b j us vs scp p) 0 (.ref it) (.ref D) ce) (compPost (model X.prog X.w) X.A X.xe none (EP X pins σ Q) (.ref D) sC.heap.objs.size) { sC with heap := pushCells (sC.heap.push { cls := .type "dict", data := .dict #[] }) scp.names } := by
    refine sc_loop0 (fj ce) All ?_ m0 ⟨0, H0, invD, stD, gone, w0⟩
    rintro n s1 ⟨k, H1, I1, st1, n1, w1⟩
    rcases turn k n H1 w1 with ⟨stop, done⟩ | ⟨go, Nx, hNx, step⟩
    · refine thnF (T.done B rfl rfl rfl calm k [] s1 _ H1 (fun _ _ => False) I1 (free I1 n1) st1 stop) fun r s2 ⟨hr, I2⟩ => ?_
      subst hr
      have I3 : Inv X pins σ H1 s2 := invC.call' (ch := fp) I2.os I2.base I2.hok I2.bare fun c hc => ⟨(fpC c hc).1.2.2.2.1, (fpC c hc).1.2.1, (fpC c hc).1.2.2.2.2.1, (fpC c hc).1.2.2.2.2.2⟩
      have hC : H1 sC.heap.objs.size = none := by
        have := I2.free
        rw [← eL]
        exact this
      obtain ⟨m, hn, _⟩ := I2.loc
      have hn : s2.heap.Ns sC.heap.objs.size m := by
        rw [← eL]
        exact hn
      obtain ⟨f0, f1, f2, f3, f4, f5⟩ := invC.fpOk (Nat.le_refl _) hC
      exact ⟨m, hn, fun h'' sb => ⟨.ref D, H1, I3.turned (t' := s2.toks) (fun c o hc e => (sb.2 c hc).trans e) f0 f1 f3 f4 f5, rfl, done⟩⟩
    · refine thnF (T.item B rfl rfl rfl calm k [] s1 _ H1 (fun _ _ => False) I1 (free I1 n1) st1 go) fun r s2 ⟨u, hr, h2⟩ => ?_
      subst hr
      refine thnF h2 fun _ s3 ⟨x, H3, I3, r3, y3, st3, n3⟩ => ?_
      have I3' := I3.pinned (free I3 n3) (T.obj _ _ st3)
      refine thnF (pg.run _ s3 _ H3 x u _ I3' r3 (step x H3 y3)) fun _ s4 ⟨σ4, H4, I4, w4, q4⟩ => ?_
      refine thnF (pt.run _ s4 σ4 H4 _ I4 q4) fun t s5 ⟨H5, I5, q5⟩ => ?_
      have len4 : (wipe σ (own.map (·.2))).length = σ4.length := by rw [← w4, wipe_length]
      have back : ∀ {τ : L2.St} {s' : Shared} {H' : Hp}, Inv B ([] ++ pinsAt fp s3.heap) τ H' s' → (wipe σ (own.map (·.2))).length = τ.length → (∀ (c : Nat) v, (wipe σ (own.map (·.2)))[c]? = some (some v) → τ[c]? = some (some v)) → Nx H' → ∃ m, m < n ∧ All m s' := fun {τ s' H'} I' hl hk nx => by
        obtain ⟨m', hm, w'⟩ := hNx H' nx
        have keep : ∀ c ∈ fp, ∀ o, s3.heap.get? c = some o → s'.heap.get? c = some o ∧ H' c = none := fun c hc o e =>
          ⟨(I'.pin (c, o) (List.mem_append_right _ (List.mem_append_right _ (mem_pinsAt hc e)))).1, (I'.pin (c, o) (List.mem_append_right _ (List.mem_append_right _ (mem_pinsAt hc e)))).2.1⟩
        exact ⟨m', hm, k + 1, H', (I'.unpinned (pins := [])).weak hl hk, T.keep _ _ _ st3 fun c hc o e => (keep c hc o e).1, fun c hc => let ⟨o, e, _⟩ := T.obj _ _ st3 c hc; (keep c hc o e).2, w'⟩
      cases t with
      | false => exact back I5 len4 (fun c v e => by rw [← w4] at e; exact (wipe_some e).1) q5
      | true =>
        refine thnF (pj.run _ s5 σ4 H5 _ I5 q5) fun xv s6 hx => thnF hx fun itv s7 h7 => ?_
        obtain ⟨it1, fp1, tn1, J1, H7, rfl, I7, T1, st7, f7, W1, ⟨m1, w1'⟩, turn1⟩ := h7
        have free1 : ∀ {H' : Hp}, (∀ c ∈ fp1, H' c = none) → ∀ c ∈ fp1, FpOk B ([] ++ pinsAt fp s3.heap) H' c := fun hn c hc => ⟨hn c hc, (f7 c hc).2⟩
        let All1 : Nat → Shared → Prop := fun m s' => ∃ l H', Inv B ([] ++ pinsAt fp s3.heap) (wipe σ4 own1) H' s' ∧ tn1 l s'.heap ∧ (∀ c ∈ fp1, H' c = none) ∧ W1 l m H'
        have inner : codeAny (model X.prog X.w) X.A (.compLoop (scE el a i b j us vs scp p) 1 (.ref it1) (.ref D) ce) (fun r s' => match r with
            | .ok _ => ∃ m, m < n ∧ All m s'
            | .error _ => False) s7 := by
          refine sc_loop1 All1 ?_ m1 ⟨0, H7, I7.weak (wipe_length _ _) (fun c v e => (wipe_some e).1), st7, fun c hc => (f7 c hc).1, w1'⟩
          rintro m s8 ⟨l, H8, I8, st8, n8, w8⟩
          rcases turn1 l m H8 w8 with ⟨stop1, nx1⟩ | ⟨go1, Ny, hNy, step1⟩
          · refine thnF (T1.done B rfl rfl rfl calm l _ s8 (wipe σ4 own1) H8 (fun _ _ => False) I8 (free1 n8) st8 stop1) fun r s9 ⟨hr, I9⟩ => ?_
            subst hr
            refine back I9 (len4.trans (wipe_length σ4 own1).symm) (fun c v e => ?_) nx1
            rw [← w4] at e
            obtain ⟨e1, e2⟩ := wipe_some e
            rw [wipe_out fun z => e2 (sub c z)]
            exact e1
          · refine thnF (T1.item B rfl rfl rfl calm l _ s8 (wipe σ4 own1) H8 (fun _ _ => False) I8 (free1 n8) st8 go1) fun r s9 ⟨u1, hr, h9⟩ => ?_
            subst hr
            refine thnF h9 fun _ sa ⟨x1, Ha, Ia, ra, ya, sta, na⟩ => ?_
            have Ia' := Ia.pinned (free1 na) (T1.obj _ _ sta)
            refine thnF (ph.run _ sa (wipe σ4 own1) Ha x1 u1 _ Ia' ra (step1 x1 Ha ya)) fun _ sb ⟨σb, Hb, Ib, wb, qb⟩ => ?_
            refine thnF (pu.run _ sb σb Hb _ Ib qb) fun t1 sc ⟨Hc, Ic, qc⟩ => ?_
            have on : ∀ {s' : Shared} {H' : Hp}, Inv B (([] ++ pinsAt fp s3.heap) ++ pinsAt fp1 sa.heap) σb H' s' → Ny H' → ∃ m', m' < m ∧ All1 m' s' := fun {s' H'} I' ny => by
              obtain ⟨m', hm, w'⟩ := hNy H' ny
              have keep : ∀ c ∈ fp1, ∀ o, sa.heap.get? c = some o → s'.heap.get? c = some o ∧ H' c = none := fun c hc o e =>
                ⟨(I'.pin (c, o) (List.mem_append_right _ (List.mem_append_right _ (mem_pinsAt hc e)))).1, (I'.pin (c, o) (List.mem_append_right _ (List.mem_append_right _ (mem_pinsAt hc e)))).2.1⟩
              exact ⟨m', hm, l + 1, H', I'.unpinned.weak (by rw [← wb, wipe_length]) (fun c v e => by rw [← wb] at e; exact (wipe_some e).1), T1.keep _ _ _ sta fun c hc o e => (keep c hc o e).1, fun c hc => let ⟨o, e, _⟩ := T1.obj _ _ sta c hc; (keep c hc o e).2, w'⟩
            cases t1 with
            | false => exact on Ic qc
            | true => exact thnF (pe.run _ sc σb Hc _ Ic qc) fun z sd ⟨yv, Hd, Id, rd, ad⟩ => add_int (X := B) Id rd ad fun s' H' I' ny => on I' ny
        exact sc_start 1 (.inr rfl) inner (T1.self X.A 0 _ _ _ st7 inner)
  exact sc_start 0 (.inl rfl) loop (T.self X.A 0 _ _ _ stD loop)
end
end BV
/-! sorted({.. for .. for ..}). -/
namespace BV
open PySem PySem.Spec PyProof.Rows L2
/-! ### rising lists -/
theorem mem_insU {x z : Int} : ∀ {l : List Int}, z ∈ insU x l ↔ z = x ∨ z ∈ l
  | [] => by simp [insU]
  | y :: r => by
    unfold insU
    split
    · simp
    · split
      · rename_i e
        subst e
        simp
      · rw [List.mem_cons, mem_insU, List.mem_cons]
        constructor
        · rintro (h | h | h)
          · exact .inr (.inl h)
          · exact .inl h
          · exact .inr (.inr h)
        · rintro (h | h | h)
          · exact .inr (.inl h)
          · exact .inl h
          · exact .inr (.inr h)
theorem rise_insU {x : Int} : ∀ {l : List Int}, l.Pairwise (· < ·) → (insU x l).Pairwise (· < ·)
  | [], _ => by simp [insU]
  | y :: r, h => by
    rw [List.pairwise_cons] at h
    unfold insU
    split
    · rename_i c
      refine List.pairwise_cons.mpr ⟨fun z hz => ?_, List.pairwise_cons.mpr h⟩
      rcases List.mem_cons.mp hz with rfl | hz
      · exact c
      · exact Int.lt_trans c (h.1 z hz)
    · split
      · exact List.pairwise_cons.mpr h
      · refine List.pairwise_cons.mpr ⟨fun z hz => ?_, rise_insU h.2⟩
        rcases mem_insU.mp hz with rfl | hz
        · omega
        · exact h.1 z hz
theorem mem_sortU {z : Int} : ∀ {l : List Int}, z ∈ sortU l ↔ z ∈ l
  | [] => by simp [sortU]
  | y :: r => by
    show z ∈ insU y (sortU r) ↔ _
    rw [mem_insU, mem_sortU, List.mem_cons]
theorem rise_sortU : ∀ {l : List Int}, (sortU l).Pairwise (· < ·)
  | [] => by simp [sortU]
  | y :: r => rise_insU (l := sortU r) rise_sortU
theorem rise_uniq : ∀ {l m : List Int}, l.Pairwise (· < ·) → m.Pairwise (· < ·) → (∀ k, k ∈ l ↔ k ∈ m) → l = m
  | [], [], _, _, _ => rfl
  | [], y :: m, _, _, h => by have := (h y).mpr (List.mem_cons_self ..); cases this
  | x :: l, [], _, _, h => by have := (h x).mp (List.mem_cons_self ..); cases this
  | x :: l, y :: m, hl, hm, h => by
    rw [List.pairwise_cons] at hl hm
    have e : x = y := by
      rcases List.mem_cons.mp ((h x).mp (List.mem_cons_self ..)) with e | e
      · exact e
      · rcases List.mem_cons.mp ((h y).mpr (List.mem_cons_self ..)) with f | f
        · exact f.symm
        · have := hl.1 y f
          have := hm.1 x e
          omega
    subst e
    congr 1
    refine rise_uniq hl.2 hm.2 fun k => ⟨fun hk => ?_, fun hk => ?_⟩
    · rcases List.mem_cons.mp ((h k).mp (List.mem_cons_of_mem _ hk)) with e | e
      · have := hl.1 k hk
        omega
      · exact e
    · rcases List.mem_cons.mp ((h k).mpr (List.mem_cons_of_mem _ hk)) with e | e
      · have := hm.1 k hk
        omega
      · exact e
theorem intsOf_map : ∀ {vs : List Val} {ks : List Int}, intsOf vs = some ks → vs = ks.map .int
  | [], ks, h => by cases h; rfl
  | v :: vs, ks, h => by
    cases v with
    | int i =>
      have h : (intsOf vs).map (i :: ·) = some ks := h
      rw [Option.map_eq_some_iff] at h
      obtain ⟨l, e, rfl⟩ := h
      rw [intsOf_map e]
      rfl
    | _ => cases h
/-! ### sorted of a set -/
section
variable {P : Program} {w : World} {A : Around} {E : Value → Shared → Prop} {s : Shared} {a : Addr}
theorem sorted_setA {S : Int → Bool} {n : Nat} {Q : Value → Shared → Prop} (R : SetR w s.heap a S n) (calm : A.handled = none)
    (done : ∀ s' p (out : List Value) (c : Nat) (ns : List Int), (∀ b o, s.heap.get? b = some o → s'.heap.get? b = some o) → s'.gens = s.gens → s'.os = s.os → s.heap.objs.size ≤ p →
      s'.heap.get? p = some (seqObj "list" out.toArray c) → IntsAre out ns → ns.Pairwise (· < ·) → (∀ k, k ∈ ns ↔ S k = true) → ns.length = n → Q (.ref p) s') :
    wpAny (model P w) A (call (.builtin "sorted") [.ref a]) Q E s := by
  obtain ⟨o, es, ep, t, ho, hex, hd, good, nd, mem, lim, fits, num, ris, led⟩ := R
  refine Calls.call_function_entry kind_sorted plain_sorted entry_sorted (args_sorted1 _) ?_
  unfold Builtin.«sorted»
  refine wpAny_bind (m := checkCount "sorted" 1 1 _) (wpAny_pure (wpAny_bind (collect_set (A := A.in1) calm ⟨o, ho, hex.1, hd⟩ fits lim ris led fun s1 vs k1 z1 g1 o1 pm => ?_)))
  have len : vs.length = n := by rw [pm.length_eq, List.length_map, Array.length_toList]; exact num
  have ii : IntsAre vs (vs.map Builtin.Re.reRawOf) := ints_of vs fun v hv => by
    obtain ⟨e, he, rfl⟩ := List.mem_map.mp (pm.mem_iff.mp hv)
    obtain ⟨k, tk, h1, _⟩ := good e he
    exact ⟨k, tk, h1⟩
  have keys : (vs.map Builtin.Re.reRawOf).Perm (es.toList.map L2.keyOf) := by
    have z := pm.map Builtin.Re.reRawOf
    rw [List.map_map] at z
    exact z
  have small : vs.length ≤ sizeLine := by
    have : es.size < 4096 := lim
    rw [len, ← num, sizeLine_eq]
    omega
  refine wpAny_bind (wpAny_newList ?_ small)
  have hoL : (s1.heap.push (seqObj "list" vs.toArray 0)).get? s1.heap.objs.size = some (seqObj "list" vs.toArray 0) := Heap.get?_push_size _ rfl
  refine wpAny_bind (wpAny_holding (wpAny_call_entry slot_list_sort ⟨_, hoL, rfl⟩ entry_list_sort (SrtO.list_sort_ord SrtO.swo_int hoL small (fun h2 => SrtO.ints_sortable ii h2) fun out h1 h2 => ⟨_, rfl, ?_⟩) (args_list_sort _)))
  obtain ⟨r1, r2, r3⟩ := SrtO.ints_out ii h1 h2
  obtain ⟨c, hc⟩ := sortedHeap_at (vs := vs) (out := out.toArray) hoL
  have perm := r2.trans keys
  refine wpAny_pure ⟨_, rfl, done _ s1.heap.objs.size out c (out.map SrtO.iv) (fun b u e => ?_) g1 o1 z1 hc r1 (lt_of_le_nodup _ r3 (perm.nodup_iff.mpr nd)) (fun k => by rw [perm.mem_iff, ← mem k]) ?_⟩
  · have q := k1 b u e
    have lt := Heap.lt_size q
    show (sortedHeap (s1.heap.push (seqObj "list" vs.toArray 0)) s1.heap.objs.size vs out.toArray).get? b = some u
    rw [sortedHeap_old (Nat.ne_of_lt lt) (by rw [size_push']; exact Nat.lt_succ_of_lt lt)]
    exact Heap.get?_push_of_some _ q
  · rw [perm.length_eq, List.length_map, Array.length_toList]; exact num
end
def rSortS (w : World) : List V → Hp → VK → Prop := fun vs H Q => ∃ (a : Addr) (S : Int → Bool) (n : Nat), vs = [V.ref a] ∧ H a = some (SetO w a S n) ∧
  ∀ (ns : List Int) (p : Addr), ns.Pairwise (· < ·) → (∀ k : Int, k ∈ ns ↔ S k = true) → ns.length ≤ sizeLine → H p = none → Q (.ref p) (upd H p (.lst (ns.map V.int)))
theorem cr_sortS {X : Cx} (calm : X.calm = true) : CallR X (.builtin "sorted") (rSortS X.w) := by
  intro pins s σ H vs us Q I r h
  obtain ⟨a, S, n, rfl, ha, q⟩ := h
  have R := setO_get I ha
  have lim : n ≤ sizeLine := by
    obtain ⟨o, es, ep, t, ho, hex, hd, good, nd, mem, lim, fits, num, ris, led⟩ := R
    have : es.size < 4096 := lim
    rw [← num, sizeLine_eq]
    omega
  rw [Vals.ref1 r]
  refine sorted_setA R (I.ok.hd calm) fun s' p out c ns k g o hp hg hi hs hm hl => ?_
  have len : (ns.map V.int).length ≤ sizeLine := by rw [List.length_map, hl]; exact lim
  have hn : H p = none := I.hok.fresh hp
  have J : Inv X pins σ (upd H p (.lst (ns.map V.int))) { s with heap := s'.heap, gens := s'.gens, drawn := s'.drawn, toks := s'.toks } :=
    I.call (ch := []) (Un.laid k hp hn) (I.hok.laid k hp ⟨len, out, c, vals_of_ints hi, hg⟩) (by rw [g]; exact I.bare) (fun _ z => nomatch z)
  have e : s' = { s with heap := s'.heap, gens := s'.gens, drawn := s'.drawn, toks := s'.toks } := by
    cases s'
    cases s
    cases o
    rfl
  rw [e]
  exact ⟨.ref p, _, J, rfl, q ns p hs hm (by rw [hl]; exact lim) hn⟩
end BV
/-! list(..) of any walk; zip, strict or not, as a walk. -/
namespace BV
open PySem PySem.Spec PyProof.Rows L2
section
variable {prog : Program} {w : World} {A : Around} {I : Addr} {fp wr : List Addr} {G : Array GenState → Array GenState → Prop} {n : Nat} {P : Nat → Value → Prop} {St : Nat → Shared → Prop} {T : String}
/-- an iterator's type that knows no length -/
structure NoLen (T : String) : Prop where
  len : typeLookup (.type T) "__len__" = pure none
  hint : typeLookup (.type T) "__length_hint__" = pure none
  nl : (Value.type T == Value.type "list") = false
  nt : (Value.type T == Value.type "tuple") = false
theorem grow_walk {R : Result → Shared → Prop} {s : Shared} (no : NoLen T) (W : WalksS prog w A.in1 I fp wr G n P St) (ty : ∀ i s, St i s → s.TypeIs (.ref I) T) (L : Addr) (res : Value) (c : Nat) (st : St 0 s) (out : L ∉ fp) (mem : I ∈ fp)
    (hL : s.heap.get? L = some { cls := .type "list", data := .seq #[] c }) (fits : n ≤ sizeLine)
    (k : ∀ s' acc c', Moved (L :: wr) G s s' → s'.heap.get? L = some { cls := .type "list", dict := none, data := .seq acc c', slots := #[] } → ItemsOf P acc n → R (.ok (.ret res)) s') :
    wpAny (model prog w) A.in1 (Builtin.List.listExtendWith (.ref L) (.ref I) res)
      (fun fin s' => match fin with | .done f => R (.ok f) s' | .again c' => c'.quiet = true ∧ codeAny (model prog w) A c' R s') (fun e s' => R (.error e) s') s := by
  have ne : L ≠ I := fun e => out (by rw [e]; exact mem)
  unfold Builtin.List.listExtendWith
  refine wpAny_bind (wpAny_typeOf (ty 0 _ st) ?_)
  have h1 : Builtin.List.listSameRef (.ref L) (.ref I) = false := by simp [Builtin.List.listSameRef, ne]
  simp only [h1, no.nl, no.nt, Bool.or_false, Bool.false_eq_true, if_false]
  refine wpAny_bind (W.self 0 _ _ _ st (wpAny_bind (wpAny_holding ?_)))
  unfold Builtin.List.listLengthHint
  refine wpAny_bind (wpAny_specialOf (ty 0 _ st) no.len ?_)
  refine wpAny_bind (m := specialOf (Value.ref I) (Str.ofString "__length_hint__")) (wpAny_specialOf (ty 0 _ st) no.hint (wpAny_pure ?_))
  refine wpAny_bind (m := rule "list.extend.makes-room") (wpAny_rule (wpAny_bind (m := Builtin.List.listTouch (.ref L)) ?_))
  show wpAny _ A.in1 (updateSeq L (·.push .none) >>= fun _ => updateSeq L (·.pop)) _ _ _
  refine wpAny_bind (wpAny_updateSeq hL rfl ?_)
  have g1 := Heap.get?_update_self (Obj.mapSeq (·.push Value.none)) hL rfl
  refine wpAny_updateSeq (hz := by seq_fits) g1 rfl ?_
  have g2 := Heap.get?_update_self (Obj.mapSeq (·.pop)) g1 rfl
  have oth : ∀ b o, b ≠ L → s.heap.get? b = some o → ((s.heap.update L (Obj.mapSeq (·.push Value.none))).update L (Obj.mapSeq (·.pop))).get? b = some o := fun b o hb e => by
    rw [Heap.get?_update_other _ _ (Ne.symm hb), Heap.get?_update_other _ _ (Ne.symm hb)]
    exact e
  refine wpAny_pure ⟨plainId_quiet F.plain_extend_loop _, codeAny_extend_loopS W fits _ out _ n 0 _ _ _ rfl (Nat.zero_le _) (W.frame 0 s _ s.toks st (Nat.le_refl _) fun b hb o e => oth b o (fun z => out (by rw [← z]; exact hb)) e) g2 (ItemsOf.nil P) fun s' acc c' mv hL' hacc => ?_⟩
  exact k s' acc c' (Moved.trans W.gtrans ((Moved.refl W.grefl).then_heap (Nat.le_refl _) fun b o hb e => oth b o (fun z => hb (by rw [z]; exact List.mem_cons_self)) e) mv) hL' hacc
theorem list_walk {E : Value → Shared → Prop} {s : Shared} {Q : Value → Shared → Prop} (no : NoLen T) (W : WalksS prog w A.in1.in1 I fp wr G n P St) (ty : ∀ i s, St i s → s.TypeIs (.ref I) T) (st : St 0 s) (low : ∀ b ∈ fp, b < s.heap.objs.size) (mem : I ∈ fp) (fits : n ≤ sizeLine)
    (k : ∀ s' acc c', Moved (s.heap.objs.size :: wr) G { s with heap := s.heap.push { cls := .type "list", data := .seq #[] } } s' → s'.heap.get? s.heap.objs.size = some { cls := .type "list", dict := none, data := .seq acc c', slots := #[] } → ItemsOf P acc n → Q (.ref s.heap.objs.size) s') :
    wpAny (model prog w) A (call (.type "list") [.ref I]) Q E s := by
  have out : s.heap.objs.size ∉ fp := fun z => Nat.lt_irrefl _ (low _ z)
  refine callType_codes (Q₁ := fun obj s1 => obj = .ref s.heap.objs.size ∧ s1 = { s with heap := s.heap.push { cls := .type "list", data := .seq #[] } }) F.called_list (F.typeCall_list_1 _) F.entry_list_init (code_list_new _ ⟨rfl, rfl⟩) fun obj s1 h1 => ?_
  obtain ⟨rfl, rfl⟩ := h1
  have hL : (s.heap.push { cls := .type "list", data := .seq #[] }).get? s.heap.objs.size = some { cls := .type "list", data := .seq #[] } := Heap.get?_push_size _ rfl
  refine ⟨⟨_, hL, rfl⟩, F.args_list_init_2 _ _, ?_⟩
  have st1 : St 0 { s with heap := s.heap.push { cls := .type "list", data := .seq #[] } } := W.frame 0 s _ s.toks st (Nat.le_refl _) fun b _ o e => Heap.get?_push_of_some _ e
  generalize hs1 : ({ s with heap := s.heap.push { cls := .type "list", data := .seq #[] } } : Shared) = s1 at *
  have hL : s1.heap.get? s.heap.objs.size = some { cls := .type "list", data := .seq #[] } := by rw [← hs1]; exact hL
  show wpAny _ A.in1.in1 (do let old ← Builtin.List.listItems (.ref s.heap.objs.size); Builtin.List.listUpdate (.ref s.heap.objs.size) (fun _ => #[]); letGo old.toList.reverse; Builtin.List.listExtendWith (.ref s.heap.objs.size) (.ref I) .none) _ _ s1
  refine wpAny_bind ?_
  unfold Builtin.List.listItems
  refine wpAny_bind (wpAny_seqItems hL rfl (wpAny_pure (wpAny_bind (m := updateSeq s.heap.objs.size fun _ => #[]) (wpAny_updateSeq hL rfl (wpAny_bind (wpAny_letGo ?_))))))
  have g2 := Heap.get?_update_self (Obj.mapSeq (fun _ => (#[] : Array Value))) hL rfl
  have oth : ∀ b o, b ≠ s.heap.objs.size → s1.heap.get? b = some o → (s1.heap.update s.heap.objs.size (Obj.mapSeq (fun _ => (#[] : Array Value)))).get? b = some o := fun b o hb e => by
    rw [Heap.get?_update_other _ _ (Ne.symm hb)]
    exact e
  refine grow_walk no W ty s.heap.objs.size .none _ (W.frame 0 s1 _ s1.toks st1 (Nat.le_refl _) fun b hb o e => oth b o (fun z => out (by rw [← z]; exact hb)) e) out mem g2 fits fun s' acc c' mv hL' hacc => ?_
  exact ⟨rfl, k s' acc c' (Moved.trans W.gtrans ((Moved.refl W.grefl).then_heap (Nat.le_refl _) fun b o hb e => oth b o (fun z => hb (by rw [z]; exact List.mem_cons_self)) e) mv) hL' hacc⟩
end
theorem zip_nolen : NoLen "zip" := ⟨by rw [typeLookup_type, builtinLookup_eq_fast]; kernel_rfl, by rw [typeLookup_type, builtinLookup_eq_fast]; kernel_rfl, by decide, by decide⟩
/-! ### zip -/
abbrev ZipAt (h : Heap) (z TI TO : Addr) (b : Bool) (f0 f1 : Value) : Prop := h.get? z = some { cls := .type "zip", dict := none, data := .fields #[f0, f1, .bool b, .ref TI, .ref TO], slots := #[] }
section
variable {prog : Program} {w : World} {A : Around} {E : Value → Shared → Prop} {s : Shared} {z TI TO i1 i2 it : Addr} {fp fp1 fp2 : List Addr} {n i : Nat} {P P1 P2 : Nat → Value → Prop} {St St1 St2 : Nat → Heap → Prop} {a1 a2 : Value}
theorem noe_item {Q : Option Value → Shared → Prop} (D : Draws prog w A it fp n P St) (hi : i < n) (st : St i s.heap) (k : ∀ x h' tk, P i x → St (i + 1) h' → Heap.SameBut it s.heap h' → Q (some x) { s with heap := h', toks := tk }) :
    wpAny (model prog w) A (Builtin.SmallTypes.nextOrEnd (.ref it)) Q E s := by
  unfold Builtin.SmallTypes.nextOrEnd
  exact wpAny_bind (wpAny_attempt (D.item i s _ _ hi st fun x h' tk a b c => wpAny_pure (k x h' tk a b c)))
theorem noe_end {Q : Option Value → Shared → Prop} (D : Draws prog w A it fp n P St) (st : St n s.heap) (k : ∀ h', Heap.ExtBut it s.heap h' → Q none { s with heap := h' }) : wpAny (model prog w) A (Builtin.SmallTypes.nextOrEnd (.ref it)) Q E s := by
  unfold Builtin.SmallTypes.nextOrEnd
  refine wpAny_bind (wpAny_attempt (D.done s _ _ st fun h' e ext ⟨o, ho, hc⟩ => ?_))
  exact wpAny_bind (wpAny_isInstance (T := "StopIteration") (b := true) ⟨o, ho, hc⟩ isSubtype_stop (wpAny_pure (k h' ext)))
/-- one thing is drawn -/
def drw (b : Bool) (it : Value) : Sem (Option Value) := if b then Builtin.SmallTypes.nextOrEnd it else do return some (← Builtin.SmallTypes.nextOf it)
theorem drw_item {Q : Option Value → Shared → Prop} (b : Bool) (D : Draws prog w A it fp n P St) (hi : i < n) (st : St i s.heap) (k : ∀ x h' tk, P i x → St (i + 1) h' → Heap.SameBut it s.heap h' → Q (some x) { s with heap := h', toks := tk }) : wpAny (model prog w) A (drw b (.ref it)) Q E s := by
  cases b with
  | true => exact noe_item D hi st k
  | false => exact wpAny_bind (m := Builtin.SmallTypes.nextOf (.ref it)) (D.item i s _ _ hi st fun x h' tk a b c => wpAny_pure (k x h' tk a b c))
theorem alive_ok {M : Model} {a : Addr} {o : Obj} {Q : Option Obj → Shared → Prop} (ho : s.heap.get? a = some o) (h : Q (some o) s) : wpAny M A (loadIfAlive a) Q E s := fun Γ p _ => by
  show Sem.wp M Γ (.loadIfAlive a fun x => pure x) _ _ p s
  rw [Sem.wp_loadIfAlive, ho]
  exact (wpAny_pure (M := M) (A := A) (E := E) h) Γ p ‹_›
/-- the tuple that a zip keeps may be used again -/
def Loose (h : Heap) (f0 : Value) : Prop := f0 = .none ∨ ∃ T : Addr, f0 = rawInt T ∧ h.get? T = none
theorem dead_ok {M : Model} {a : Addr} {Q : Option Obj → Shared → Prop} (ho : s.heap.get? a = none) (h : Q none s) : wpAny M A (loadIfAlive a) Q E s := fun Γ p _ => by
  show Sem.wp M Γ (.loadIfAlive a fun x => pure x) _ _ p s
  rw [Sem.wp_loadIfAlive, ho]
  exact (wpAny_pure (M := M) (A := A) (E := E) h) Γ p ‹_›
theorem zip_loose {b : Bool} {f0 f1 : Value} {Q : Bool → Shared → Prop} (hz : ZipAt s.heap z TI TO b f0 f1) (hf : Loose s.heap f0) (k : Q true s) : wpAny (model prog w) A (Builtin.SmallTypes.ownedTupleIsFree (.ref z)) Q E s := by
  unfold Builtin.SmallTypes.ownedTupleIsFree
  rcases hf with rfl | ⟨T, rfl, hT⟩
  · exact wpAny_bind (wpAny_field hz rfl (x := .none) rfl (wpAny_pure k))
  · exact wpAny_bind (wpAny_field hz rfl (x := rawInt T) rfl (wpAny_bind (m := loadIfAlive T) (dead_ok hT (wpAny_pure k))))
/-- a turn where the tuple is free -/
theorem zip_again {b : Bool} {f0 f1 : Value} {Q : Value → Shared → Prop} (S : ZipSep2 z TI TO i1 i2 fp1 fp2) (D1 : Draws prog w A i1 fp1 n P1 St1) (D2 : Draws prog w A i2 fp2 n P2 St2)
    (hz : ZipAt s.heap z TI TO b f0 f1) (hf : Loose s.heap f0) (hTI : IsTupOf2 s.heap TI (.ref i1) (.ref i2)) (hTO : IsTupOf2 s.heap TO a1 a2) (st1 : St1 i s.heap) (st2 : St2 i s.heap) (lt : i < n)
    (k : ∀ x1 x2 h' tk, P1 i x1 → P2 i x2 → ZipAt h' z TI TO b (rawInt s.heap.objs.size) (.bool false) → IsTupOf2 h' TO x1 x2 → St1 (i + 1) h' → St2 (i + 1) h' → IsTupOf2 h' s.heap.objs.size x1 x2 →
      (∀ c o, c ≠ z → c ≠ TO → c ≠ i1 → c ≠ i2 → s.heap.get? c = some o → h'.get? c = some o) → Q (.ref s.heap.objs.size) { s with heap := h', toks := tk }) :
    wpAny (model prog w) A (Builtin.«zip.__next__» ⟨[.ref z], []⟩) (fun fin s' => ∃ v, fin = .done (.ret v) ∧ Q v s') E s := by
  obtain ⟨hp, g, d, t0, os⟩ := s
  refine wpAny_bind (m := field (.ref z) 2) (wpAny_field hz rfl (x := .bool b) rfl (wpAny_bind (m := field (.ref z) 3) (wpAny_field hz rfl (x := .ref TI) rfl (wpAny_bind (wpAny_seqItems hTI rfl (wpAny_bind (m := Builtin.SmallTypes.ownedTupleIsFree (.ref z)) (zip_loose hz hf ?_)))))))
  have hb : (Value.bool b == Value.bool true) = b := by cases b <;> rfl
  rw [hb]
  simp only [if_true]
  refine wpAny_bind (wpAny_rule (wpAny_bind (wpAny_field hz rfl (x := .ref TO) rfl (wpAny_bind (wpAny_setField_rec hz (by simp) fun q0 z0 e0 => ?_)))))
  have z0 : ZipAt q0 z TI TO b .ellipsis f1 := z0
  have e0 : Heap.SameBut z hp q0 := e0
  refine wpAny_bind ?_
  simp only [List.zipIdx_cons, List.zipIdx_nil, List.forIn_cons, List.forIn_nil]
  refine wpAny_bind (wpAny_bind (wpAny_onRaise (show wpAny _ _ (drw b (.ref i1)) _ _ ⟨q0, g, d, t0, os⟩ from drw_item b D1 lt (D1.over st1 e0 S.zf1) fun x1 q1 t1 p1 s1 e1 => ?_)))
  have e1 : Heap.SameBut i1 q0 q1 := e1
  have u1 : IsTupOf2 q1 TO a1 a2 := e1.extBut _ _ S.Ti1 (e0.extBut _ _ S.TOz hTO)
  refine wpAny_bind (wpAny_seqItems (s := ⟨q1, g, d, t1, os⟩) u1 rfl (wpAny_bind (updateSeq_IsTupOf2 (s := ⟨q1, g, d, t1, os⟩) u1 fun q2 u2 e2 => wpAny_bind (wpAny_letGo (wpAny_pure ?_)))))
  have u2 : IsTupOf2 q2 TO x1 a2 := u2
  have e2 : Heap.SameBut TO q1 q2 := e2
  refine wpAny_bind (wpAny_bind (wpAny_onRaise (show wpAny _ _ (drw b (.ref i2)) _ _ ⟨q2, g, d, t1, os⟩ from drw_item b D2 lt (D2.over (D2.over (D2.over st2 e0 S.zf2) e1 S.sep1_2) e2 S.Tf2) fun x2 q3 t3 p2 s2 e3 => ?_)))
  have e3 : Heap.SameBut i2 q2 q3 := e3
  have u3 : IsTupOf2 q3 TO x1 a2 := e3.extBut _ _ S.Ti2 u2
  refine wpAny_bind (wpAny_seqItems (s := ⟨q3, g, d, t3, os⟩) u3 rfl (wpAny_bind (updateSeq_IsTupOf2 (s := ⟨q3, g, d, t3, os⟩) u3 fun q4 u4 e4 => wpAny_bind (wpAny_letGo (wpAny_pure (wpAny_pure ?_))))))
  have u4 : IsTupOf2 q4 TO x1 x2 := u4
  have e4 : Heap.SameBut TO q3 q4 := e4
  refine wpAny_bind (wpAny_seqItems (s := ⟨q4, g, d, t3, os⟩) u4 rfl (wpAny_bind (wpAny_newTuple ?_)))
  have size : q4.objs.size = hp.objs.size := by rw [e4.1, e3.1, e2.1, e1.1, e0.1]
  have z4 : ZipAt q4 z TI TO b .ellipsis f1 := e4.extBut _ _ S.TOz.symm (e3.extBut _ _ S.zi2 (e2.extBut _ _ S.TOz.symm (e1.extBut _ _ S.zi1 z0)))
  have old : ∀ c o, c ≠ z → c ≠ TO → c ≠ i1 → c ≠ i2 → hp.get? c = some o → q4.get? c = some o := fun c o cz cT c1 c2 e => e4.extBut _ _ cT (e3.extBut _ _ c2 (e2.extBut _ _ cT (e1.extBut _ _ c1 (e0.extBut _ _ cz e))))
  have j1 : St1 (i + 1) q4 := D1.over (D1.over (D1.over s1 e2 S.Tf1) e3 S.sep2_1) e4 S.Tf1
  have j2 : St2 (i + 1) q4 := D2.over s2 e4 S.Tf2
  have zlt : z < q4.objs.size := Heap.lt_size z4
  refine wpAny_bind (m := Builtin.SmallTypes.ownedTupleHandOut (.ref z) (.ref q4.objs.size)) ?_
  unfold Builtin.SmallTypes.ownedTupleHandOut
  have z5 : ZipAt (q4.push { cls := .type "tuple", data := .seq #[x1, x2] }) z TI TO b .ellipsis f1 := Heap.get?_push_of_some _ z4
  refine wpAny_bind (wpAny_setField_rec z5 (by simp) fun q6 z6 e6 => ?_)
  have z6 : ZipAt q6 z TI TO b (rawInt q4.objs.size) f1 := z6
  refine wpAny_setField_rec z6 (by simp) fun q7 z7 e7 => ?_
  have z7 : ZipAt q7 z TI TO b (rawInt q4.objs.size) (.bool false) := z7
  have e6 : Heap.SameBut z (q4.push { cls := .type "tuple", data := .seq #[x1, x2] }) q6 := e6
  have e7 : Heap.SameBut z q6 q7 := e7
  have up : ∀ c o, c ≠ z → q4.get? c = some o → q7.get? c = some o := fun c o hc e => e7.extBut _ _ hc (e6.extBut _ _ hc (Heap.get?_push_of_some _ e))
  have new : IsTupOf2 q7 q4.objs.size x1 x2 := e7.extBut _ _ (Nat.ne_of_gt zlt) (e6.extBut _ _ (Nat.ne_of_gt zlt) (Heap.get?_push_size _ rfl))
  refine wpAny_pure ⟨_, rfl, ?_⟩
  show Q (.ref q4.objs.size) ⟨q7, g, d, t3, os⟩
  rw [size] at z7 new ⊢
  exact k x1 x2 q7 t3 p1 p2 z7 (up _ _ S.TOz u4) (D1.frame _ _ _ j1 fun c hc o e => up c o (fun q => S.zf1 (q ▸ hc)) e) (D2.frame _ _ _ j2 fun c hc o e => up c o (fun q => S.zf2 (q ▸ hc)) e) new fun c o cz cT c1 c2 e => up c o cz (old c o cz cT c1 c2 e)
theorem stop_now {α : Type} {Q : α → Shared → Prop} (calm : A.handled = none) (k : ∀ h' e, (∀ c o, s.heap.get? c = some o → h'.get? c = some o) → (∃ o, h'.get? e = some o ∧ o.cls = .type "StopIteration") → E (.ref e) { s with heap := h' }) :
    wpAny (model prog w) A (Builtin.SmallTypes.stopIteration : Sem α) Q E s := by
  unfold Builtin.SmallTypes.stopIteration
  refine wpAny_bind ?_
  simp only [newExc, newTuple]
  refine wpAny_bind (wpAny_newObj_type ?_ (by size_fits))
  refine wpAny_bind (m := firstArgMember _ _) (wpAny_of_eq (a := Value.none) (by first | rfl | (simp only [firstArgMember]; rfl)) ?_)
  refine wpAny_newObj_type ?_ (by size_fits)
  simp only [raiseNew]
  refine wpAny_bind (wpAny_handled ?_)
  rw [calm]
  refine wpAny_bind (wpAny_pure (wpAny_throw ?_))
  exact k _ _ (fun c o e => Heap.get?_push_of_some _ (Heap.get?_push_of_some _ e)) ⟨_, Heap.get?_push_size _ rfl, rfl⟩
/-- a zip whose tuple is out does not take it again -/
theorem zip_held {T : Addr} {oT : Obj} {b : Bool} {f1 : Value} {Q : Bool → Shared → Prop} (hz : ZipAt s.heap z TI TO b (rawInt T) f1) (hT : s.heap.get? T = some oT) (hf : f1 = .bool false ∨ f1 = .bool true)
    (k : ∀ h', ZipAt h' z TI TO b (rawInt T) (.bool true) → Heap.SameBut z s.heap h' → Q false { s with heap := h' }) : wpAny (model prog w) A (Builtin.SmallTypes.ownedTupleIsFree (.ref z)) Q E s := by
  unfold Builtin.SmallTypes.ownedTupleIsFree
  refine wpAny_bind (wpAny_field hz rfl (x := rawInt T) rfl ?_)
  refine wpAny_bind (m := loadIfAlive T) (alive_ok hT ?_)
  rcases hf with rfl | rfl
  · refine wpAny_bind (m := field (.ref z) 1) (wpAny_field hz rfl (x := .bool false) rfl (wpAny_bind (m := setField (.ref z) 1 (.bool true)) (wpAny_setField_rec hz (by simp) fun h' z' e' => wpAny_pure (k h' z' e'))))
  · exact wpAny_bind (m := field (.ref z) 1) (wpAny_field hz rfl (x := .bool true) rfl (wpAny_pure (k s.heap hz ⟨rfl, fun _ _ => rfl⟩)))
/-- a later turn -/
theorem zip_later {T : Addr} {oT : Obj} {b : Bool} {f1 : Value} {Q : Value → Shared → Prop} (S : ZipSep2 z TI TO i1 i2 fp1 fp2) (D1 : Draws prog w A i1 fp1 n P1 St1) (D2 : Draws prog w A i2 fp2 n P2 St2)
    (hz : ZipAt s.heap z TI TO b (rawInt T) f1) (hT : s.heap.get? T = some oT) (hf : f1 = .bool false ∨ f1 = .bool true) (hTI : IsTupOf2 s.heap TI (.ref i1) (.ref i2)) (st1 : St1 i s.heap) (st2 : St2 i s.heap) (lt : i < n)
    (k : ∀ x1 x2 h' tk, P1 i x1 → P2 i x2 → ZipAt h' z TI TO b (rawInt T) (.bool true) → St1 (i + 1) h' → St2 (i + 1) h' → IsTupOf2 h' s.heap.objs.size x1 x2 →
      (∀ c o, c ≠ z → c ≠ i1 → c ≠ i2 → s.heap.get? c = some o → h'.get? c = some o) → Q (.ref s.heap.objs.size) { s with heap := h', toks := tk }) :
    wpAny (model prog w) A (Builtin.«zip.__next__» ⟨[.ref z], []⟩) (fun fin s' => ∃ v, fin = .done (.ret v) ∧ Q v s') E s := by
  obtain ⟨hp, g, d, t0, os⟩ := s
  refine wpAny_bind (m := field (.ref z) 2) (wpAny_field hz rfl (x := .bool b) rfl (wpAny_bind (m := field (.ref z) 3) (wpAny_field hz rfl (x := .ref TI) rfl (wpAny_bind (wpAny_seqItems hTI rfl (wpAny_bind (m := Builtin.SmallTypes.ownedTupleIsFree (.ref z)) (zip_held hz hT hf fun q0 z0 e0 => ?_)))))))
  have e0 : Heap.SameBut z hp q0 := e0
  simp only [Bool.false_eq_true, if_false]
  refine wpAny_bind ?_
  rw [← Array.forIn_toList]
  simp only [List.forIn_cons, List.forIn_nil]
  have hb : (Value.bool b == Value.bool true) = b := by cases b <;> rfl
  rw [hb]
  refine wpAny_bind (wpAny_bind (wpAny_holding (show wpAny _ _ (drw b (.ref i1)) _ _ ⟨q0, g, d, t0, os⟩ from drw_item b D1 lt (D1.over st1 e0 S.zf1) fun x1 q1 t1 p1 s1 e1 => wpAny_pure ?_)))
  have e1 : Heap.SameBut i1 q0 q1 := e1
  refine wpAny_bind (wpAny_bind (wpAny_holding (show wpAny _ _ (drw b (.ref i2)) _ _ ⟨q1, g, d, t1, os⟩ from drw_item b D2 lt (D2.over (D2.over st2 e0 S.zf2) e1 S.sep1_2) fun x2 q2 t2 p2 s2 e2 => wpAny_pure (wpAny_pure ?_))))
  have e2 : Heap.SameBut i2 q1 q2 := e2
  refine wpAny_bind (wpAny_newTuple (wpAny_pure ⟨_, rfl, ?_⟩) (by show 2 ≤ sizeLine; decide))
  have size : q2.objs.size = hp.objs.size := by rw [e2.1, e1.1, e0.1]
  have z2 : ZipAt q2 z TI TO b (rawInt T) (.bool true) := e2.extBut _ _ S.zi2 (e1.extBut _ _ S.zi1 z0)
  have up : ∀ c o, q2.get? c = some o → (q2.push { cls := .type "tuple", data := .seq #[x1, x2] }).get? c = some o := fun c o e => Heap.get?_push_of_some _ e
  show Q (.ref q2.objs.size) ⟨q2.push { cls := .type "tuple", data := .seq #[x1, x2] }, g, d, t2, os⟩
  have new : IsTupOf2 (q2.push { cls := .type "tuple", data := .seq #[x1, x2] }) q2.objs.size x1 x2 := Heap.get?_push_size _ rfl
  generalize q2.push { cls := .type "tuple", data := .seq #[x1, x2] } = q3 at up new ⊢
  rw [size] at new ⊢
  exact k x1 x2 q3 t2 p1 p2 (up _ _ z2) (D1.frame _ _ _ (D1.over s1 e2 S.sep2_1) fun c _ o e => up c o e) (D2.frame _ _ _ s2 fun c _ o e => up c o e) new fun c o cz c1 c2 e => up c o (e2.extBut _ _ c2 (e1.extBut _ _ c1 (e0.extBut _ _ cz e)))
/-- both are at their ends: a strict zip looks at the second one too -/
theorem strict_end {α : Type} {Q : Fin → Shared → Prop} (calm : A.handled = none) (D2 : Draws prog w A i2 fp2 n P2 St2) (st2 : St2 n s.heap)
    (k : ∀ h' e, (∀ c o, c ≠ i2 → s.heap.get? c = some o → h'.get? c = some o) → (∃ o, h'.get? e = some o ∧ o.cls = .type "StopIteration") → E (.ref e) { s with heap := h' }) :
    wpAny (model prog w) A (do
      for (it, j) in [((.ref i2 : Value), 1)] do
        if (← Builtin.SmallTypes.nextOrEnd it).isSome then
          rule "zip.__next__.longer"; raiseError "ValueError" s!"zip() argument {j + 1} is longer than {if j == 1 then "argument 1" else s!"arguments 1-{j}"}"
      rule "zip.__next__.all-ended"; Builtin.SmallTypes.stopIteration : Sem Fin) Q E s := by
  simp only [List.forIn_cons, List.forIn_nil]
  refine wpAny_bind (wpAny_bind (wpAny_bind (noe_end D2 st2 fun h' ext => ?_)))
  refine wpAny_pure (wpAny_pure (wpAny_bind (wpAny_rule (stop_now (s := { s with heap := h' }) calm fun h2 e kp he => ?_))))
  exact k h2 e (fun c o hc q => kp c o (ext c o hc q)) he
theorem zip_stop {b : Bool} {f0 f1 : Value} {Q : Fin → Shared → Prop} (calm : A.handled = none) (S : ZipSep2 z TI TO i1 i2 fp1 fp2) (D1 : Draws prog w A i1 fp1 n P1 St1) (D2 : Draws prog w A i2 fp2 n P2 St2) (hz : ZipAt s.heap z TI TO b f0 f1)
    (hf : Loose s.heap f0 ∨ ∃ (T : Addr) (oT : Obj), f0 = rawInt T ∧ s.heap.get? T = some oT ∧ (f1 = .bool false ∨ f1 = .bool true)) (hTI : IsTupOf2 s.heap TI (.ref i1) (.ref i2)) (st1 : St1 n s.heap) (st2 : St2 n s.heap)
    (k : ∀ h' e, (∀ c o, c ≠ z → c ≠ i1 → c ≠ i2 → s.heap.get? c = some o → h'.get? c = some o) → (∃ o, h'.get? e = some o ∧ o.cls = .type "StopIteration") → E (.ref e) { s with heap := h' }) :
    wpAny (model prog w) A (Builtin.«zip.__next__» ⟨[.ref z], []⟩) Q E s := by
  obtain ⟨hp, g, d, t0, os⟩ := s
  have hb : (Value.bool b == Value.bool true) = b := by cases b <;> rfl
  refine wpAny_bind (m := field (.ref z) 2) (wpAny_field hz rfl (x := .bool b) rfl (wpAny_bind (m := field (.ref z) 3) (wpAny_field hz rfl (x := .ref TI) rfl (wpAny_bind (wpAny_seqItems hTI rfl (wpAny_bind (m := Builtin.SmallTypes.ownedTupleIsFree (.ref z)) ?_))))))
  rw [hb]
  rcases hf with hf | ⟨T, oT, rfl, hT, hf⟩
  · refine zip_loose hz hf ?_
    simp only [if_true]
    refine wpAny_bind (wpAny_rule (wpAny_bind (wpAny_field hz rfl (x := .ref TO) rfl (wpAny_bind (wpAny_setField_rec hz (by simp) fun q0 z0 e0 => ?_)))))
    have z0 : ZipAt q0 z TI TO b .ellipsis f1 := z0
    have e0 : Heap.SameBut z hp q0 := e0
    refine wpAny_bind ?_
    simp only [List.zipIdx_cons, List.zipIdx_nil, List.forIn_cons, List.forIn_nil]
    cases b with
    | false =>
      refine wpAny_bind (wpAny_bind (wpAny_onRaise (show wpAny _ _ (Builtin.SmallTypes.nextOf (.ref i1) >>= _) _ _ ⟨q0, g, d, t0, os⟩ from wpAny_bind (D1.done ⟨q0, g, d, t0, os⟩ _ _ (D1.over st1 e0 S.zf1) fun q1 e x1 ⟨oe, ho, hc⟩ => ?_))))
      have x1 : Heap.ExtBut i1 q0 q1 := x1
      have ho : q1.get? e = some oe := ho
      have z1 : ZipAt q1 z TI TO false .ellipsis f1 := x1 _ _ S.zi1 z0
      have ez : e ≠ z := fun q => by
        subst q
        rw [z1] at ho
        cases ho
        simp at hc
      refine wpAny_setField_rec (s := ⟨q1, g, d, t0, os⟩) z1 (by simp) fun q2 _ e2 => ?_
      have e2 : Heap.SameBut z q1 q2 := e2
      exact k q2 e (fun c o cz c1 c2 x => e2.extBut _ _ cz (x1 _ _ c1 (e0.extBut _ _ cz x))) ⟨oe, e2.extBut _ _ ez ho, hc⟩
    | true =>
      refine wpAny_bind (wpAny_bind (wpAny_onRaise (show wpAny _ _ (Builtin.SmallTypes.nextOrEnd (.ref i1)) _ _ ⟨q0, g, d, t0, os⟩ from noe_end D1 (D1.over st1 e0 S.zf1) fun q1 x1 => ?_)))
      have x1 : Heap.ExtBut i1 q0 q1 := x1
      have z1 : ZipAt q1 z TI TO true .ellipsis f1 := x1 _ _ S.zi1 z0
      refine wpAny_bind (m := setField (.ref z) 0 .none) (wpAny_setField_rec (s := ⟨q1, g, d, t0, os⟩) z1 (by simp) fun q2 _ e2 => wpAny_bind ?_)
      have e2 : Heap.SameBut z q1 q2 := e2
      refine strict_end (α := Unit) (s := ⟨q2, g, d, t0, os⟩) calm D2 (D2.frame _ _ _ st2 fun c hc o e => e2.extBut _ _ (fun q => S.zf2 (q ▸ hc)) (x1 _ _ (fun q => S.sep1_2 (q ▸ hc)) (e0.extBut _ _ (fun q => S.zf2 (q ▸ hc)) e))) fun q3 e kp he => ?_
      exact k q3 e (fun c o cz c1 c2 x => kp c o c2 (e2.extBut _ _ cz (x1 _ _ c1 (e0.extBut _ _ cz x)))) he
  · refine zip_held hz hT hf fun q0 z0 e0 => ?_
    have e0 : Heap.SameBut z hp q0 := e0
    simp only [Bool.false_eq_true, if_false]
    refine wpAny_bind ?_
    rw [← Array.forIn_toList]
    simp only [List.forIn_cons, List.forIn_nil]
    cases b with
    | false =>
      refine wpAny_bind (wpAny_bind (wpAny_holding (show wpAny _ _ (Builtin.SmallTypes.nextOf (.ref i1) >>= _) _ _ ⟨q0, g, d, t0, os⟩ from wpAny_bind (D1.done ⟨q0, g, d, t0, os⟩ _ _ (D1.over st1 e0 S.zf1) fun q1 e x1 he => ?_))))
      have x1 : Heap.ExtBut i1 q0 q1 := x1
      exact k q1 e (fun c o cz c1 c2 x => x1 _ _ c1 (e0.extBut _ _ cz x)) he
    | true =>
      refine wpAny_bind (wpAny_bind (wpAny_holding (show wpAny _ _ (Builtin.SmallTypes.nextOrEnd (.ref i1)) _ _ ⟨q0, g, d, t0, os⟩ from noe_end D1 (D1.over st1 e0 S.zf1) fun q1 x1 => wpAny_bind ?_)))
      have x1 : Heap.ExtBut i1 q0 q1 := x1
      refine strict_end (α := Unit) (s := ⟨q1, g, d, t0, os⟩) calm D2 (D2.frame _ _ _ st2 fun c hc o e => x1 _ _ (fun q => S.sep1_2 (q ▸ hc)) (e0.extBut _ _ (fun q => S.zf2 (q ▸ hc)) e)) fun q3 e kp he => ?_
      exact k q3 e (fun c o cz c1 c2 x => kp c o c2 (x1 _ _ c1 (e0.extBut _ _ cz x))) he
end
end BV
/-! list(zip(a, b)), strict or not. -/
namespace BV
open PySem PySem.Spec PyProof.Rows L2
section
variable {prog : Program} {w : World} {A : Around} {E : Value → Shared → Prop} {s : Shared} {z TI TO i1 i2 : Addr} {fp1 fp2 : List Addr} {n i : Nat} {P1 P2 : Nat → Value → Prop} {St1 St2 : Nat → Heap → Prop}
/-- a zip amid its walk -/
def ZSt (z TI TO i1 i2 : Addr) (b : Bool) (St1 St2 : Nat → Heap → Prop) (i : Nat) (h : Heap) : Prop := ∃ f0 f1 a1 a2, ZipAt h z TI TO b f0 f1 ∧ (f0 = .none ∨ ∃ T : Addr, f0 = rawInt T) ∧ (f1 = .bool false ∨ f1 = .bool true) ∧ IsTupOf2 h TI (.ref i1) (.ref i2) ∧ IsTupOf2 h TO a1 a2 ∧ St1 i h ∧ St2 i h
theorem ZSt.frame {b : Bool} {h h' : Heap} (D1 : Draws prog w A i1 fp1 n P1 St1) (D2 : Draws prog w A i2 fp2 n P2 St2) (q : ZSt z TI TO i1 i2 b St1 St2 i h) (k : ∀ c ∈ z :: TI :: TO :: (fp1 ++ fp2), ∀ o, h.get? c = some o → h'.get? c = some o) : ZSt z TI TO i1 i2 b St1 St2 i h' := by
  obtain ⟨f0, f1, a1, a2, e1, e2, e3, e4, e5, e6, e7⟩ := q
  exact ⟨f0, f1, a1, a2, k _ (by simp) _ e1, e2, e3, k _ (by simp) _ e4, k _ (by simp) _ e5, D1.frame _ _ _ e6 fun c hc o e => k c (by simp [hc]) o e, D2.frame _ _ _ e7 fun c hc o e => k c (by simp [hc]) o e⟩
theorem split_f0 {h : Heap} {f0 : Value} (h0 : f0 = .none ∨ ∃ T : Addr, f0 = rawInt T) : Loose h f0 ∨ ∃ (T : Addr) (oT : Obj), f0 = rawInt T ∧ h.get? T = some oT := by
  rcases h0 with e | ⟨T, e⟩
  · exact .inl (.inl e)
  · cases q : h.get? T with
    | none => exact .inl (.inr ⟨T, e, q⟩)
    | some o => exact .inr ⟨T, o, e, q⟩
theorem zip_next {b : Bool} {Q : Option Value → Shared → Prop} (S : ZipSep2 z TI TO i1 i2 fp1 fp2) (D1 : Draws prog w A.in1 i1 fp1 n P1 St1) (D2 : Draws prog w A.in1 i2 fp2 n P2 St2) (q : ZSt z TI TO i1 i2 b St1 St2 i s.heap) (lt : i < n)
    (k : ∀ x1 x2 h' tk, P1 i x1 → P2 i x2 → ZSt z TI TO i1 i2 b St1 St2 (i + 1) h' → IsTupOf2 h' s.heap.objs.size x1 x2 → (∀ c o, c ∉ [z, TO, i1, i2] → s.heap.get? c = some o → h'.get? c = some o) → Q (some (.ref s.heap.objs.size)) { s with heap := h', toks := tk }) :
    wpAny (model prog w) A (pyNext (.ref z)) Q E s := by
  obtain ⟨f0, f1, a1, a2, e1, e2, e3, e4, e5, e6, e7⟩ := q
  have hT : s.TypeIs (.ref z) "zip" := ⟨_, e1, rfl⟩
  unfold pyNext
  refine wpAny_bind (wpAny_attempt (wpAny_callSpecial?_slot (name := Str.ofString "__next__") hT F.slot_zip_next (wpAny_call_entry F.slot_zip_next hT F.entry_zip_next ?_ (F.args_zip_next_1 _))))
  rcases split_f0 (h := s.heap) e2 with lo | ⟨T, oT, rfl, ho⟩
  · refine zip_again S D1 D2 e1 lo e4 e5 e6 e7 lt fun x1 x2 h' tk p1 p2 z' t' s1 s2 n' kp => wpAny_pure (k x1 x2 h' tk p1 p2 ⟨_, _, _, _, z', .inr ⟨_, rfl⟩, .inl rfl, ?_, t', s1, s2⟩ n' fun c o hc e => ?_)
    · exact kp _ _ S.TIz S.TITO S.TIi1 S.TIi2 e4
    · simp only [List.mem_cons, List.not_mem_nil, or_false, not_or] at hc
      exact kp c o hc.1 hc.2.1 hc.2.2.1 hc.2.2.2 e
  · refine zip_later S D1 D2 e1 ho e3 e4 e6 e7 lt fun x1 x2 h' tk p1 p2 z' s1 s2 n' kp => wpAny_pure (k x1 x2 h' tk p1 p2 ⟨_, _, a1, a2, z', .inr ⟨_, rfl⟩, .inr rfl, ?_, ?_, s1, s2⟩ n' fun c o hc e => ?_)
    · exact kp _ _ S.TIz S.TIi1 S.TIi2 e4
    · exact kp _ _ S.TOz S.Ti1 S.Ti2 e5
    · simp only [List.mem_cons, List.not_mem_nil, or_false, not_or] at hc
      exact kp c o hc.1 hc.2.2.1 hc.2.2.2 e
theorem zip_over {b : Bool} {Q : Option Value → Shared → Prop} (calm : A.handled = none) (S : ZipSep2 z TI TO i1 i2 fp1 fp2) (D1 : Draws prog w A.in1 i1 fp1 n P1 St1) (D2 : Draws prog w A.in1 i2 fp2 n P2 St2) (q : ZSt z TI TO i1 i2 b St1 St2 n s.heap)
    (k : ∀ h', (∀ c o, c ∉ [z, TO, i1, i2] → s.heap.get? c = some o → h'.get? c = some o) → Q none { s with heap := h' }) : wpAny (model prog w) A (pyNext (.ref z)) Q E s := by
  obtain ⟨f0, f1, a1, a2, e1, e2, e3, e4, e5, e6, e7⟩ := q
  have hT : s.TypeIs (.ref z) "zip" := ⟨_, e1, rfl⟩
  unfold pyNext
  refine wpAny_bind (wpAny_attempt (wpAny_callSpecial?_slot (name := Str.ofString "__next__") hT F.slot_zip_next (wpAny_call_entry F.slot_zip_next hT F.entry_zip_next (zip_stop (A := A.in1) calm S D1 D2 e1 ?_ e4 e6 e7 fun h' e kp ⟨o, ho, hc⟩ => ?_) (F.args_zip_next_1 _))))
  · rcases split_f0 (h := s.heap) e2 with lo | ⟨T, oT, rfl, ho⟩
    · exact .inl lo
    · exact .inr ⟨T, oT, rfl, ho, e3⟩
  · refine wpAny_bind (wpAny_isInstance (T := "StopIteration") (b := true) ⟨o, ho, hc⟩ isSubtype_stop (wpAny_pure (k h' fun c o hc e => ?_)))
    simp only [List.mem_cons, List.not_mem_nil, or_false, not_or] at hc
    exact kp c o hc.1 hc.2.2.1 hc.2.2.2 e
end
/-- new pairs, one after another -/
def pourS (Q : List V → Hp → Prop) : Hp → List V → List V → List V → Prop
  | H, [], [], done => Q done H
  | H, x :: xs, y :: ys, done => ∀ T, H T = none → pourS Q (upd H T (.tup [x, y])) xs ys (done ++ [.ref T])
  | _, _, _, _ => False
section
variable {X : Cx} {pins : List (Addr × Obj)} {σ : L2.St} {A : Around} {z TI TO i1 i2 L : Addr} {fp1 fp2 : List Addr} {n : Nat} {St1 St2 : Nat → Heap → Prop} {us vs : List Value} {b : Bool} {R : Result → Shared → Prop} {res : Value}
theorem vals_snoc {xs : List V} {us : List Value} {x : V} {u : Value} (h : Vals xs us) (r : RelV x u) : Vals (xs ++ [x]) (us ++ [u]) := h.append (.cons r .nil)
theorem upd_over {H : Hp} {a : Addr} {x y : HO} : upd (upd H a x) a y = upd H a y := by
  funext c
  by_cases e : c = a
  · subst e; rw [upd_same, upd_same]
  · rw [upd_ne e, upd_ne e, upd_ne e]
theorem upd_swap {H : Hp} {a b : Addr} {x y : HO} (h : a ≠ b) : upd (upd H a x) b y = upd (upd H b y) a x := by
  funext c
  by_cases e : c = a
  · subst e; rw [upd_ne h, upd_same, upd_same]
  · by_cases f : c = b
    · subst f; rw [upd_same, upd_ne e, upd_same]
    · rw [upd_ne f, upd_ne e, upd_ne e, upd_ne f]
theorem four {z TO i1 i2 TI L : Addr} {fp1 fp2 : List Addr} (S : ZipSep2 z TI TO i1 i2 fp1 fp2) (out : L ∉ z :: TI :: TO :: (fp1 ++ fp2)) : L ∉ [z, TO, i1, i2] := fun m => out (by
  simp only [List.mem_cons, List.not_mem_nil, or_false] at m
  simp only [List.mem_cons, List.mem_append]
  rcases m with e | e | e | e
  · exact .inl e
  · exact .inr (.inr (.inl e))
  · exact .inr (.inr (.inr (.inl (by rw [e]; exact S.mem1))))
  · exact .inr (.inr (.inr (.inr (by rw [e]; exact S.mem2)))))
theorem pour_loop (calm : A.handled = none) (S : ZipSep2 z TI TO i1 i2 fp1 fp2) (D1 : Draws X.prog X.w A.in1.in1 i1 fp1 n (fun i v => us[i]? = some v) St1) (D2 : Draws X.prog X.w A.in1.in1 i2 fp2 n (fun i v => vs[i]? = some v) St2)
    (out : L ∉ z :: TI :: TO :: (fp1 ++ fp2)) (small : n ≤ sizeLine) {Q : List V → Hp → Prop}
    (fin : ∀ s' H' done, Inv X pins σ (upd H' L (.lst done)) s' → H' L = none → Q done H' → R (.ok (.ret res)) s') :
    ∀ (xs ys : List V) (i : Nat) (s : Shared) (H : Hp) (acc : List Value) (c : Nat) (done : List V), i + xs.length = n → Inv X pins σ (upd H L (.lst done)) s → H L = none → (∀ q ∈ [z, TO, i1, i2], FpOk X pins (upd H L (.lst done)) q) → ZSt z TI TO i1 i2 b St1 St2 i s.heap →
      s.heap.get? L = some { cls := .type "list", dict := none, data := .seq acc.toArray c, slots := #[] } → Vals done acc → done.length = i → Vals xs (us.drop i) → Vals ys (vs.drop i) → pourS Q H xs ys done →
      codeAny (model X.prog X.w) A (.builtin "list.extend.loop" ⟨[.ref L, .ref z, res], []⟩) R s
  | [], [], i, s, H, acc, c, done, hi, I, hn, hf, q, hL, hv, hl, _, _, hq => by
    have hi : i = n := by simpa using hi
    subst hi
    refine codeAny_builtin F.entry_extend_loop ?_
    rw [Around.under_plainId F.plain_extend_loop _]
    exact wpAny_bind (m := pyNext (.ref z)) (zip_over (A := A.in1) calm S D1 D2 q fun h' kp => wpAny_pure (fin _ H done (I.turnedL (t' := s.toks) (ch := [z, TO, i1, i2]) kp hf) hn hq))
  | [], _ :: _, _, _, _, _, _, _, _, _, _, _, _, _, _, _, _, _, hq => hq.elim
  | _ :: _, [], _, _, _, _, _, _, _, _, _, _, _, _, _, _, _, _, hq => hq.elim
  | x :: xs, y :: ys, i, s, H, acc, c, done, hi, I, hn, hf, q, hL, hv, hl, hx, hy, hq => by
    have lt : i < n := by rw [← hi, List.length_cons]; omega
    have ne := four S out
    refine codeAny_builtin F.entry_extend_loop ?_
    rw [Around.under_plainId F.plain_extend_loop _]
    refine wpAny_bind (m := pyNext (.ref z)) (zip_next (A := A.in1) S D1 D2 q lt fun u1 u2 h' tk p1 p2 q' new kp => ?_)
    have d1 : us.drop i = u1 :: us.drop (i + 1) := by
      obtain ⟨h1, h2⟩ := List.getElem?_eq_some_iff.mp p1
      rw [List.drop_eq_getElem_cons h1, h2]
    have d2 : vs.drop i = u2 :: vs.drop (i + 1) := by
      obtain ⟨h1, h2⟩ := List.getElem?_eq_some_iff.mp p2
      rw [List.drop_eq_getElem_cons h1, h2]
    rw [d1] at hx
    rw [d2] at hy
    cases hx with
    | cons rx hx =>
      cases hy with
      | cons ry hy =>
        generalize hT : s.heap.objs.size = T at *
        have ok : ObjOk X.prog X.w (upd (upd H L (.lst done)) T (.tup [x, y])) h' T (.tup [x, y]) := ⟨by show 2 ≤ sizeLine; decide, [u1, u2], .cons rx (.cons ry .nil), ⟨_, new, rfl, _, rfl⟩⟩
        have I1 : Inv X pins σ (upd (upd H L (.lst done)) T (.tup [x, y])) { s with heap := h', toks := tk } := I.turnedNew (ch := [z, TO, i1, i2]) kp hf (Nat.le_of_eq hT) ok
        have hL1 := kp L _ ne hL
        have LT : L ≠ T := fun e => by
          have := Heap.lt_size hL
          rw [e, hT] at this
          exact Nat.lt_irrefl _ this
        have low : ∀ q ∈ [z, TO, i1, i2], q ≠ T := fun c hc e => by
          obtain ⟨f0, f1, a1, a2, e1, e2, e3, e4, e5, e6, e7⟩ := q
          have hz : ∀ {o : Obj}, s.heap.get? c = some o → False := fun ho => Nat.lt_irrefl _ (by
            have := Heap.lt_size ho
            rw [e, hT] at this
            exact this)
          simp only [List.mem_cons, List.not_mem_nil, or_false] at hc
          rcases hc with rfl | rfl | rfl | rfl
          · exact hz e1
          · exact hz e5
          · obtain ⟨o, ho⟩ := D1.live _ _ e6; exact hz ho
          · obtain ⟨o, ho⟩ := D2.live _ _ e7; exact hz ho
        have hHT : H T = none := by
          have z : upd H L (.lst done) T = none := I.hok.fresh (Nat.le_of_eq hT)
          rw [upd_ne (Ne.symm LT)] at z
          exact z
        refine wpAny_bind (m := updateSeq L (·.push (.ref T))) (wpAny_updateSeq hL1 rfl (wpAny_pure ⟨plainId_quiet F.plain_extend_loop _, ?_⟩) ?_ ?_)
        · have oth : ∀ c o, c ≠ L → h'.get? c = some o → (h'.update L (Obj.mapSeq (·.push (.ref T)))).get? c = some o := fun c o hc e => by
            rw [Heap.get?_update_other _ _ (Ne.symm hc)]
            exact e
          have hL2 := Heap.get?_update_self (Obj.mapSeq (·.push (.ref T))) hL1 rfl
          obtain ⟨c2, hL3⟩ : ∃ c2, (h'.update L (Obj.mapSeq (·.push (.ref T)))).get? L = some { cls := .type "list", dict := none, data := .seq (acc ++ [Value.ref T]).toArray c2, slots := #[] } := ⟨_, by
            rw [hL2]
            simp [Obj.mapSeq]
            rfl⟩
          have vv : Vals (done ++ [.ref T]) (acc ++ [.ref T]) := vals_snoc hv (show RelV (.ref T) (.ref T) from rfl)
          have at1 : upd (upd H L (.lst done)) T (.tup [x, y]) L = some (.lst done) := by rw [upd_ne LT, upd_same]
          have I2 := I1.write (e := L) (t' := tk) (o := .lst (done ++ [.ref T])) (h' := h'.update L (Obj.mapSeq (·.push (.ref T)))) (by rw [at1]; trivial) (.inl rfl) (fun c o hc e => oth c o hc e) ⟨_, hL3⟩ ⟨by rw [List.length_append, hl, List.length_singleton]; omega, _, c2, vv, hL3⟩
          rw [upd_swap LT, upd_over] at I2
          refine pour_loop calm S D1 D2 out small fin xs ys (i + 1) _ _ (acc ++ [.ref T]) c2 (done ++ [.ref T]) (by rw [← hi, List.length_cons]; omega) I2 (by rw [upd_ne LT]; exact hn) (fun c hc => ⟨?_, (hf c hc).2⟩) (q'.frame D1 D2 fun c hc o e => oth c o (fun z => out (z ▸ hc)) e) hL3 vv (by simp [hl]) hx hy (hq _ hHT)
          have cL : c ≠ L := fun z => ne (z ▸ hc)
          have z := (hf c hc).1
          rw [upd_ne cL] at z
          rw [upd_ne cL, upd_ne (low c hc)]
          exact z
        · rw [List.size_toArray, ← hv.length, hl]; omega
        · show (acc.toArray.push (.ref T)).size ≤ sizeLine + 1
          rw [Array.size_push, List.size_toArray, ← hv.length, hl]; omega
end
end BV
/-! list(zip(a, b)) and list(zip(a, b, strict=True)) as expressions. -/
namespace BV
open PySem PySem.Spec PyProof.Rows L2
section
variable {M : Model} {A : Around} {E : Value → Shared → Prop} {s : Shared} {env : Env}
theorem callT_kw {pos : Pos} {T : String} {e : Expr} {rest : List Expr} {kws : List Keyword} {Q : Value → Shared → Prop}
    (h : wpAny M A (spliced (backTo pos (starEach (e :: rest) env))) (fun vs s1 => wpAny M A (evalAll ((backToKw pos (keywordEach kws env)).map (·.2))) (fun ks s2 => wpAny M A (call (.type T) vs (((backToKw pos (keywordEach kws env)).filterMap (·.1)).zip ks)) Q E s2) E s1) E s)
    (he : backTo pos (starEach (e :: rest) env) = (false, eval e env) :: backTo pos (starEach rest env)) (hp : (backTo pos (starEach (e :: rest) env)).any (·.1) = false)
    (ha : (backToKw pos (keywordEach kws env)).all (·.1.isSome) = true) (hk : (backToKw pos (keywordEach kws env)).any (·.1.isNone) = false) :
    wpAny M A (callWith pos (.type T) [] (backTo pos (starEach (e :: rest) env)) (backToKw pos (keywordEach kws env))) Q E s := by
  have main : wpAny M A (evalArgs (.type T) true (backTo pos (starEach (e :: rest) env)) (backToKw pos (keywordEach kws env))) (fun a s1 => wpAny M A (call (.type T) ([] ++ a.pos) a.kw) Q E s1) E s := by
    rw [he] at h ⊢
    exact evalArgs_kwB ha h
  unfold callWith
  refine wpAny_bind (wpAny_holding (wpAny_mono main (fun a s1 h1 => wpAny_bind (wpAny_standAt ?_)) fun _ _ x => x))
  simp only [hp, hk, Bool.or_false]
  exact wpAny_bind (wpAny_pure (wpAny_bind (wpAny_mono h1 (fun r s2 hr => wpAny_bind (wpAny_holding (wpAny_point (wpAny_pure hr)))) fun _ _ x => x)))
end
/-! ### a strict zip is made -/
theorem typeCall_strict (a b c : Value) : checkTypeCall "zip" ⟨[a, b], [(Str.ofString "strict", c)]⟩ = pure () := by kernel_rfl
theorem newCall_strict (a b c : Value) : checkBuiltinCall "zip.__new__" ⟨[.type "zip", a, b], [(Str.ofString "strict", c)]⟩ = pure () := by kernel_rfl
theorem init_strict (o a b c : Value) : argsOk "object.__init__" ⟨[o, a, b], [(Str.ofString "strict", c)]⟩ := by unfold argsOk; kernel_rfl
abbrev zH (h : Heap) (o1 o2 : Obj) (b : Bool) : Heap := (gzO2 h o1 o2).push { cls := .type "zip", data := .fields #[.none, .bool false, .bool b, .ref ((h.push o1).push o2).objs.size, .ref (gzT2 h o1 o2).objs.size] }
theorem meets_strict {v1 v2 : Value} {o1 o2 : Obj} {H1 H2 : Heap → Prop} (B1 : Begins v1 o1 H1) (B2 : Begins v2 o2 H2) :
    Meets (Builtin.«zip.__new__» ⟨[.type "zip", v1, v2], [(Str.ofString "strict", .bool true)]⟩) (fun _ R s => (H1 s.heap ∧ H2 s.heap) ∧ R (.ok (.ret (.ref (gzO2 s.heap o1 o2).objs.size))) { s with heap := zH s.heap o1 o2 true }) :=
  .of_wp fun prog w A R s h => by
    obtain ⟨hp, g, d, tk, os⟩ := s
    obtain ⟨⟨h1, h2⟩, h⟩ := h
    have hsub := sub_zip
    have k1 : ∀ {A' : Around} {E : Value → Shared → Prop} {Q : Value → Shared → Prop}, Q (.ref hp.objs.size) ⟨hp.push o1, g, d, tk, os⟩ → wpAny (model prog w) A' (pyIter v1) Q E ⟨hp, g, d, tk, os⟩ := fun q => B1.iter prog w _ _ ⟨hp, g, d, tk, os⟩ _ h1 q
    have k2 : ∀ {A' : Around} {E : Value → Shared → Prop} {Q : Value → Shared → Prop}, Q (.ref (hp.push o1).objs.size) ⟨(hp.push o1).push o2, g, d, tk, os⟩ → wpAny (model prog w) A' (pyIter v2) Q E ⟨hp.push o1, g, d, tk, os⟩ :=
      fun q => B2.iter prog w _ _ ⟨hp.push o1, g, d, tk, os⟩ _ (B2.keeps _ _ h2 fun b o' e => Heap.get?_push_of_some _ e) q
    have e2 : (Str.ofString "strict" != ("strict" : Str)) = false := by decide +kernel
    wp_walk using k1, k2
    exact ⟨_, rfl, h⟩
section
variable {prog : Program} {w : World} {A : Around} {E : Value → Shared → Prop} {s : Shared}
/-- the arguments of a zip -/
def zipKw : Bool → List (Str × Value)
  | true => [(Str.ofString "strict", .bool true)]
  | false => []
theorem zip_made {v1 v2 : Value} {o1 o2 : Obj} {H1 H2 : Heap → Prop} {Q : Value → Shared → Prop} (b : Bool) (B1 : Begins v1 o1 H1) (B2 : Begins v2 o2 H2) (h1 : H1 s.heap) (h2 : H2 s.heap)
    (k : ∀ h', ZipAt h' (s.heap.objs.size + 4) (s.heap.objs.size + 2) (s.heap.objs.size + 3) b .none (.bool false) → IsTupOf2 h' (s.heap.objs.size + 2) (.ref s.heap.objs.size) (.ref (s.heap.objs.size + 1)) →
      IsTupOf2 h' (s.heap.objs.size + 3) .none .none → h'.get? s.heap.objs.size = some o1 → h'.get? (s.heap.objs.size + 1) = some o2 → h'.objs.size = s.heap.objs.size + 5 →
      (∀ c o, s.heap.get? c = some o → h'.get? c = some o) → Q (.ref (s.heap.objs.size + 4)) { s with heap := h' }) :
    wpAny (model prog w) A (call (.type "zip") [v1, v2] (zipKw b)) Q E s := by
  cases b with
  | false => exact zip_begins2 B1 B2 h1 h2 k
  | true =>
    refine callType_newKw F.called_zip (by decide) (typeCall_strict _ _ _) (newCall_strict _ _ _) (fun obj => init_strict obj _ _ _) F.entry_zip_new (meets_strict B1 B2) ⟨⟨h1, h2⟩, ?_⟩
    have z1 : (s.heap.push o1).objs.size = s.heap.objs.size + 1 := Heap.size_push ..
    have z2 : ((s.heap.push o1).push o2).objs.size = s.heap.objs.size + 2 := by rw [Heap.size_push, z1]
    have z3 : (gzT2 s.heap o1 o2).objs.size = s.heap.objs.size + 3 := by rw [Heap.size_push, z2]
    have z4 : (gzO2 s.heap o1 o2).objs.size = s.heap.objs.size + 4 := by rw [Heap.size_push, z3]
    have z5 : (zH s.heap o1 o2 true).objs.size = s.heap.objs.size + 5 := by rw [Heap.size_push, z4]
    have c4 : (zH s.heap o1 o2 true).get? (gzO2 s.heap o1 o2).objs.size = some _ := Heap.get?_push_size _ rfl
    have c3 : (zH s.heap o1 o2 true).get? (gzT2 s.heap o1 o2).objs.size = some { cls := .type "tuple", data := .seq #[.none, .none] } := Heap.get?_push_of_some _ (Heap.get?_push_size _ rfl)
    have c2 : (zH s.heap o1 o2 true).get? ((s.heap.push o1).push o2).objs.size = some { cls := .type "tuple", data := .seq #[.ref s.heap.objs.size, .ref (s.heap.push o1).objs.size] } := Heap.get?_push_of_some _ (Heap.get?_push_of_some _ (Heap.get?_push_size _ rfl))
    have c0 : (zH s.heap o1 o2 true).get? s.heap.objs.size = some o1 := Heap.get?_push_of_some _ (Heap.get?_push_of_some _ (Heap.get?_push_of_some _ (Heap.get?_push_of_some _ (Heap.get?_push_size _ B1.free))))
    have c1 : (zH s.heap o1 o2 true).get? (s.heap.push o1).objs.size = some o2 := Heap.get?_push_of_some _ (Heap.get?_push_of_some _ (Heap.get?_push_of_some _ (Heap.get?_push_size _ B2.free)))
    rw [z4, z3, z2] at c4
    rw [z3] at c3
    rw [z2, z1] at c2
    rw [z1] at c1
    show _ ∧ _
    rw [z4]
    exact ⟨⟨_, c4, rfl⟩, k _ c4 c2 c3 c0 c1 z5 fun c o e => Heap.get?_push_of_some _ (Heap.get?_push_of_some _ (Heap.get?_push_of_some _ (Heap.get?_push_of_some _ (Heap.get?_push_of_some _ e))))⟩
end
theorem iter_zip {prog : Program} {w : World} {A : Around} {E : Value → Shared → Prop} {s : Shared} {z TI TO : Addr} {b : Bool} {f0 f1 : Value} {Q : Value → Shared → Prop} (hz : ZipAt s.heap z TI TO b f0 f1) (h : Q (.ref z) s) : wpAny (model prog w) A (pyIter (.ref z)) Q E s := by
  have hT : s.TypeIs (.ref z) "zip" := ⟨_, hz, rfl⟩
  exact wpAny_pyIter_slot hT F.slot_zip_iter (wpAny_call_entry F.slot_zip_iter hT F.entry_zip_iter (show wpAny _ _ (ret (.ref z)) _ _ s from wpAny_pure ⟨_, rfl, _, _, hT, F.slot_zip_next.lookup, h⟩) (F.args_zip_iter_1 _))
section
variable {X : Cx} {pins : List (Addr × Obj)} {σ : L2.St} {H : Hp} {s : Shared} {z TI TO i1 i2 : Addr} {fp1 fp2 : List Addr} {n : Nat} {St1 St2 : Nat → Heap → Prop} {us vs : List Value} {b : Bool} {xs ys : List V}
/-- list(..) of a zip that stands at its beginning -/
theorem list_zip {Q : VK} (calm : X.calm = true) (I : Inv X pins σ H s) (S : ZipSep2 z TI TO i1 i2 fp1 fp2) (D1 : Draws X.prog X.w X.A.in1.in1.in1 i1 fp1 n (fun i v => us[i]? = some v) St1) (D2 : Draws X.prog X.w X.A.in1.in1.in1 i2 fp2 n (fun i v => vs[i]? = some v) St2)
    (q : ZSt z TI TO i1 i2 b St1 St2 0 s.heap) (low : ∀ c ∈ z :: TI :: TO :: (fp1 ++ fp2), c < s.heap.objs.size) (hf : ∀ c ∈ [z, TO, i1, i2], FpOk X pins H c) (hx : Vals xs us) (hy : Vals ys vs) (hn : xs.length = n) (small : n ≤ sizeLine)
    (k : pourS (fun done H3 => ∀ p, H3 p = none → Q (.ref p) (upd H3 p (.lst done))) H xs ys []) : wpAny (model X.prog X.w) X.A (call (.type "list") [.ref z]) (EP X pins σ Q) X.xe s := by
  refine callType_codes (Q₁ := fun obj s1 => obj = .ref s.heap.objs.size ∧ s1 = { s with heap := s.heap.push { cls := .type "list", data := .seq #[] } }) F.called_list (F.typeCall_list_1 _) F.entry_list_init (code_list_new _ ⟨rfl, rfl⟩) fun obj s1 h1 => ?_
  obtain ⟨rfl, rfl⟩ := h1
  have hL : (s.heap.push { cls := .type "list", data := .seq #[] }).get? s.heap.objs.size = some { cls := .type "list", data := .seq #[] } := Heap.get?_push_size _ rfl
  have fresh : H s.heap.objs.size = none := I.hok.fresh (Nat.le_refl _)
  have I1 : Inv X pins σ (upd H s.heap.objs.size (.lst [])) { s with heap := s.heap.push { cls := .type "list", data := .seq #[] } } := I.laid (t' := s.toks) (fun c o e => Heap.get?_push_of_some _ e) (Nat.le_refl _) ⟨Nat.zero_le _, [], 0, .nil, hL⟩
  have q1 : ZSt z TI TO i1 i2 b St1 St2 0 (s.heap.push { cls := .type "list", data := .seq #[] }) := q.frame D1 D2 fun c _ o e => Heap.get?_push_of_some _ e
  have out : s.heap.objs.size ∉ z :: TI :: TO :: (fp1 ++ fp2) := fun m => Nat.lt_irrefl _ (low _ m)
  refine ⟨⟨_, hL, rfl⟩, F.args_list_init_2 _ _, ?_⟩
  generalize hs1 : ({ s with heap := s.heap.push { cls := .type "list", data := .seq #[] } } : Shared) = s1 at *
  have e1 : s1.heap = s.heap.push { cls := .type "list", data := .seq #[] } := by rw [← hs1]
  rw [← e1] at hL q1
  generalize s.heap.objs.size = L at *
  show wpAny _ X.A.in1.in1 (do let old ← Builtin.List.listItems (.ref L); Builtin.List.listUpdate (.ref L) (fun _ => #[]); letGo old.toList.reverse; Builtin.List.listExtendWith (.ref L) (.ref z) .none) _ _ s1
  refine wpAny_bind ?_
  unfold Builtin.List.listItems
  refine wpAny_bind (wpAny_seqItems hL rfl (wpAny_pure (wpAny_bind (m := updateSeq L fun _ => #[]) (wpAny_updateSeq hL rfl (wpAny_bind (wpAny_letGo ?_))))))
  -- the list stays empty through what is done to it ahead
  have keep : ∀ (h : Heap) (f : Array Value → Array Value) (d : Addr) (o : Obj), d ≠ L → h.get? d = some o → (h.update L (Obj.mapSeq f)).get? d = some o := fun h f d o hd e => by
    rw [Heap.get?_update_other _ _ (Ne.symm hd)]
    exact e
  have g2 := Heap.get?_update_self (Obj.mapSeq (fun _ => (#[] : Array Value))) hL rfl
  have q2 : ZSt z TI TO i1 i2 b St1 St2 0 (s1.heap.update L (Obj.mapSeq fun _ => #[])) := q1.frame D1 D2 fun c hc o e => keep _ _ c o (fun z => out (z ▸ hc)) e
  obtain ⟨f0, f1, a1, a2, hz, _⟩ := id q2
  have ty : (⟨s1.heap.update L (Obj.mapSeq fun _ => #[]), s1.gens, s1.drawn, s1.toks, s1.os⟩ : Shared).TypeIs (.ref z) "zip" := ⟨_, hz, rfl⟩
  have ne : L ≠ z := fun e => out (by rw [e]; exact List.mem_cons_self)
  unfold Builtin.List.listExtendWith
  refine wpAny_bind (wpAny_typeOf ty ?_)
  have h1 : Builtin.List.listSameRef (.ref L) (.ref z) = false := by simp [Builtin.List.listSameRef, ne]
  simp only [h1, zip_nolen.nl, zip_nolen.nt, Bool.or_false, Bool.false_eq_true, if_false]
  refine wpAny_bind (iter_zip hz (wpAny_bind (wpAny_holding ?_)))
  unfold Builtin.List.listLengthHint
  refine wpAny_bind (wpAny_specialOf ty zip_nolen.len ?_)
  refine wpAny_bind (m := specialOf (Value.ref z) (Str.ofString "__length_hint__")) (wpAny_specialOf ty zip_nolen.hint (wpAny_pure ?_))
  refine wpAny_bind (m := rule "list.extend.makes-room") (wpAny_rule (wpAny_bind (m := Builtin.List.listTouch (.ref L)) ?_))
  show wpAny _ _ (updateSeq L (·.push .none) >>= fun _ => updateSeq L (·.pop)) _ _ _
  refine wpAny_bind (wpAny_updateSeq g2 rfl ?_)
  have g3 := Heap.get?_update_self (Obj.mapSeq (·.push Value.none)) g2 rfl
  refine wpAny_updateSeq (hz := by seq_fits) g3 rfl ?_
  have g4 := Heap.get?_update_self (Obj.mapSeq (·.pop)) g3 rfl
  have all : ∀ d o, d ≠ L → s1.heap.get? d = some o → (((s1.heap.update L (Obj.mapSeq fun _ => #[])).update L (Obj.mapSeq (·.push Value.none))).update L (Obj.mapSeq (·.pop))).get? d = some o := fun d o hd e => keep _ _ d o hd (keep _ _ d o hd (keep _ _ d o hd e))
  obtain ⟨c4, g5⟩ : ∃ c4, (((s1.heap.update L (Obj.mapSeq fun _ => #[])).update L (Obj.mapSeq (·.push Value.none))).update L (Obj.mapSeq (·.pop))).get? L = some { cls := .type "list", dict := none, data := .seq ([] : List Value).toArray c4, slots := #[] } := ⟨_, g4⟩
  have at1 : upd H L (.lst []) L = some (.lst []) := upd_same
  have I2 := I1.write (e := L) (t' := s1.toks) (o := .lst []) (by rw [at1]; trivial) (.inl rfl) all ⟨_, g5⟩ ⟨Nat.zero_le _, [], c4, .nil, g5⟩
  rw [upd_over] at I2
  refine wpAny_pure ⟨plainId_quiet F.plain_extend_loop _, pour_loop (A := X.A.in1) (I.ok.hd calm) S D1 D2 out small (fun s' H' done I' hn' hq' => ⟨rfl, .ref L, upd H' L (.lst done), I', rfl, hq' L hn'⟩) xs ys 0 _ H [] c4 [] (by omega) I2 fresh (fun c hc => ⟨?_, (hf c hc).2⟩) (q1.frame D1 D2 fun c hc o e => all c o (fun z => out (z ▸ hc)) e) g5 .nil rfl hx hy k⟩
  have cL : c ≠ L := fun e => four S out (by rw [← e]; exact hc)
  rw [upd_ne cL]
  exact (hf c hc).1
def tLz (K : Frag) (ta tb : TE) : TE := fun σ H Q => ta σ H fun x H1 => tb σ H1 fun y H2 => ∃ a c xs ys, x = .ref a ∧ y = .ref c ∧ ((SqL K H2 a xs ∧ SqL K H2 c ys) ∨ (SqT K H2 a xs ∧ SqT K H2 c ys)) ∧ xs.length = ys.length ∧
  pourS (fun done H3 => ∀ p, H3 p = none → Q (.ref p) (upd H3 p (.lst done))) H2 xs ys []
/-- the zip is made, then poured -/
theorem made_poured {Q : VK} (calm : X.calm = true) (I : Inv X pins σ H s) {u v : Value} {x y : V} (b : Bool) (rx : RelV x u) (ry : RelV y v) {a c : Addr} (ex : x = .ref a) (ey : y = .ref c)
    (sq : (SqL X.K H a xs ∧ SqL X.K H c ys) ∨ (SqT X.K H a xs ∧ SqT X.K H c ys)) (hl : xs.length = ys.length) (k : pourS (fun done H3 => ∀ p, H3 p = none → Q (.ref p) (upd H3 p (.lst done))) H xs ys []) :
    wpAny (model X.prog X.w) X.A (call (.type "zip") [u, v] (zipKw b)) (fun z s' => wpAny (model X.prog X.w) X.A (call (.type "list") [z]) (EP X pins σ Q) X.xe s') X.xe s := by
  subst ex ey
  cases rx
  cases ry
  have fp5 : ∀ d ∈ [s.heap.objs.size + 4, s.heap.objs.size + 3, s.heap.objs.size, s.heap.objs.size + 1], FpOk X pins H d := fun d hd => by
    have le : s.heap.objs.size ≤ d := by
      simp only [List.mem_cons, List.not_mem_nil, or_false] at hd
      rcases hd with e | e | e | e <;> rw [e] <;> first | exact Nat.le_refl _ | exact Nat.le_add_right _ _
    exact I.fpOk le (I.hok.fresh le)
  rcases sq with ⟨h1, h2⟩ | ⟨h1, h2⟩
  · obtain ⟨us, ru, p1, l1⟩ := I.list h1
    obtain ⟨vs, rv, p2, l2⟩ := I.list h2
    have a1 := p1.lt
    have a2 := p2.lt
    refine zip_made b (begins_list a us.toArray) (begins_list c vs.toArray) p1.isList p2.isList fun h' hz hTI hTO o1 o2 size kp => ?_
    have I2 : Inv X pins σ H { s with heap := h' } := I.kept (t' := s.toks) kp
    have D1 := Draws.list (prog := X.prog) (w := X.w) (A := X.A.in1.in1.in1) (I.ok.hd calm) s.heap.objs.size a (Nat.ne_of_lt a1) us.toArray
    have D2 := Draws.list (prog := X.prog) (w := X.w) (A := X.A.in1.in1.in1) (I.ok.hd calm) (s.heap.objs.size + 1) c (Nat.ne_of_lt (Nat.lt_succ_of_lt a2)) vs.toArray
    have e1 : us.toArray.size = xs.length := by rw [List.size_toArray]; exact ru.length.symm
    have e2 : vs.toArray.size = xs.length := by rw [List.size_toArray, ← rv.length, hl]
    simp only [List.getElem?_toArray] at D1 D2
    rw [e1] at D1
    rw [e2] at D2
    refine list_zip calm I2 (zip_sep2 (fp1 := [a]) (fp2 := [c]) (by simpa using a1) (by simpa using a2)) D1 D2 ⟨_, _, _, _, hz, .inl rfl, .inl rfl, hTI, hTO, ⟨⟨_, o1, rfl, rfl⟩, p1.isList.at fun o e => kp a o e⟩, ⟨⟨_, o2, rfl, rfl⟩, p2.isList.at fun o e => kp c o e⟩⟩ (fun d hd => ?_) fp5 ru rv rfl l1 k
    show d < h'.objs.size
    rw [size]
    simp only [List.mem_cons, List.mem_append, List.not_mem_nil, or_false] at hd
    rcases hd with e | e | e | (e | e) | (e | e) <;> rw [e] <;> first | exact Nat.lt_succ_of_le (Nat.add_le_add_left (by decide) _) | exact Nat.lt_of_lt_of_le a1 (Nat.le_add_right _ _) | exact Nat.lt_of_lt_of_le a2 (Nat.le_add_right _ _) | exact Nat.lt_add_of_pos_right (by decide)
  · obtain ⟨us, ru, p1, l1⟩ := I.tuple h1
    obtain ⟨vs, rv, p2, l2⟩ := I.tuple h2
    obtain ⟨q1, w1, _⟩ := id p1
    obtain ⟨q2, w2, _⟩ := id p2
    have a1 := Heap.lt_size w1
    have a2 := Heap.lt_size w2
    have p1 : s.heap.IsTuple a us.toArray := p1
    have p2 : s.heap.IsTuple c vs.toArray := p2
    refine zip_made b (begins_tuple a us.toArray) (begins_tuple c vs.toArray) p1 p2 fun h' hz hTI hTO o1 o2 size kp => ?_
    have I2 : Inv X pins σ H { s with heap := h' } := I.kept (t' := s.toks) kp
    have D1 := Draws.tuple (prog := X.prog) (w := X.w) (A := X.A.in1.in1.in1) (I.ok.hd calm) s.heap.objs.size a (Nat.ne_of_lt a1) us.toArray
    have D2 := Draws.tuple (prog := X.prog) (w := X.w) (A := X.A.in1.in1.in1) (I.ok.hd calm) (s.heap.objs.size + 1) c (Nat.ne_of_lt (Nat.lt_succ_of_lt a2)) vs.toArray
    have e1 : us.toArray.size = xs.length := by rw [List.size_toArray]; exact ru.length.symm
    have e2 : vs.toArray.size = xs.length := by rw [List.size_toArray, ← rv.length, hl]
    simp only [List.getElem?_toArray] at D1 D2
    rw [e1] at D1
    rw [e2] at D2
    refine list_zip calm I2 (zip_sep2 (fp1 := [a]) (fp2 := [c]) (by simpa using a1) (by simpa using a2)) D1 D2 ⟨_, _, _, _, hz, .inl rfl, .inl rfl, hTI, hTO, ⟨⟨_, o1, rfl, rfl⟩, p1.at fun o e => kp a o e⟩, ⟨⟨_, o2, rfl, rfl⟩, p2.at fun o e => kp c o e⟩⟩ (fun d hd => ?_) fp5 ru rv rfl l1 k
    show d < h'.objs.size
    rw [size]
    simp only [List.mem_cons, List.mem_append, List.not_mem_nil, or_false] at hd
    rcases hd with e | e | e | (e | e) | (e | e) <;> rw [e] <;> first | exact Nat.lt_succ_of_le (Nat.add_le_add_left (by decide) _) | exact Nat.lt_of_lt_of_le a1 (Nat.le_add_right _ _) | exact Nat.lt_of_lt_of_le a2 (Nat.le_add_right _ _) | exact Nat.lt_add_of_pos_right (by decide)
theorem pe_lzip {ea eb : Expr} {ta tb : TE} {lp zp pz p kp cp : Pos} {kk : Nat} (b : Bool) (calm : X.calm = true) (gl : Gl X "list") (ml : X.mg "list" = none) (gz : Gl X "zip") (mz : X.mg "zip" = none) (ha : PE X ea ta) (hb : PE X eb tb)
    (na : starEach [ea, eb] X.env = (false, eval ea X.env) :: starEach [eb] X.env) (nb : starEach [eb] X.env = (false, eval eb X.env) :: starEach [] X.env) :
    PE X (.Call (.Name "list" lp) [.Call (.Name "zip" zp) [ea, eb] (zipK b kp cp kk) pz] [] p) (tLz X.K ta tb) := by
  refine ⟨fun pins s σ H Q I h => ?_⟩
  refine Call_ (ld_blt I gl ml boot_list (PyProof.Rows.callWith_type1 (args_cons ?_ rfl) rfl))
  have zip : wpAny (model X.prog X.w) X.A (eval (.Call (.Name "zip" zp) [ea, eb] (zipK b kp cp kk) pz) X.env) (fun z s' => wpAny (model X.prog X.w) X.A (call (.type "list") [z]) (EP X pins σ Q) X.xe s') X.xe s := by
    have args : wpAny (model X.prog X.w) X.A (spliced (backTo pz (starEach [ea, eb] X.env))) (fun us s' => wpAny (model X.prog X.w) X.A (call (.type "zip") us (zipKw b)) (fun z s' => wpAny (model X.prog X.w) X.A (call (.type "list") [z]) (EP X pins σ Q) X.xe s') X.xe s') X.xe s :=
      args_cons (thn (ha.run pins s σ H _ I h) fun u s1 ⟨x, H1, I1, r1, q1⟩ => args_cons (thn (hb.run pins s1 σ H1 _ I1 q1) fun v s2 ⟨y, H2, I2, r2, a, c, xs, ys, ex, ey, sq, hl, k⟩ => args_nil (made_poured calm I2 b r1 r2 ex ey sq hl k)) nb) na
    cases b with
    | false => exact Call_ (ld_blt I gz mz boot_zip (PyProof.Rows.callWith_type1 args na (by rw [nb]; rfl)))
    | true =>
      show wpAny (model X.prog X.w) X.A (eval (.Name "zip" zp) X.env >>= fun f => callWith pz f [] (backTo pz (starEach [ea, eb] X.env)) (backToKw pz (keywordEach (zipK true kp cp kk) X.env))) _ _ _
      refine wpAny_bind (ld_blt I gz mz boot_zip ?_)
      refine callT_kw (T := "zip") (kws := zipK true kp cp kk) (thn args fun us s1 h1 => kws_cons (wpAny_Constant_bool (kws_nil ?_))) (by rw [na]; rfl) (by rw [na, nb]; rfl) rfl rfl
      exact h1
  exact thn zip fun z s1 h1 => args_nil h1
end
end BV
/-! xs[::-1] of a tuple. -/
namespace BV
open PySem PySem.Spec PyProof.Rows L2
theorem adj_rev (n : Nat) : Builtin.Slice.sliceAdjust none none (-1) (n : Int) = ((n : Int) - 1, -1) := by
  unfold Builtin.Slice.sliceAdjust
  simp
theorem places_rev (n : Nat) : Builtin.Slice.slicePlaces ((n : Int) - 1) (-1) (-1) = n := by
  unfold Builtin.Slice.slicePlaces
  simp
  split <;> omega
theorem fm_map {α β : Type} {f : α → Option β} {g : α → β} : ∀ {l : List α}, (∀ x ∈ l, f x = some (g x)) → l.filterMap f = l.map g
  | [], _ => rfl
  | x :: l, h => by rw [List.filterMap_cons, h x (List.mem_cons_self ..), List.map_cons, fm_map fun y hy => h y (List.mem_cons_of_mem _ hy)]
theorem pick_rev (xs : Array Value) : ((List.range xs.size).filterMap fun (k : Nat) => xs[((xs.size : Int) - 1 + (k : Int) * -1).toNat]?).toArray = xs.toList.reverse.toArray := by
  congr 1
  rw [fm_map (g := fun k => xs.toList[xs.size - 1 - k]?.getD .none)]
  · apply List.ext_getElem?
    intro i
    rw [List.getElem?_map]
    by_cases h : i < xs.size
    · rw [List.getElem?_range h, List.getElem?_reverse (by simpa using h)]
      have h2 : xs.toList.length - 1 - i < xs.toList.length := by rw [Array.length_toList]; omega
      rw [List.getElem?_eq_getElem h2]
      simp only [Option.map_some, Array.length_toList]
      rw [List.getElem?_eq_getElem (by rw [Array.length_toList]; omega)]
      rfl
    · rw [List.getElem?_eq_none (by rw [List.length_range]; omega), List.getElem?_eq_none (by rw [List.length_reverse, Array.length_toList]; omega)]
      rfl
  · intro k hk
    have hk := List.mem_range.mp hk
    have h1 : ((xs.size : Int) - 1 + (k : Int) * -1).toNat = xs.size - 1 - k := by omega
    have h2 : xs.size - 1 - k < xs.size := by omega
    rw [h1, Array.getElem?_eq_getElem h2, List.getElem?_eq_getElem (by rw [Array.length_toList]; exact h2)]
    simp
section
variable {prog : Program} {w : World} {A : Around} {E : Value → Shared → Prop} {s : Shared}
theorem tuple_rev {t sl : Addr} {items : Array Value} {vl vu vs : Value} {Q : Value → Shared → Prop} (ht : IsTup s.heap t items) (hs : s.heap.IsSliceOf sl vl vu vs) (pl : IsPart vl none) (pu : IsPart vu none) (ps : IsPart vs (some (-1))) (small : items.size ≤ sizeLine)
    (h : Q (.ref s.heap.objs.size) { s with heap := s.heap.push { cls := .type "tuple", data := .seq items.toList.reverse.toArray } }) : wpAny (model prog w) A (getItem (.ref t) (.ref sl)) Q E s := by
  obtain ⟨os, hos, hcs, hds⟩ := id hs
  have hTs : s.TypeIs (.ref sl) "slice" := ⟨os, hos, hcs⟩
  unfold getItem
  try with_reducible refine wpAny_holding ?_
  first | refine wpAny_bind (wpAny_pure ?_) | skip
  refine wpAny_bind (wpAny_sequenceKey ht.typeIs (by decide) ?_)
  refine wpAny_bind (wpAny_callSpecial?_slot (name := Str.ofString "__getitem__") ht.typeIs PyProof.Rows.slot_tuple_getitem (wpAny_call_entry PyProof.Rows.slot_tuple_getitem ht.typeIs entry_tuple_getitem ?_ (args_tuple_getitem _ _)))
  refine wpAny_bind (m := Builtin.Tuple.tupleItemsOf (.ref t)) (tupleItemsOf_ ht (wpAny_bind (wpAny_typeOf hTs ?_)))
  rw [if_pos (by decide)]
  refine wpAny_bind ?_
  unfold Builtin.Slice.sliceApplied Builtin.Slice.sliceFields
  refine wpAny_bind (wpAny_bind (wpAny_field hos hds (x := vl) rfl (wpAny_bind (wpAny_field hos hds (x := vu) rfl (wpAny_bind (wpAny_field hos hds (x := vs) rfl (wpAny_pure ?_)))))))
  refine wpAny_bind (HT.slicePart_ ps ?_)
  show wpAny _ _ (if ((-1 : Int) == 0) = true then _ else _) _ _ s
  rw [if_neg (by decide)]
  refine wpAny_bind (HT.slicePart_ pl (wpAny_bind (HT.slicePart_ pu (wpAny_bind (wpAny_pure ?_)))))
  show wpAny _ _ (match Builtin.Slice.sliceAdjust none none (-1) (items.size : Int) with | (lo, hi) => pure (lo, (-1 : Int), Builtin.Slice.slicePlaces lo hi (-1))) _ _ s
  rw [adj_rev]
  show wpAny _ _ (pure ((items.size : Int) - 1, (-1 : Int), Builtin.Slice.slicePlaces ((items.size : Int) - 1) (-1) (-1))) _ _ s
  rw [places_rev]
  refine wpAny_pure ?_
  show wpAny _ _ (if (((items.size : Int) - 1) == 0 && (-1 : Int) == 1 && items.size == items.size) = true then _ else _) _ _ s
  rw [if_neg (by simp), pick_rev]
  unfold Builtin.Tuple.tupleExact
  refine wpAny_bind (wpAny_newObj_type (wpAny_pure ⟨_, rfl, wpAny_pure h⟩) ?_)
  show items.toList.reverse.toArray.size ≤ sizeLine
  simpa using small
end
section
variable {X : Cx}
def tRevA (K : Frag) (te : TE) : TE := fun σ H Q => te σ H fun x H1 => ∃ a xs, x = .ref a ∧ ((SqL K H1 a xs ∧ ∀ p, H1 p = none → Q (.ref p) (upd H1 p (.lst xs.reverse))) ∨ (SqT K H1 a xs ∧ ∀ p, H1 p = none → Q (.ref p) (upd H1 p (.tup xs.reverse))))
theorem pe_revA {e : Expr} {te : TE} {k : Nat} {p1 p2 p3 pos : Pos} (he : PE X e te) : PE X (.Subscript e (.Slice none none (some (.UnaryOp .USub (.Constant (.int 1) k p1) p2)) p3) pos) (tRevA X.K te) := by
  refine ⟨fun pins s σ H Q I h => Subscript_ (thn (he.run pins s σ H _ I h) fun v s1 ⟨x, H1, I1, r1, a, xs, ex, q⟩ => ?_)⟩
  subst ex
  cases r1
  have one : PO X (some (.UnaryOp .USub (.Constant (.int 1) k p1) p2)) (tPart (tUn (rU fun i => .int (-i)) (tC (.int 1)))) := po_some (pe_un un_neg pe_int)
  refine wpAny_Slice (thn (po_none.run pins s1 σ H1 (fun o H2 => o = none ∧ H2 = H1) I1 ⟨rfl, rfl⟩) fun vl s2 ⟨l, H2, I2, pl, el, e2⟩ => ?_)
  subst el e2
  refine thn (po_none.run pins s2 σ H2 (fun o H3 => o = none ∧ H3 = H2) I2 ⟨rfl, rfl⟩) fun vu s3 ⟨u, H3, I3, pu, eu, e3⟩ => ?_
  subst eu e3
  refine thn (one.run pins s3 σ H3 (fun o H4 => o = some (-1) ∧ H4 = H3) I3 ⟨1, rfl, -1, rfl, rfl, rfl⟩) fun vs s4 ⟨o, H4, I4, ps, eo, e4⟩ => ?_
  subst eo e4
  have I5 : Inv X pins σ H4 { s4 with heap := s4.heap.push { cls := .type "slice", data := .fields #[vl, vu, vs] } } := I4.kept (t' := s4.toks) fun b ob q => Heap.get?_push_of_some _ q
  show wpAny (model X.prog X.w) X.A (subscriptTail e (.Slice none none (some (.UnaryOp .USub (.Constant (.int 1) k p1) p2)) p3) (.ref a) (.ref s4.heap.objs.size)) (EP X pins σ Q) X.xe { s4 with heap := s4.heap.push { cls := .type "slice", data := .fields #[vl, vu, vs] } }
  rcases q with ⟨hx, q⟩ | ⟨hx, q⟩
  · obtain ⟨its, r, ht, hz⟩ := I5.list hx
    refine tail_any (ops := [.ref a, .ref s4.heap.objs.size]) ht.isList.typeIs (PySem.slot_list_getitem.lookup) ?_ (by with_unfolding_all rfl)
    refine wpAny_getItem_list_slice ht.isList (Heap.IsSliceOf.new _ vl vu vs) pl pu ps (by decide) ?_ (by rw [List.size_toArray, ← r.length]; exact hz)
    rw [PySem.W.krv_pick]
    exact ⟨.ref _, _, I5.laid (t' := s4.toks) (o := .lst xs.reverse) (fun b ob q => Heap.get?_push_of_some _ q) (Nat.le_refl _) ⟨by rw [List.length_reverse]; exact hz, _, 0, r.reverse, Heap.get?_push_size _ rfl⟩, rfl, q _ (I5.hok.fresh (Nat.le_refl _))⟩
  · obtain ⟨its, r, ht, hz⟩ := I5.tuple hx
    refine tail_any (ops := [.ref a, .ref s4.heap.objs.size]) ht.typeIs (PyProof.Rows.slot_tuple_getitem.lookup) ?_ (by with_unfolding_all rfl)
    refine tuple_rev ht (Heap.IsSliceOf.new _ vl vu vs) pl pu ps (by rw [List.size_toArray, ← r.length]; exact hz) ?_
    exact ⟨.ref _, _, I5.laid (t' := s4.toks) (o := .tup xs.reverse) (fun b ob q => Heap.get?_push_of_some _ q) (Nat.le_refl _) ⟨by rw [List.length_reverse]; exact hz, _, r.reverse, IsTup.new _ _⟩, rfl, q _ (I5.hok.fresh (Nat.le_refl _))⟩
end
end BV
/-! list(zip(..)), dict(TABLE), xs[::-1], sorted({..}) as expressions of the layer. -/
namespace BV
open PySem PySem.Spec PyProof.Rows L2
section
variable {free : List Str} {D : Den} {n : Nat} {N : List Str} {sc : Scope} {X : Cx}
theorem pour_rep {K : Frag} {Hf0 H0 : Hp} {F0 F : List Addr} {S : Slots} {σ : L2.St} {Q : List V → Hp → Prop} :
    ∀ {vs ws dv : List Val} {xs ys done : List V} {Hf H : Hp}, vs.length = ws.length → RepL K Hf vs xs → RepL K Hf ws ys → RepL K Hf dv done → Rel K Hf F S σ H → Step Hf0 F0 H0 Hf F H →
      (∀ Hf' H' done', Rel K Hf' F S σ H' → Step Hf0 F0 H0 Hf' F H' → HSub H H' → RepL K Hf' (dv ++ pairUp vs ws) done' → Q done' H') → pourS Q H xs ys done
  | [], [], dv, _, _, done, Hf, H, _, .nil, .nil, rd, rel, st, k => k Hf H done rel st (HSub.refl _) (by rw [show pairUp [] [] = [] from rfl, List.append_nil]; exact rd)
  | [], _ :: _, _, _, _, _, _, _, h, _, _, _, _, _, _ => by simp at h
  | _ :: _, [], _, _, _, _, _, _, h, _, _, _, _, _, _ => by simp at h
  | v :: vs, w :: ws, dv, _, _, done, Hf, H, h, .cons (x := x) (xs := xs) rx hx, .cons (x := y) (xs := ys) ry hy, rd, rel, st, k => by
    intro T hT
    have g := Gives.newT (Hf := Hf) (F := F) (H := H) rel (Step.refl _ _ _) hT (.cons rx (.cons ry .nil))
    obtain ⟨Hf', s1, rel', st', re, rf⟩ := g.opd
    refine pour_rep (vs := vs) (ws := ws) (dv := dv ++ [.tup [v, w]]) (by simpa using h) (hx.mono st'.hf) (hy.mono st'.hf) ((rd.mono st'.hf).append (.cons (rf 0 rfl) .nil)) rel' (st.trans st') fun Hf2 H2 done2 r2 t2 s2 q2 => ?_
    refine k Hf2 H2 done2 r2 t2 ((HSub.upd hT).trans s2) ?_
    rw [show pairUp (v :: vs) (w :: ws) = .tup [v, w] :: pairUp vs ws from rfl]
    rw [List.append_assoc] at q2
    exact q2
theorem s_lzip (c : Ctx free D n N sc X) {b : Bool} {x y : CE} {lp zp kp cp pz p : Pos} {kk : Nat} (g1 : glB sc "list" = true) (m1 : ("list" : Str) ∈ free) (g2 : glB sc "zip" = true) (m2 : ("zip" : Str) ∈ free)
    (hx : PE X x.py (tEv X.K D x)) (hy : PE X y.py (tEv X.K D y)) : PE X (CE.lzip b lp zp x y kp cp kk pz p).py (tEv X.K D (.lzip b lp zp x y kp cp kk pz p)) := by
  refine peBy (pe_lzip b c.calm (c.gl g1) (c.fre _ m1) (c.gl g2) (c.fre _ m2) hx hy (star_cons x _ _) (star_cons y _ _)) fun σ H Q ⟨S, Hf, F, r, S', rel, he, q⟩ => ?_
  unfold ev at he
  rw [Option.bind_eq_some_iff] at he
  obtain ⟨⟨⟨d1, v1⟩, S1⟩, e1, he⟩ := he
  rw [Option.bind_eq_some_iff] at he
  obtain ⟨⟨⟨d2, v2⟩, S2⟩, e2, he⟩ := he
  refine ⟨S, Hf, F, _, S1, rel, e1, fun u H1 Hf1 F1 a1 p1 => ?_⟩
  obtain ⟨Hf1', s1, rel1, st1, re1, rf1⟩ := a1.opd
  refine ⟨S1, Hf1', F1, _, S2, rel1, e2, fun w H2 Hf2 F2 a2 p2 => ?_⟩
  obtain ⟨Hf2', s2, rel2, st2, re2, rf2⟩ := a2.opd
  have pure2 : (CE.lzip b lp zp x y kp cp kk pz p).pure = true → HSub H H2 := fun hp => by
    unfold CE.pure at hp
    rw [Bool.and_eq_true] at hp
    exact (p1 hp.1).trans (p2 hp.2)
  have fin : ∀ {vs ws : List Val} {xs ys : List V}, vs.length = ws.length → RepL X.K Hf2' vs xs → RepL X.K Hf2' ws ys → some (((.own 1, .lst (pairUp vs ws)) : Res), S2) = some (r, S') → pourS (fun done H3 => ∀ p, H3 p = none → Q (.ref p) (upd H3 p (.lst done))) H2 xs ys [] := fun {vs ws xs ys} hl h1 h2 e => by
    obtain ⟨rfl, rfl⟩ := Prod.mk.inj (Option.some.inj e)
    refine pour_rep hl h1 h2 .nil rel2 (st1.trans st2) fun Hf3 H3 done r3 t3 s3 q3 p' hp' => ?_
    rw [List.nil_append] at q3
    exact q _ _ Hf3 F2 (Gives.newL r3 t3 hp' q3) fun hp => (pure2 hp).trans (s3.trans (HSub.upd hp'))
  cases d1 with
  | bor => cases he
  | own o1 =>
    cases d2 with
    | bor => cases v1 <;> cases he
    | own o2 =>
      cases v1 with
      | lst vs =>
        cases v2 with
        | lst ws =>
          have he : gd (vs.length == ws.length) (some (((.own 1, .lst (pairUp vs ws)) : Res), S2)) = some (r, S') := he
          rw [gd_some] at he
          have hl : vs.length = ws.length := by simpa using he.1
          cases (rf1 o1 rfl).mono st2.hf with
          | lst hd l =>
            cases rf2 o2 rfl with
            | lst hd2 l2 => exact ⟨_, _, _, _, rfl, rfl, .inl ⟨(rdL_mono rel2.sub hd).sq, (rdL_mono rel2.sub hd2).sq⟩, by rw [l.length, l2.length]; exact hl, fin hl l l2 he.2⟩
        | _ => cases he
      | tup vs =>
        cases v2 with
        | tup ws =>
          have he : gd (vs.length == ws.length) (some (((.own 1, .lst (pairUp vs ws)) : Res), S2)) = some (r, S') := he
          rw [gd_some] at he
          have hl : vs.length = ws.length := by simpa using he.1
          cases (rf1 o1 rfl).mono st2.hf with
          | tup hd l =>
            cases rf2 o2 rfl with
            | tup hd2 l2 => exact ⟨_, _, _, _, rfl, rfl, .inr ⟨sqT_mono rel2.sub hd, sqT_mono rel2.sub hd2⟩, by rw [l.length, l2.length]; exact hl, fin hl l l2 he.2⟩
        | _ => cases he
      | _ => cases he
/-! ### dict(TABLE) -/
theorem tab_vals {K : Frag} {w : World} {Pr : Program} : ∀ {kvs : List (Str × Val)} {es : List DictEntry}, TabL K kvs es → PySem.W.KeysLit w.params es → ∃ (ks : List (Key × V)) (vs : List (Key × Value)), RepK K (fun _ => none) (kvs.map fun q => (.inr q.1, q.2)) ks ∧ KV ks vs ∧ Pairs (mixKind Pr w) es vs ∧ vs.map (·.1) = kvs.map fun q => .inr q.1
  | _, _, .nil, _ => ⟨[], [], .nil, .nil, .nil, rfl⟩
  | _, _, .cons (k := k) (t := t) (y := y) (e := e) h1 h2 h3 r, lit => by
    obtain ⟨ks, vs, a1, a2, a3, a4⟩ := tab_vals (w := w) (Pr := Pr) r lit.2
    refine ⟨(.inr k, y) :: ks, (.inr k, e.val) :: vs, .cons h3 a1, .cons ⟨rfl, h2⟩ a2, .cons ?_ rfl a3, by rw [List.map_cons, List.map_cons, a4]⟩
    show keyIs (.inr k) e.key = true
    rw [h1]
    exact keyIs_str k t
theorem tab_keys {w : World} {Pr : Program} : ∀ {es : List DictEntry}, PySem.W.KeysLit w.params es → ∀ e ∈ es, ∃ k, (mixKind Pr w).is k e.key = true ∧ e.hash = (mixKind Pr w).hash k := fun lit e he => by
  obtain ⟨x, t, h1, h2⟩ := lit.all e he
  refine ⟨.inr x, ?_, ?_⟩
  · show keyIs (.inr x) e.key = true
    rw [h1]
    exact keyIs_str x t
  · rw [h2]
    rfl
theorem s_dcp (c : Ctx free D n N sc X) {x : Str} {dp xp p : Pos} (g1 : glB sc "dict" = true) (m1 : ("dict" : Str) ∈ free) (g2 : glB sc x = true) (ok : okName x = true) : PE X (CE.dcp dp xp x p).py (tEv X.K D (.dcp dp xp x p)) := by
  refine ⟨fun pins s σ H Q I h => ?_⟩
  obtain ⟨S, Hf, F, r, S', rel, he, q⟩ := h
  unfold ev at he
  rw [Option.map_eq_some_iff] at he
  obtain ⟨kvs, e1, he⟩ := he
  obtain ⟨rfl, rfl⟩ := Prod.mk.inj he
  obtain ⟨d, es, k, hm, kd, tl, nd, sm⟩ := c.tab x kvs e1
  obtain ⟨ks, vs, a1, a2, a3, a4⟩ := tab_vals (w := X.w) (Pr := X.prog) tl kd.lit
  have lenV : vs.length ≤ 1000 := by
    have := congrArg List.length a4
    simp only [List.length_map] at this
    omega
  have lenK : ks.length ≤ 1000 := by rw [Paired.length a2]; exact lenV
  have dd : s.heap.DictOf (mixKind X.prog X.w) d vs := ⟨_, es, k, I.kIn d _ kd.at_, ⟨rfl, rfl, rfl⟩, rfl, fun e he => tab_keys kd.lit e (Array.mem_toList_iff.mpr he), a3, by
    rw [a4]
    unfold List.Nodup at nd ⊢
    rw [List.pairwise_map] at nd ⊢
    exact nd.imp fun h e => h (by injection e)⟩
  refine Call_ (ld_blt I (c.gl g1) (c.fre _ m1) PyProof.Rows.boot_dict (PyProof.Rows.callWith_type1 (args_cons (thn ((pe_glob (X := X) (x := x) (pos := xp) (v := .ref d) (c.gl g2) hm rfl (okName_ok ok).1).run pins s σ H (fun y H1 => y = .ref d ∧ H1 = H) I ⟨rfl, rfl⟩) fun u s1 ⟨y, H1, I1, r1, ey, eH⟩ => args_nil ?_) rfl) rfl))
  subst ey eH
  cases r1
  have dd1 : s1.heap.DictOf (mixKind X.prog X.w) d vs := ⟨_, es, k, I1.kIn d _ kd.at_, ⟨rfl, rfl, rfl⟩, rfl, fun e he => tab_keys kd.lit e (Array.mem_toList_iff.mpr he), a3, dd.choose_spec.choose_spec.choose_spec.2.2.2.2.2⟩
  refine kt_call_dict kd.low dd1 (Nat.le_trans lenV (by decide)) fun h' dd' hs => ?_
  have hn : H1 s1.heap.objs.size = none := I1.hok.fresh (Nat.le_refl _)
  have I2 : Inv X pins σ (upd H1 s1.heap.objs.size (.dK ks)) { s1 with heap := h' } := I1.laid (a := s1.heap.objs.size) (o := .dK ks) (t' := s1.toks) (fun b u hu => (hs.2 b (Nat.ne_of_lt (Heap.lt_size hu))).trans (Heap.get?_push_of_some _ hu)) (Nat.le_refl _) (dk_new (Nat.le_trans lenK (by decide)) (beq_eq_false_iff_ne.mpr (Ne.symm (Nat.ne_of_lt I1.big))) a2 dd')
  refine ⟨.ref s1.heap.objs.size, _, I2, rfl, ?_⟩
  have rk : RepK X.K Hf (kvs.map fun q => (.inr q.1, q.2)) ks := a1.mono fun _ _ e => by cases e
  have hpF : s1.heap.objs.size ∉ F := fun z => by obtain ⟨o, e⟩ := rel.dom _ z; rw [e] at hn; cases hn
  have hf : Hf s1.heap.objs.size = none := by
    cases z : Hf s1.heap.objs.size with
    | none => rfl
    | some o => rw [rel.sub _ o z] at hn; cases hn
  refine q _ _ Hf F ⟨rel.upd hn, (Step.refl Hf F H1).upd hn, [s1.heap.objs.size], .dic upd_same rk.ownK, ?_, ?_, ?_⟩ fun _ => HSub.upd hn
  · rw [List.nodup_append]
    refine ⟨rel.nd, by simp, fun b hb d hd e => ?_⟩
    have : d = s1.heap.objs.size := by simpa using hd
    exact hpF (this ▸ e ▸ hb)
  · intro b hb
    have : b = s1.heap.objs.size := by simpa using hb
    rw [this]; exact hf
  · intro b hb
    have : b = s1.heap.objs.size := by simpa using hb
    rw [this]; exact .inr hn
/-! ### xs[::-1] -/
theorem s_rev {a : CE} {k : Nat} {p1 p2 p3 p : Pos} (ha : PE X a.py (tEv X.K D a)) : PE X (CE.rev a k p1 p2 p3 p).py (tEv X.K D (.rev a k p1 p2 p3 p)) := by
  refine peBy (pe_revA ha) fun σ H Q ⟨S, Hf, F, r, S', rel, he, q⟩ => ?_
  unfold ev at he
  rw [Option.bind_eq_some_iff] at he
  obtain ⟨⟨⟨m, v⟩, S1⟩, e1, he⟩ := he
  refine ⟨S, Hf, F, _, S1, rel, e1, fun x H1 Hf1 F1 g1 q1 => ?_⟩
  obtain ⟨Hf1', s1, rel1, st1, re1, rf1⟩ := g1.opd
  have pu : (CE.rev a k p1 p2 p3 p).pure = true → HSub H H1 := fun hp => q1 (by unfold CE.pure at hp; exact hp)
  cases m with
  | bor => cases v <;> cases he
  | own d =>
    cases v with
    | lst vs =>
      obtain ⟨rfl, rfl⟩ := Prod.mk.inj (Option.some.inj he)
      cases rf1 d rfl with
      | lst hd l => exact ⟨_, _, rfl, .inl ⟨(rdL_mono rel1.sub hd).sq, fun p hp => q _ _ Hf1' F1 (Gives.newL rel1 st1 hp l.reverse) fun h => (pu h).trans (HSub.upd hp)⟩⟩
    | tup vs =>
      obtain ⟨rfl, rfl⟩ := Prod.mk.inj (Option.some.inj he)
      cases rf1 d rfl with
      | tup hd l =>
        refine ⟨_, _, rfl, .inr ⟨sqT_mono rel1.sub hd, fun p hp => ?_⟩⟩
        have g := Gives.newT (Hf := Hf) (F := F) (H := H) rel1 st1 hp l.reverse
        obtain ⟨Hf2, s2, rel2, st2, re2, rf2⟩ := g.opd
        exact q _ _ Hf2 F1 (.frz rel2 st2 (rf2 0 rfl) (.inl rfl)) fun h => (pu h).trans (HSub.upd hp)
    | _ => cases he
/-! ### sorted({..}) -/
def MkS (w : World) (D0 : Addr) (Hf : Hp) (done : List Val) (ob : HO) : Prop := ∃ (ks : List Int) (S : Int → Bool) (n : Nat), done = ks.map .int ∧ ob = SetO w D0 S n ∧ (∀ k, S k = decide (k ∈ ks)) ∧ n ≤ ks.length
theorem MkS.mono {w : World} {D0 : Addr} {Hf Hf' : Hp} {done : List Val} {ob : HO} (s : HSub Hf Hf') (h : MkS w D0 Hf done ob) : MkS w D0 Hf' done ob := h
theorem ints_split {a b : List Val} {ks : List Int} (h : a ++ b = ks.map .int) : ∃ k1 k2, a = k1.map .int ∧ b = k2.map .int ∧ ks = k1 ++ k2 := by
  rw [eq_comm, List.map_eq_append_iff] at h
  obtain ⟨k1, k2, e1, e2, e3⟩ := h
  exact ⟨k1, k2, e2.symm, e3.symm, e1⟩
theorem int_inj {a b : List Int} (h : a.map Val.int = b.map Val.int) : a = b := List.map_inj_right (fun x y e => by injection e) |>.mp h
theorem ss_turn {w : World} {K : Frag} {Hf0 Hf H0 H Hfi H' : Hp} {F0 F : List Addr} {D0 : Addr} {pu : Bool} {τ : L2.St} {done o vs' : List Val} {S S1 : Slots} {ob : HO} {elt : CE} {t : CT} {ifs : CEs} {vs : List Nat} {i : Nat} {v : Val} {x : V}
    (a : AccG (MkS w D0) K Hf0 F0 H0 D0 pu τ done S Hf F ob H) (s : HSub Hfi Hf) (y : YItem K Hfi vs' i H x H') (hv : vs'[i]? = some v) (e : lcTurn D elt t ifs vs v S = some (o, S1)) (hsl : ∀ j ∈ t.slots, j ∈ vs) (hp : pu = true → (elt.pure && ifs.pure) = true)
    (hz : (done ++ o).length ≤ 4000) (hint : ∃ ks : List Int, done ++ o = ks.map .int) {τw : L2.St} (hw : wipe τ vs = τw)
    {Nx : Hp → Prop} (nx : ∀ Hf2 F2 ob2 H2 τ2, wipe τ2 vs = τw → AccG (MkS w D0) K Hf0 F0 H0 D0 pu τw (done ++ o) S1 Hf2 F2 ob2 H2 → HSub Hf Hf2 → Nx H2) :
    tT K t x τ H' fun σ2 H2 => wipe σ2 vs = τw ∧ tTests K D ifs σ2 H2 fun b H3 => if b = true then tEv K D elt σ2 H3 fun y H4 => addS w D0 H4 Nx y else Nx H3 := by
  obtain ⟨v', Hf', ev', s', a', rv⟩ := a.item MkS.mono s y
  rw [hv] at ev'
  cases ev'
  unfold lcTurn at e
  rw [Option.bind_eq_some_iff] at e
  obtain ⟨S2, e1, e⟩ := e
  rw [Option.bind_eq_some_iff] at e
  obtain ⟨⟨b, S3⟩, e2, e⟩ := e
  refine ⟨S, Hf', F, v, S2, a'.rel, rv, e1, fun σ2 F2 rel2 sub2 wp => ⟨(wp vs hsl).trans hw, ?_⟩⟩
  have st2 : Step Hf' F H' Hf' F2 H' := ⟨HSub.refl _, fun _ _ e _ => e, fun _ _ _ _ => rfl, fun a h => .inl (sub2 a h)⟩
  have a2 := a'.step MkS.mono (b := true) rel2 st2 (fun _ => HSub.refl _) (fun _ => rfl)
  refine ⟨S2, Hf', F2, b, S3, rel2, e2, fun H3 Hf3 F3 rel3 st3 p3 => ?_⟩
  have a3 := a2.step MkS.mono (b := ifs.pure) rel3 st3 p3 (fun h => by have := hp h; rw [Bool.and_eq_true] at this; exact this.2)
  dsimp only
  cases b with
  | false =>
    rw [if_neg (by decide)]
    obtain ⟨rfl, rfl⟩ := Prod.mk.inj (Option.some.inj (show some (([] : List Val), wipeS S3 vs) = some (o, S1) from e))
    rw [List.append_nil] at nx
    obtain ⟨F4, a4⟩ := a3.wipe vs
    rw [(wp vs hsl).trans hw] at a4
    exact nx _ _ _ _ σ2 ((wp vs hsl).trans hw) a4 (s'.trans st3.hf)
  | true =>
    rw [if_pos rfl]
    have e : ((ev D elt S3).bind fun r => match r.1.1 with
      | .own _ => some ([r.1.2], wipeS r.2 vs)
      | .bor => none) = some (o, S1) := e
    rw [Option.bind_eq_some_iff] at e
    obtain ⟨⟨⟨m, u⟩, S4⟩, e3, e⟩ := e
    cases m with
    | bor => cases e
    | own d =>
      obtain ⟨rfl, rfl⟩ := Prod.mk.inj (Option.some.inj e)
      refine ⟨S3, Hf3, F3, _, S4, rel3, e3, fun y H4 Hf4 F4 g4 p4 => ?_⟩
      obtain ⟨Hf4', s4, rel4, st4, re4, rf4⟩ := g4.opd
      have a4 := a3.step MkS.mono (b := elt.pure) rel4 st4 p4 (fun h => by have := hp h; rw [Bool.and_eq_true] at this; exact this.1)
      obtain ⟨ks, Sx, n, ed, eo, hS, hn⟩ := a4.rep
      subst eo
      obtain ⟨kk, hk⟩ := hint
      obtain ⟨k1, k2, f1, f2, f3⟩ := ints_split hk
      have ek : ks = k1 := int_inj (ed.symm.trans f1)
      subst ek
      obtain ⟨j, rfl⟩ : ∃ j, k2 = [j] := by
        cases k2 with
        | nil => cases f2
        | cons j r =>
          cases r with
          | nil => exact ⟨j, rfl⟩
          | cons _ _ => simp at f2
      have eu : u = .int j := by simpa using f2
      subst eu
      have ey : y = .int j := by
        cases rf4 d rfl with
        | int _ => rfl
      have len : n + 1 < scanBound := by
        have h1 : done.length = ks.length := by rw [ed, List.length_map]
        rw [List.length_append, List.length_singleton] at hz
        show n + 1 < 4096
        omega
      refine ⟨j, Sx, n, ey, a4.at_, len, ?_⟩
      have mk : MkS w D0 Hf4' (done ++ [.int j]) (SetO w D0 (fun z => Sx z || decide (z = j)) (if Sx j = true then n else n + 1)) := ⟨ks ++ [j], _, _, by rw [ed, List.map_append]; rfl, rfl, fun z => by
        rw [hS z]
        by_cases h1 : z ∈ ks <;> by_cases h2 : z = j <;> simp [h1, h2], by
        rw [List.length_append, List.length_singleton]
        split <;> omega⟩
      obtain ⟨F6, a6⟩ := (a4.push mk).wipe vs
      rw [(wp vs hsl).trans hw] at a6
      exact nx _ _ _ _ σ2 ((wp vs hsl).trans hw) a6 (s'.trans (st3.hf.trans st4.hf))
theorem rep_ints {K : Frag} {H : Hp} : ∀ (ks : List Int), RepL K H (ks.map Val.int) (ks.map V.int)
  | [] => .nil
  | k :: r => .cons (.int k) (rep_ints r)
theorem s_ssc (c : Ctx free D n N sc X) {np : Pos} {elt : CE} {t t1 : CT} {it it1 : CI} {ifs ifs1 : CEs} {scp : Scope} {own : List (Str × Nat)} {vs1 : List Nat} {p q : Pos} (gs : glB sc "sorted" = true) (ms : ("sorted" : Str) ∈ free) (ok : blkC N sc scp own = true) (hsl : ∀ j ∈ t.slots, j ∈ own.map (·.2)) (hsl1 : ∀ j ∈ t1.slots, j ∈ vs1) (hv : ∀ i ∈ vs1, i ∈ own.map (·.2))
    (hi : PI X t.py it.py (tI X.K D it))
    (hg : ∀ (s : Shared) (H : Hp) (C : Addr) (cl : List (Str × Addr)) (fp : List Addr), PG (X.blk s H scp (compEnvC scp cl C X.env) fp) t.py (tT X.K t)) (ht : ∀ (s : Shared) (H : Hp) (C : Addr) (cl : List (Str × Addr)) (fp : List Addr), PTs (X.blk s H scp (compEnvC scp cl C X.env) fp) ifs.py (tTests X.K D ifs))
    (hi1 : ∀ (s : Shared) (H : Hp) (C : Addr) (cl : List (Str × Addr)) (fp : List Addr), PI (X.blk s H scp (compEnvC scp cl C X.env) fp) t1.py it1.py (tI X.K D it1))
    (hg1 : ∀ (s : Shared) (H : Hp) (C : Addr) (cl : List (Str × Addr)) (fp : List Addr), PG (X.blk s H scp (compEnvC scp cl C X.env) fp) t1.py (tT X.K t1)) (ht1 : ∀ (s : Shared) (H : Hp) (C : Addr) (cl : List (Str × Addr)) (fp : List Addr), PTs (X.blk s H scp (compEnvC scp cl C X.env) fp) ifs1.py (tTests X.K D ifs1))
    (he : ∀ (s : Shared) (H : Hp) (C : Addr) (cl : List (Str × Addr)) (fp : List Addr), PE (X.blk s H scp (compEnvC scp cl C X.env) fp) elt.py (tEv X.K D elt)) :
    PE X (CE.ssc np elt t it ifs t1 it1 ifs1 scp own vs1 p q).py (tEv X.K D (.ssc np elt t it ifs t1 it1 ifs1 scp own vs1 p q)) := by
  have blk : BlkOk X.N X.env.scope scp own := by rw [c.hN, c.sc]; exact blkOk_by ok
  have comp : PE X (scE elt.py t.py it.py t1.py it1.py ifs.py ifs1.py scp p) (tSc2 X.w (tI X.K D it) (tT X.K t) (tTests X.K D ifs) (tI X.K D it1) (tT X.K t1) (tTests X.K D ifs1) (tEv X.K D elt) (own.map (·.2)) vs1) :=
    ⟨fun pins s σ H Q I h => sc2_core (p' := p) c.calm (by rw [c.hN]; exact c.nd) I hi blk hv hg ht hi1 hg1 ht1 he (fun x => folded_not it _ x) (fun _ x => folded_not it1 _ x) h⟩
  have okn := okName_ok (bf_ok .sorted)
  refine peBy (pe_callB (cr_sortS c.calm) (c.gl gs) (c.fre _ ms) (boot_bf .sorted) (pa_cons comp pa_nil rfl) okn.2.2 okn.1 rfl rfl) fun σ H Q ⟨S, Hf, F, r, S', rel, hev, qq⟩ => ?_
  unfold ev at hev
  rw [Option.bind_eq_some_iff] at hev
  obtain ⟨⟨vs, S1⟩, e1, hev⟩ := hev
  rw [Option.bind_eq_some_iff] at hev
  obtain ⟨⟨ws, S2⟩, e2, hev⟩ := hev
  rw [Option.bind_eq_some_iff] at hev
  obtain ⟨ks, e3, hev⟩ := hev
  rw [gd_some] at hev
  obtain ⟨fl, hev⟩ := hev
  obtain ⟨rfl, rfl⟩ := Prod.mk.inj (Option.some.inj hev)
  have fl := of_decide_eq_true fl
  have hws : ws = ks.map .int := intsOf_map e3
  have lws : ws.length ≤ 4000 := by rw [hws, List.length_map]; exact fl
  have e2 : compL (lc2Turn D elt t ifs t1 it1 ifs1 (own.map (·.2)) vs1) vs (wipeS S1 (own.map (·.2))) = some (ws, S2) := e2
  refine ⟨S, Hf, F, vs, S1, rel, e1, fun J H1 Hf1 F1 rel1 st1 p1 w => fun D0 hD => ?_⟩
  obtain ⟨F1', relw, subw⟩ := rel1.wipe (own.map (·.2))
  have relw2 := relw.anyAt (own.map (·.2)) fun i hi hl => wipeS_at hi (by rw [wipeS_len] at hl; exact hl)
  let vl := own.map (·.2)
  let pu := elt.pure && ifs.pure && it1.pure && ifs1.pure
  have part : ∀ {a b : List Val}, a ++ b = ws → ∃ k : List Int, a = k.map .int := fun h => by
    rw [hws] at h
    obtain ⟨k1, _, h1, _⟩ := ints_split h
    exact ⟨k1, h1⟩
  have a0 : AccG (MkS X.w D0) X.K Hf1 F1' H1 D0 pu (wipe σ vl) [] (wipeS S1 vl) Hf1 F1' (SetO X.w D0 (fun _ => false) 0) (upd H1 D0 (SetO X.w D0 (fun _ => false) 0)) := AccG.start relw2 hD ⟨[], _, 0, rfl, rfl, fun k => by simp, Nat.le_refl _⟩
  refine it_loop (B := fun Nx x H' => tT X.K t x (wipe σ vl) H' fun σ2 H2 => wipe σ2 vl = wipe σ vl ∧ tTests X.K D ifs σ2 H2 fun b H3 => if b = true then tI X.K D it1 σ2 H3 fun J1 H4 => walks J1 (fun Ny y H5 => tT X.K t1 y (wipe σ2 vs1) H5 fun σ3 H6 => wipe σ3 vs1 = wipe σ2 vs1 ∧ tTests X.K D ifs1 σ3 H6 fun b H7 =>
      if b = true then tEv X.K D elt σ3 H7 fun z H8 => addS X.w D0 H8 Ny z else Ny H7) H4 Nx else Nx H3) w
    (fun i H' => ∃ Si Hfi Fi ob done rest, AccG (MkS X.w D0) X.K Hf1 F1' H1 D0 pu (wipe σ vl) done Si Hfi Fi ob H' ∧ compL (lc2Turn D elt t ifs t1 it1 ifs1 vl vs1) (vs.drop i) Si = some (rest, S2) ∧ done ++ rest = ws ∧ ∃ R, Si = wipeS R vl) ?_ ?_ ?_ ?_
  · exact ⟨_, _, _, _, [], ws, a0, by rw [List.drop_zero]; exact e2, rfl, _, rfl⟩
  · rintro i H' _ ⟨Si, Hfi, Fi, ob, done, rest, a, _⟩
    exact a.st.hf.trans a.rel.sub
  · rintro i x H2 H3 hi ⟨Si, Hfi, Fi, ob, done, rest, a, ec, ew, _⟩ yi
    obtain ⟨v, hv'⟩ : ∃ v, vs[i]? = some v := ⟨vs[i], List.getElem?_eq_getElem hi⟩
    obtain ⟨o, S3, rest', f1, f2, rfl⟩ := compL_step hv' ec
    have wiped := lc2Turn_wiped f1
    obtain ⟨v', Hf', ev', s', a', rv⟩ := a.item MkS.mono a.st.hf yi
    rw [hv'] at ev'
    cases ev'
    unfold lc2Turn at f1
    rw [Option.bind_eq_some_iff] at f1
    obtain ⟨T2, g1, f1⟩ := f1
    rw [Option.bind_eq_some_iff] at f1
    obtain ⟨⟨b, T3⟩, g2, f1⟩ := f1
    refine ⟨Si, Hf', Fi, v, T2, a'.rel, rv, g1, fun σ2 F2 rel2 sub2 wp => ⟨(wp vl hsl).trans wipe_wipe, ?_⟩⟩
    have st2 : Step Hf' Fi H3 Hf' F2 H3 := ⟨HSub.refl _, fun _ _ e _ => e, fun _ _ _ _ => rfl, fun a h => .inl (sub2 a h)⟩
    have a2 := a'.step MkS.mono (b := true) rel2 st2 (fun _ => HSub.refl _) (fun _ => rfl)
    have pus : pu = true → elt.pure = true ∧ ifs.pure = true ∧ it1.pure = true ∧ ifs1.pure = true := fun h => by
      have h : (elt.pure && ifs.pure && it1.pure && ifs1.pure) = true := h
      rw [Bool.and_eq_true, Bool.and_eq_true, Bool.and_eq_true] at h
      exact ⟨h.1.1.1, h.1.1.2, h.1.2, h.2⟩
    refine ⟨T2, Hf', F2, b, T3, rel2, g2, fun H4 Hf4 F4 rel4 st4 p4 => ?_⟩
    have a4 := a2.step MkS.mono (b := ifs.pure) rel4 st4 p4 (fun h => (pus h).2.1)
    have fin : ∀ {τ : L2.St} {So : Slots} {Hf5 : Hp} {F5 : List Addr} {ob5 : HO} {H5 : Hp}, wipe τ vl = wipe σ vl → wipeS So vl = S3 → AccG (MkS X.w D0) X.K Hf1 F1' H1 D0 pu τ (done ++ o) So Hf5 F5 ob5 H5 →
        ∃ Si Hfi Fi ob done' rest, AccG (MkS X.w D0) X.K Hf1 F1' H1 D0 pu (wipe σ vl) done' Si Hfi Fi ob H5 ∧ compL (lc2Turn D elt t ifs t1 it1 ifs1 vl vs1) (vs.drop (i + 1)) Si = some (rest, S2) ∧ done' ++ rest = ws ∧ ∃ R, Si = wipeS R vl := by
      intro τ So Hf5 F5 ob5 H5 hw hS a5
      obtain ⟨F6, a6⟩ := a5.wipe vl
      rw [hw, hS] at a6
      exact ⟨S3, Hf5, F6, ob5, done ++ o, rest', a6, f2, by rw [List.append_assoc]; exact ew, wiped⟩
    dsimp only
    cases b with
    | false =>
      rw [if_neg (by decide)]
      obtain ⟨e5, e6⟩ := Prod.mk.inj (Option.some.inj (show some (([] : List Val), wipeS T3 vl) = some (o, S3) from f1))
      subst e5
      rw [List.append_nil] at fin
      exact fin ((wp vl hsl).trans wipe_wipe) e6 a4
    | true =>
      rw [if_pos rfl]
      have f1 : ((evI D it1 T3).bind fun q1 => (compL (lcTurn D elt t1 ifs1 vs1) q1.1 (wipeS q1.2 vs1)).map fun z => (z.1, wipeS z.2 vl)) = some (o, S3) := f1
      rw [Option.bind_eq_some_iff] at f1
      obtain ⟨⟨us, T4⟩, g3, f1⟩ := f1
      rw [Option.map_eq_some_iff] at f1
      obtain ⟨⟨o', T5⟩, g4, f1⟩ := f1
      obtain ⟨rfl, e7⟩ := Prod.mk.inj f1
      refine ⟨T3, Hf4, F4, us, T4, rel4, g3, fun J1 H5 Hf5 F5 rel5 st5 p5 w1 => ?_⟩
      have a5 := a4.step MkS.mono (b := it1.pure) rel5 st5 p5 (fun h => (pus h).2.2.1)
      obtain ⟨F6, a6⟩ := a5.wipe vs1
      refine it_loop (B := fun Ny y H5 => tT X.K t1 y (wipe σ2 vs1) H5 fun σ3 H6 => wipe σ3 vs1 = wipe σ2 vs1 ∧ tTests X.K D ifs1 σ3 H6 fun b H7 => if b = true then tEv X.K D elt σ3 H7 fun z H8 => addS X.w D0 H8 Ny z else Ny H7) w1
        (fun j H' => ∃ Sj Hfj Fj ob1 done1 rest1, AccG (MkS X.w D0) X.K Hf1 F1' H1 D0 pu (wipe σ2 vs1) done1 Sj Hfj Fj ob1 H' ∧ HSub Hf5 Hfj ∧ compL (lcTurn D elt t1 ifs1 vs1) (us.drop j) Sj = some (rest1, T5) ∧ done1 ++ rest1 = done ++ o') ?_ ?_ ?_ ?_
      · exact ⟨_, _, _, _, done, o', a6, HSub.refl _, by rw [List.drop_zero]; exact g4, rfl⟩
      · rintro j H' _ ⟨Sj, Hfj, Fj, ob1, done1, rest1, b1, b2, _⟩
        exact b2.trans b1.rel.sub
      · rintro j y H7 H8 hj ⟨Sj, Hfj, Fj, ob1, done1, rest1, b1, b2, b3, b4⟩ yj
        obtain ⟨u, hu⟩ : ∃ v, us[j]? = some v := ⟨us[j], List.getElem?_eq_getElem hj⟩
        obtain ⟨o1, S6, rest2, k1, k2, rfl⟩ := compL_step hu b3
        have all : done1 ++ o1 ++ (rest2 ++ rest') = ws := by
          rw [← ew, ← List.append_assoc, ← List.append_assoc, ← b4]
          simp only [List.append_assoc]
        refine ss_turn b1 b2 yj hu k1 hsl1 (fun h => by rw [(pus h).1, (pus h).2.2.2]; rfl) ?_ (part all) wipe_wipe fun Hf9 F9 ob9 H9 τ9 wp9 a9 s9 => ?_
        · have z := congrArg List.length all
          rw [List.length_append] at z
          omega
        · exact ⟨S6, Hf9, F9, ob9, done1 ++ o1, rest2, a9, b2.trans s9, k2, by rw [List.append_assoc]; exact b4⟩
      · rintro H7 ⟨Sj, Hfj, Fj, ob1, done1, rest1, b1, b2, b3, b4⟩
        obtain ⟨rfl, rfl⟩ := compL_end b3
        rw [List.append_nil] at b4
        subst b4
        exact fin ((wipe_sub hv).trans ((wp vl hsl).trans wipe_wipe)) e7 b1
  · rintro H2 ⟨Si, Hfi, Fi, ob, done, rest, a, ec, ew, R, eR⟩
    obtain ⟨rfl, rfl⟩ := compL_end ec
    rw [List.append_nil] at ew
    have hw0 : ∀ i ∈ vl, i < S2.length → S2[i]? = some none := by
      intro i hi hl
      rw [eR] at hl ⊢
      exact wipeS_at hi (by rw [wipeS_len] at hl; exact hl)
    have relF := Rel.ofWipe vl hw0 a.rel
    obtain ⟨kd, Sd, nn, ed, eo, hS, hn⟩ := a.rep
    subst eo
    have ek : kd = ks := int_inj (ed.symm.trans (ew.trans hws))
    subst ek
    refine ⟨D0, Sd, nn, rfl, a.at_, fun ns pp rise mem _ hp => ?_⟩
    have ens : ns = sortU kd := rise_uniq rise rise_sortU fun k => by rw [mem k, hS k, mem_sortU, decide_eq_true_eq]
    subst ens
    have stF : Step Hf F H Hfi Fi H2 := st1.trans ⟨a.st.hf, fun b o e n => a.st.fr b o e fun z => n (subw b z), fun b o e n => a.st.new b o e fun z => n (subw b z), fun b h => (a.st.own b h).imp (subw b) id⟩
    refine qq _ _ Hfi Fi (Gives.newL relF stF hp (rep_ints _)) fun hpu => ?_
    unfold CE.pure at hpu
    rw [Bool.and_eq_true, Bool.and_eq_true, Bool.and_eq_true, Bool.and_eq_true] at hpu
    exact ((p1 hpu.1.1.1.2).trans (a.pu (by show (elt.pure && ifs.pure && it1.pure && ifs1.pure) = true; rw [hpu.1.1.1.1, hpu.1.1.2, hpu.1.2, hpu.2]; rfl))).trans (HSub.upd hp)
end
end BV
/-! Every expression that is well formed means what it means. -/
namespace BV
open PySem PySem.Spec PyProof.Rows L2
/-- the scope of a comprehension's block within a def's -/
def relC (sc scp : Scope) : Scope := { scp with names := scp.names.map fun (n, k) => if (k == .free && sc.kind == .function && sc.names.lookup n == some .cell) then (n, .cell) else (n, k) }
theorem relC_ok {sc scp : Scope} {env : Env} (h : env.scope = sc) (cl : List (Str × Addr)) (C : Addr) : (compEnvC scp cl C env).scope = relC sc scp := by
  subst h; rfl
def fbC (sc scp : Scope) (x : Str) : Bool := (scp.names.lookup x == some .cell) || ((relC sc scp).names.lookup x == some .local)
structure WT where
  free : List Str
  calls : List CallSh
def nm (N : List Str) (sc : Scope) (i : Nat) (x : Str) : Bool := decide (N[i]? = some x) && visB sc x && okName x
def tgOk : CI → CT → Bool
  | .enum .., .name .. => false
  | .zip .., .name .. => false
  | _, _ => true
mutual
def CE.wf (T : WT) (N : List Str) (sc : Scope) : CE → Bool
  | .cst .. => true
  | .var i x _ => nm N sc i x
  | .brw i x _ => nm N sc i x
  | .mov i x _ => nm N sc i x
  | .ref .. => false
  | .pth i x _ k _ => nm N sc i x && k.wf T N sc
  | .glb x _ => glB sc x && okName x
  | .tup es _ _ => es.wf T N sc
  | .lst es _ => es.wf T N sc
  | .dic0 _ => true
  | .bin _ a b _ => a.wf T N sc && b.wf T N sc
  | .neg a _ => a.wf T N sc
  | .nt a _ => a.wf T N sc
  | .bop _ es _ => decide (es.len ≠ 0) && es.wf T N sc
  | .cmp _ a b _ => a.wf T N sc && b.wf T N sc
  | .chn _ _ a b c _ => a.wf T N sc && b.wf T N sc && c.wf T N sc
  | .ifx c a b _ => c.wf T N sc && a.wf T N sc && b.wf T N sc
  | .isi a t _ _ _ => glB sc "isinstance" && glB sc (Str.ofString t.name) && decide (("isinstance" : Str) ∈ T.free) && decide (Str.ofString t.name ∈ T.free) && a.wf T N sc
  | .blt f _ es _ => glB sc f.name && decide (f.name ∈ T.free) && decide (es.len ≠ 0) && es.wf T N sc
  | .call c x _ es ks _ => (match T.calls[c]? with
    | some sh => decide (sh.x = x) && decide (es.len = sh.n) && decide (ks.names = sh.ks)
    | none => false) && glB sc x && okName x && es.wfA T N sc && ks.wf T N sc
  | .idx a i _ => a.wf T N sc && i.wf T N sc
  | .slc a lo hi _ _ => a.wf T N sc && lo.wf T N sc && hi.wf T N sc
  | .lc elt t it ifs scp own _ => blkC N sc scp own && (t.slots.all fun j => decide (j ∈ own.map (·.2))) && it.wf T N sc && tgOk it t && t.wf N (relC sc scp) (fbC sc scp) && decide (ifs.len ≤ 1) && ifs.wf T N (relC sc scp) && elt.wf T N (relC sc scp)
  | .lc2 elt t it ifs t1 it1 ifs1 scp own vs1 _ => blkC N sc scp own && (t.slots.all fun j => decide (j ∈ own.map (·.2))) && it.wf T N sc && tgOk it t && t.wf N (relC sc scp) (fbC sc scp) && decide (ifs.len ≤ 1) && ifs.wf T N (relC sc scp) &&
      (t1.slots.all fun j => decide (j ∈ vs1)) && (vs1.all fun j => decide (j ∈ own.map (·.2))) && it1.wf T N (relC sc scp) && tgOk it1 t1 && t1.wf N (relC sc scp) (fbC sc scp) && decide (ifs1.len ≤ 1) && ifs1.wf T N (relC sc scp) && elt.wf T N (relC sc scp)
  | .popAt i x _ _ _ _ pa p => nm N sc i x && (pa.endLine == p.line)
  | .dcm kx vx t it ifs scp own _ => blkC N sc scp own && (t.slots.all fun j => decide (j ∈ own.map (·.2))) && it.wf T N sc && tgOk it t && t.wf N (relC sc scp) (fbC sc scp) && decide (ifs.len ≤ 1) && ifs.wf T N (relC sc scp) && kx.wf T N (relC sc scp) && vx.wf T N (relC sc scp)
  | .lzip _ _ _ x y _ _ _ _ _ => glB sc "list" && decide (("list" : Str) ∈ T.free) && glB sc "zip" && decide (("zip" : Str) ∈ T.free) && x.wf T N sc && y.wf T N sc
  | .dcp _ _ x _ => glB sc "dict" && decide (("dict" : Str) ∈ T.free) && glB sc x && okName x
  | .rev a _ _ _ _ _ => a.wf T N sc
  | .ssc _ elt t it ifs t1 it1 ifs1 scp own vs1 _ _ => glB sc "sorted" && decide (("sorted" : Str) ∈ T.free) && (blkC N sc scp own && (t.slots.all fun j => decide (j ∈ own.map (·.2))) && it.wf T N sc && tgOk it t && t.wf N (relC sc scp) (fbC sc scp) && decide (ifs.len ≤ 1) && ifs.wf T N (relC sc scp) &&
      (t1.slots.all fun j => decide (j ∈ vs1)) && (vs1.all fun j => decide (j ∈ own.map (·.2))) && it1.wf T N (relC sc scp) && tgOk it1 t1 && t1.wf N (relC sc scp) (fbC sc scp) && decide (ifs1.len ≤ 1) && ifs1.wf T N (relC sc scp) && elt.wf T N (relC sc scp))
  | .lrng _ _ a b _ _ => glB sc "list" && decide (("list" : Str) ∈ T.free) && glB sc "range" && decide (("range" : Str) ∈ T.free) && a.wf T N sc && b.wf T N sc
def CEs.wf (T : WT) (N : List Str) (sc : Scope) : CEs → Bool
  | .nil => true
  | .cons e es => e.wf T N sc && es.wf T N sc
def CEs.wfA (T : WT) (N : List Str) (sc : Scope) : CEs → Bool
  | .nil => true
  | .cons (.ref i x _) es => nm N sc i x && es.wfA T N sc
  | .cons e es => e.wf T N sc && es.wfA T N sc
def CKs.wf (T : WT) (N : List Str) (sc : Scope) : CKs → Bool
  | .nil => true
  | .cons _ e _ ks => e.wf T N sc && ks.wf T N sc
def CO.wf (T : WT) (N : List Str) (sc : Scope) : CO → Bool
  | .no => true
  | .is e => e.wf T N sc
def CI.wf (T : WT) (N : List Str) (sc : Scope) : CI → Bool
  | .seq e => e.wf T N sc
  | .rng1 _ a _ => glB sc "range" && decide (("range" : Str) ∈ T.free) && a.wf T N sc
  | .rng2 _ a b _ => glB sc "range" && decide (("range" : Str) ∈ T.free) && a.wf T N sc && b.wf T N sc
  | .enum _ a _ => glB sc "enumerate" && decide (("enumerate" : Str) ∈ T.free) && a.wf T N sc
  | .zip _ a b _ => glB sc "zip" && decide (("zip" : Str) ∈ T.free) && a.wf T N sc && b.wf T N sc
end
section
variable {T : WT} {D : Den} {n : Nat} {N : List Str}
theorem nm_ok {sc : Scope} {i : Nat} {x : Str} (h : nm N sc i x = true) : N[i]? = some x ∧ visB sc x = true ∧ okName x = true := by
  unfold nm at h
  simp only [Bool.and_eq_true] at h
  exact ⟨of_decide_eq_true h.1.1, h.1.2, h.2⟩
theorem Ctx.blk {free : List Str} {sc scp : Scope} {X : Cx} (c : Ctx free D n N sc X) (s : Shared) (H : Hp) (C : Addr) (cl : List (Str × Addr)) (fp : List Addr) : Ctx free D n N (relC sc scp) (X.blk s H scp (compEnvC scp cl C X.env) fp) :=
  ⟨c.hN, c.nd, relC_ok c.sc cl C, c.calm, rfl, c.gu, c.room, c.con, c.fre, fun i sh h => ⟨(c.cal i sh h).ex⟩, c.tab⟩
theorem fn_blk {sc scp : Scope} {X : Cx} (h : X.env.scope = sc) (s : Shared) (H : Hp) (C : Addr) (cl : List (Str × Addr)) (fp : List Addr) (x : Str) (e : fbC sc scp x = true) :
    (X.blk s H scp (compEnvC scp cl C X.env) fp).fn x = true ∨ (X.blk s H scp (compEnvC scp cl C X.env) fp).env.scope.names.lookup x = some .local := by
  unfold fbC at e
  rw [Bool.or_eq_true] at e
  rcases e with e | e
  · exact .inl e
  · right
    show (compEnvC scp cl C X.env).scope.names.lookup x = some .local
    rw [relC_ok h]
    exact beq_iff_eq.mp e
theorem tg_tup {it : CI} {t : CT} (h : tgOk it t = true) : (∀ np a p, it = .enum np a p → ∃ ts k p', t = .tup ts k p') ∧ ∀ np a b p, it = .zip np a b p → ∃ ts k p', t = .tup ts k p' := by
  refine ⟨fun np a p e => ?_, fun np a b p e => ?_⟩ <;> subst e <;> cases t with
  | name => cases h
  | tup ts k p' => exact ⟨ts, k, p', rfl⟩
/-- {} -/
theorem s_dic0 {D : Den} {X : Cx} {p : Pos} : PE X (CE.dic0 p).py (tEv X.K D (.dic0 p)) := by
  refine peBy pe_dnewK fun σ H Q ⟨S, Hf, F, r, S', rel, he, q⟩ => ?_
  unfold ev at he
  cases he
  intro a ha
  have hpF : a ∉ F := fun h => by obtain ⟨o, e⟩ := rel.dom a h; rw [e] at ha; cases ha
  have hf : Hf a = none := by
    cases z : Hf a with
    | none => rfl
    | some o => rw [rel.sub a o z] at ha; cases ha
  refine q _ _ Hf F ⟨rel.upd ha, (Step.refl Hf F H).upd ha, [a], .dic upd_same .nil, ?_, ?_, ?_⟩ fun _ => HSub.upd ha
  · rw [List.nodup_append]
    refine ⟨rel.nd, by simp, fun b hb c hc e => ?_⟩
    have : c = a := by simpa using hc
    exact hpF (this ▸ e ▸ hb)
  · intro b hb
    have : b = a := by simpa using hb
    rw [this]; exact hf
  · intro b hb
    have : b = a := by simpa using hb
    rw [this]; exact .inr ha
theorem rg_ints {K : Frag} {Hf : Hp} : ∀ (n : Nat) (i : Int), RepL K Hf (intsFrom i n) ((List.range n).map fun k => V.int (i + (k : Nat)))
  | 0, _ => .nil
  | n + 1, i => by
    rw [List.range_succ_eq_map, List.map_cons, List.map_map]
    refine .cons (by rw [show i + ((0 : Nat) : Int) = i by omega]; exact .int _) ?_
    have h := rg_ints (K := K) (Hf := Hf) n (i + 1)
    rw [show ((fun k : Nat => V.int (i + 1 + (k : Nat)))) = (fun k : Nat => V.int (i + (k : Nat))) ∘ Nat.succ from funext fun k => by show V.int _ = V.int _; congr 1; omega] at h
    exact h
/-- list(range(a, b)) -/
theorem s_lrng {free : List Str} {sc : Scope} {X : Cx} (c : Ctx free D n N sc X) {a b : CE} {lp rp pr p : Pos} (g1 : glB sc "list" = true) (m1 : ("list" : Str) ∈ free) (g2 : glB sc "range" = true) (m2 : ("range" : Str) ∈ free)
    (ha : PE X a.py (tEv X.K D a)) (hb : PE X b.py (tEv X.K D b)) : PE X (CE.lrng lp rp a b pr p).py (tEv X.K D (.lrng lp rp a b pr p)) := by
  refine peBy (pe_listRg c.calm (c.gl g1) (c.fre _ m1) (prg_2 (c.gl g2) (c.fre _ m2) ha hb (star_cons a _ _) (star_cons b _ _) (star_cons b _ _ ▸ rfl)) rfl) fun σ H Q ⟨S, Hf, F, r, S', rel, he, q⟩ => ?_
  unfold ev at he
  rw [Option.bind_eq_some_iff] at he
  obtain ⟨⟨⟨m, v⟩, S1⟩, e1, he⟩ := he
  rw [Option.bind_eq_some_iff] at he
  obtain ⟨⟨⟨m', v'⟩, S2⟩, e2, he⟩ := he
  cases v with
  | int i =>
    cases v' with
    | int j =>
      have he : gd (rngOk i j) (some (((.own 1, .lst (intsFrom i (j - i).toNat)) : Res), S2)) = some (r, S') := he
      rw [gd_some] at he
      obtain ⟨ok, he⟩ := he
      obtain ⟨rfl, rfl⟩ := Prod.mk.inj (Option.some.inj he)
      unfold rngOk at ok
      simp only [Bool.and_eq_true] at ok
      have i1 := of_decide_eq_true ok.1.1
      have i2 := of_decide_eq_true ok.1.2
      have i3 := of_decide_eq_true ok.2
      refine ⟨S, Hf, F, _, S1, rel, e1, fun x H1 Hf1 F1 g1 p1 => ?_⟩
      obtain ⟨Hf1', s1, rel1, st1, re1, rf1⟩ := g1.opd
      refine ⟨S1, Hf1', F1, _, S2, rel1, e2, fun y H2 Hf2 F2 g2 p2 => ?_⟩
      obtain ⟨Hf2', s2, rel2, st2, re2, rf2⟩ := g2.opd
      obtain rfl := re1.int_
      obtain rfl := re2.int_
      refine ⟨i, j, rfl, rfl, ⟨i1.1, i1.2, i2.1, i2.2, i3⟩, fun ad had => ?_⟩
      have g := Gives.newL (Hf := Hf) (F := F) (H := H) rel2 (st1.trans st2) had (rg_ints (K := X.K) (Hf := Hf2') (j - i).toNat i)
      refine q _ _ Hf2' F2 g fun hp => ?_
      unfold CE.pure at hp
      rw [Bool.and_eq_true] at hp
      exact (p1 hp.1).trans ((p2 hp.2).trans (HSub.upd had))
    | _ => cases he
  | _ => cases he
/-- a choice, as a test -/
def tChoose (t ta tb : TT) : TT := fun σ H Q => t σ H fun c H1 => if c = true then ta σ H1 Q else tb σ H1 Q
theorem pt_choose {X : Cx} {c a b : Expr} {pos : Pos} {tc ta tb : TT} (hc : PT X c tc) (ha : PT X a ta) (hb : PT X b tb) : PT X (.IfExp c a b pos) (tChoose tc ta tb) := by
  refine ⟨fun pins s σ H Q I h => isTrue_IfExp (thn (hc.run pins s σ H _ I h) fun d s1 ⟨H1, I1, q1⟩ => ?_)⟩
  cases d with
  | true => exact ha.run pins s1 σ H1 Q I1 q1
  | false => exact hb.run pins s1 σ H1 Q I1 q1
theorem t_ifx {D : Den} {X : Cx} {c a b : CE} {p : Pos} (hc : PT X c.py (tTs X.K D c)) (ha : PT X a.py (tTs X.K D a)) (hb : PT X b.py (tTs X.K D b)) : PT X (CE.ifx c a b p).py (tTs X.K D (.ifx c a b p)) := by
  refine ptBy (pt_choose hc ha hb) fun σ H Q ⟨S, Hf, F, bb, S', rel, ht, q⟩ => ?_
  obtain ⟨r, he, et⟩ := tst_some ht
  unfold ev at he
  rw [Option.bind_eq_some_iff] at he
  obtain ⟨⟨t, S1⟩, e1, he⟩ := he
  refine ⟨S, Hf, F, t, S1, rel, e1, fun H1 Hf1 F1 rel1 st1 p1 => ?_⟩
  have hp : ∀ e : CE, (CE.ifx c a b p).pure = true → c.pure = true ∧ a.pure = true ∧ b.pure = true := by
    intro _ hp
    unfold CE.pure at hp
    simp only [Bool.and_eq_true] at hp
    exact ⟨hp.1.1, hp.1.2, hp.2⟩
  cases t with
  | true =>
    show tTs X.K D a σ H1 Q
    exact ⟨S1, Hf1, F1, bb, S', rel1, by show tst (ev D a S1) = _; rw [show ev D a S1 = some (r, S') from he]; unfold tst; rw [Option.bind_some, et]; rfl, fun H2 Hf2 F2 rel2 st2 p2 => q H2 Hf2 F2 rel2 (st1.trans st2) fun h => (p1 (hp c h).1).trans (p2 (hp c h).2.1)⟩
  | false =>
    show tTs X.K D b σ H1 Q
    exact ⟨S1, Hf1, F1, bb, S', rel1, by show tst (ev D b S1) = _; rw [show ev D b S1 = some (r, S') from he]; unfold tst; rw [Option.bind_some, et]; rfl, fun H2 Hf2 F2 rel2 st2 p2 => q H2 Hf2 F2 rel2 (st1.trans st2) fun h => (p1 (hp c h).1).trans (p2 (hp c h).2.2)⟩
mutual
theorem both : ∀ (e : CE) (sc : Scope) (X : Cx), Ctx T.free D n N sc X → T.calls = D.calls → e.wf T N sc = true → PE X e.py (tEv X.K D e) ∧ PT X e.py (tTs X.K D e)
  | .cst c k p, sc, X, cx, hc, w => ⟨s_cst, t_val s_cst fun _ => rfl⟩
  | .var i x p, sc, X, cx, hc, w => by
    obtain ⟨a, b, c⟩ := nm_ok (show nm N sc i x = true from w)
    exact ⟨s_var cx a b c, t_val (s_var cx a b c) fun _ => rfl⟩
  | .brw i x p, sc, X, cx, hc, w => by
    obtain ⟨a, b, c⟩ := nm_ok (show nm N sc i x = true from w)
    exact ⟨s_brw cx a b c, t_val (s_brw cx a b c) fun _ => rfl⟩
  | .mov i x p, sc, X, cx, hc, w => by
    obtain ⟨a, b, c⟩ := nm_ok (show nm N sc i x = true from w)
    exact ⟨s_mov cx a b c, t_val (s_mov cx a b c) fun _ => rfl⟩
  | .ref i x p, sc, X, cx, hc, w => by cases (show false = true from w)
  | .pth i x px k p, sc, X, cx, hc, w => by
    have w : (nm N sc i x && k.wf T N sc) = true := w
    rw [Bool.and_eq_true] at w
    obtain ⟨a, b, c⟩ := nm_ok w.1
    have h := s_pth (px := px) (p := p) cx a b c (both k sc X cx hc w.2).1
    exact ⟨h, t_val h fun _ => rfl⟩
  | .glb x p, sc, X, cx, hc, w => by
    have w : (glB sc x && okName x) = true := w
    rw [Bool.and_eq_true] at w
    exact ⟨s_glb cx w.1 w.2, t_val (s_glb cx w.1 w.2) fun _ => rfl⟩
  | .tup es k p, sc, X, cx, hc, w => by
    have h := s_tup (k := k) (p := p) (all es sc X cx hc w).1
    exact ⟨h, t_val h fun _ => rfl⟩
  | .lst es p, sc, X, cx, hc, w => by
    have h := s_lst (p := p) (all es sc X cx hc w).1
    exact ⟨h, t_val h fun _ => rfl⟩
  | .dic0 p, sc, X, cx, hc, w => ⟨s_dic0, t_val s_dic0 fun _ => rfl⟩
  | .bin op a b p, sc, X, cx, hc, w => by
    have w : (a.wf T N sc && b.wf T N sc) = true := w
    rw [Bool.and_eq_true] at w
    have h := s_bin (op := op) (p := p) (both a sc X cx hc w.1).1 (both b sc X cx hc w.2).1
    exact ⟨h, t_val h fun _ => rfl⟩
  | .neg a p, sc, X, cx, hc, w => by
    have h := s_neg (p := p) (both a sc X cx hc w).1
    exact ⟨h, t_val h fun _ => rfl⟩
  | .nt a p, sc, X, cx, hc, w => ⟨s_nt (both a sc X cx hc w).1, t_nt (both a sc X cx hc w).2⟩
  | .bop o es p, sc, X, cx, hc, w => by
    have w : (decide (es.len ≠ 0) && es.wf T N sc) = true := w
    rw [Bool.and_eq_true] at w
    have h := (all es sc X cx hc w.2).2.2.2 (of_decide_eq_true w.1) o p
    exact ⟨s_bop h.1, t_bop h.2⟩
  | .cmp op a b p, sc, X, cx, hc, w => by
    have w : (a.wf T N sc && b.wf T N sc) = true := w
    rw [Bool.and_eq_true] at w
    have ha := (both a sc X cx hc w.1).1
    have hb := (both b sc X cx hc w.2).1
    exact ⟨s_cmp cx (no_marks op b) ha hb, t_cmp cx (no_marks op b) ha hb⟩
  | .chn op op' a b c p, sc, X, cx, hc, w => by
    have w : (a.wf T N sc && b.wf T N sc && c.wf T N sc) = true := w
    simp only [Bool.and_eq_true] at w
    have ha := (both a sc X cx hc w.1.1).1
    have hb := (both b sc X cx hc w.1.2).1
    have hd := (both c sc X cx hc w.2).1
    exact ⟨s_chn cx (no_marks op' c) ha hb hd, t_chn cx (no_marks op' c) ha hb hd⟩
  | .ifx c a b p, sc, X, cx, hc, w => by
    have w : (c.wf T N sc && a.wf T N sc && b.wf T N sc) = true := w
    simp only [Bool.and_eq_true] at w
    exact ⟨s_ifx (both c sc X cx hc w.1.1).2 (both a sc X cx hc w.1.2).1 (both b sc X cx hc w.2).1, t_ifx (both c sc X cx hc w.1.1).2 (both a sc X cx hc w.1.2).2 (both b sc X cx hc w.2).2⟩
  | .isi a t np tp p, sc, X, cx, hc, w => by
    have w : (glB sc "isinstance" && glB sc (Str.ofString t.name) && decide (("isinstance" : Str) ∈ T.free) && decide (Str.ofString t.name ∈ T.free) && a.wf T N sc) = true := w
    simp only [Bool.and_eq_true, decide_eq_true_eq] at w
    have h := s_isi (np := np) (tp := tp) (p := p) cx w.1.1.1.1 w.1.1.1.2 w.1.1.2 w.1.2 (both a sc X cx hc w.2).1
    exact ⟨h, t_val h fun _ => rfl⟩
  | .blt f np .nil p, sc, X, cx, hc, w => by
    have w : (glB sc f.name && decide (f.name ∈ T.free) && decide (CEs.nil.len ≠ 0) && CEs.nil.wf T N sc) = true := w
    simp only [Bool.and_eq_true, decide_eq_true_eq] at w
    exact absurd rfl w.1.2
  | .blt f np (.cons e es) p, sc, X, cx, hc, w => by
    have w : (glB sc f.name && decide (f.name ∈ T.free) && decide ((CEs.cons e es).len ≠ 0) && (CEs.cons e es).wf T N sc) = true := w
    simp only [Bool.and_eq_true, decide_eq_true_eq] at w
    have h := s_blt (np := np) (p := p) cx w.1.1.1 w.1.1.2 (all (.cons e es) sc X cx hc w.2).2.1
    exact ⟨h, t_val h fun _ => rfl⟩
  | .call ci x np es ks p, sc, X, cx, hc, w => by
    have w : ((match T.calls[ci]? with
      | some sh => decide (sh.x = x) && decide (es.len = sh.n) && decide (ks.names = sh.ks)
      | none => false) && glB sc x && okName x && es.wfA T N sc && ks.wf T N sc) = true := w
    simp only [Bool.and_eq_true] at w
    obtain ⟨⟨⟨⟨w1, w2⟩, w3⟩, w4⟩, w5⟩ := w
    rw [hc] at w1
    cases q : D.calls[ci]? with
    | none => rw [q] at w1; cases w1
    | some sh =>
      rw [q] at w1
      simp only [Bool.and_eq_true, decide_eq_true_eq] at w1
      have h := s_call (np := np) (p := p) cx q w1.1.1 w1.1.2 w1.2 w2 w3 (args es sc X cx hc w4) (kws ks sc X cx hc w5)
      exact ⟨h, t_val h fun _ => rfl⟩
  | .idx a i p, sc, X, cx, hc, w => by
    have w : (a.wf T N sc && i.wf T N sc) = true := w
    rw [Bool.and_eq_true] at w
    have h := s_idx (p := p) cx (both a sc X cx hc w.1).1 (both i sc X cx hc w.2).1
    exact ⟨h, t_val h fun _ => rfl⟩
  | .slc a lo hi sp p, sc, X, cx, hc, w => by
    have w : (a.wf T N sc && lo.wf T N sc && hi.wf T N sc) = true := w
    simp only [Bool.and_eq_true] at w
    have h := s_slc (sp := sp) (p := p) (both a sc X cx hc w.1.1).1 (opt lo sc X cx hc w.1.2) (opt hi sc X cx hc w.2)
    exact ⟨h, t_val h fun _ => rfl⟩
  | .lc elt t it ifs scp own p, sc, X, cx, hc, w => by
    have w : (blkC N sc scp own && (t.slots.all fun j => decide (j ∈ own.map (·.2))) && it.wf T N sc && tgOk it t && t.wf N (relC sc scp) (fbC sc scp) && decide (ifs.len ≤ 1) && ifs.wf T N (relC sc scp) && elt.wf T N (relC sc scp)) = true := w
    simp only [Bool.and_eq_true] at w
    obtain ⟨⟨⟨⟨⟨⟨⟨w1, w2⟩, w3⟩, w4⟩, w5⟩, w6⟩, w7⟩, w8⟩ := w
    obtain ⟨tl, h1, h2, _⟩ := s_lc (p := p) cx w1 (fun j hj => of_decide_eq_true (List.all_eq_true.mp w2 j hj)) (iters it sc X cx hc w3 t w4) (fun s H C cl fp => g_ct (cx.blk s H C cl fp) (fn_blk cx.sc s H C cl fp) t w5)
      (fun s H C cl fp => tests ifs _ _ (cx.blk s H C cl fp) hc w7 (of_decide_eq_true w6)) (fun s H C cl fp => (both elt _ _ (cx.blk s H C cl fp) hc w8).1)
    have h := peBy h2 h1
    exact ⟨h, t_val h fun _ => rfl⟩
  | .lc2 elt t it ifs t1 it1 ifs1 scp own vs1 p, sc, X, cx, hc, w => by
    have w : (blkC N sc scp own && (t.slots.all fun j => decide (j ∈ own.map (·.2))) && it.wf T N sc && tgOk it t && t.wf N (relC sc scp) (fbC sc scp) && decide (ifs.len ≤ 1) && ifs.wf T N (relC sc scp) &&
      (t1.slots.all fun j => decide (j ∈ vs1)) && (vs1.all fun j => decide (j ∈ own.map (·.2))) && it1.wf T N (relC sc scp) && tgOk it1 t1 && t1.wf N (relC sc scp) (fbC sc scp) && decide (ifs1.len ≤ 1) && ifs1.wf T N (relC sc scp) && elt.wf T N (relC sc scp)) = true := w
    simp only [Bool.and_eq_true] at w
    obtain ⟨⟨⟨⟨⟨⟨⟨⟨⟨⟨⟨⟨⟨⟨w1, w2⟩, w3⟩, w4⟩, w5⟩, w6⟩, w7⟩, w8⟩, w9⟩, w10⟩, w11⟩, w12⟩, w13⟩, w14⟩, w15⟩ := w
    obtain ⟨tl, h1, h2, _⟩ := s_lc2 (p := p) cx w1 (fun j hj => of_decide_eq_true (List.all_eq_true.mp w2 j hj)) (fun j hj => of_decide_eq_true (List.all_eq_true.mp w8 j hj)) (fun j hj => of_decide_eq_true (List.all_eq_true.mp w9 j hj))
      (iters it sc X cx hc w3 t w4) (fun s H C cl fp => g_ct (cx.blk s H C cl fp) (fn_blk cx.sc s H C cl fp) t w5)
      (fun s H C cl fp => tests ifs _ _ (cx.blk s H C cl fp) hc w7 (of_decide_eq_true w6)) (fun s H C cl fp => iters it1 _ _ (cx.blk s H C cl fp) hc w10 t1 w11) (fun s H C cl fp => g_ct (cx.blk s H C cl fp) (fn_blk cx.sc s H C cl fp) t1 w12)
      (fun s H C cl fp => tests ifs1 _ _ (cx.blk s H C cl fp) hc w14 (of_decide_eq_true w13)) (fun s H C cl fp => (both elt _ _ (cx.blk s H C cl fp) hc w15).1)
    have h := peBy h2 h1
    exact ⟨h, t_val h fun _ => rfl⟩
  | .popAt i x px k pk j pa p, sc, X, cx, hc, w => by
    have w : (nm N sc i x && (pa.endLine == p.line)) = true := w
    rw [Bool.and_eq_true] at w
    obtain ⟨a, b, c⟩ := nm_ok w.1
    have h := s_popAt (px := px) (pk := pk) (k := k) (j := j) cx a b c w.2
    exact ⟨h, t_val h fun _ => rfl⟩
  | .dcm kx vx t it ifs scp own p, sc, X, cx, hc, w => by
    have w : (blkC N sc scp own && (t.slots.all fun j => decide (j ∈ own.map (·.2))) && it.wf T N sc && tgOk it t && t.wf N (relC sc scp) (fbC sc scp) && decide (ifs.len ≤ 1) && ifs.wf T N (relC sc scp) && kx.wf T N (relC sc scp) && vx.wf T N (relC sc scp)) = true := w
    simp only [Bool.and_eq_true] at w
    obtain ⟨⟨⟨⟨⟨⟨⟨⟨w1, w2⟩, w3⟩, w4⟩, w5⟩, w6⟩, w7⟩, w8⟩, w9⟩ := w
    obtain ⟨tl, h1, h2, _⟩ := s_dc (p := p) cx w1 (fun j hj => of_decide_eq_true (List.all_eq_true.mp w2 j hj)) (iters it sc X cx hc w3 t w4) (fun s H C cl fp => g_ct (cx.blk s H C cl fp) (fn_blk cx.sc s H C cl fp) t w5)
      (fun s H C cl fp => tests ifs _ _ (cx.blk s H C cl fp) hc w7 (of_decide_eq_true w6)) (fun s H C cl fp => (both kx _ _ (cx.blk s H C cl fp) hc w8).1) (fun s H C cl fp => (both vx _ _ (cx.blk s H C cl fp) hc w9).1)
    have h := peBy h2 h1
    exact ⟨h, t_val h fun _ => rfl⟩
  | .lzip b lp zp x y kp cp kk pz p, sc, X, cx, hc, w => by
    have w : (glB sc "list" && decide (("list" : Str) ∈ T.free) && glB sc "zip" && decide (("zip" : Str) ∈ T.free) && x.wf T N sc && y.wf T N sc) = true := w
    simp only [Bool.and_eq_true, decide_eq_true_eq] at w
    obtain ⟨⟨⟨⟨⟨w1, w2⟩, w3⟩, w4⟩, w5⟩, w6⟩ := w
    have h := s_lzip (b := b) (lp := lp) (zp := zp) (kp := kp) (cp := cp) (kk := kk) (pz := pz) (p := p) cx w1 w2 w3 w4 (both x sc X cx hc w5).1 (both y sc X cx hc w6).1
    exact ⟨h, t_val h fun _ => rfl⟩
  | .dcp dp xp x p, sc, X, cx, hc, w => by
    have w : (glB sc "dict" && decide (("dict" : Str) ∈ T.free) && glB sc x && okName x) = true := w
    simp only [Bool.and_eq_true, decide_eq_true_eq] at w
    obtain ⟨⟨⟨w1, w2⟩, w3⟩, w4⟩ := w
    have h := s_dcp (dp := dp) (xp := xp) (p := p) cx w1 w2 w3 w4
    exact ⟨h, t_val h fun _ => rfl⟩
  | .rev a k p1 p2 p3 p, sc, X, cx, hc, w => by
    have h := s_rev (k := k) (p1 := p1) (p2 := p2) (p3 := p3) (p := p) (both a sc X cx hc w).1
    exact ⟨h, t_val h fun _ => rfl⟩
  | .ssc np elt t it ifs t1 it1 ifs1 scp own vs1 p q, sc, X, cx, hc, w => by
    have w : (glB sc "sorted" && decide (("sorted" : Str) ∈ T.free) && (blkC N sc scp own && (t.slots.all fun j => decide (j ∈ own.map (·.2))) && it.wf T N sc && tgOk it t && t.wf N (relC sc scp) (fbC sc scp) && decide (ifs.len ≤ 1) && ifs.wf T N (relC sc scp) &&
      (t1.slots.all fun j => decide (j ∈ vs1)) && (vs1.all fun j => decide (j ∈ own.map (·.2))) && it1.wf T N (relC sc scp) && tgOk it1 t1 && t1.wf N (relC sc scp) (fbC sc scp) && decide (ifs1.len ≤ 1) && ifs1.wf T N (relC sc scp) && elt.wf T N (relC sc scp))) = true := w
    simp only [Bool.and_eq_true] at w
    obtain ⟨⟨v1, v2⟩, ⟨⟨⟨⟨⟨⟨⟨⟨⟨⟨⟨⟨⟨⟨w1, w2⟩, w3⟩, w4⟩, w5⟩, w6⟩, w7⟩, w8⟩, w9⟩, w10⟩, w11⟩, w12⟩, w13⟩, w14⟩, w15⟩⟩ := w
    have h := s_ssc (np := np) (p := p) (q := q) cx v1 (of_decide_eq_true v2) w1 (fun j hj => of_decide_eq_true (List.all_eq_true.mp w2 j hj)) (fun j hj => of_decide_eq_true (List.all_eq_true.mp w8 j hj)) (fun j hj => of_decide_eq_true (List.all_eq_true.mp w9 j hj))
      (iters it sc X cx hc w3 t w4) (fun s H C cl fp => g_ct (cx.blk s H C cl fp) (fn_blk cx.sc s H C cl fp) t w5)
      (fun s H C cl fp => tests ifs _ _ (cx.blk s H C cl fp) hc w7 (of_decide_eq_true w6)) (fun s H C cl fp => iters it1 _ _ (cx.blk s H C cl fp) hc w10 t1 w11) (fun s H C cl fp => g_ct (cx.blk s H C cl fp) (fn_blk cx.sc s H C cl fp) t1 w12)
      (fun s H C cl fp => tests ifs1 _ _ (cx.blk s H C cl fp) hc w14 (of_decide_eq_true w13)) (fun s H C cl fp => (both elt _ _ (cx.blk s H C cl fp) hc w15).1)
    exact ⟨h, t_val h fun _ => rfl⟩
  | .lrng lp rp a b pr p, sc, X, cx, hc, w => by
    have w : (glB sc "list" && decide (("list" : Str) ∈ T.free) && glB sc "range" && decide (("range" : Str) ∈ T.free) && a.wf T N sc && b.wf T N sc) = true := w
    simp only [Bool.and_eq_true, decide_eq_true_eq] at w
    obtain ⟨⟨⟨⟨⟨w1, w2⟩, w3⟩, w4⟩, w5⟩, w6⟩ := w
    have h := s_lrng (lp := lp) (rp := rp) (pr := pr) (p := p) cx w1 w2 w3 w4 (both a sc X cx hc w5).1 (both b sc X cx hc w6).1
    exact ⟨h, t_val h fun _ => rfl⟩
theorem all : ∀ (es : CEs) (sc : Scope) (X : Cx), Ctx T.free D n N sc X → T.calls = D.calls → es.wf T N sc = true → PA X es.py (tEvs X.K D es) ∧ PA X es.py (tEvo X.K D es) ∧ PA X es.py (tEva X.K D es) ∧
    (es.len ≠ 0 → ∀ o p, PE X (.BoolOp o es.py p) (tEb X.K D o es) ∧ PW X (.BoolOp o es.py p) (tEt X.K D (fun S => tst (evb D o es S)) es.pure))
  | .nil, sc, X, cx, hc, w => ⟨pa_nilT, pa_nilO, pa_nilA, fun h => absurd rfl h⟩
  | .cons e .nil, sc, X, cx, hc, w => by
    have w : (e.wf T N sc && true) = true := w
    rw [Bool.and_eq_true] at w
    have h := both e sc X cx hc w.1
    exact ⟨pa_consT h.1 pa_nilT, pa_consO h.1 pa_nilO, pa_consA (fun i x p z => by subst z; cases (show false = true from w.1)) h.1 pa_nilA, fun _ o p => ⟨b_one h.1, t_bop1 h.2⟩⟩
  | .cons e (.cons e2 es), sc, X, cx, hc, w => by
    have w : (e.wf T N sc && (CEs.cons e2 es).wf T N sc) = true := w
    rw [Bool.and_eq_true] at w
    have h := both e sc X cx hc w.1
    have r := all (.cons e2 es) sc X cx hc w.2
    refine ⟨pa_consT h.1 r.1, pa_consO h.1 r.2.1, pa_consA (fun i x p z => by subst z; cases (show false = true from w.1)) h.1 r.2.2.1, fun _ o p => ?_⟩
    have rr := r.2.2.2 (by unfold CEs.len; omega) o p
    exact ⟨b_more h.1 rr.1, t_bop2 h.2 rr.2⟩
theorem args : ∀ (es : CEs) (sc : Scope) (X : Cx), Ctx T.free D n N sc X → T.calls = D.calls → es.wfA T N sc = true → PA X es.py (tEva X.K D es)
  | .nil, sc, X, cx, hc, w => pa_nilA
  | .cons e es, sc, X, cx, hc, w => by
    by_cases hr : ∃ i x p, e = .ref i x p
    · obtain ⟨i, x, p, rfl⟩ := hr
      have w : (nm N sc i x && es.wfA T N sc) = true := w
      rw [Bool.and_eq_true] at w
      obtain ⟨a, b, c⟩ := nm_ok w.1
      exact pa_refA cx a b c (args es sc X cx hc w.2)
    · have w : (e.wf T N sc && es.wfA T N sc) = true := by
        cases e <;> first | exact w | exact absurd ⟨_, _, _, rfl⟩ hr
      rw [Bool.and_eq_true] at w
      exact pa_consA (fun i x p z => hr ⟨i, x, p, z⟩) (both e sc X cx hc w.1).1 (args es sc X cx hc w.2)
theorem kws : ∀ (ks : CKs) (sc : Scope) (X : Cx), Ctx T.free D n N sc X → T.calls = D.calls → ks.wf T N sc = true → PK X ks.py (tEvk X.K D ks)
  | .nil, sc, X, cx, hc, w => pk_nilA
  | .cons x e p ks, sc, X, cx, hc, w => by
    have w : (e.wf T N sc && ks.wf T N sc) = true := w
    rw [Bool.and_eq_true] at w
    exact pk_consA (both e sc X cx hc w.1).1 (kws ks sc X cx hc w.2)
theorem opt : ∀ (o : CO) (sc : Scope) (X : Cx), Ctx T.free D n N sc X → T.calls = D.calls → o.wf T N sc = true → ∀ e, o = .is e → PE X e.py (tEv X.K D e)
  | .no, sc, X, cx, hc, w, e, h => by cases h
  | .is e', sc, X, cx, hc, w, e, h => by
    cases h
    exact (both e' sc X cx hc w).1
theorem tests : ∀ (ifs : CEs) (sc : Scope) (X : Cx), Ctx T.free D n N sc X → T.calls = D.calls → ifs.wf T N sc = true → ifs.len ≤ 1 → PTs X ifs.py (tTests X.K D ifs)
  | .nil, sc, X, cx, hc, w, hl => pts_ce (fun e h => by cases h) hl
  | .cons e es, sc, X, cx, hc, w, hl => by
    have w : (e.wf T N sc && es.wf T N sc) = true := w
    rw [Bool.and_eq_true] at w
    refine pts_ce (fun e' h => ?_) hl
    cases h
    exact (both e sc X cx hc w.1).2
theorem iters : ∀ (it : CI) (sc : Scope) (X : Cx), Ctx T.free D n N sc X → T.calls = D.calls → it.wf T N sc = true → ∀ (t : CT), tgOk it t = true → PI X t.py it.py (tI X.K D it)
  | .seq e, sc, X, cx, hc, w, t, h => i_seq (both e sc X cx hc w).1
  | .rng1 np a p, sc, X, cx, hc, w, t, h => by
    have w : (glB sc "range" && decide (("range" : Str) ∈ T.free) && a.wf T N sc) = true := w
    simp only [Bool.and_eq_true, decide_eq_true_eq] at w
    exact i_rng1 cx w.1.1 w.1.2 (both a sc X cx hc w.2).1
  | .rng2 np a b p, sc, X, cx, hc, w, t, h => by
    have w : (glB sc "range" && decide (("range" : Str) ∈ T.free) && a.wf T N sc && b.wf T N sc) = true := w
    simp only [Bool.and_eq_true, decide_eq_true_eq] at w
    exact i_rng2 cx w.1.1.1 w.1.1.2 (both a sc X cx hc w.1.2).1 (both b sc X cx hc w.2).1
  | .enum np a p, sc, X, cx, hc, w, t, h => by
    have w : (glB sc "enumerate" && decide (("enumerate" : Str) ∈ T.free) && a.wf T N sc) = true := w
    simp only [Bool.and_eq_true, decide_eq_true_eq] at w
    obtain ⟨ts, k, p', rfl⟩ := (tg_tup h).1 np a p rfl
    exact i_enum cx w.1.1 w.1.2 (both a sc X cx hc w.2).1
  | .zip np a b p, sc, X, cx, hc, w, t, h => by
    have w : (glB sc "zip" && decide (("zip" : Str) ∈ T.free) && a.wf T N sc && b.wf T N sc) = true := w
    simp only [Bool.and_eq_true, decide_eq_true_eq] at w
    obtain ⟨ts, k, p', rfl⟩ := (tg_tup h).2 np a b p rfl
    exact i_zip cx w.1.1.1 w.1.1.2 (both a sc X cx hc w.1.2).1 (both b sc X cx hc w.2).1
end
end
end BV
/-! Statements. -/
namespace BV
open PySem PySem.Spec PyProof.Rows L2
def Kept (B : List Nat) (σ σ' : L2.St) : Prop := ∀ i ∈ B, σ'[i]? = σ[i]?
theorem Kept.refl (B : List Nat) (σ : L2.St) : Kept B σ σ := fun _ _ => rfl
theorem Kept.trans {B : List Nat} {σ σ1 σ2 : L2.St} (a : Kept B σ σ1) (b : Kept B σ1 σ2) : Kept B σ σ2 := fun i h => (b i h).trans (a i h)
theorem Kept.set {B : List Nat} {σ : L2.St} {i : Nat} {x : Option V} (h : i ∉ B) : Kept B σ (σ.set i x) := fun j hj => by
  rw [List.getElem?_set_ne]
  rintro rfl
  exact h hj
theorem wipe_out {σ : L2.St} : ∀ {l : List Nat} {i : Nat}, i ∉ l → (wipe σ l)[i]? = σ[i]?
  | [], _, _ => rfl
  | j :: l, i, h => by
    unfold wipe
    rw [List.getElem?_set_ne (fun e => h (by rw [e]; exact List.mem_cons_self ..))]
    exact wipe_out fun z => h (List.mem_cons_of_mem _ z)
def Fin (K : Frag) (B : List Nat) (Hf : Hp) (F : List Addr) (H : Hp) (σ : L2.St) (E : Ends) : Out → Prop
  | .nx S' => ∀ σ' H' Hf' F', Rel K Hf' F' S' σ' H' → Step Hf F H Hf' F' H' → Kept B σ σ' → E.nx σ' H'
  | .bk S' => ∀ σ' H' Hf' F', Rel K Hf' F' S' σ' H' → Step Hf F H Hf' F' H' → Kept B σ σ' → E.bk σ' H'
  | .ct S' => ∀ σ' H' Hf' F', Rel K Hf' F' S' σ' H' → Step Hf F H Hf' F' H' → Kept B σ σ' → E.ct σ' H'
  | .rt r S' => ∀ x σ' H' Hf' F', Gives K Hf F H S' σ' (.own r.1, r.2) x Hf' F' H' → Kept B σ σ' → E.rt x H'
theorem Fin.on {K : Frag} {B : List Nat} {Hf Hf1 H H1 : Hp} {F F1 : List Addr} {σ σ1 : L2.St} {E : Ends} {o : Out} (f : Fin K B Hf F H σ E o) (st : Step Hf F H Hf1 F1 H1) (k : Kept B σ σ1) : Fin K B Hf1 F1 H1 σ1 E o := by
  cases o with
  | nx S => exact fun σ' H' Hf' F' r s k' => f σ' H' Hf' F' r (st.trans s) (k.trans k')
  | bk S => exact fun σ' H' Hf' F' r s k' => f σ' H' Hf' F' r (st.trans s) (k.trans k')
  | ct S => exact fun σ' H' Hf' F' r s k' => f σ' H' Hf' F' r (st.trans s) (k.trans k')
  | rt r S => exact fun x σ' H' Hf' F' g k' => f x σ' H' Hf' F' (resTrans st g) (k.trans k')
def tX (K : Frag) (B : List Nat) (o : Slots → Option Out) : TS := fun E σ H => ∃ S Hf F out, Rel K Hf F S σ H ∧ o S = some out ∧ Fin K B Hf F H σ E out
theorem psBy {X : Cx} {st : Stmt} {t t' : TS} (h : PS X st t) (w : ∀ E σ H, t' E σ H → t E σ H) : PS X st t' := ⟨fun pins s σ H E I q => h.run pins s σ H E I (w E σ H q)⟩
theorem pssBy {X : Cx} {st : List Stmt} {t t' : TS} (h : PSs X st t) (w : ∀ E σ H, t' E σ H → t E σ H) : PSs X st t' := ⟨fun pins s σ H E I q => h.run pins s σ H E I (w E σ H q)⟩
/-- a thing is made to fit into a container of depth d within -/
theorem fit {K : Frag} {Hf H : Hp} {F G : List Addr} {S : Slots} {σ : L2.St} {d d' : Nat} {v : Val} {x : V} (rel : Rel K Hf F S σ H) (ow : Own K Hf H d' v x G) (nd : (F ++ G).Nodup) (off : ∀ a ∈ G, Hf a = none) (h : fitsIn d (d', v) = true) :
    ∃ Hf' G', HSub Hf Hf' ∧ Rel K Hf' F S σ H ∧ Own K Hf' H d v x G' ∧ (∀ a ∈ G', a ∈ G) ∧ (F ++ G').Nodup ∧ (∀ a ∈ G', Hf' a = none) ∧ ∀ a, a ∉ G → Hf' a = Hf a := by
  unfold fitsIn at h
  simp only [Bool.or_eq_true, beq_iff_eq] at h
  rcases h with (h | h) | h
  · obtain ⟨rfl, ow'⟩ := ow.flat (d' := d) h
    exact ⟨Hf, [], HSub.refl _, rel, ow', fun a h => h, nd, off, fun _ _ => rfl⟩
  · subst h
    have s1 := frzH_sub (H := H) off
    have dis : ∀ a ∈ F, a ∉ G := fun a ha hg => (List.nodup_append.mp nd).2.2 a ha a hg rfl
    exact ⟨frzH Hf H G, [], s1, rel.grow s1 (frzH_le rel.sub) fun a ha => by rw [frzH_out (dis a ha)]; exact rel.off a ha, .frz (.inl rfl) (ow.freeze off), fun a h => (by cases h), by simpa using rel.nd, fun a h => (by cases h), fun a h => frzH_out h⟩
  · have h : d' = d := h
    subst h
    exact ⟨Hf, G, HSub.refl _, rel, ow, fun a h => h, nd, off, fun _ _ => rfl⟩
theorem OwnL.snoc {K : Frag} {Hf H : Hp} {d : Nat} {v : Val} {x : V} {G' : List Addr} (h : Own K Hf H d v x G') : ∀ {xs : List Val} {ys : List V} {G : List Addr}, OwnL K Hf H d xs ys G → OwnL K Hf H d (xs ++ [v]) (ys ++ [x]) (G ++ G')
  | _, _, _, .nil => by simpa using OwnL.cons h .nil
  | _, _, _, .cons (F := F) (G := G) q r => by
    have := OwnL.cons q (OwnL.snoc h r)
    simpa using this
section
variable {free : List Str} {D : Den} {n : Nat} {N : List Str} {sc : Scope} {X : Cx} {B : List Nat}
theorem room_slot (c : Ctx free D n N sc X) {i : Nat} {x : Str} {pins : List (Addr × Obj)} {s : Shared} {σ : L2.St} {H Hf : Hp} {F : List Addr} {S : Slots} (hi : N[i]? = some x) (I : Inv X pins σ H s) {H' : Hp} (rel : Rel X.K Hf F S σ H') : i < S.length := by
  have e1 := I.len
  have e2 := rel.len
  have := lt_of_get hi
  rw [c.hN] at e1
  omega
/-- a thing goes into a slot -/
theorem Gives.put {K : Frag} {Hf H Hf1 H1 : Hp} {F F1 : List Addr} {S1 : Slots} {σ : L2.St} {d : Nat} {v : Val} {x : V} {i : Nat} (g : Gives K Hf F H S1 σ (.own d, v) x Hf1 F1 H1) (hi : i < S1.length) :
    ∃ F', Rel K Hf1 F' (S1.set i (some (d, v))) (σ.set i (some x)) H1 ∧ Step Hf F H Hf1 F' H1 := by
  obtain ⟨rel, st, G, ow, nd, off, fr⟩ := g
  obtain ⟨F', rel', sub⟩ := rel.put hi ow nd off
  exact ⟨F', rel', st.hf, st.fr, st.new, fun a ha => (sub a ha).elim (st.own a) (fr a)⟩
theorem x_name (c : Ctx free D n N sc X) {i : Nat} {x : Str} {px p : Pos} {e : CE} {tl : TE} (hi : N[i]? = some x) (hB : i ∉ B) (hp : PS X (.Assign [.Name x px] e.py p) (tAsg tl (gName i))) (w : ∀ σ H Q, tEv X.K D e σ H Q → tl σ H Q) :
    PS X (CS.asg (.name i x px) e p).py (tX X.K B (ex D (.asg (.name i x px) e p))) := by
  refine ⟨fun pins s σ H E I h => hp.run pins s σ H E I ?_⟩
  obtain ⟨S, Hf, F, out, rel, ho, fin⟩ := h
  unfold ex at ho
  rw [Option.bind_eq_some_iff] at ho
  obtain ⟨⟨⟨m, v⟩, S1⟩, e1, ho⟩ := ho
  cases m with
  | bor => cases ho
  | own d =>
    cases ho
    refine w σ H _ ⟨S, Hf, F, _, S1, rel, e1, fun y H1 Hf1 F1 g p1 => ?_⟩
    obtain ⟨F', rel', st'⟩ := g.put (room_slot c hi I g.rel)
    exact fin _ _ _ _ rel' st' (Kept.set hB)
/-- the names that could be stored in another order -/
def ownNames (sc : Scope) (l : List Expr) : List Str := l.filterMap fun
  | .Name id pos => if sc.names.lookup id == some .local && pos.line == (l.head?.map (·.pos.line)).getD 0 then some id else none
  | _ => none
/-- the stores come in their own order -/
def inTurn (sc : Scope) (ts : CTs) : CE → Bool
  | .tup es _ _ => !(ts.py.length == 2 || ts.py.length == 3) || es.py.length != ts.py.length || (ownNames sc ts.py).length != ts.py.length || (ownNames sc ts.py).eraseDups.length != (ownNames sc ts.py).length
  | _ => true
theorem inTurn_ok {sc : Scope} {ts : CTs} {k : Nat} {pt : Pos} {e : CE} {env : Env} (hs : env.scope = sc) (h : inTurn sc ts e = true) : swappedStores [(CT.tup ts k pt).py] e.py env = pure none := by
  subst hs
  cases e with
  | tup es k2 p2 =>
    show swappedStores [.Tuple ts.py k pt] (.Tuple es.py k2 p2) env = _
    unfold inTurn at h
    unfold swappedStores
    dsimp only
    split
    · rfl
    · rename_i c1
      split
      · rfl
      · split
        · rfl
        · rename_i c2
          exfalso
          simp only [Bool.or_eq_true] at h c1 c2
          have eq : ownNames env.scope ts.py = ts.py.filterMap (fun
            | .Name id pos => if env.kindOf id == some .local && pos.line == (ts.py.head?.map (·.pos.line)).getD 0 then some id else none
            | _ => none) := rfl
          rw [eq] at h
          rcases h with ((h | h) | h) | h
          · exact c1 (.inl (.inl h))
          · exact c1 (.inl (.inr h))
          · exact c2 (.inl h)
          · exact c2 (.inr h)
  | _ => rfl
theorem x_tup (c : Ctx free D n N sc X) {ts : CTs} {k : Nat} {pt p : Pos} {e : CE} (he : PE X e.py (tEv X.K D e)) (hg : PG X (CT.tup ts k pt).py (tT X.K (.tup ts k pt))) (hB : ∀ i ∈ B, i ∉ (CT.tup ts k pt).slots) (hn : inTurn sc ts e = true) :
    PS X (CS.asg (.tup ts k pt) e p).py (tX X.K B (ex D (.asg (.tup ts k pt) e p))) := by
  refine psBy (ps_asg he hg (by cases e <;> rfl) (inTurn_ok c.sc hn) rfl) fun E σ H ⟨S, Hf, F, out, rel, ho, fin⟩ => ?_
  unfold ex at ho
  rw [Option.bind_eq_some_iff] at ho
  obtain ⟨⟨⟨m, v⟩, S1⟩, e1, ho⟩ := ho
  cases m with
  | bor => cases ho
  | own d =>
    have ho : ((CT.tup ts k pt).set v S1).map Out.nx = some out := ho
    rw [Option.map_eq_some_iff] at ho
    obtain ⟨S2, e2, rfl⟩ := ho
    refine ⟨S, Hf, F, _, S1, rel, e1, fun y H1 Hf1 F1 g p1 => ?_⟩
    obtain ⟨Hf1', s1, rel1, st1, re1, rf1⟩ := g.opd
    refine ⟨S1, Hf1', F1, v, S2, rel1, rf1 d rfl, e2, fun σ' F' rel' sub wp => ?_⟩
    refine fin σ' H1 Hf1' F' rel' ⟨st1.hf, st1.fr, st1.new, fun a ha => st1.own a (sub a ha)⟩ fun i hi => ?_
    have q := wp (CT.tup ts k pt).slots fun _ h => h
    rw [← wipe_out (σ := σ') (hB i hi), q, wipe_out (hB i hi)]
theorem x_par (c : Ctx free D n N sc X) {i j : Nat} {x y : Str} {px py pt p2 p : Pos} {kt k2 : Nat} {a b : CE} (hi : N[i]? = some x) (hj : N[j]? = some y) (hij : i ≠ j) (iB : i ∉ B) (jB : j ∉ B) (hx : sc.names.lookup x = some .local) (hy : sc.names.lookup y = some .local)
    (h : PA X [a.py, b.py] (tEvs X.K D (.cons a (.cons b .nil)))) (hw : swappedStores [.Tuple [.Name x px, .Name y py] kt pt] (.Tuple [a.py, b.py] k2 p2) X.env = pure (some [x, y])) :
    PS X (CS.par i j x y px py kt pt a b k2 p2 p).py (tX X.K B (ex D (.par i j x y px py kt pt a b k2 p2 p))) := by
  have hp := ps_par (pos := p) c.calm (by rw [c.hN]; exact c.nd) (by rw [c.hN]; exact hi) (by rw [c.hN]; exact hj) hij (by rw [c.sc]; exact hx) (by rw [c.sc]; exact hy) h hw rfl
  refine ⟨fun pins s σ H E I h => hp.run pins s σ H E I ?_⟩
  obtain ⟨S, Hf, F, out, rel, ho, fin⟩ := h
  unfold ex at ho
  rw [Option.bind_eq_some_iff] at ho
  obtain ⟨⟨rs, S1⟩, e1, ho⟩ := ho
  dsimp only at ho
  split at ho
  · rename_i r r'
    cases ho
    refine ⟨S, Hf, F, _, S1, rel, e1, fun xs H1 Hf1 F1 g p1 => ?_⟩
    obtain ⟨rel1, st1, G, ow, nd, off, fr⟩ := g
    cases ow with
    | cons ow1 t1 =>
      cases t1 with
      | cons ow2 t2 =>
        cases t2
        rename_i d v u Ga d' v' u' Gb
        have l1 := room_slot c hi I rel1
        have l2 := room_slot c hj I rel1
        refine ⟨u, u', rfl, ?_⟩
        rw [List.append_nil] at nd off fr
        have ndp := nd
        simp only [List.nodup_append, List.mem_append] at ndp
        obtain ⟨F2, rel2, sub2⟩ := rel1.put (i := i) l1 ow1 (by simp only [List.nodup_append]; grind) fun a ha => off a (List.mem_append_left _ ha)
        have nd2 : (F2 ++ Gb).Nodup := by
          have h2 := rel2.nd
          simp only [List.nodup_append]
          grind
        obtain ⟨F3, rel3, sub3⟩ := rel2.put (i := j) (by rw [List.length_set]; exact l2) ow2 nd2 fun a ha => off a (List.mem_append_right _ ha)
        refine fin _ H1 Hf1 F3 rel3 ⟨st1.hf, st1.fr, st1.new, fun a ha => ?_⟩ ((Kept.set iB).trans (Kept.set jB))
        rcases sub3 a ha with z | z
        · rcases sub2 a z with z | z
          · exact st1.own a z
          · exact fr a (List.mem_append_left _ z)
        · exact fr a (List.mem_append_right _ z)
  · cases ho
theorem x_expr (c : Ctx free D n N sc X) {e : CE} {p : Pos} (he : PE X e.py (tEv X.K D e)) (hs : swapsWith e.py none p.line X.env = pure false) : PS X (CS.expr e p).py (tX X.K B (ex D (.expr e p))) := by
  refine psBy (ps_expr he hs) fun E σ H ⟨S, Hf, F, out, rel, ho, fin⟩ => ?_
  unfold ex at ho
  rw [Option.map_eq_some_iff] at ho
  obtain ⟨⟨r, S1⟩, e1, rfl⟩ := ho
  exact ⟨S, Hf, F, r, S1, rel, e1, fun y H1 Hf1 F1 g p1 => fin σ H1 Hf1 F1 g.rel g.st (Kept.refl _ _)⟩
theorem x_ret {e : CE} {p : Pos} (he : PE X e.py (tEv X.K D e)) : PS X (CS.ret e p).py (tX X.K B (ex D (.ret e p))) := by
  refine psBy (ps_ret he) fun E σ H ⟨S, Hf, F, out, rel, ho, fin⟩ => ?_
  unfold ex at ho
  rw [Option.bind_eq_some_iff] at ho
  obtain ⟨⟨⟨m, v⟩, S1⟩, e1, ho⟩ := ho
  cases m with
  | bor => cases ho
  | own d =>
    cases ho
    exact ⟨S, Hf, F, _, S1, rel, e1, fun y H1 Hf1 F1 g p1 => fin y σ H1 Hf1 F1 g (Kept.refl _ _)⟩
theorem x_retN {p : Pos} : PS X (CS.retN p).py (tX X.K B (ex D (.retN p))) := by
  refine psBy ps_retN fun E σ H ⟨S, Hf, F, out, rel, ho, fin⟩ => ?_
  cases ho
  exact fin .non σ H Hf F (.frz rel (Step.refl _ _ _) .non (.inl rfl)) (Kept.refl _ _)
theorem x_pass {p : Pos} : PS X (CS.pass p).py (tX X.K B (ex D (.pass p))) := by
  refine psBy ps_pass fun E σ H ⟨S, Hf, F, out, rel, ho, fin⟩ => ?_
  cases ho
  exact fin σ H Hf F rel (Step.refl _ _ _) (Kept.refl _ _)
theorem x_brk {p : Pos} : PS X (CS.brk p).py (tX X.K B (ex D (.brk p))) := by
  refine psBy ps_break fun E σ H ⟨S, Hf, F, out, rel, ho, fin⟩ => ?_
  cases ho
  exact fin σ H Hf F rel (Step.refl _ _ _) (Kept.refl _ _)
theorem x_cnt {p : Pos} : PS X (CS.cnt p).py (tX X.K B (ex D (.cnt p))) := by
  refine psBy ps_continue fun E σ H ⟨S, Hf, F, out, rel, ho, fin⟩ => ?_
  cases ho
  exact fin σ H Hf F rel (Step.refl _ _ _) (Kept.refl _ _)
theorem x_nvr {st : Stmt} : PS X (CS.nvr st).py (tX X.K B (ex D (.nvr st))) :=
  psBy ps_never fun E σ H ⟨S, Hf, F, out, rel, ho, fin⟩ => by cases ho
theorem x_ife {ce : CE} {a b : CSs} {p : Pos} (hc : PT X ce.py (tTs X.K D ce)) (ha : PSs X a.py (tX X.K B (exs D a))) (hb : PSs X b.py (tX X.K B (exs D b))) : PS X (CS.ife ce a b p).py (tX X.K B (ex D (.ife ce a b p))) := by
  refine psBy (ps_if hc ha hb) fun E σ H ⟨S, Hf, F, out, rel, ho, fin⟩ => ?_
  unfold ex at ho
  rw [Option.bind_eq_some_iff] at ho
  obtain ⟨⟨t, S1⟩, e1, ho⟩ := ho
  refine ⟨S, Hf, F, t, S1, rel, e1, fun H1 Hf1 F1 rel1 st1 p1 => ?_⟩
  cases t with
  | true => exact ⟨S1, Hf1, F1, out, rel1, ho, fin.on st1 (Kept.refl _ _)⟩
  | false => exact ⟨S1, Hf1, F1, out, rel1, ho, fin.on st1 (Kept.refl _ _)⟩
theorem xs_nil : PSs X CSs.nil.py (tX X.K B (exs D .nil)) := by
  refine pssBy pss_nil fun E σ H ⟨S, Hf, F, out, rel, ho, fin⟩ => ?_
  cases ho
  exact fin σ H Hf F rel (Step.refl _ _ _) (Kept.refl _ _)
theorem xs_cons {st : CS} {ss : CSs} (h1 : PS X st.py (tX X.K B (ex D st))) (h2 : PSs X ss.py (tX X.K B (exs D ss))) : PSs X (CSs.cons st ss).py (tX X.K B (exs D (.cons st ss))) := by
  refine pssBy (pss_cons h1 h2) fun E σ H ⟨S, Hf, F, out, rel, ho, fin⟩ => ?_
  unfold exs at ho
  refine ⟨S, Hf, F, ?_⟩
  split at ho
  · rename_i S1 e1
    exact ⟨.nx S1, rel, e1, fun σ' H' Hf' F' rel' st k => ⟨S1, Hf', F', out, rel', ho, fin.on st k⟩⟩
  · rename_i e1
    refine ⟨out, rel, ho, ?_⟩
    cases out with
    | nx S1 => exact absurd ho (e1 S1)
    | bk S1 => exact fin
    | ct S1 => exact fin
    | rt r S1 => exact fin
theorem x_aug (c : Ctx free D n N sc X) {i : Nat} {x : Str} {px p : Pos} {op : Operator} {e : CE} (hi : N[i]? = some x) (hl : locB sc x = true) (hB : i ∉ B) (hf : X.fn x = true) (he : PE X e.py (tEv X.K D e)) :
    PS X (CS.aug i x px op e p).py (tX X.K B (ex D (.aug i x px op e p))) := by
  have core : ∀ {ti : TIp}, PIp X op ti → (∀ (k v : Int) (S2 : Slots) (out : Out), (match op, Val.int v with
      | .Add, .int m => some (Out.nx (S2.set i (some (0, .int (k + m)))))
      | .Sub, .int m => some (.nx (S2.set i (some (0, .int (k - m)))))
      | _, _ => none) = some out → ∃ z, out = .nx (S2.set i (some (0, .int z))) ∧ ∀ H (Q : VK), Q (.int z) H → ti (.int k) (.int v) H Q) → PS X (CS.aug i x px op e p).py (tX X.K B (ex D (.aug i x px op e p))) := by
    intro ti hip hz
    have hp := ps_aug (pos := p) (pos' := px) (by rw [c.hN]; exact c.nd) (by rw [c.hN]; exact hi) (by rw [c.sc]; exact locB_ok hl) he hip (.inl hf)
    refine ⟨fun pins s σ H E I h => hp.run pins s σ H E I ?_⟩
    obtain ⟨S, Hf, F, out, rel, ho, fin⟩ := h
    unfold ex at ho
    split at ho
    · rename_i d k e0
      rw [Option.bind_eq_some_iff] at ho
      obtain ⟨⟨⟨m, v⟩, S1⟩, e1, ho⟩ := ho
      obtain ⟨y, G, hy, ow, _⟩ := rel.get e0
      have ey : y = .int k := by
        cases ow with
        | frz _ r => cases r; rfl
      subst ey
      refine ⟨_, hy, S, Hf, F, _, S1, rel, e1, fun z H1 Hf1 F1 g p1 => ?_⟩
      obtain ⟨Hf1', s1, rel1, st1, re1, rf1⟩ := g.opd
      cases v with
      | int v =>
        obtain ⟨w, rfl, q⟩ := hz k v S1 out ho
        have ez : z = .int v := by
          cases re1 with
          | flat _ r => cases r; rfl
        subst ez
        refine q _ _ ?_
        obtain ⟨F', rel', sub⟩ := rel1.put (i := i) (d := 0) (v := .int w) (x := .int w) (G := []) (room_slot c hi I rel1) (.frz (.inl rfl) (.int w)) (by simpa using rel1.nd) (fun a h => by cases h)
        exact fin _ H1 Hf1' F' rel' ⟨st1.hf, st1.fr, st1.new, fun a ha => (sub a ha).elim (st1.own a) fun z => by cases z⟩ (Kept.set hB)
      | _ => exfalso; revert ho; cases op <;> simp
    · cases ho
  cases op with
  | Add => exact core ip_add fun k v S2 out h => ⟨k + v, (Option.some.inj h).symm, fun H Q q => ⟨k, v, rfl, rfl, q⟩⟩
  | Sub => exact core ip_sub fun k v S2 out h => ⟨k - v, (Option.some.inj h).symm, fun H Q q => ⟨k, v, rfl, rfl, q⟩⟩
  | _ =>
    refine psBy ps_never fun E σ H ⟨S, Hf, F, out, rel, ho, fin⟩ => ?_
    unfold ex at ho
    split at ho
    · rw [Option.bind_eq_some_iff] at ho
      obtain ⟨q, e1, ho⟩ := ho
      cases ho
    · cases ho
theorem nd_app {F0 F1 Gl Gw : List Addr} {a : Addr} (nd0 : (F0 ++ a :: Gl).Nodup) (ndw : (F1 ++ Gw).Nodup) (sub : ∀ b, b ∈ F0 ∨ b ∈ a :: Gl → b ∈ F1) : (F0 ++ a :: (Gl ++ Gw)).Nodup := by
  have d : ∀ b ∈ Gw, ¬ (b ∈ F0 ∨ b ∈ a :: Gl) := fun b hb h => (List.nodup_append.mp ndw).2.2 b (sub b h) b hb rfl
  have w : Gw.Nodup := (List.nodup_append.mp ndw).2.1
  clear sub ndw
  simp only [List.nodup_append, List.nodup_cons, List.mem_append, List.mem_cons] at *
  grind
theorem nd_set {F0 F1 G1 Gm G3 Gw : List Addr} {a : Addr} (nd0 : (F0 ++ a :: (G1 ++ Gm ++ G3)).Nodup) (ndw : (F1 ++ Gw).Nodup) (sub : ∀ b, b ∈ F0 ∨ b ∈ a :: (G1 ++ Gm ++ G3) → b ∈ F1) : (F0 ++ a :: (G1 ++ Gw ++ G3)).Nodup := by
  have d : ∀ b ∈ Gw, ¬ (b ∈ F0 ∨ b ∈ a :: (G1 ++ Gm ++ G3)) := fun b hb h => (List.nodup_append.mp ndw).2.2 b (sub b h) b hb rfl
  have w : Gw.Nodup := (List.nodup_append.mp ndw).2.1
  clear sub ndw
  simp only [List.nodup_append, List.nodup_cons, List.mem_append, List.mem_cons] at *
  grind
/-- a list in a slot is changed in place -/
theorem Rel.relist {K : Frag} {Hf H : Hp} {F : List Addr} {S : Slots} {σ : L2.St} {i d : Nat} {xs xs' : List Val} {ys ys' : List V} {a : Addr} {G0 G G' Gx : List Addr} (rel0 : Rel K Hf G0 (S.set i Option.none) σ H) (hs : i < S.length) (hy : σ[i]? = some (some (.ref a)))
    (ow : OwnL K Hf (L2.upd H a (.lst ys')) d xs' ys' G') (nd : (G0 ++ a :: G').Nodup) (off : ∀ b ∈ a :: G', Hf b = Option.none) :
    ∃ F', Rel K Hf F' (S.set i (some (d + 1, .lst xs'))) σ (L2.upd H a (.lst ys')) ∧ ∀ b ∈ F', b ∈ G0 ∨ b ∈ a :: G' := by
  have ha : a ∉ G0 := fun z => by
    have := (List.nodup_append.mp nd).2.2 a z a (List.mem_cons_self ..)
    exact this rfl
  obtain ⟨F', relN, subN⟩ := (rel0.mut (p := a) (o := .lst ys') ha (off a (List.mem_cons_self ..))).put (i := i) (by rw [List.length_set]; exact hs) (Own.lst (d := d) upd_same ow) nd off
  rw [List.set_set, set_same hy] at relN
  exact ⟨F', relN, subN⟩
theorem x_app (c : Ctx free D n N sc X) {i : Nat} {x : Str} {px pa pc p : Pos} {e : CE} (hi : N[i]? = some x) (hv : visB sc x = true) (ok : okName x = true) (hl : (pa.endLine == pc.line) = true) (he : PE X e.py (tEv X.K D e)) :
    PS X (CS.app i x px pa e pc p).py (tX X.K B (ex D (.app i x px pa e pc p))) := by
  have h1 : PE X (.Name x px) (tVar i) := pe_var (i := i) (by rw [c.hN]; exact hi) (by rw [c.sc]; exact visB_ok hv) (okName_ok ok).1 (okName_ok ok).2.1
  have hs := star_cons e [] X.env
  have pe := pe_bm (cpos := pc) (apos := pa) PySem.F.plainAttrs_list PySem.F.slot_list_append PySem.F.type_list_append (mt_append (X := X)) h1 (pa_cons he pa_nil hs) rfl (by rw [hs]; rfl) hl hs rfl
  refine psBy (ps_expr (pos := p) pe rfl) fun E σ H ⟨S, Hf, F, out, rel, ho, fin⟩ => ?_
  unfold ex at ho
  split at ho
  · rename_i d0 xs0 e0
    rw [Option.bind_eq_some_iff] at ho
    obtain ⟨⟨⟨m, v⟩, S1⟩, e1, ho⟩ := ho
    dsimp only at ho
    split at ho
    · rename_i d xs d' e2
      rw [gd_some, Bool.and_eq_true] at ho
      obtain ⟨⟨hfit, hz⟩, ho⟩ := ho
      cases ho
      have hz := of_decide_eq_true hz
      obtain ⟨y, G, hy, ow, _⟩ := rel.get e0
      have ty : L2.tyV X.K "list" y H := by
        cases ow with
        | frz _ r => cases r with | lst h _ => exact .inl ⟨rfl, _, (rdL_mono rel.sub h).sq⟩
        | lst h _ => exact .inl ⟨rfl, _, .inl (.inl h)⟩
      refine ⟨_, hy, ty, S, Hf, F, _, S1, rel, e1, fun z H1 Hf1 F1 g p1 => ?_⟩
      obtain ⟨rel1, st1, Gv, owv, ndv, offv, frv⟩ := g
      obtain ⟨Hf2, Gw, s12, rel2, oww, subw, ndw, offw, same⟩ := fit rel1 owv ndv offv hfit
      obtain ⟨y2, G2, F0, hy2, ow2, rel0, nd0, iff0, off0⟩ := rel2.take e2
      rw [hy] at hy2
      cases hy2
      cases ow2 with
      | frz hd r => rcases hd with z | z <;> cases z
      | lst ha l =>
        rename_i a ys Gl
        refine ⟨a, ys, z, rfl, rfl, ha, by rw [l.length]; exact hz, ?_⟩
        have fresh : a ∉ Gw := fun h => (List.nodup_append.mp ndw).2.2 a ((iff0 a).mpr (.inr (List.mem_cons_self ..))) a h rfl
        have nda := nd0
        simp only [List.nodup_append, List.nodup_cons, List.mem_cons] at nda
        have keep : ∀ b, b ≠ a → ∀ o, H1 b = some o → upd H1 a (.lst (ys ++ [z])) b = some o := fun b n o e => by rw [upd_ne n]; exact e
        have l' : OwnL X.K Hf2 (upd H1 a (.lst (ys ++ [z]))) d (xs ++ [v]) (ys ++ [z]) (Gl ++ Gw) :=
          OwnL.snoc (oww.mono (HSub.refl _) fun b hb o e => keep b (fun q => fresh (q ▸ hb)) o e) (l.mono (HSub.refl _) fun b hb o e => keep b (fun q => by subst q; exact nda.2.1.1 hb) o e)
        obtain ⟨F', relN, subN⟩ := Rel.relist (G := []) (Gx := []) (F := []) (xs := xs) (ys := ys) rel0 (lt_of_get e2) hy l' (nd_app nd0 ndw fun b h => (iff0 b).mpr h) (fun b hb => by
          rcases List.mem_cons.mp hb with z | z
          · rw [z]; exact off0 a (List.mem_cons_self ..)
          · rcases List.mem_append.mp z with z | z
            · exact off0 b (List.mem_cons_of_mem _ z)
            · exact offw b z)
        have st2 : Step Hf F H Hf2 F1 H1 := ⟨st1.hf.trans s12, st1.fr, fun b o e nF => by
          rw [same b fun hg => (frv b hg).elim nF fun q => by rw [e] at q; cases q]
          exact st1.new b o e nF, st1.own⟩
        refine fin σ _ Hf2 F' relN ⟨st2.hf, fun b o e nF => keep b (fun q => ?_) o (st2.fr b o e nF), st2.new, fun b hb => ?_⟩ (Kept.refl _ _)
        · rcases st2.own a ((iff0 a).mpr (.inr (List.mem_cons_self ..))) with z | z
          · exact nF (q ▸ z)
          · rw [← q, e] at z; cases z
        · rcases subN b hb with z | z
          · exact st2.own b ((iff0 b).mpr (.inl z))
          · rcases List.mem_cons.mp z with z | z
            · rw [z]; exact st2.own a ((iff0 a).mpr (.inr (List.mem_cons_self ..)))
            · rcases List.mem_append.mp z with z | z
              · exact st2.own b ((iff0 b).mpr (.inr (List.mem_cons_of_mem _ z)))
              · exact frv b (subw b z)
    · cases ho
  · cases ho
theorem x_setI (c : Ctx free D n N sc X) {i : Nat} {x : Str} {px tp p : Pos} {k e : CE} (hi : N[i]? = some x) (hv : visB sc x = true) (ok : okName x = true) (hk : PE X k.py (tEv X.K D k)) (he : PE X e.py (tEv X.K D e)) :
    PS X (CS.setI i x px k e tp p).py (tX X.K B (ex D (.setI i x px k e tp p))) := by
  have h1 : PE X (.Name x px) (tVar i) := pe_var (i := i) (by rw [c.hN]; exact hi) (by rw [c.sc]; exact visB_ok hv) (okName_ok ok).1 (okName_ok ok).2.1
  refine psBy (ps_asg (pos := p) he (pg_sub (pos := tp) h1 hk (set_list (X := X)) (by intro _; cases k <;> rfl)) (by cases e <;> rfl) (by cases e <;> rfl) rfl) fun E σ H ⟨S, Hf, F, out, rel, ho, fin⟩ => ?_
  unfold ex at ho
  rw [Option.bind_eq_some_iff] at ho
  obtain ⟨⟨⟨m, v⟩, S1⟩, e1, ho⟩ := ho
  dsimp only at ho
  split at ho
  · rename_i r0 e0
    rw [Option.bind_eq_some_iff] at ho
    obtain ⟨⟨⟨mk, kv⟩, S2⟩, e2, ho⟩ := ho
    dsimp only at ho
    split at ho
    · rename_i d xs mm d' e3
      rw [gd_some, Option.map_eq_some_iff] at ho
      obtain ⟨hfit, j, hj, rfl⟩ := ho
      refine ⟨S, Hf, F, _, S1, rel, e1, fun z H1 Hf1 F1 g p1 => ?_⟩
      obtain ⟨rel1, st1, Gv, owv, ndv, offv, frv⟩ := g
      obtain ⟨y, _, hy, _, _⟩ := rel1.get (d := r0.1) (v := r0.2) e0
      refine ⟨y, hy, S1, Hf1, F1, _, S2, rel1, e2, fun w H2 Hf2 F2 g2 p2 => ?_⟩
      have disv : ∀ a ∈ Gv, a ∉ F1 := fun a ha hf => (List.nodup_append.mp ndv).2.2 a hf a ha rfl
      obtain ⟨Hf2', s2, rel2, st2, re2, rf2⟩ := g2.opd
      obtain ⟨owv', disv', offv'⟩ := owv.held st2 disv offv
      have ndv' : (F2 ++ Gv).Nodup := by
        have := rel2.nd
        simp only [List.nodup_append] at ndv ⊢
        grind
      obtain ⟨Hf3, Gw, s23, rel3, oww, subw, ndw, offw, same⟩ := fit rel2 owv' ndv' offv' hfit
      have ew : w = .int mm := by
        cases re2 with
        | flat _ r => cases r; rfl
      subst ew
      obtain ⟨y2, G2, F0, hy2, ow2, rel0, nd0, iff0, off0⟩ := rel3.take e3
      rw [hy] at hy2
      cases hy2
      cases ow2 with
      | frz hd r => rcases hd with z | z <;> cases z
      | lst ha l =>
        rename_i a ys Gl _
        refine ⟨a, ys, mm, j, rfl, rfl, ha, by rw [l.length]; exact hj, ?_⟩
        have hjl : j < xs.length := by
          unfold ixN at hj
          grind
        obtain ⟨old, hold⟩ : ∃ u, xs[j]? = some u := ⟨xs[j], List.getElem?_eq_getElem hjl⟩
        obtain ⟨b0, G1, Gm, G3, eb, eG, owb, put⟩ := l.split hold
        subst eG
        have fresh : a ∉ Gw := fun h => (List.nodup_append.mp ndw).2.2 a ((iff0 a).mpr (.inr (List.mem_cons_self ..))) a h rfl
        have nda := nd0
        simp only [List.nodup_append, List.nodup_cons, List.mem_cons, List.mem_append] at nda
        have keep : ∀ b, b ≠ a → ∀ o, H2 b = some o → upd H2 a (.lst (ys.set j z)) b = some o := fun b n o e => by rw [upd_ne n]; exact e
        have l' : OwnL X.K Hf3 (upd H2 a (.lst (ys.set j z))) d (xs.set j v) (ys.set j z) (G1 ++ Gw ++ G3) :=
          put (fun b hb o e => keep b (fun q => by subst q; exact nda.2.1.1 (hb.elim (fun z => .inl (.inl z)) .inr)) o e) (oww.mono (HSub.refl _) fun b hb o e => keep b (fun q => fresh (q ▸ hb)) o e)
        obtain ⟨F', relN, subN⟩ := Rel.relist (G := []) (Gx := []) (F := []) (xs := xs) (ys := ys) rel0 (lt_of_get e3) hy l' (nd_set nd0 ndw fun b h => (iff0 b).mpr h) (fun b hb => by
          have : b ∈ a :: (G1 ++ Gm ++ G3) ∨ b ∈ Gw := by
            simp only [List.mem_append, List.mem_cons] at hb ⊢
            grind
          rcases this with z | z
          · exact off0 b z
          · exact offw b z)
        have st3 : Step Hf F H Hf3 F2 H2 := by
          have t := st1.trans st2
          refine ⟨t.hf.trans s23, t.fr, fun b o e nF => ?_, t.own⟩
          rw [same b fun hg => (frv b hg).elim nF fun q => by rw [e] at q; cases q]
          exact t.new b o e nF
        refine fin σ _ Hf3 F' relN ⟨st3.hf, fun b o e nF => keep b (fun q => ?_) o (st3.fr b o e nF), st3.new, fun b hb => ?_⟩ (Kept.refl _ _)
        · rcases st3.own a ((iff0 a).mpr (.inr (List.mem_cons_self ..))) with z | z
          · exact nF (q ▸ z)
          · rw [← q, e] at z; cases z
        · rcases subN b hb with z | z
          · exact st3.own b ((iff0 b).mpr (.inl z))
          · have : b ∈ a :: (G1 ++ Gm ++ G3) ∨ b ∈ Gw := by
              simp only [List.mem_append, List.mem_cons] at z ⊢
              grind
            rcases this with z | z
            · exact st3.own b ((iff0 b).mpr (.inr z))
            · exact frv b (subw b z)
    · cases ho
  · cases ho
theorem forL_step {f : Val → Slots → Option Out} {vs : List Val} {i : Nat} {v : Val} {S : Slots} (hv : vs[i]? = some v) : forL f (vs.drop i) S = match f v S with
    | some (.nx S1) => forL f (vs.drop (i + 1)) S1
    | some (.ct S1) => forL f (vs.drop (i + 1)) S1
    | some (.bk S1) => some (.nx S1)
    | some (.rt r S1) => some (.rt r S1)
    | none => none := by
  have hl := lt_of_get hv
  have e : vs.drop i = v :: vs.drop (i + 1) := by
    rw [List.drop_eq_getElem_cons hl]
    congr 1
    rw [List.getElem?_eq_getElem hl] at hv
    exact Option.some.inj hv
  rw [e]
  rfl
theorem Rel.item {K : Frag} {Hf Hfi H H' : Hp} {F : List Addr} {S : Slots} {σ : L2.St} {vs : List Val} {i : Nat} {x : V} (rel : Rel K Hf F S σ H) (s : HSub Hfi Hf) (y : YItem K Hfi vs i H x H') :
    ∃ v Hf', vs[i]? = some v ∧ Rel K Hf' F S σ H' ∧ Step Hf F H Hf' F H' ∧ Rep K Hf' v x := by
  obtain ⟨v, e, y⟩ := y
  rcases y with ⟨rfl, r⟩ | ⟨T, p, q, y1, y2, rfl, rfl, hT, rfl, r1, r2⟩
  · exact ⟨v, Hf, e, rel, Step.refl _ _ _, r.mono s⟩
  · have g := Gives.newT (Hf := Hf) (F := F) (H := H) rel (Step.refl _ _ _) hT (.cons (r1.mono s) (.cons (r2.mono s) .nil))
    obtain ⟨Hf', s1, rel', st', re, rf⟩ := g.opd
    exact ⟨_, Hf', e, rel', st', rf 0 rfl⟩
theorem x_for (c : Ctx free D n N sc X) {t : CT} {it : CI} {body : CSs} {p : Pos} (hi : PI X t.py it.py (tI X.K D it)) (hg : PG X t.py (tT X.K t)) (hB : ∀ i ∈ B, i ∉ t.slots) (hb : PSs X body.py (tX X.K B (exs D body))) :
    PS X (CS.forr t it body p).py (tX X.K B (ex D (.forr t it body p))) := by
  refine psBy (ps_for (pos := p) (by rw [c.xe]; exact PassesOwn.never) c.calm hi hg hb fun x => folded_not it _ x) fun E σ H ⟨S, Hf, F, out, rel, ho, fin⟩ => ?_
  unfold ex at ho
  rw [Option.bind_eq_some_iff] at ho
  obtain ⟨⟨vs, S1⟩, e1, ho⟩ := ho
  refine ⟨S, Hf, F, vs, S1, rel, e1, fun J H1 Hf1 F1 rel1 st1 p1 w => ?_⟩
  let f := fun v S1 => (t.set v S1).bind fun S2 => exs D body S2
  have ho : forL f vs S1 = some out := ho
  have fin1 := fin.on st1 (Kept.refl B σ)
  refine for_it w (fun i σ' H' => ∃ Si Hfi Fi, Rel X.K Hfi Fi Si σ' H' ∧ Step Hf1 F1 H1 Hfi Fi H' ∧ Kept B σ σ' ∧ forL f (vs.drop i) Si = some out) ?_ ?_ ?_ ?_
  · exact ⟨S1, Hf1, F1, rel1, Step.refl _ _ _, Kept.refl _ _, by rw [List.drop_zero]; exact ho⟩
  · rintro i σ' H' _ ⟨Si, Hfi, Fi, ri, si, _⟩
    exact si.hf.trans ri.sub
  · rintro i x σ' H2 H3 hlt ⟨Si, Hfi, Fi, ri, si, ki, fi⟩ yi
    obtain ⟨v, Hf3, hv, rel3, st3, rep3⟩ := ri.item si.hf yi
    rw [forL_step hv] at fi
    have go : ∃ S2 o2, t.set v Si = some S2 ∧ exs D body S2 = some o2 ∧ f v Si = some o2 := by
      cases q : f v Si with
      | none => rw [q] at fi; cases fi
      | some o2 =>
        have q' := q
        show ∃ S2 o2', _
        simp only [f, Option.bind_eq_some_iff] at q'
        obtain ⟨S2, a1, a2⟩ := q'
        exact ⟨S2, o2, a1, a2, rfl⟩
    obtain ⟨S2, o2, a1, a2, a3⟩ := go
    rw [a3] at fi
    refine ⟨Si, Hf3, Fi, v, S2, rel3, rep3, a1, fun σ2 F2 rel4 sub4 wp => ?_⟩
    have k2 : Kept B σ' σ2 := fun j hj => by
      have q := wp t.slots fun _ h => h
      rw [← wipe_out (σ := σ2) (hB j hj), q, wipe_out (hB j hj)]
    have st4 : Step Hf1 F1 H1 Hf3 F2 H3 := (si.trans st3).trans ⟨HSub.refl _, fun _ _ e _ => e, fun _ _ _ _ => rfl, fun a h => .inl (sub4 a h)⟩
    refine ⟨S2, Hf3, F2, o2, rel4, a2, ?_⟩
    cases o2 with
    | nx S5 => exact fun σ5 H5 Hf5 F5 rel5 st5 k5 => ⟨S5, Hf5, F5, rel5, st4.trans st5, (ki.trans k2).trans k5, fi⟩
    | ct S5 => exact fun σ5 H5 Hf5 F5 rel5 st5 k5 => ⟨S5, Hf5, F5, rel5, st4.trans st5, (ki.trans k2).trans k5, fi⟩
    | bk S5 =>
      cases fi
      exact fun σ5 H5 Hf5 F5 rel5 st5 k5 => fin1 σ5 H5 Hf5 F5 rel5 (st4.trans st5) ((ki.trans k2).trans k5)
    | rt r S5 =>
      cases fi
      exact fun x5 σ5 H5 Hf5 F5 g5 k5 => fin1 x5 σ5 H5 Hf5 F5 (resTrans st4 g5) ((ki.trans k2).trans k5)
  · rintro σ' H' ⟨Si, Hfi, Fi, ri, si, ki, fi⟩
    rw [List.drop_length] at fi
    cases fi
    exact fin1 σ' H' Hfi Fi ri si ki
end
/-! ### all of them -/
def swB (sc : Scope) (y : Str) (py : Pos) (pos : Pos) (scp : Scope) : Bool := (sc.names.lookup y == some .local) && (py.line == pos.line) && !(scp.names.any fun (n, k) => n == y && (k == .local || k == .cell))
theorem sw_at {elt : Expr} {gs : List Comprehension} {scp sc : Scope} {pos py : Pos} {y : Str} {l : Nat} {env : Env} (hs : env.scope = sc) (hk : sc.kind = .function) : swapsWith (.ListComp elt gs scp pos) (some (.Name y py)) l env = pure (swB sc y py pos scp) := by
  subst hs
  have hb : env.blockKind = .function := by unfold Env.blockKind; rw [hk]; rfl
  unfold swapsWith swB
  simp only [hb, Expr.pos]
  rfl
theorem sw_atD {kx vx : Expr} {gs : List Comprehension} {scp sc : Scope} {pos py : Pos} {y : Str} {l : Nat} {env : Env} (hs : env.scope = sc) (hk : sc.kind = .function) : swapsWith (.DictComp kx vx gs scp pos) (some (.Name y py)) l env = pure (swB sc y py pos scp) := by
  subst hs
  have hb : env.blockKind = .function := by
    unfold Env.blockKind
    rw [hk]
    rfl
  unfold swapsWith swB
  simp only [hb, Expr.pos]
  rfl
def CE.isLc : CE → Bool
  | .lc .. => true | .lc2 .. => true | .dcm .. => true | _ => false
def outB (B : List Nat) (t : CT) : Bool := B.all fun i => !(t.slots.contains i)
theorem outB_ok {B : List Nat} {t : CT} (h : outB B t = true) : ∀ i ∈ B, i ∉ t.slots := fun i hi z => by
  have := List.all_eq_true.mp h i hi
  simp [z] at this
def swPar (sc : Scope) (x y : Str) (px py : Pos) (a b : CE) : Bool := decide (x ≠ y) && (py.line == px.line) && !((foldedForSure 8 a.py) && (foldedForSure 8 b.py)) && !((constantsAlone 8 a.py) && (constantsAlone 8 b.py))
mutual
def CS.wf (T : WT) (N : List Str) (sc : Scope) (B : List Nat) : CS → Bool
  | .asg (.name i x _) e _ => decide (N[i]? = some x) && locB sc x && !(B.contains i) && e.wf T N sc
  | .asg (.tup ts k pt) e _ => inTurn sc ts e && (CT.tup ts k pt).wf N sc (fun _ => true) && outB B (.tup ts k pt) && e.wf T N sc
  | .par i j x y px py _ _ a b _ _ _ => decide (N[i]? = some x) && decide (N[j]? = some y) && decide (i ≠ j) && !(B.contains i) && !(B.contains j) && (sc.names.lookup x == some .local) && (sc.names.lookup y == some .local) && swPar sc x y px py a b && (CEs.cons a (.cons b .nil)).wf T N sc
  | .setI i x _ k e _ _ => nm N sc i x && k.wf T N sc && e.wf T N sc
  | .expr e _ => !e.isLc && e.wf T N sc
  | .app i x _ pa e pc _ => nm N sc i x && (pa.endLine == pc.line) && e.wf T N sc
  | .aug i x _ _ e _ => decide (N[i]? = some x) && locB sc x && !(B.contains i) && e.wf T N sc
  | .ife c a b _ => c.wf T N sc && a.wf T N sc B && b.wf T N sc B
  | .forr t it body _ => tgOk it t && t.wf N sc (fun _ => true) && outB B t && it.wf T N sc && body.wf T N sc B
  | .ret e _ => e.wf T N sc
  | _ => true
def CSs.wf (T : WT) (N : List Str) (sc : Scope) (B : List Nat) : CSs → Bool
  | .nil => true
  | .cons s ss => s.wf T N sc B && ss.wf T N sc B
end
theorem notB {B : List Nat} {i : Nat} (h : (!(B.contains i)) = true) : i ∉ B := fun z => by simp [z] at h
theorem sw_par {sc : Scope} {x y : Str} {px py pt p2 : Pos} {kt k2 : Nat} {a b : CE} {env : Env} (hs : env.scope = sc) (hk : sc.kind = .function) (hx : sc.names.lookup x = some .local) (hy : sc.names.lookup y = some .local) (h : swPar sc x y px py a b = true) :
    swappedStores [.Tuple [.Name x px, .Name y py] kt pt] (.Tuple [a.py, b.py] k2 p2) env = pure (some [x, y]) := by
  subst hs
  have hb : env.blockKind = .function := by unfold Env.blockKind; rw [hk]; rfl
  have kx : env.kindOf x = some .local := hx
  have ky : env.kindOf y = some .local := hy
  unfold swPar at h
  simp only [Bool.and_eq_true, decide_eq_true_eq, Bool.not_eq_true', ne_eq] at h
  obtain ⟨⟨⟨hn, hl⟩, hf⟩, hc⟩ := h
  have st : ∀ e : CE, (match e.py with | .Starred .. => true | _ => false) = false := fun e => by cases e <;> rfl
  have ne : (y == x) = false := by simpa using fun e => hn e.symm
  unfold swappedStores
  simp only [hb, kx, ky, List.any_cons, List.any_nil, st, List.all_cons, List.all_nil, Bool.and_true, hf, hc, List.filterMap_cons, List.filterMap_nil, List.head?_cons, Option.map_some, Option.getD_some, Expr.pos, hl, beq_self_eq_true, Bool.true_and, if_true, List.length_cons, List.length_nil, List.eraseDups_cons, List.filter_cons, List.filter_nil, ne]
  refine Eq.trans (if_neg (by decide)) (Eq.trans (if_neg fun h => ?_) rfl)
  rw [Bool.or_eq_true, Bool.or_eq_true] at h
  rcases h with h | h | h
  · exact Bool.noConfusion (h.symm.trans (st a))
  · exact Bool.noConfusion (h.symm.trans (st b))
  · cases h
section
variable {T : WT} {D : Den} {n : Nat} {N : List Str} {sc : Scope} {X : Cx} {B : List Nat}
theorem x_asg (cx : Ctx T.free D n N sc X) (hc : T.calls = D.calls) (hk : sc.kind = .function) (hfn : X.fn = fun _ => true) {i : Nat} {x : Str} {px p : Pos} (e : CE) (hi : N[i]? = some x) (hl : locB sc x = true) (hB : i ∉ B) (w : e.wf T N sc = true) :
    PS X (CS.asg (.name i x px) e p).py (tX X.K B (ex D (.asg (.name i x px) e p))) := by
  have plain : swapsWith e.py (some (.Name x px)) p.line X.env = pure false → PS X (CS.asg (.name i x px) e p).py (tX X.K B (ex D (.asg (.name i x px) e p))) := fun hs =>
    x_name cx hi hB (ps_set (by rw [cx.hN]; exact cx.nd) (by rw [cx.hN]; exact hi) (by rw [cx.sc]; exact locB_ok hl) (both e sc X cx hc w).1 hs (.inl (by rw [hfn]))) fun _ _ _ h => h
  cases e with
  | lc elt t it ifs scp own p' =>
    have sw := sw_at (elt := elt.py) (gs := [⟨t.py, it.py, ifs.py, 0⟩]) (scp := scp) (pos := p') (py := px) (y := x) (l := p.line) cx.sc hk
    cases q : swB sc x px p' scp with
    | false => rw [q] at sw; exact plain sw
    | true =>
      rw [q] at sw
      have hy : sc.names.lookup x = some .local := by
        unfold swB at q
        simp only [Bool.and_eq_true, beq_iff_eq] at q
        exact q.1.1
      have w : (blkC N sc scp own && (t.slots.all fun j => decide (j ∈ own.map (·.2))) && it.wf T N sc && tgOk it t && t.wf N (relC sc scp) (fbC sc scp) && decide (ifs.len ≤ 1) && ifs.wf T N (relC sc scp) && elt.wf T N (relC sc scp)) = true := w
      simp only [Bool.and_eq_true] at w
      obtain ⟨⟨⟨⟨⟨⟨⟨w1, w2⟩, w3⟩, w4⟩, w5⟩, w6⟩, w7⟩, w8⟩ := w
      obtain ⟨tl, h1, h2, h3⟩ := s_lc (p := p') cx w1 (fun j hj => of_decide_eq_true (List.all_eq_true.mp w2 j hj)) (iters it sc X cx hc w3 t w4) (fun s H C cl fp => g_ct (cx.blk s H C cl fp) (fn_blk cx.sc s H C cl fp) t w5)
        (fun s H C cl fp => tests ifs _ _ (cx.blk s H C cl fp) hc w7 (of_decide_eq_true w6)) (fun s H C cl fp => (both elt _ _ (cx.blk s H C cl fp) hc w8).1)
      exact x_name cx hi hB (h3 hi hy sw) h1
  | lc2 elt t it ifs t1 it1 ifs1 scp own vs1 p' =>
    have sw := sw_at (elt := elt.py) (gs := [⟨t.py, it.py, ifs.py, 0⟩, ⟨t1.py, it1.py, ifs1.py, 0⟩]) (scp := scp) (pos := p') (py := px) (y := x) (l := p.line) cx.sc hk
    cases q : swB sc x px p' scp with
    | false => rw [q] at sw; exact plain sw
    | true =>
      rw [q] at sw
      have hy : sc.names.lookup x = some .local := by
        unfold swB at q
        simp only [Bool.and_eq_true, beq_iff_eq] at q
        exact q.1.1
      have w : (blkC N sc scp own && (t.slots.all fun j => decide (j ∈ own.map (·.2))) && it.wf T N sc && tgOk it t && t.wf N (relC sc scp) (fbC sc scp) && decide (ifs.len ≤ 1) && ifs.wf T N (relC sc scp) &&
        (t1.slots.all fun j => decide (j ∈ vs1)) && (vs1.all fun j => decide (j ∈ own.map (·.2))) && it1.wf T N (relC sc scp) && tgOk it1 t1 && t1.wf N (relC sc scp) (fbC sc scp) && decide (ifs1.len ≤ 1) && ifs1.wf T N (relC sc scp) && elt.wf T N (relC sc scp)) = true := w
      simp only [Bool.and_eq_true] at w
      obtain ⟨⟨⟨⟨⟨⟨⟨⟨⟨⟨⟨⟨⟨⟨w1, w2⟩, w3⟩, w4⟩, w5⟩, w6⟩, w7⟩, w8⟩, w9⟩, w10⟩, w11⟩, w12⟩, w13⟩, w14⟩, w15⟩ := w
      obtain ⟨tl, h1, h2, h3⟩ := s_lc2 (p := p') cx w1 (fun j hj => of_decide_eq_true (List.all_eq_true.mp w2 j hj)) (fun j hj => of_decide_eq_true (List.all_eq_true.mp w8 j hj)) (fun j hj => of_decide_eq_true (List.all_eq_true.mp w9 j hj))
        (iters it sc X cx hc w3 t w4) (fun s H C cl fp => g_ct (cx.blk s H C cl fp) (fn_blk cx.sc s H C cl fp) t w5)
        (fun s H C cl fp => tests ifs _ _ (cx.blk s H C cl fp) hc w7 (of_decide_eq_true w6)) (fun s H C cl fp => iters it1 _ _ (cx.blk s H C cl fp) hc w10 t1 w11) (fun s H C cl fp => g_ct (cx.blk s H C cl fp) (fn_blk cx.sc s H C cl fp) t1 w12)
        (fun s H C cl fp => tests ifs1 _ _ (cx.blk s H C cl fp) hc w14 (of_decide_eq_true w13)) (fun s H C cl fp => (both elt _ _ (cx.blk s H C cl fp) hc w15).1)
      exact x_name cx hi hB (h3 hi hy sw) h1
  | dcm kx vx t it ifs scp own p' =>
    have sw := sw_atD (kx := kx.py) (vx := vx.py) (gs := [⟨t.py, it.py, ifs.py, 0⟩]) (scp := scp) (pos := p') (py := px) (y := x) (l := p.line) cx.sc hk
    cases q : swB sc x px p' scp with
    | false => rw [q] at sw; exact plain sw
    | true =>
      rw [q] at sw
      have hy : sc.names.lookup x = some .local := by
        unfold swB at q
        rw [Bool.and_eq_true, Bool.and_eq_true, beq_iff_eq] at q
        exact q.1.1
      have w : (blkC N sc scp own && (t.slots.all fun j => decide (j ∈ own.map (·.2))) && it.wf T N sc && tgOk it t && t.wf N (relC sc scp) (fbC sc scp) && decide (ifs.len ≤ 1) && ifs.wf T N (relC sc scp) && kx.wf T N (relC sc scp) && vx.wf T N (relC sc scp)) = true := w
      simp only [Bool.and_eq_true] at w
      obtain ⟨⟨⟨⟨⟨⟨⟨⟨w1, w2⟩, w3⟩, w4⟩, w5⟩, w6⟩, w7⟩, w8⟩, w9⟩ := w
      obtain ⟨tl, h1, h2, h3⟩ := s_dc (p := p') cx w1 (fun j hj => of_decide_eq_true (List.all_eq_true.mp w2 j hj)) (iters it sc X cx hc w3 t w4) (fun s H C cl fp => g_ct (cx.blk s H C cl fp) (fn_blk cx.sc s H C cl fp) t w5)
        (fun s H C cl fp => tests ifs _ _ (cx.blk s H C cl fp) hc w7 (of_decide_eq_true w6)) (fun s H C cl fp => (both kx _ _ (cx.blk s H C cl fp) hc w8).1) (fun s H C cl fp => (both vx _ _ (cx.blk s H C cl fp) hc w9).1)
      exact x_name cx hi hB (h3 hi hy sw) h1
  | _ => exact plain rfl
mutual
theorem stm (cx : Ctx T.free D n N sc X) (hc : T.calls = D.calls) (hk : sc.kind = .function) (hfn : X.fn = fun _ => true) : ∀ (s : CS), s.wf T N sc B = true → PS X s.py (tX X.K B (ex D s))
  | .asg (.name i x px) e p, w => by
    have w : (decide (N[i]? = some x) && locB sc x && !(B.contains i) && e.wf T N sc) = true := w
    simp only [Bool.and_eq_true] at w
    exact x_asg cx hc hk hfn e (of_decide_eq_true w.1.1.1) w.1.1.2 (notB w.1.2) w.2
  | .asg (.tup ts k pt) e p, w => by
    have w : (inTurn sc ts e && (CT.tup ts k pt).wf N sc (fun _ => true) && outB B (.tup ts k pt) && e.wf T N sc) = true := w
    simp only [Bool.and_eq_true] at w
    exact x_tup cx (both e sc X cx hc w.2).1 (g_ct cx (fun x _ => .inl (by rw [hfn])) _ w.1.1.2) (outB_ok w.1.2) w.1.1.1
  | .par i j x y px py kt pt a b k2 p2 p, w => by
    have w : (decide (N[i]? = some x) && decide (N[j]? = some y) && decide (i ≠ j) && !(B.contains i) && !(B.contains j) && (sc.names.lookup x == some .local) && (sc.names.lookup y == some .local) && swPar sc x y px py a b && (CEs.cons a (.cons b .nil)).wf T N sc) = true := w
    simp only [Bool.and_eq_true] at w
    obtain ⟨⟨⟨⟨⟨⟨⟨⟨w1, w2⟩, w3⟩, w4⟩, w5⟩, w6⟩, w7⟩, w8⟩, w9⟩ := w
    have w6 := beq_iff_eq.mp w6
    have w7 := beq_iff_eq.mp w7
    exact x_par cx (of_decide_eq_true w1) (of_decide_eq_true w2) (of_decide_eq_true w3) (notB w4) (notB w5) w6 w7 (all _ sc X cx hc w9).1 (sw_par cx.sc hk w6 w7 w8)
  | .setI i x px k e tp p, w => by
    have w : (nm N sc i x && k.wf T N sc && e.wf T N sc) = true := w
    simp only [Bool.and_eq_true] at w
    obtain ⟨a, b, c⟩ := nm_ok w.1.1
    exact x_setI cx a b c (both k sc X cx hc w.1.2).1 (both e sc X cx hc w.2).1
  | .expr e p, w => by
    have w : (!e.isLc && e.wf T N sc) = true := w
    rw [Bool.and_eq_true] at w
    exact x_expr cx (both e sc X cx hc w.2).1 (by have q := w.1; cases e <;> first | rfl | cases q)
  | .app i x px pa e pc p, w => by
    have w : (nm N sc i x && (pa.endLine == pc.line) && e.wf T N sc) = true := w
    simp only [Bool.and_eq_true] at w
    obtain ⟨a, b, c⟩ := nm_ok w.1.1
    exact x_app cx a b c w.1.2 (both e sc X cx hc w.2).1
  | .aug i x px op e p, w => by
    have w : (decide (N[i]? = some x) && locB sc x && !(B.contains i) && e.wf T N sc) = true := w
    simp only [Bool.and_eq_true] at w
    exact x_aug cx (of_decide_eq_true w.1.1.1) w.1.1.2 (notB w.1.2) (by rw [hfn]) (both e sc X cx hc w.2).1
  | .ife c a b p, w => by
    have w : (c.wf T N sc && a.wf T N sc B && b.wf T N sc B) = true := w
    simp only [Bool.and_eq_true] at w
    exact x_ife (both c sc X cx hc w.1.1).2 (stms cx hc hk hfn a w.1.2) (stms cx hc hk hfn b w.2)
  | .forr t it body p, w => by
    have w : (tgOk it t && t.wf N sc (fun _ => true) && outB B t && it.wf T N sc && body.wf T N sc B) = true := w
    simp only [Bool.and_eq_true] at w
    obtain ⟨⟨⟨⟨w1, w2⟩, w3⟩, w4⟩, w5⟩ := w
    exact x_for cx (iters it sc X cx hc w4 t w1) (g_ct cx (fun x _ => .inl (by rw [hfn])) t w2) (outB_ok w3) (stms cx hc hk hfn body w5)
  | .ret e p, w => x_ret (both e sc X cx hc w).1
  | .retN p, w => x_retN
  | .pass p, w => x_pass
  | .brk p, w => x_brk
  | .cnt p, w => x_cnt
  | .nvr st, w => x_nvr
theorem stms (cx : Ctx T.free D n N sc X) (hc : T.calls = D.calls) (hk : sc.kind = .function) (hfn : X.fn = fun _ => true) : ∀ (ss : CSs), ss.wf T N sc B = true → PSs X ss.py (tX X.K B (exs D ss))
  | .nil, _ => xs_nil
  | .cons s ss, w => by
    have w : (s.wf T N sc B && ss.wf T N sc B) = true := w
    rw [Bool.and_eq_true] at w
    exact xs_cons (stm cx hc hk hfn s w.1) (stms cx hc hk hfn ss w.2)
end
end
end BV
/-! Defs, programs. -/
namespace BV
open PySem PySem.Spec PyProof.Rows L2
/-- a def: its name, parameters, all its names, the parameters by reference, its scope, its body -/
structure Df where
  x : Str
  ps : List Str
  N : List Str
  B : List Nat
  sc : Scope
  body : CSs
structure Pg where
  defs : List Df
  calls : List CallSh
  const : List (Str × Val)
  free : List Str
  tabs : List (Str × List (Str × Val)) := []
def Df.start (d : Df) (rs : List R) : Slots := rs.map some ++ List.replicate (d.N.length - rs.length) none
/-- the parameters' slots behind the body -/
def backP (B : List Nat) : Nat → Nat → Slots → Slots
  | _, 0, _ => []
  | i, n + 1, S => (bif B.contains i then (match S with | p :: _ => p | [] => none) else none) :: backP B (i + 1) n (S.drop 1)
def Df.outc (d : Df) : Option Out → Option (R × Slots)
  | some (.rt r S) => some (r, backP d.B 0 d.ps.length S)
  | some (.nx S) => some ((0, .non), backP d.B 0 d.ps.length S)
  | _ => none
def Pg.den (P : Pg) : Nat → Den
  | 0 => ⟨fun x => P.const.lookup x, P.calls, fun _ _ => none, fun x => P.tabs.lookup x⟩
  | n + 1 => ⟨fun x => P.const.lookup x, P.calls, fun f rs => match P.defs[f]? with
    | some d => gd (rs.length == d.ps.length) (d.outc (exs (P.den n) d.body (d.start rs)))
    | none => none, fun x => P.tabs.lookup x⟩
def scB (d : Df) : Bool := decide (d.sc.kind = .function) && !d.sc.isCoroutine && !d.sc.isGenerator && decide d.N.Nodup && decide (d.N.take d.ps.length = d.ps) && (d.ps.all fun x => locB d.sc x) && (d.sc.names.all fun y => decide (y.2 ≠ .free))
def Df.wf (P : Pg) (d : Df) : Bool := scB d && d.body.wf ⟨P.free, P.calls⟩ d.N d.sc d.B
def Pg.wf (P : Pg) : Bool := P.defs.all fun d => d.wf P
theorem scB_ok {d : Df} (h : scB d = true) : FnScope d.N d.ps d.sc := by
  unfold scB at h
  simp only [Bool.and_eq_true, Bool.not_eq_true', decide_eq_true_eq] at h
  obtain ⟨⟨⟨⟨⟨⟨h1, h2⟩, h3⟩, h4⟩, h5⟩, h6⟩, h7⟩ := h
  refine ⟨h1, h2, h3, h4, h5, fun x hx => ?_, fun y hy => of_decide_eq_true (List.all_eq_true.mp h7 y hy)⟩
  exact locB_ok (List.all_eq_true.mp h6 x hx)
/-! ### the frame of a call -/
theorem Plcs.nones {K : Frag} {Hf H : Hp} : ∀ (n : Nat), Plcs K Hf H (List.replicate n none) (List.replicate n none) []
  | 0 => .nil
  | n + 1 => Plcs.cons (F := []) (G := []) .no (Plcs.nones n)
theorem Rel.begin {K : Frag} {Hf H : Hp} {F : List Addr} {rs : List R} {xs : List V} {d : Df} (r : Rel K Hf F (rs.map some) (xs.map some) H) : Rel K Hf F (d.start rs) (L2.start d.N xs) H := by
  have hl := r.len
  rw [List.length_map, List.length_map] at hl
  unfold Df.start L2.start
  rw [hl]
  have p := r.plc.append (Plcs.nones (K := K) (Hf := Hf) (H := H) (d.N.length - rs.length))
  rw [List.append_nil] at p
  exact ⟨r.sub, r.nd, r.off, p⟩
theorem Plcs.back {K : Frag} {Hf H : Hp} {B : List Nat} : ∀ {n i : Nat} {S : Slots} {σ : L2.St} {F : List Addr} {xs : List V}, Plcs K Hf H S σ F → xs.length = n → (∀ j, (i + j) ∈ B → j < n → σ[j]? = (xs.map some)[j]?) →
    ∃ F', Plcs K Hf H (backP B i n S) (xs.map some) F' ∧ F'.Sublist F
  | 0, i, S, σ, F, xs, p, hl, h => by
    have : xs = [] := List.length_eq_zero_iff.mp hl
    subst this
    exact ⟨[], .nil, List.nil_sublist _⟩
  | n + 1, i, S, σ, F, xs, p, hl, h => by
    obtain ⟨x, ys, rfl⟩ : ∃ x ys, xs = x :: ys := by
      cases xs with
      | nil => cases hl
      | cons x ys => exact ⟨x, ys, rfl⟩
    have hl' : ys.length = n := by simpa using hl
    cases p with
    | nil =>
      obtain ⟨F', p', s'⟩ := Plcs.back (i := i + 1) (B := B) (xs := ys) (Plcs.nil (K := K) (Hf := Hf) (H := H)) hl' (fun j hj hn => by
        have := h (j + 1) (by rw [show i + (j + 1) = i + 1 + j by omega]; exact hj) (by omega)
        simpa using this)
      refine ⟨F', ?_, s'⟩
      unfold backP
      have : (bif B.contains i then (none : Option R) else none) = none := by cases B.contains i <;> rfl
      show Plcs K Hf H ((bif B.contains i then none else none) :: backP B (i + 1) n []) (some x :: ys.map some) F'
      rw [this]
      exact Plcs.cons (F := []) (G := F') .no p'
    | cons p1 p2 =>
      rename_i p0 y S0 σ0 F0 G0
      obtain ⟨F', p', s'⟩ := Plcs.back (i := i + 1) (B := B) (xs := ys) p2 hl' (fun j hj hn => by
        have := h (j + 1) (by rw [show i + (j + 1) = i + 1 + j by omega]; exact hj) (by omega)
        simpa using this)
      unfold backP
      cases q : B.contains i with
      | false => exact ⟨F', Plcs.cons (F := []) (G := F') .no p', s'.trans (List.sublist_append_right _ _)⟩
      | true =>
        have e := h 0 (by simpa using q) (by omega)
        have e : y = some x := by simpa using e
        subst e
        exact ⟨F0 ++ F', Plcs.cons p1 p', s'.append_left F0⟩
theorem Rel.back {K : Frag} {Hf H : Hp} {F : List Addr} {S : Slots} {σ : L2.St} {xs : List V} {B : List Nat} (r : Rel K Hf F S σ H) (h : ∀ j ∈ B, j < xs.length → σ[j]? = (xs.map some)[j]?) : ∃ F', Rel K Hf F' (backP B 0 xs.length S) (xs.map some) H ∧ ∀ a ∈ F', a ∈ F := by
  obtain ⟨F', p, s⟩ := r.plc.back (B := B) (i := 0) (xs := xs) rfl (fun j hj hn => h j (by simpa using hj) hn)
  exact ⟨F', ⟨r.sub, s.nodup r.nd, fun a ha => r.off a (s.subset ha), p⟩, fun a ha => s.subset ha⟩
/-! ### what the head tells -/
/-- the def d stands at fa -/
def DefAt (K : Frag) (d : Df) (fa : Addr) (fd : FuncData) : Prop := ∃ qual params dvs kws, FunD K d.x qual params d.body.py d.sc dvs kws fa fd
structure Lk (P : Pg) (K : Frag) (w : World) (mg : Str → Option Value) : Prop where
  con : ∀ x v, P.const.lookup x = some v → ∃ u y, mg x = some u ∧ RelV y u ∧ Rep K (fun _ => none) v y
  fre : ∀ x ∈ P.free, mg x = none
  cal : ∀ (c : Nat) (sh : CallSh), P.calls[c]? = some sh → ∃ (d : Df) (fa : Addr) (fd : FuncData) (ds : List Value) (dvs : List V), P.defs[sh.f]? = some d ∧ mg sh.x = some (.ref fa) ∧ DefAt K d fa fd ∧ Vals dvs ds ∧ RepL K (fun _ => none) sh.dv dvs ∧
    ∀ (s : Shared) (us ws : List Value), K.In s.heap → us.length = sh.n → ws.length = sh.ks.length → ∃ zs, arrange us ws ds sh.ar = some zs ∧ BindsTo s fd ⟨us, sh.ks.zip ws⟩ (d.ps.zip zs)
  tab : ∀ x kvs, P.tabs.lookup x = some kvs → TabAt K w mg x kvs
theorem Pg.go {P : Pg} {Pr : Program} {w : World} {K : Frag} {mg : Str → Option Value} {base : Heap} (L : Lk P K w mg) (wf : P.wf = true) : ∀ (n f : Nat) (d : Df) (fa : Addr) (fd : FuncData), P.defs[f]? = some d → DefAt K d fa fd →
    FnG Pr w K mg base n fa fd d.ps (spOf K ((P.den n).fn f))
  | 0, f, d, fa, fd, hd, F => FnG.idle fun vs H Q E ⟨Hf, F, rs, r, fin, rel, e, _⟩ => by cases e
  | n + 1, f, d, fa, fd, hd, F => by
    obtain ⟨qual, params, dvs, kws, FD⟩ := F
    have wd := List.all_eq_true.mp wf d (List.mem_of_getElem? hd)
    unfold Df.wf at wd
    rw [Bool.and_eq_true] at wd
    have S := scB_ok wd.1
    have fnEq : ∀ rs, (P.den (n + 1)).fn f rs = gd (rs.length == d.ps.length) (d.outc (exs (P.den n) d.body (d.start rs))) := fun rs => by
      show (match P.defs[f]? with
        | some d => gd (rs.length == d.ps.length) (d.outc (exs (P.den n) d.body (d.start rs)))
        | none => none) = _
      rw [hd]
    refine FnG.of FD S (fun vs H Q E ⟨Hf, F, rs, r, fin, rel, e, _⟩ => ?_) fun X h1 h2 h3 h4 h5 h6 h7 h8 h9 h10 h11 h12 H vs Q E ⟨Hf, F, rs, r, fin, rel, e, q⟩ => ?_
    · rw [fnEq, gd_some] at e
      have := rel.len
      simp only [List.length_map] at this
      rw [this]
      simpa using e.1
    · subst h2 h3 h4 h5
      have hden : (P.den n).const = (fun x => P.const.lookup x) ∧ (P.den n).calls = P.calls := by cases n <;> exact ⟨rfl, rfl⟩
      have htab : (P.den n).tab = fun x => P.tabs.lookup x := by cases n <;> rfl
      have cx : Ctx P.free (P.den n) n d.N d.sc X := by
        refine ⟨h6, S.nd, h7, h8, h9, h10, h11, fun x v e => L.con x v (by rw [hden.1] at e; exact e), L.fre, fun c sh hc => ?_, fun x kvs e => L.tab x kvs (by rw [htab] at e; exact e)⟩
        rw [hden.2] at hc
        obtain ⟨d', fa', fd', ds, dvs', e1, e2, e3, e4, e5, e6⟩ := L.cal c sh hc
        have go := Pg.go (Pr := X.prog) (w := X.w) (base := X.base) L wf n sh.f d' fa' fd' e1 e3
        obtain ⟨_, _, _, _, F'⟩ := e3
        exact ⟨fa', fd', d'.ps, ds, dvs', e2, F'.kp, go, e4, e5, e6⟩
      have ps := stms (T := ⟨P.free, P.calls⟩) (B := d.B) cx hden.2.symm S.kind h12 d.body wd.2
      refine ⟨_, ps, ?_⟩
      rw [fnEq, gd_some] at e
      obtain ⟨hl, e⟩ := e
      have hlen : vs.length = d.ps.length := by
        have := rel.len
        simp only [List.length_map] at this
        rw [this]; simpa using hl
      cases q2 : exs (P.den n) d.body (d.start rs) with
      | none => rw [q2] at e; cases e
      | some out =>
        rw [q2] at e
        refine ⟨d.start rs, Hf, F, out, rel.begin, q2, ?_⟩
        have keep : ∀ {σ' : L2.St}, Kept d.B (L2.start d.N vs) σ' → ∀ j ∈ d.B, j < vs.length → σ'[j]? = (vs.map some)[j]? := fun k j hj hjl => by
          rw [k j hj]
          unfold L2.start
          rw [List.getElem?_append_left (by rw [List.length_map]; exact hjl)]
        cases out with
        | bk S' => cases e
        | ct S' => cases e
        | nx S' =>
          obtain ⟨rfl, rfl⟩ := Prod.mk.inj (Option.some.inj e)
          intro σ' H' Hf' F' rel' st' k'
          obtain ⟨F2, rel2, sub2⟩ := rel'.back (xs := vs) (keep k')
          rw [hlen] at rel2
          exact q .non H' Hf' F2 (.frz rel2 ⟨st'.hf, st'.fr, st'.new, fun a ha => st'.own a (sub2 a ha)⟩ .non (.inl rfl))
        | rt r' S' =>
          obtain ⟨rfl, rfl⟩ := Prod.mk.inj (Option.some.inj e)
          intro x σ' H' Hf' F' g' k'
          obtain ⟨rel', st', G, ow, nd, off, fr⟩ := g'
          obtain ⟨F2, rel2, sub2⟩ := rel'.back (xs := vs) (keep k')
          rw [hlen] at rel2
          refine q x H' Hf' F2 ⟨rel2, ⟨st'.hf, st'.fr, st'.new, fun a ha => st'.own a (sub2 a ha)⟩, G, ow, ?_, off, fr⟩
          have nd2 := rel2.nd
          rw [List.nodup_append] at nd ⊢
          exact ⟨nd2, nd.2.1, fun a ha b hb => nd.2.2 a (sub2 a ha) b hb⟩
end BV
/-! What the head tells of defs, defaults, constants; the law's end. -/
namespace BV
open PySem PySem.Spec PyProof.Rows L2
/-! ### a call's binding -/
def Bd (K : Frag) (fd : FuncData) (ps : List Str) (sh : CallSh) : Prop := ∃ (ds : List Value) (dvs : List V), Vals dvs ds ∧ RepL K (fun _ => none) sh.dv dvs ∧
  ∀ (s : Shared) (us ws : List Value), K.In s.heap → us.length = sh.n → ws.length = sh.ks.length → ∃ zs, arrange us ws ds sh.ar = some zs ∧ BindsTo s fd ⟨us, sh.ks.zip ws⟩ (ps.zip zs)
section
variable {K : Frag} {x qual : Str} {params : Arguments} {body : List Stmt} {scope : Scope} {dvs : List V} {kws : List (Str × V)} {f : Addr} {fd : FuncData} {ps : List Str} {sh : CallSh}
/-- nothing is left to defaults, and there are none by place -/
theorem bindA (F : FunD K x qual params body scope [] kws f fd) (hd : sh.dv = [])
    (h : ∀ (kV doc pm : Value) (an : Option Addr) (cdv ct : Value) (us ws : List Value), us.length = sh.n → ws.length = sh.ks.length →
      ∃ zs, arrange us ws [] sh.ar = some zs ∧ bindArgs (PySem.W.fnOf x qual params body scope .none kV doc pm an cdv ct) ⟨us, sh.ks.zip ws⟩ = pure (ps.zip zs)) : Bd K fd ps sh := by
  obtain ⟨oc, od, dV, kV, doc, pm, an, cdv, ct, osl, rfl, lk, hcd, hD, hK⟩ := F.ex
  rcases hD with ⟨_, rfl⟩ | ⟨e, _⟩
  · refine ⟨[], [], .nil, by rw [hd]; exact .nil, fun s us ws X l1 l2 => ?_⟩
    obtain ⟨zs, e1, e2⟩ := h kV doc pm an cdv ct us ws l1 l2
    exact ⟨zs, e1, .of_eq e2⟩
  · exact absurd rfl e
/-- defaults of keyword-only parameters alone -/
theorem bindB (F : FunD K x qual params body scope [] kws f fd) (ms : List (Str × V)) (hne : kws ≠ []) (hms : ∀ q ∈ ms, q ∈ kws) (hr : RepL K (fun _ => none) sh.dv (ms.map (·.2)))
    (h : ∀ (D : Addr) (doc pm : Value) (an : Option Addr) (cdv ct : Value) (us mv ws : List Value), us.length = sh.n → mv.length = ms.length → ws.length = sh.ks.length →
      ∃ zs, arrange us ws mv sh.ar = some zs ∧ KwChain D ((ms.map (·.1)).zip mv) (bindArgs (PySem.W.fnOf x qual params body scope .none (.ref D) doc pm an cdv ct) ⟨us, sh.ks.zip ws⟩) (ps.zip zs)) : Bd K fd ps sh := by
  obtain ⟨oc, od, dV, kV, doc, pm, an, cdv, ct, osl, rfl, lk, hcd, hD, hK⟩ := F.ex
  rcases hD with ⟨_, rfl⟩ | ⟨e, _⟩
  · rcases hK with e | ⟨D, rfl, hq⟩
    · exact absurd e hne
    · obtain ⟨mv, hl, rk, hks⟩ := kwd_vals (ms := ms) fun q hm => hq q (hms q hm)
      refine ⟨mv, ms.map (·.2), rk, hr, fun s us ws X l1 l2 => ?_⟩
      obtain ⟨zs, e1, e2⟩ := h D doc pm an cdv ct us mv ws l1 hl l2
      exact ⟨zs, e1, BindsTo.of_looks fun M => KwChain.looks X hks e2⟩
  · exact absurd rfl e
/-- defaults by place alone -/
theorem bindC (F : FunD K x qual params body scope dvs kws f fd) (hne : dvs ≠ []) (hr : RepL K (fun _ => none) sh.dv dvs)
    (h : ∀ (T : Addr) (kV doc pm : Value) (an : Option Addr) (cdv ct : Value) (us its ws : List Value), us.length = sh.n → its.length = dvs.length → ws.length = sh.ks.length →
      ∃ zs k, arrange us ws its sh.ar = some zs ∧ bindArgs (PySem.W.fnOf x qual params body scope (.ref T) kV doc pm an cdv ct) ⟨us, sh.ks.zip ws⟩ = seqItems? (.ref T) >>= k ∧ k (some its.toArray) = pure (ps.zip zs)) : Bd K fd ps sh := by
  obtain ⟨oc, od, dV, kV, doc, pm, an, cdv, ct, osl, rfl, lk, hcd, hD, hK⟩ := F.ex
  rcases hD with ⟨e, _⟩ | ⟨_, T, o, its, m, rfl, lT, oT, rT⟩
  · exact absurd e hne
  · refine ⟨its, dvs, rT, hr, fun s us ws X l1 l2 => ?_⟩
    obtain ⟨zs, k, e1, e2, e3⟩ := h T kV doc pm an cdv ct us its ws l1 rT.length.symm l2
    refine ⟨zs, e1, BindsTo.of_looks fun M => ?_⟩
    rw [e2]
    exact looks_items X lT oT (.of_pure e3)
/-- both -/
theorem bindD (F : FunD K x qual params body scope dvs kws f fd) (ms : List (Str × V)) (hne : dvs ≠ []) (hnk : kws ≠ []) (hms : ∀ q ∈ ms, q ∈ kws) (hr : RepL K (fun _ => none) sh.dv (dvs ++ ms.map (·.2)))
    (h : ∀ (T D : Addr) (doc pm : Value) (an : Option Addr) (cdv ct : Value) (us its mv ws : List Value), us.length = sh.n → its.length = dvs.length → mv.length = ms.length → ws.length = sh.ks.length →
      ∃ zs k, arrange us ws (its ++ mv) sh.ar = some zs ∧ bindArgs (PySem.W.fnOf x qual params body scope (.ref T) (.ref D) doc pm an cdv ct) ⟨us, sh.ks.zip ws⟩ = seqItems? (.ref T) >>= k ∧ KwChain D ((ms.map (·.1)).zip mv) (k (some its.toArray)) (ps.zip zs)) : Bd K fd ps sh := by
  obtain ⟨oc, od, dV, kV, doc, pm, an, cdv, ct, osl, rfl, lk, hcd, hD, hK⟩ := F.ex
  rcases hD with ⟨e, _⟩ | ⟨_, T, o, its, m, rfl, lT, oT, rT⟩
  · exact absurd e hne
  · rcases hK with e | ⟨D, rfl, hq⟩
    · exact absurd e hnk
    · obtain ⟨mv, hl, rk, hks⟩ := kwd_vals (ms := ms) fun q hm => hq q (hms q hm)
      refine ⟨its ++ mv, dvs ++ ms.map (·.2), rT.append rk, hr, fun s us ws X l1 l2 => ?_⟩
      obtain ⟨zs, k, e1, e2, e3⟩ := h T D doc pm an cdv ct us its mv ws l1 rT.length.symm hl l2
      refine ⟨zs, e1, BindsTo.of_looks fun M => ?_⟩
      rw [e2]
      exact looks_items X lT oT (KwChain.looks X hks e3)
end
/-! ### constants -/
mutual
def repB (K : Frag) : Val → Value → Bool
  | .non, .none => true
  | .bl b, .bool c => b == c
  | .int i, .int j _ => decide (i = j)
  | .str x, .str y _ => decide (x = y)
  | .tup xs, .ref a => (match K.lookup a with
    | some ⟨.type c, _, .seq its _, _⟩ => decide (c = "tuple") && (decide (its.size ≤ sizeLine) && repBs K xs its.toList)
    | _ => false)
  | .lst xs, .ref a => (match K.lookup a with
    | some ⟨.type c, none, .seq its _, sl⟩ => decide (c = "list") && (sl.isEmpty && (decide (its.size ≤ sizeLine) && repBs K xs its.toList))
    | _ => false)
  | _, _ => false
def repBs (K : Frag) : List Val → List Value → Bool
  | [], [] => true
  | v :: vs, u :: us => repB K v u && repBs K vs us
  | _, _ => false
end
mutual
theorem repB_ok {K : Frag} : ∀ (v : Val) (u : Value), repB K v u = true → ∃ y, RelV y u ∧ Rep K (fun _ => none) v y
  | .non, u, h => by
    cases u with
    | none => exact ⟨.non, rfl, .non⟩
    | _ => cases h
  | .bl b, u, h => by
    cases u with
    | bool c =>
      have e : b = c := eq_of_beq (show (b == c) = true from h)
      exact ⟨.bl b, by rw [e]; rfl, .bl b⟩
    | _ => cases h
  | .int i, u, h => by
    cases u with
    | int j t =>
      have e : i = j := of_decide_eq_true h
      exact ⟨.int i, ⟨t, by rw [e]⟩, .int i⟩
    | _ => cases h
  | .str i, u, h => by
    cases u with
    | str j t =>
      have e : i = j := of_decide_eq_true h
      exact ⟨.str i, ⟨t, by rw [e]⟩, .str i⟩
    | _ => cases h
  | .tup xs, u, h => by
    cases u with
    | ref a =>
      have h : (match K.lookup a with
        | some ⟨.type c, _, .seq its _, _⟩ => decide (c = "tuple") && (decide (its.size ≤ sizeLine) && repBs K xs its.toList)
        | _ => false) = true := by unfold repB at h; exact h
      cases q : K.lookup a with
      | none => rw [q] at h; cases h
      | some o =>
        obtain ⟨oc, od, dt, osl⟩ := o
        rw [q] at h
        cases oc with
        | type c =>
          cases dt with
          | seq its n =>
            have h : (decide (c = "tuple") && (decide (its.size ≤ sizeLine) && repBs K xs its.toList)) = true := h
            simp only [Bool.and_eq_true, decide_eq_true_eq] at h
            obtain ⟨ys, r1, r2⟩ := repBs_ok xs its.toList h.2.2
            exact ⟨.ref a, rfl, .tup (.inr ⟨_, its, n, q, congrArg Value.type h.1, rfl, h.2.1, r1⟩) r2⟩
          | _ => cases h
        | _ => cases dt <;> cases h
    | _ => cases h
  | .lst xs, u, h => by
    cases u with
    | ref a =>
      have h : (match K.lookup a with
        | some ⟨.type c, none, .seq its _, sl⟩ => decide (c = "list") && (sl.isEmpty && (decide (its.size ≤ sizeLine) && repBs K xs its.toList))
        | _ => false) = true := by unfold repB at h; exact h
      cases q : K.lookup a with
      | none => rw [q] at h; cases h
      | some o =>
        obtain ⟨oc, od, dt, osl⟩ := o
        rw [q] at h
        cases oc with
        | type c =>
          cases od with
          | some d => cases dt <;> cases h
          | none =>
            cases dt with
            | seq its n =>
              have h : (decide (c = "list") && (osl.isEmpty && (decide (its.size ≤ sizeLine) && repBs K xs its.toList))) = true := h
              simp only [Bool.and_eq_true, decide_eq_true_eq] at h
              obtain ⟨ys, r1, r2⟩ := repBs_ok xs its.toList h.2.2.2
              refine ⟨.ref a, rfl, .lst (.inr ⟨its.toList, n, ?_, ?_, r1⟩) r2⟩
              · rw [q, h.1, Array.isEmpty_iff.mp h.2.1]
              · rw [r1.length]
                simpa using h.2.2.1
            | _ => cases h
        | _ => cases od <;> cases dt <;> cases h
    | _ => cases h
  | .dic kvs, u, h => by unfold repB at h; cases u <;> cases h
theorem repBs_ok {K : Frag} : ∀ (vs : List Val) (us : List Value), repBs K vs us = true → ∃ ys, Vals ys us ∧ RepL K (fun _ => none) vs ys
  | [], us, h => by
    cases us with
    | nil => exact ⟨[], .nil, .nil⟩
    | cons u us => cases h
  | v :: vs, us, h => by
    cases us with
    | nil => cases h
    | cons u us =>
      have h : (repB K v u && repBs K vs us) = true := by unfold repBs at h; exact h
      rw [Bool.and_eq_true] at h
      obtain ⟨y, r1, r2⟩ := repB_ok v u h.1
      obtain ⟨ys, s1, s2⟩ := repBs_ok vs us h.2
      exact ⟨y :: ys, .cons r1 s1, .cons r2 s2⟩
end
def conB (K : Frag) (q : Str × Val) : Bool := match PySem.W.nsIn K mainGlobals q.1 with
  | some (some u) => repB K q.2 u
  | _ => false
theorem conB_ok {K : Frag} {h : Heap} {mg : Str → Option Value} (X : K.In h) (G : h.Ns mainGlobals mg) {q : Str × Val} (c : conB K q = true) : ∃ u y, mg q.1 = some u ∧ RelV y u ∧ Rep K (fun _ => none) q.2 y := by
  unfold conB at c
  split at c
  · rename_i u e
    obtain ⟨y, r1, r2⟩ := repB_ok q.2 u c
    exact ⟨u, y, PySem.W.mg_of X G e, r1, r2⟩
  · cases c
def exB (cs : List (Str × Val)) (K : Frag) : Bool := cs.all fun q => conB K q
theorem lookup_mem' {α : Type} {x : Str} {v : α} : ∀ {l : List (Str × α)}, l.lookup x = some v → (x, v) ∈ l
  | [], h => by cases h
  | (y, u) :: r, h => by
    rw [List.lookup_cons] at h
    cases q : (x == y) with
    | true =>
      rw [q] at h
      have e : u = v := Option.some.inj h
      rw [beq_iff_eq.mp q, e]
      exact List.mem_cons_self
    | false =>
      rw [q] at h
      exact List.mem_cons_of_mem _ (lookup_mem' h)
theorem exB_ok {K : Frag} {h : Heap} {mg : Str → Option Value} (X : K.In h) (G : h.Ns mainGlobals mg) {cs : List (Str × Val)} (c : exB cs K = true) (x : Str) (v : Val) (e : cs.lookup x = some v) : ∃ u y, mg x = some u ∧ RelV y u ∧ Rep K (fun _ => none) v y :=
  conB_ok X G (List.all_eq_true.mp c (x, v) (lookup_mem' e))
/-! ### tables of the module -/
def tabLB (K : Frag) : List (Str × Val) → List DictEntry → Bool
  | [], [] => true
  | (k, v) :: r, e :: es => (match e.key with
    | .str j _ => decide (j = k) && (repB K v e.val && tabLB K r es)
    | _ => false)
  | _, _ => false
theorem tabLB_ok {K : Frag} : ∀ (kvs : List (Str × Val)) (es : List DictEntry), tabLB K kvs es = true → TabL K kvs es
  | [], es, h => by
    cases es with
    | nil => exact .nil
    | cons e es => cases h
  | (k, v) :: r, es, h => by
    cases es with
    | nil => cases h
    | cons e es =>
      have h : (match e.key with
        | .str j _ => decide (j = k) && (repB K v e.val && tabLB K r es)
        | _ => false) = true := by unfold tabLB at h; exact h
      cases q : e.key with
      | str j t =>
        rw [q] at h
        have h : (decide (j = k) && (repB K v e.val && tabLB K r es)) = true := h
        simp only [Bool.and_eq_true, decide_eq_true_eq] at h
        obtain ⟨y, r1, r2⟩ := repB_ok v e.val h.2.1
        exact .cons (t := t) (by rw [q, h.1]) r1 r2 (tabLB_ok r es h.2.2)
      | _ => rw [q] at h; cases h
def tabB (K : Frag) (q : Str × List (Str × Val)) : Bool := (match K.lookup (He.ga K q.1) with
  | some ⟨_, _, .dict es _, _⟩ => tabLB K q.2 es.toList
  | _ => false) && (decide (q.2.map (·.1)).Nodup && decide (q.2.length ≤ 1000))
theorem tabB_ok {K : Frag} {w : World} {q : Str × List (Str × Val)} {es : Array DictEntry} {n : Nat} (D : KDict K w (He.ga K q.1) es n) (h : tabB K q = true) : TabL K q.2 es.toList ∧ (q.2.map (·.1)).Nodup ∧ q.2.length ≤ 1000 := by
  unfold tabB at h
  rw [D.at_] at h
  have h : (tabLB K q.2 es.toList && (decide (q.2.map (·.1)).Nodup && decide (q.2.length ≤ 1000))) = true := h
  simp only [Bool.and_eq_true, decide_eq_true_eq] at h
  exact ⟨tabLB_ok _ _ h.1, h.2.1, h.2.2⟩
def exP (P : Pg) (K : Frag) : Bool := exB P.const K && P.tabs.all fun q => tabB K q
/-! ### the end -/
theorem reps_ints {K : Frag} {H : Hp} : ∀ (ns : List Int), RepL K H (ns.map Val.int) (ns.map V.int)
  | [] => .nil
  | i :: r => .cons (.int i) (reps_ints r)
theorem law_end {l : PySem.W.OpenLaw} {m n : Nat} {q : Program} {loose : List Str} {XP : (Str → Option Value) → Heap → Prop} {YP : World → Heap → Prop} {d : DefRec} {x : Str} {P : Pg} {f : Nat} {df : Df}
    (hn : l.most = some m) (hn2 : m ≤ sizeLine) (hdf : d.params.defaults = []) (hr : Room n callerA) (wf : P.wf = true) (hd : P.defs[f]? = some df) (hps : df.ps = [x])
    (F : ∀ (w : World) (mg : Str → Option Value) (fa : Addr) (h : Heap), YP w h → h.Ns mainGlobals mg → mg d.name = some (.ref fa) →
      ∃ (K : Frag) (fd : FuncData), K.In h ∧ Lk P K w mg ∧ DefAt K df fa fd ∧ ∀ (s : Shared) (u : Value), BindsTo s fd ⟨[u], []⟩ [(x, u)])
    (law : ∀ ns : List Int, ns.length ≤ m → (∀ k ∈ ns, Builtin.Int.intBits k ≤ 1048576) → ∃ dd fin, (P.den n).fn f [(0, .lst (ns.map Val.int))] = some ((dd, .bl true), fin)) :
    PySem.W.WalkO q loose XP YP l.row.toRowW d [] (fun f vs => PySem.call f vs) := by
  refine Att.attach_callB hn hdf fun w s₀ s₁ mg mb fa o pm cd doc a vs ns G Y ho hdd hcd hmg hobj hints hlen hbits hg => ?_
  obtain ⟨K, fd, KX, L, at_, hb⟩ := F w mg fa _ Y G.T.g hmg
  obtain ⟨dd, fin, e⟩ := law ns hlen hbits
  refine law_callG (k := n) (x := x) (sp := spOf K ((P.den n).fn f)) KX G.T.g G.T.b G.T.builtins G.T.nolimit hg hobj hints (Nat.le_trans hlen hn2) hr (fun base _ _ => ?_) hb fun H hS => ?_
  · rw [← hps]
    exact Pg.go L wf n f df fa fd hd at_
  · refine ⟨H, [], [(0, .lst (ns.map Val.int))], _, fin, ⟨HSub.refl _, List.nodup_nil, fun a h => (by cases h), ?_⟩, e, fun y H' Hf' F' g => ?_⟩
    · exact Plcs.cons (F := []) (G := []) (.is (.frz (.inl rfl) (.lst hS (reps_ints ns)))) .nil
    · obtain ⟨_, _, G, ow, _⟩ := g
      cases ow with
      | frz _ r => cases r; rfl
end BV
/-! The head's facts of all defs at once. -/
namespace BV
open PySem PySem.Spec PyProof.Rows L2
structure Dx where
  df : Df
  params : Arguments
  dfl : List He.Dv := []
  kwd : List (Str × He.Dv) := []
def Dx.dd (e : Dx) : He.DefD := ⟨(e.df.x, none), e.df.x, e.df.x, e.params, e.df.body.py, e.df.sc, e.dfl, e.kwd⟩
def faOf (P : Pg) : List He.Fa := P.defs.map (fun d => He.Fa.glo d.x) ++ (P.free.map He.Fa.free ++ P.tabs.map fun q => He.Fa.glo q.1)
def tabsOf (P : Pg) : List He.Tab := P.tabs.map fun q => (fun K => He.ga K q.1, q.2.map (·.1))
theorem glo_in {P : Pg} {fn : List He.DefD} {K : Frag} (c : He.SaysD (faOf P) fn K) (f : Nat) {d : Df} (h : P.defs[f]? = some d) : (He.Fa.glo d.x).ok K = true :=
  c.facts (List.mem_append_left _ (List.mem_map.mpr ⟨d, List.mem_of_getElem? h, rfl⟩))
theorem head_lk {P : Pg} {dx : List Dx} {K : Frag} {h : Heap} {w : World} {mg : Str → Option Value} (hdx : dx.map Dx.df = P.defs) (X : K.In h) (G : h.Ns mainGlobals mg)
    (c : He.SaysX (faOf P) (dx.map Dx.dd) (tabsOf P) [] (exP P) w h K)
    (cal : ∀ (c : Nat) (sh : CallSh), P.calls[c]? = some sh → ∃ e : Dx, dx[sh.f]? = some e ∧ e.df.x = sh.x ∧ ∀ (a : Addr) (fd : FuncData), FunD K e.df.x e.df.x e.params e.df.body.py e.df.sc (e.dd.dvs K) (e.dd.kws K) a fd → Bd K fd e.df.ps sh) :
    Lk P K w mg ∧ ∀ (f : Nat) (e : Dx), dx[f]? = some e → ∃ fd, FunD K e.df.x e.df.x e.params e.df.body.py e.df.sc (e.dd.dvs K) (e.dd.kws K) (He.ga K e.df.x) fd := by
  have fnd : ∀ (f : Nat) (e : Dx), dx[f]? = some e → ∃ fd, FunD K e.df.x e.df.x e.params e.df.body.py e.df.sc (e.dd.dvs K) (e.dd.kws K) (He.ga K e.df.x) fd := fun f e he =>
    c.t.d.defs (d := e.dd) (List.mem_map.mpr ⟨e, List.mem_of_getElem? he, rfl⟩)
  have dfs : ∀ (f : Nat) (e : Dx), dx[f]? = some e → P.defs[f]? = some e.df := fun f e he => by
    rw [← hdx, List.getElem?_map, he]; rfl
  have more : exB P.const K = true ∧ (P.tabs.all fun q => tabB K q) = true := by
    have m : (exB P.const K && P.tabs.all fun q => tabB K q) = true := c.more
    rwa [Bool.and_eq_true] at m
  refine ⟨⟨fun x v e => exB_ok X G more.1 x v e, fun x hx => He.free_ok X G (c.t.d.facts (List.mem_append_right _ (List.mem_append_left _ (List.mem_map.mpr ⟨x, hx, rfl⟩)))), fun i sh hc => ?_, fun x kvs e => ?_⟩, fnd⟩
  rotate_left
  · have hm := lookup_mem' e
    obtain ⟨i, hi, ei⟩ := List.mem_iff_getElem.mp hm
    obtain ⟨es, n, D⟩ := c.t.tab i (t := (fun K => He.ga K x, kvs.map (·.1))) (by
      unfold tabsOf
      rw [List.getElem?_map, List.getElem?_eq_getElem hi, ei]; rfl)
    have g := He.glo_ok X G (c.t.d.facts (List.mem_append_right _ (List.mem_append_right _ (List.mem_map.mpr ⟨(x, kvs), hm, rfl⟩))))
    exact ⟨_, es, n, g, D, tabB_ok (q := (x, kvs)) D (List.all_eq_true.mp more.2 _ hm)⟩
  obtain ⟨e, h1, h2, h3⟩ := cal i sh hc
  obtain ⟨fd, F⟩ := fnd sh.f e h1
  obtain ⟨ds, dvs, b1, b2, b3⟩ := h3 _ fd F
  refine ⟨e.df, _, fd, ds, dvs, dfs _ _ h1, ?_, ⟨_, _, _, _, F⟩, b1, b2, b3⟩
  rw [← h2]
  exact He.glo_ok X G (glo_in c.t.d sh.f (dfs _ _ h1))
end BV
/-! The meaning, equation by equation, for the simplifier. -/
namespace BV
open PySem PySem.Spec PyProof.Rows L2

@[simp] theorem q_ev_0 {c : _} {z1 : _} {z2 : _} {D : Den} {S : Slots} : ev D (.cst c z1 z2) S = (cstV c).map fun v => ((.own 0, v), S) := rfl
@[simp] theorem q_ev_1 {i : _} {z1 : _} {z2 : _} {D : Den} {S : Slots} : ev D (.var i z1 z2) S = match S[i]? with
    | some (some (_, v)) => some ((.own 0, v), S.set i (some (0, v)))
    | _ => none := rfl
@[simp] theorem q_ev_2 {i : _} {z1 : _} {z2 : _} {D : Den} {S : Slots} : ev D (.brw i z1 z2) S = match S[i]? with
    | some (some (d, v)) => some (bif v.flat then ((.own 0, v), S) else bif decide (d ≤ 1) || v.inner then ((.bor, v), S) else ((.own 0, v), S.set i (some (0, v))))
    | _ => none := rfl
@[simp] theorem q_ev_3 {i : _} {z1 : _} {z2 : _} {D : Den} {S : Slots} : ev D (.mov i z1 z2) S = match S[i]? with
    | some (some (d, v)) => some ((.own d, v), S.set i none)
    | _ => none := rfl
@[simp] theorem q_ev_4 {z1 : _} {z2 : _} {z3 : _} {D : Den} {S : Slots} : ev D (.ref z1 z2 z3) S = none := rfl
@[simp] theorem q_ev_5 {i : _} {z1 : _} {z2 : _} {k : _} {z3 : _} {D : Den} {S : Slots} : ev D (.pth i z1 z2 k z3) S = match S[i]? with
    | some (some _) => (ev D k S).bind fun q => match q.2[i]? with
      | some (some (_, v)) => (getS v q.1.2).bind fun u => bif u.flat then some ((.own 0, u), q.2) else gd u.inner (some ((.bor, u), q.2))
      | _ => none
    | _ => none := rfl
@[simp] theorem q_ev_6 {x : _} {z1 : _} {D : Den} {S : Slots} : ev D (.glb x z1) S = (D.const x).map fun v => ((.own 0, v), S) := rfl
@[simp] theorem q_ev_7 {es : _} {z1 : _} {z2 : _} {D : Den} {S : Slots} : ev D (.tup es z1 z2) S = (evs D es S).bind fun q => gd (fitsLine q.1.length) (some ((.own 0, .tup (q.1.map (·.2))), q.2)) := rfl
@[simp] theorem q_ev_8 {es : _} {z1 : _} {D : Den} {S : Slots} : ev D (.lst es z1) S = (evs D es S).bind fun q => gd (fitsLine q.1.length) (some ((.own (dispD q.1), .lst (q.1.map (·.2))), q.2)) := rfl
@[simp] theorem q_ev_9 {z1 : _} {D : Den} {S : Slots} : ev D (.dic0 z1) S = some ((.own 1, .dic []), S) := rfl
@[simp] theorem q_ev_10 {op : _} {a : _} {b : _} {z1 : _} {D : Den} {S : Slots} : ev D (.bin op a b z1) S = (ev D a S).bind fun q => gd (q.1.1.lets b.pure) ((ev D b q.2).bind fun t => (binV op q.1.2 t.1.2).map fun r => ((.own r.1, r.2), t.2)) := rfl
@[simp] theorem q_ev_11 {a : _} {z1 : _} {D : Den} {S : Slots} : ev D (.neg a z1) S = (ev D a S).bind fun q => match q.1.2 with
    | .int i => some ((.own 0, .int (-i)), q.2)
    | _ => none := rfl
@[simp] theorem q_ev_12 {a : _} {z1 : _} {D : Den} {S : Slots} : ev D (.nt a z1) S = (tst (ev D a S)).map fun q => ((.own 0, .bl (!q.1)), q.2) := rfl
@[simp] theorem q_ev_13 {o : _} {es : _} {z1 : _} {D : Den} {S : Slots} : ev D (.bop o es z1) S = evb D o es S := rfl
@[simp] theorem q_ev_14 {op : _} {a : _} {b : _} {z1 : _} {D : Den} {S : Slots} : ev D (.cmp op a b z1) S = (ev D a S).bind fun q => gd (q.1.1.lets b.pure) ((ev D b q.2).bind fun t => (cmpV op q.1.2 t.1.2).map fun r => ((.own 0, .bl r), t.2)) := rfl
@[simp] theorem q_ev_15 {op : _} {op' : _} {a : _} {b : _} {c : _} {z1 : _} {D : Den} {S : Slots} : ev D (.chn op op' a b c z1) S = (ev D a S).bind fun q => gd (q.1.1.lets b.pure) ((ev D b q.2).bind fun t => (cmpV op q.1.2 t.1.2).bind fun r =>
      bif r then gd (t.1.1.lets c.pure) ((ev D c t.2).bind fun u => (cmpV op' t.1.2 u.1.2).map fun r' => ((.own 0, .bl r'), u.2)) else some ((.own 0, .bl false), t.2)) := rfl
@[simp] theorem q_ev_16 {c : _} {a : _} {b : _} {z1 : _} {D : Den} {S : Slots} : ev D (.ifx c a b z1) S = (tst (ev D c S)).bind fun q => bif q.1 then ev D a q.2 else ev D b q.2 := rfl
@[simp] theorem q_ev_17 {a : _} {T : _} {z1 : _} {z2 : _} {z3 : _} {D : Den} {S : Slots} : ev D (.isi a T z1 z2 z3) S = (ev D a S).map fun q => ((.own 0, .bl (isiV q.1.2 T)), q.2) := rfl
@[simp] theorem q_ev_18 {f : _} {z1 : _} {es : _} {z2 : _} {D : Den} {S : Slots} : ev D (.blt f z1 es z2) S = (evo D es S).bind fun q => (bltV f q.1).map fun r => ((.own r.1, r.2), q.2) := rfl
theorem q_ev_19 {c : _} {z1 : _} {z2 : _} {es : _} {ks : _} {z3 : _} {D : Den} {S : Slots} : ev D (.call c z1 z2 es ks z3) S = D.calls[c]?.bind fun sh => (eva D es S).bind fun q => (evk D ks q.2).bind fun t => (arrange q.1 t.1 (sh.dv.map .val) sh.ar).bind fun as => (argRs t.2 as).bind fun rs => gd (decide (refsOf as).Nodup) ((D.fn sh.f rs).bind fun w => (backS (wipeS t.2 (refsOf as)) as w.2).map fun S' => ((.own w.1.1, w.1.2), S')) := rfl
@[simp] theorem q_ev_20 {a : _} {i : _} {z1 : _} {D : Den} {S : Slots} : ev D (.idx a i z1) S = (ev D a S).bind fun q => gd (q.1.1.lets i.pure) ((ev D i q.2).bind fun t => (getV q.1.2 t.1.2).map fun u => ((.own 0, u), t.2)) := rfl
@[simp] theorem q_ev_21 {a : _} {lo : _} {hi : _} {z1 : _} {z2 : _} {D : Den} {S : Slots} : ev D (.slc a lo hi z1 z2) S = (ev D a S).bind fun q => gd (q.1.1.lets (lo.pure && hi.pure)) ((evi D lo q.2).bind fun t => (evi D hi t.2).bind fun u => (slcV q.1.2 t.1 u.1).map fun r => ((.own r.1, r.2), u.2)) := rfl
@[simp] theorem q_ev_22 {elt : _} {t : _} {it : _} {ifs : _} {z1 : _} {own : _} {z2 : _} {D : Den} {S : Slots} : ev D (.lc elt t it ifs z1 own z2) S = (evI D it S).bind fun q => (compL (fun v S1 => (t.set v S1).bind fun S2 => (evts D ifs S2).bind fun b => bif b.1 then (ev D elt b.2).bind fun r => match r.1.1 with
      | .own _ => some ([r.1.2], wipeS r.2 (own.map (·.2)))
      | .bor => none else some ([], wipeS b.2 (own.map (·.2)))) q.1 (wipeS q.2 (own.map (·.2)))).bind fun u => gd (fitsLine u.1.length) (some ((.own 1, .lst u.1), u.2)) := rfl
@[simp] theorem q_ev_23 {elt : _} {t : _} {it : _} {ifs : _} {t1 : _} {it1 : _} {ifs1 : _} {z1 : _} {own : _} {vs1 : _} {z2 : _} {D : Den} {S : Slots} : ev D (.lc2 elt t it ifs t1 it1 ifs1 z1 own vs1 z2) S = (evI D it S).bind fun q => (compL (fun v S1 => (t.set v S1).bind fun S2 => (evts D ifs S2).bind fun b => bif b.1 then (evI D it1 b.2).bind fun q1 =>
      (compL (fun v1 S3 => (t1.set v1 S3).bind fun S4 => (evts D ifs1 S4).bind fun b1 => bif b1.1 then (ev D elt b1.2).bind fun r => match r.1.1 with
        | .own _ => some ([r.1.2], wipeS r.2 vs1)
        | .bor => none else some ([], wipeS b1.2 vs1)) q1.1 (wipeS q1.2 vs1)).map fun z => (z.1, wipeS z.2 (own.map (·.2))) else some ([], wipeS b.2 (own.map (·.2)))) q.1 (wipeS q.2 (own.map (·.2)))).bind fun u => gd (fitsLine u.1.length) (some ((.own 1, .lst u.1), u.2)) := rfl
@[simp] theorem q_ev_24 {i : _} {z1 : _} {z2 : _} {k : _} {z3 : _} {j : _} {z4 : _} {z5 : _} {D : Den} {S : Slots} : ev D (.popAt i z1 z2 k z3 j z4 z5) S = match S[i]?, k, j with
    | some (some (d + 2, .lst xs)), .cst (.int m) _ _, .cst (.int 0) _ _ => (ixN xs.length m).bind fun n => match xs[n]? with
      | some (.lst (w :: ws)) => gd w.flat (some ((.own 0, w), S.set i (some (d + 2, .lst (xs.set n (.lst ws))))))
      | _ => none
    | _, _, _ => none := rfl
@[simp] theorem q_ev_25 {kx : _} {vx : _} {t : _} {it : _} {ifs : _} {z1 : _} {own : _} {z2 : _} {D : Den} {S : Slots} : ev D (.dcm kx vx t it ifs z1 own z2) S = (evI D it S).bind fun q => (compL (fun v S1 => (t.set v S1).bind fun S2 => (evts D ifs S2).bind fun b => bif b.1 then (ev D kx b.2).bind fun r => (ev D vx r.2).bind fun u => match r.1.1, u.1.1 with
      | .own _, .own _ => some ([.tup [r.1.2, u.1.2]], wipeS u.2 (own.map (·.2)))
      | _, _ => none else some ([], wipeS b.2 (own.map (·.2)))) q.1 (wipeS q.2 (own.map (·.2)))).bind fun u => gd (fitsLine u.1.length) ((putAll [] u.1).map fun kvs => ((.own 1, .dic kvs), u.2)) := rfl
@[simp] theorem q_ev_26 {z1 : _} {elt : _} {t : _} {it : _} {ifs : _} {t1 : _} {it1 : _} {ifs1 : _} {z2 : _} {own : _} {vs1 : _} {z3 : _} {z4 : _} {D : Den} {S : Slots} : ev D (.ssc z1 elt t it ifs t1 it1 ifs1 z2 own vs1 z3 z4) S = (evI D it S).bind fun q => (compL (fun v S1 => (t.set v S1).bind fun S2 => (evts D ifs S2).bind fun b => bif b.1 then (evI D it1 b.2).bind fun q1 =>
      (compL (fun v1 S3 => (t1.set v1 S3).bind fun S4 => (evts D ifs1 S4).bind fun b1 => bif b1.1 then (ev D elt b1.2).bind fun r => match r.1.1 with
        | .own _ => some ([r.1.2], wipeS r.2 vs1)
        | .bor => none else some ([], wipeS b1.2 vs1)) q1.1 (wipeS q1.2 vs1)).map fun z => (z.1, wipeS z.2 (own.map (·.2))) else some ([], wipeS b.2 (own.map (·.2)))) q.1 (wipeS q.2 (own.map (·.2)))).bind fun u => (intsOf u.1).bind fun ks => gd (decide (ks.length ≤ 4000)) (some ((.own 1, .lst ((sortU ks).map .int)), u.2)) := rfl
@[simp] theorem q_ev_27 {z1 : _} {z2 : _} {z3 : _} {x : _} {y : _} {z4 : _} {z5 : _} {z6 : _} {z7 : _} {z8 : _} {D : Den} {S : Slots} : ev D (.lzip z1 z2 z3 x y z4 z5 z6 z7 z8) S = (ev D x S).bind fun q => (ev D y q.2).bind fun t => match q.1, t.1 with
    | (.own _, .lst xs), (.own _, .lst ys) => gd (xs.length == ys.length) (some ((.own 1, .lst (pairUp xs ys)), t.2))
    | (.own _, .tup xs), (.own _, .tup ys) => gd (xs.length == ys.length) (some ((.own 1, .lst (pairUp xs ys)), t.2))
    | _, _ => none := rfl
@[simp] theorem q_ev_28 {z1 : _} {z2 : _} {x : _} {z3 : _} {D : Den} {S : Slots} : ev D (.dcp z1 z2 x z3) S = (D.tab x).map fun kvs => ((.own 1, .dic (kvs.map fun q => (.inr q.1, q.2))), S) := rfl
@[simp] theorem q_ev_29 {a : _} {z1 : _} {z2 : _} {z3 : _} {z4 : _} {z5 : _} {D : Den} {S : Slots} : ev D (.rev a z1 z2 z3 z4 z5) S = (ev D a S).bind fun q => match q.1 with
    | (.own _, .lst xs) => some ((.own 1, .lst xs.reverse), q.2)
    | (.own _, .tup xs) => some ((.own 0, .tup xs.reverse), q.2)
    | _ => none := rfl
@[simp] theorem q_ev_30 {z1 : _} {z2 : _} {a : _} {b : _} {z3 : _} {z4 : _} {D : Den} {S : Slots} : ev D (.lrng z1 z2 a b z3 z4) S = (ev D a S).bind fun q => (ev D b q.2).bind fun t => match q.1.2, t.1.2 with
    | .int i, .int j => gd (rngOk i j) (some ((.own 1, .lst (intsFrom i (j - i).toNat)), t.2))
    | _, _ => none := rfl
@[simp] theorem q_evs_0  {D : Den} {S : Slots} : evs D (.nil) S = some ([], S) := rfl
@[simp] theorem q_evs_1 {e : _} {es : _} {D : Den} {S : Slots} : evs D (.cons e es) S = (ev D e S).bind fun q => match q.1.1 with
    | .own d => (evs D es q.2).map fun t => ((d, q.1.2) :: t.1, t.2)
    | .bor => none := rfl
@[simp] theorem q_evo_0  {D : Den} {S : Slots} : evo D (.nil) S = some ([], S) := rfl
@[simp] theorem q_evo_1 {e : _} {es : _} {D : Den} {S : Slots} : evo D (.cons e es) S = (ev D e S).bind fun q => gd (q.1.1.lets es.pure) ((evo D es q.2).map fun t => (q.1.2 :: t.1, t.2)) := rfl
@[simp] theorem q_evi_0  {D : Den} {S : Slots} : evi D (.no) S = some (none, S) := rfl
@[simp] theorem q_evi_1 {e : _} {D : Den} {S : Slots} : evi D (.is e) S = (ev D e S).bind fun q => match q.1.2 with
    | .int i => some (some i, q.2)
    | _ => none := rfl
@[simp] theorem q_evk_0  {D : Den} {S : Slots} : evk D (.nil) S = some ([], S) := rfl
@[simp] theorem q_evk_1 {z1 : _} {e : _} {z2 : _} {es : _} {D : Den} {S : Slots} : evk D (.cons z1 e z2 es) S = (ev D e S).bind fun q => match q.1.1 with
    | .own _ => (evk D es q.2).map fun t => (.val q.1.2 :: t.1, t.2)
    | .bor => none := rfl
@[simp] theorem q_evI_0 {e : _} {D : Den} {S : Slots} : evI D (.seq e) S = (ev D e S).bind fun q => match q.1.1 with
    | .own _ => (itemsV q.1.2).map fun xs => (xs, q.2)
    | .bor => none := rfl
@[simp] theorem q_evI_1 {z1 : _} {a : _} {z2 : _} {D : Den} {S : Slots} : evI D (.rng1 z1 a z2) S = (ev D a S).bind fun q => match q.1.2 with
    | .int i => gd (inRange i) (some (intsFrom 0 i.toNat, q.2))
    | _ => none := rfl
@[simp] theorem q_evI_2 {z1 : _} {a : _} {b : _} {z2 : _} {D : Den} {S : Slots} : evI D (.rng2 z1 a b z2) S = (ev D a S).bind fun q => (ev D b q.2).bind fun t => match q.1.2, t.1.2 with
    | .int i, .int j => gd (inRange i && inRange j) (some (intsFrom i (j - i).toNat, t.2))
    | _, _ => none := rfl
@[simp] theorem q_evI_3 {z1 : _} {a : _} {z2 : _} {D : Den} {S : Slots} : evI D (.enum z1 a z2) S = (ev D a S).bind fun q => match q.1.1, q.1.2 with
    | .own _, v => (itemsV v).map fun xs => (numbered 0 xs, q.2)
    | _, _ => none := rfl
@[simp] theorem q_evI_4 {z1 : _} {a : _} {b : _} {z2 : _} {D : Den} {S : Slots} : evI D (.zip z1 a b z2) S = (ev D a S).bind fun q => (ev D b q.2).bind fun t => match q.1, t.1 with
    | (.own _, .lst xs), (.own _, .lst ys) => some (pairUp xs ys, t.2)
    | (.own _, .tup xs), (.own _, .tup ys) => some (pairUp xs ys, t.2)
    | _, _ => none := rfl
@[simp] theorem q_ex_asgn {i x p e p' : _} {D : Den} {S : Slots} : ex D (.asg (.name i x p) e p') S = (ev D e S).bind fun q => match q.1.1 with
    | .own d => some (.nx (q.2.set i (some (d, q.1.2))))
    | .bor => none := by
  show (ev D e S).bind _ = _
  congr 1
  funext q
  rcases q with ⟨⟨m, v⟩, S1⟩
  cases m <;> rfl
@[simp] theorem q_ex_asgt {ts k p e p' : _} {D : Den} {S : Slots} : ex D (.asg (.tup ts k p) e p') S = (ev D e S).bind fun q => match q.1.1 with
    | .own _ => ((CT.tup ts k p).set q.1.2 q.2).map .nx
    | .bor => none := by
  show (ev D e S).bind _ = _
  congr 1
  funext q
  rcases q with ⟨⟨m, v⟩, S1⟩
  cases m <;> rfl
@[simp] theorem q_ex_1 {i : _} {j : _} {z1 : _} {z2 : _} {z3 : _} {z4 : _} {z5 : _} {z6 : _} {a : _} {b : _} {z7 : _} {z8 : _} {z9 : _} {D : Den} {S : Slots} : ex D (.par i j z1 z2 z3 z4 z5 z6 a b z7 z8 z9) S = (evs D (.cons a (.cons b .nil)) S).bind fun q => match q.1 with
    | [r, r'] => some (.nx ((q.2.set i (some r)).set j (some r')))
    | _ => none := rfl
@[simp] theorem q_ex_2 {i : _} {z1 : _} {z2 : _} {k : _} {e : _} {z3 : _} {z4 : _} {D : Den} {S : Slots} : ex D (.setI i z1 z2 k e z3 z4) S = (ev D e S).bind fun q => match q.2[i]? with
    | some (some _) => (ev D k q.2).bind fun t => match t.2[i]?, t.1.2, q.1.1 with
      | some (some (d + 1, .lst xs)), .int m, .own d' => gd (fitsIn d (d', q.1.2)) ((ixN xs.length m).map fun n => .nx (t.2.set i (some (d + 1, .lst (xs.set n q.1.2)))))
      | _, _, _ => none
    | _ => none := rfl
@[simp] theorem q_ex_3 {e : _} {z1 : _} {D : Den} {S : Slots} : ex D (.expr e z1) S = (ev D e S).map fun q => .nx q.2 := rfl
@[simp] theorem q_ex_4 {i : _} {z1 : _} {z2 : _} {z3 : _} {e : _} {z4 : _} {z5 : _} {D : Den} {S : Slots} : ex D (.app i z1 z2 z3 e z4 z5) S = match S[i]? with
    | some (some (_, .lst _)) => (ev D e S).bind fun q => match q.2[i]?, q.1.1 with
      | some (some (d + 1, .lst xs)), .own d' => gd (fitsIn d (d', q.1.2) && decide (xs.length < sizeLine)) (some (.nx (q.2.set i (some (d + 1, .lst (xs ++ [q.1.2]))))))
      | _, _ => none
    | _ => none := rfl
@[simp] theorem q_ex_5 {i : _} {z1 : _} {z2 : _} {op : _} {e : _} {z3 : _} {D : Den} {S : Slots} : ex D (.aug i z1 z2 op e z3) S = match S[i]? with
    | some (some (_, .int k)) => (ev D e S).bind fun q => match op, q.1.2 with
      | .Add, .int m => some (.nx (q.2.set i (some (0, .int (k + m)))))
      | .Sub, .int m => some (.nx (q.2.set i (some (0, .int (k - m)))))
      | _, _ => none
    | _ => none := rfl
@[simp] theorem q_ex_6 {c : _} {a : _} {b : _} {z1 : _} {D : Den} {S : Slots} : ex D (.ife c a b z1) S = (tst (ev D c S)).bind fun q => bif q.1 then exs D a q.2 else exs D b q.2 := rfl
@[simp] theorem q_ex_7 {t : _} {it : _} {body : _} {z1 : _} {D : Den} {S : Slots} : ex D (.forr t it body z1) S = (evI D it S).bind fun q => forL (fun v S1 => (t.set v S1).bind fun S2 => exs D body S2) q.1 q.2 := rfl
@[simp] theorem q_ex_8 {e : _} {z1 : _} {D : Den} {S : Slots} : ex D (.ret e z1) S = (ev D e S).bind fun q => match q.1.1 with
    | .own d => some (.rt (d, q.1.2) q.2)
    | .bor => none := rfl
@[simp] theorem q_ex_9 {z1 : _} {D : Den} {S : Slots} : ex D (.retN z1) S = some (.rt (0, .non) S) := rfl
@[simp] theorem q_ex_10 {z1 : _} {D : Den} {S : Slots} : ex D (.pass z1) S = some (.nx S) := rfl
@[simp] theorem q_ex_11 {z1 : _} {D : Den} {S : Slots} : ex D (.brk z1) S = some (.bk S) := rfl
@[simp] theorem q_ex_12 {z1 : _} {D : Den} {S : Slots} : ex D (.cnt z1) S = some (.ct S) := rfl
@[simp] theorem q_ex_13 {z1 : _} {D : Den} {S : Slots} : ex D (.nvr z1) S = none := rfl
@[simp] theorem q_exs_0  {D : Den} {S : Slots} : exs D (.nil) S = some (.nx S) := rfl
@[simp] theorem q_exs_1 {s : _} {ss : _} {D : Den} {S : Slots} : exs D (.cons s ss) S = match ex D s S with
    | some (.nx S1) => exs D ss S1
    | o => o := rfl
def CE.isRef : CE → Bool
  | .ref .. => true | _ => false
@[simp] theorem q_eva_0 {D : Den} {S : Slots} : eva D .nil S = some ([], S) := rfl
@[simp] theorem q_eva_1 {i x p es : _} {D : Den} {S : Slots} : eva D (.cons (.ref i x p) es) S = match S[i]? with
    | some (some _) => (eva D es S).map fun t => (.byRef i :: t.1, t.2)
    | _ => none := rfl
theorem q_eva_2 {e : CE} {es : CEs} {D : Den} {S : Slots} (h : e.isRef = false) : eva D (.cons e es) S = (ev D e S).bind fun q => match q.1.1 with
    | .own _ => (eva D es q.2).map fun t => (.val q.1.2 :: t.1, t.2)
    | .bor => none := by cases e <;> first | rfl | cases h
@[simp] theorem q_eva_cst {a0 : _} {a1 : _} {a2 : _} {es : CEs} {D : Den} {S : Slots} : eva D (.cons (.cst a0 a1 a2) es) S = (ev D (.cst a0 a1 a2) S).bind fun q => match q.1.1 with | .own _ => (eva D es q.2).map fun t => (.val q.1.2 :: t.1, t.2) | .bor => none := rfl
@[simp] theorem q_eva_var {a0 : _} {a1 : _} {a2 : _} {es : CEs} {D : Den} {S : Slots} : eva D (.cons (.var a0 a1 a2) es) S = (ev D (.var a0 a1 a2) S).bind fun q => match q.1.1 with | .own _ => (eva D es q.2).map fun t => (.val q.1.2 :: t.1, t.2) | .bor => none := rfl
@[simp] theorem q_eva_brw {a0 : _} {a1 : _} {a2 : _} {es : CEs} {D : Den} {S : Slots} : eva D (.cons (.brw a0 a1 a2) es) S = (ev D (.brw a0 a1 a2) S).bind fun q => match q.1.1 with | .own _ => (eva D es q.2).map fun t => (.val q.1.2 :: t.1, t.2) | .bor => none := rfl
@[simp] theorem q_eva_mov {a0 : _} {a1 : _} {a2 : _} {es : CEs} {D : Den} {S : Slots} : eva D (.cons (.mov a0 a1 a2) es) S = (ev D (.mov a0 a1 a2) S).bind fun q => match q.1.1 with | .own _ => (eva D es q.2).map fun t => (.val q.1.2 :: t.1, t.2) | .bor => none := rfl
@[simp] theorem q_eva_pth {a0 : _} {a1 : _} {a2 : _} {a3 : _} {a4 : _} {es : CEs} {D : Den} {S : Slots} : eva D (.cons (.pth a0 a1 a2 a3 a4) es) S = (ev D (.pth a0 a1 a2 a3 a4) S).bind fun q => match q.1.1 with | .own _ => (eva D es q.2).map fun t => (.val q.1.2 :: t.1, t.2) | .bor => none := rfl
@[simp] theorem q_eva_glb {a0 : _} {a1 : _} {es : CEs} {D : Den} {S : Slots} : eva D (.cons (.glb a0 a1) es) S = (ev D (.glb a0 a1) S).bind fun q => match q.1.1 with | .own _ => (eva D es q.2).map fun t => (.val q.1.2 :: t.1, t.2) | .bor => none := rfl
@[simp] theorem q_eva_tup {a0 : _} {a1 : _} {a2 : _} {es : CEs} {D : Den} {S : Slots} : eva D (.cons (.tup a0 a1 a2) es) S = (ev D (.tup a0 a1 a2) S).bind fun q => match q.1.1 with | .own _ => (eva D es q.2).map fun t => (.val q.1.2 :: t.1, t.2) | .bor => none := rfl
@[simp] theorem q_eva_lst {a0 : _} {a1 : _} {es : CEs} {D : Den} {S : Slots} : eva D (.cons (.lst a0 a1) es) S = (ev D (.lst a0 a1) S).bind fun q => match q.1.1 with | .own _ => (eva D es q.2).map fun t => (.val q.1.2 :: t.1, t.2) | .bor => none := rfl
@[simp] theorem q_eva_dic0 {a0 : _} {es : CEs} {D : Den} {S : Slots} : eva D (.cons (.dic0 a0) es) S = (ev D (.dic0 a0) S).bind fun q => match q.1.1 with | .own _ => (eva D es q.2).map fun t => (.val q.1.2 :: t.1, t.2) | .bor => none := rfl
@[simp] theorem q_eva_bin {a0 : _} {a1 : _} {a2 : _} {a3 : _} {es : CEs} {D : Den} {S : Slots} : eva D (.cons (.bin a0 a1 a2 a3) es) S = (ev D (.bin a0 a1 a2 a3) S).bind fun q => match q.1.1 with | .own _ => (eva D es q.2).map fun t => (.val q.1.2 :: t.1, t.2) | .bor => none := rfl
@[simp] theorem q_eva_neg {a0 : _} {a1 : _} {es : CEs} {D : Den} {S : Slots} : eva D (.cons (.neg a0 a1) es) S = (ev D (.neg a0 a1) S).bind fun q => match q.1.1 with | .own _ => (eva D es q.2).map fun t => (.val q.1.2 :: t.1, t.2) | .bor => none := rfl
@[simp] theorem q_eva_nt {a0 : _} {a1 : _} {es : CEs} {D : Den} {S : Slots} : eva D (.cons (.nt a0 a1) es) S = (ev D (.nt a0 a1) S).bind fun q => match q.1.1 with | .own _ => (eva D es q.2).map fun t => (.val q.1.2 :: t.1, t.2) | .bor => none := rfl
@[simp] theorem q_eva_bop {a0 : _} {a1 : _} {a2 : _} {es : CEs} {D : Den} {S : Slots} : eva D (.cons (.bop a0 a1 a2) es) S = (ev D (.bop a0 a1 a2) S).bind fun q => match q.1.1 with | .own _ => (eva D es q.2).map fun t => (.val q.1.2 :: t.1, t.2) | .bor => none := rfl
@[simp] theorem q_eva_cmp {a0 : _} {a1 : _} {a2 : _} {a3 : _} {es : CEs} {D : Den} {S : Slots} : eva D (.cons (.cmp a0 a1 a2 a3) es) S = (ev D (.cmp a0 a1 a2 a3) S).bind fun q => match q.1.1 with | .own _ => (eva D es q.2).map fun t => (.val q.1.2 :: t.1, t.2) | .bor => none := rfl
@[simp] theorem q_eva_chn {a0 : _} {a1 : _} {a2 : _} {a3 : _} {a4 : _} {a5 : _} {es : CEs} {D : Den} {S : Slots} : eva D (.cons (.chn a0 a1 a2 a3 a4 a5) es) S = (ev D (.chn a0 a1 a2 a3 a4 a5) S).bind fun q => match q.1.1 with | .own _ => (eva D es q.2).map fun t => (.val q.1.2 :: t.1, t.2) | .bor => none := rfl
@[simp] theorem q_eva_ifx {a0 : _} {a1 : _} {a2 : _} {a3 : _} {es : CEs} {D : Den} {S : Slots} : eva D (.cons (.ifx a0 a1 a2 a3) es) S = (ev D (.ifx a0 a1 a2 a3) S).bind fun q => match q.1.1 with | .own _ => (eva D es q.2).map fun t => (.val q.1.2 :: t.1, t.2) | .bor => none := rfl
@[simp] theorem q_eva_isi {a0 : _} {a1 : _} {a2 : _} {a3 : _} {a4 : _} {es : CEs} {D : Den} {S : Slots} : eva D (.cons (.isi a0 a1 a2 a3 a4) es) S = (ev D (.isi a0 a1 a2 a3 a4) S).bind fun q => match q.1.1 with | .own _ => (eva D es q.2).map fun t => (.val q.1.2 :: t.1, t.2) | .bor => none := rfl
@[simp] theorem q_eva_blt {a0 : _} {a1 : _} {a2 : _} {a3 : _} {es : CEs} {D : Den} {S : Slots} : eva D (.cons (.blt a0 a1 a2 a3) es) S = (ev D (.blt a0 a1 a2 a3) S).bind fun q => match q.1.1 with | .own _ => (eva D es q.2).map fun t => (.val q.1.2 :: t.1, t.2) | .bor => none := rfl
@[simp] theorem q_eva_call {a0 : _} {a1 : _} {a2 : _} {a3 : _} {a4 : _} {a5 : _} {es : CEs} {D : Den} {S : Slots} : eva D (.cons (.call a0 a1 a2 a3 a4 a5) es) S = (ev D (.call a0 a1 a2 a3 a4 a5) S).bind fun q => match q.1.1 with | .own _ => (eva D es q.2).map fun t => (.val q.1.2 :: t.1, t.2) | .bor => none := rfl
@[simp] theorem q_eva_idx {a0 : _} {a1 : _} {a2 : _} {es : CEs} {D : Den} {S : Slots} : eva D (.cons (.idx a0 a1 a2) es) S = (ev D (.idx a0 a1 a2) S).bind fun q => match q.1.1 with | .own _ => (eva D es q.2).map fun t => (.val q.1.2 :: t.1, t.2) | .bor => none := rfl
@[simp] theorem q_eva_slc {a0 : _} {a1 : _} {a2 : _} {a3 : _} {a4 : _} {es : CEs} {D : Den} {S : Slots} : eva D (.cons (.slc a0 a1 a2 a3 a4) es) S = (ev D (.slc a0 a1 a2 a3 a4) S).bind fun q => match q.1.1 with | .own _ => (eva D es q.2).map fun t => (.val q.1.2 :: t.1, t.2) | .bor => none := rfl
@[simp] theorem q_eva_lc {a0 : _} {a1 : _} {a2 : _} {a3 : _} {a4 : _} {a5 : _} {a6 : _} {es : CEs} {D : Den} {S : Slots} : eva D (.cons (.lc a0 a1 a2 a3 a4 a5 a6) es) S = (ev D (.lc a0 a1 a2 a3 a4 a5 a6) S).bind fun q => match q.1.1 with | .own _ => (eva D es q.2).map fun t => (.val q.1.2 :: t.1, t.2) | .bor => none := rfl
@[simp] theorem q_eva_lc2 {a0 : _} {a1 : _} {a2 : _} {a3 : _} {a4 : _} {a5 : _} {a6 : _} {a7 : _} {a8 : _} {a9 : _} {a10 : _} {es : CEs} {D : Den} {S : Slots} : eva D (.cons (.lc2 a0 a1 a2 a3 a4 a5 a6 a7 a8 a9 a10) es) S = (ev D (.lc2 a0 a1 a2 a3 a4 a5 a6 a7 a8 a9 a10) S).bind fun q => match q.1.1 with | .own _ => (eva D es q.2).map fun t => (.val q.1.2 :: t.1, t.2) | .bor => none := rfl
@[simp] theorem q_eva_popAt {a0 : _} {a1 : _} {a2 : _} {a3 : _} {a4 : _} {a5 : _} {a6 : _} {a7 : _} {es : CEs} {D : Den} {S : Slots} : eva D (.cons (.popAt a0 a1 a2 a3 a4 a5 a6 a7) es) S = (ev D (.popAt a0 a1 a2 a3 a4 a5 a6 a7) S).bind fun q => match q.1.1 with | .own _ => (eva D es q.2).map fun t => (.val q.1.2 :: t.1, t.2) | .bor => none := rfl
@[simp] theorem q_eva_dcm {a0 : _} {a1 : _} {a2 : _} {a3 : _} {a4 : _} {a5 : _} {a6 : _} {a7 : _} {es : CEs} {D : Den} {S : Slots} : eva D (.cons (.dcm a0 a1 a2 a3 a4 a5 a6 a7) es) S = (ev D (.dcm a0 a1 a2 a3 a4 a5 a6 a7) S).bind fun q => match q.1.1 with | .own _ => (eva D es q.2).map fun t => (.val q.1.2 :: t.1, t.2) | .bor => none := rfl
@[simp] theorem q_eva_lrng {a0 : _} {a1 : _} {a2 : _} {a3 : _} {a4 : _} {a5 : _} {es : CEs} {D : Den} {S : Slots} : eva D (.cons (.lrng a0 a1 a2 a3 a4 a5) es) S = (ev D (.lrng a0 a1 a2 a3 a4 a5) S).bind fun q => match q.1.1 with | .own _ => (eva D es q.2).map fun t => (.val q.1.2 :: t.1, t.2) | .bor => none := rfl
@[simp] theorem q_eva_lzip {a0 : _} {a1 : _} {a2 : _} {a3 : _} {a4 : _} {a5 : _} {a6 : _} {a7 : _} {a8 : _} {a9 : _} {es : CEs} {D : Den} {S : Slots} : eva D (.cons (.lzip a0 a1 a2 a3 a4 a5 a6 a7 a8 a9) es) S = (ev D (.lzip a0 a1 a2 a3 a4 a5 a6 a7 a8 a9) S).bind fun q => match q.1.1 with | .own _ => (eva D es q.2).map fun t => (.val q.1.2 :: t.1, t.2) | .bor => none := rfl
@[simp] theorem q_eva_dcp {a0 : _} {a1 : _} {a2 : _} {a3 : _} {es : CEs} {D : Den} {S : Slots} : eva D (.cons (.dcp a0 a1 a2 a3) es) S = (ev D (.dcp a0 a1 a2 a3) S).bind fun q => match q.1.1 with | .own _ => (eva D es q.2).map fun t => (.val q.1.2 :: t.1, t.2) | .bor => none := rfl
@[simp] theorem q_eva_rev {a0 : _} {a1 : _} {a2 : _} {a3 : _} {a4 : _} {a5 : _} {es : CEs} {D : Den} {S : Slots} : eva D (.cons (.rev a0 a1 a2 a3 a4 a5) es) S = (ev D (.rev a0 a1 a2 a3 a4 a5) S).bind fun q => match q.1.1 with | .own _ => (eva D es q.2).map fun t => (.val q.1.2 :: t.1, t.2) | .bor => none := rfl
@[simp] theorem q_eva_ssc {a0 : _} {a1 : _} {a2 : _} {a3 : _} {a4 : _} {a5 : _} {a6 : _} {a7 : _} {a8 : _} {a9 : _} {a10 : _} {a11 : _} {a12 : _} {es : CEs} {D : Den} {S : Slots} : eva D (.cons (.ssc a0 a1 a2 a3 a4 a5 a6 a7 a8 a9 a10 a11 a12) es) S = (ev D (.ssc a0 a1 a2 a3 a4 a5 a6 a7 a8 a9 a10 a11 a12) S).bind fun q => match q.1.1 with | .own _ => (eva D es q.2).map fun t => (.val q.1.2 :: t.1, t.2) | .bor => none := rfl
@[simp] theorem q_evb_1 {o e : _} {D : Den} {S : Slots} : evb D o (.cons e .nil) S = ev D e S := rfl
@[simp] theorem q_evb_2 {e e2 es : _} {D : Den} {S : Slots} : evb D .And (.cons e (.cons e2 es)) S = (ev D e S).bind fun q => (truV q.1.2).bind fun b => bif b then evb D .And (.cons e2 es) q.2 else some q := rfl
@[simp] theorem q_evb_3 {e e2 es : _} {D : Den} {S : Slots} : evb D .Or (.cons e (.cons e2 es)) S = (ev D e S).bind fun q => (truV q.1.2).bind fun b => bif b then some q else evb D .Or (.cons e2 es) q.2 := rfl
@[simp] theorem q_evts_0 {D : Den} {S : Slots} : evts D .nil S = some (true, S) := rfl
@[simp] theorem q_evts_1 {e : _} {D : Den} {S : Slots} : evts D (.cons e .nil) S = tst (ev D e S) := rfl
@[simp] theorem q_tst {r : Res} {S : Slots} : tst (some (r, S)) = (truV r.2).map fun b => (b, S) := rfl
@[simp] theorem q_tst0 : tst none = none := rfl
@[simp] theorem q_gd1 {a : Type} {o : Option a} : gd true o = o := rfl
@[simp] theorem q_gd0 {a : Type} {o : Option a} : gd false o = none := rfl
@[simp] theorem q_set1 {i x p v : _} {S : Slots} : (CT.name i x p).set v S = some (S.set i (some (0, v))) := rfl
@[simp] theorem q_set2 {ts k p xs : _} {S : Slots} : (CT.tup ts k p).set (.tup xs) S = ts.set xs S := rfl
@[simp] theorem q_sets0 {S : Slots} : CTs.nil.set [] S = some S := rfl
@[simp] theorem q_sets1 {t ts x xs : _} {S : Slots} : (CTs.cons t ts).set (x :: xs) S = (t.set x S).bind fun S1 => ts.set xs S1 := rfl
@[simp] theorem q_compL0 {f : Val → Slots → Option (List Val × Slots)} {S : Slots} : compL f [] S = some ([], S) := rfl
@[simp] theorem q_forL0 {f : Val → Slots → Option Out} {S : Slots} : forL f [] S = some (.nx S) := rfl
theorem q_compL1 {f : Val → Slots → Option (List Val × Slots)} {v : Val} {vs : List Val} {S : Slots} : compL f (v :: vs) S = (f v S).bind fun q => (compL f vs q.2).map fun t => (q.1 ++ t.1, t.2) := rfl
@[simp] theorem q_wipe0 {S : Slots} : wipeS S [] = S := rfl
@[simp] theorem q_wipe1 {S : Slots} {v : Nat} {vs : List Nat} : wipeS S (v :: vs) = (wipeS S vs).set v none := rfl
@[simp] theorem q_arr0 {a : Type} {as bs ds : List a} : arrange as bs ds [] = some [] := rfl
@[simp] theorem q_arr1 {a : Type} {as bs ds : List a} {i r : _} : arrange as bs ds (.pos i :: r) = as[i]?.bind fun a => (arrange as bs ds r).map (a :: ·) := rfl
@[simp] theorem q_arr2 {a : Type} {as bs ds : List a} {i r : _} : arrange as bs ds (.kw i :: r) = bs[i]?.bind fun a => (arrange as bs ds r).map (a :: ·) := rfl
@[simp] theorem q_arr3 {a : Type} {as bs ds : List a} {i r : _} : arrange as bs ds (.dfl i :: r) = ds[i]?.bind fun a => (arrange as bs ds r).map (a :: ·) := rfl
@[simp] theorem q_argR0 {S : Slots} {i : Nat} : argR S (.byRef i) = match S[i]? with
    | some (some r) => some r
    | _ => none := rfl
@[simp] theorem q_argR1 {S : Slots} {v : Val} : argR S (.val v) = some (0, v) := rfl
@[simp] theorem q_argRs0 {S : Slots} : argRs S [] = some [] := rfl
@[simp] theorem q_argRs1 {S : Slots} {a r : _} : argRs S (a :: r) = (argR S a).bind fun x => (argRs S r).map (x :: ·) := rfl
@[simp] theorem q_back0 {S fin : Slots} : backS S [] fin = some S := rfl
@[simp] theorem q_back1 {S fin : Slots} {v r : _} : backS S (.val v :: r) fin = backS S r (fin.drop 1) := rfl
@[simp] theorem q_back2 {S fin : Slots} {i r : _} : backS S (.byRef i :: r) fin = match fin[0]? with
    | some (some x) => backS (S.set i (some x)) r (fin.drop 1)
    | _ => none := rfl
@[simp] theorem q_refs0 : refsOf [] = [] := rfl
@[simp] theorem q_refs1 {v r : _} : refsOf (.val v :: r) = refsOf r := rfl
@[simp] theorem q_refs2 {i r : _} : refsOf (.byRef i :: r) = i :: refsOf r := rfl
@[simp] theorem q_lets1 {d b : _} : (Mode.own d).lets b = true := rfl
@[simp] theorem q_lets2 {b : _} : Mode.bor.lets b = b := rfl
@[simp] theorem q_outc1 {d : Df} {r S : _} : d.outc (some (.rt r S)) = some (r, backP d.B 0 d.ps.length S) := rfl
@[simp] theorem q_outc2 {d : Df} {S : _} : d.outc (some (.nx S)) = some ((0, .non), backP d.B 0 d.ps.length S) := rfl
@[simp] theorem q_backP0 {B i S : _} : backP B i 0 S = [] := rfl
@[simp] theorem q_backP1 {B i n p S : _} : backP B i (n + 1) (p :: S) = (bif B.contains i then p else none) :: backP B (i + 1) n S := rfl
@[simp] theorem q_cst0 : cstV .none = some .non := rfl
@[simp] theorem q_cst1 {b : _} : cstV (.bool b) = some (.bl b) := rfl
@[simp] theorem q_cst2 {b : _} : cstV (.int b) = some (.int b) := rfl
@[simp] theorem q_cst3 {b : _} : cstV (.str b) = some (.str b) := rfl
@[simp] theorem q_add {i j : Int} : binV .Add (.int i) (.int j) = some (0, .int (i + j)) := rfl
@[simp] theorem q_sub {i j : Int} : binV .Sub (.int i) (.int j) = some (0, .int (i - j)) := rfl
@[simp] theorem q_mul_r {i j : Int} (h : -18446744073709551616 < j ∧ j < 18446744073709551616) : binV .Mult (.int i) (.int j) = some (0, .int (i * j)) := by
  show gd (decide ((-(2 ^ 64) < i ∧ i < 2 ^ 64) ∨ (-(2 ^ 64) < j ∧ j < 2 ^ 64))) _ = _
  rw [decide_eq_true (by omega)]; rfl
@[simp] theorem q_mul_l {i j : Int} (h : -18446744073709551616 < i ∧ i < 18446744073709551616) : binV .Mult (.int i) (.int j) = some (0, .int (i * j)) := by
  show gd (decide ((-(2 ^ 64) < i ∧ i < 2 ^ 64) ∨ (-(2 ^ 64) < j ∧ j < 2 ^ 64))) _ = _
  rw [decide_eq_true (by omega)]; rfl
@[simp] theorem q_mod {i j : Int} (h : 0 < j) : binV .Mod (.int i) (.int j) = some (0, .int (i % j)) := by
  show gd (decide (0 < j)) _ = _
  rw [decide_eq_true h]; rfl
@[simp] theorem q_div {i j : Int} (h : 0 < j ∧ j < 1073741824) : binV .FloorDiv (.int i) (.int j) = some (0, .int (i / j)) := by
  show gd (decide (0 < j ∧ j < 1073741824)) _ = _
  rw [decide_eq_true h]; rfl
@[simp] theorem q_pow {i j : Int} (h : 0 ≤ j ∧ j ≤ 1000000 ∧ -18446744073709551616 < i ∧ i < 18446744073709551616) : binV .Pow (.int i) (.int j) = some (0, .int (i ^ j.toNat)) := by
  show gd (decide (0 ≤ j ∧ j ≤ 1000000 ∧ i.natAbs < 2 ^ 64)) _ = _
  rw [decide_eq_true (by omega)]; rfl
@[simp] theorem q_addS {a b : Str} : binV .Add (.str a) (.str b) = gd (fitsLine (a.length + b.length)) (some (0, .str (a ++ b))) := rfl
@[simp] theorem q_addL {xs ys : List Val} : binV .Add (.lst xs) (.lst ys) = gd (fitsLine (xs.length + ys.length)) (some (1, .lst (xs ++ ys))) := rfl
@[simp] theorem q_addT {xs ys : List Val} : binV .Add (.tup xs) (.tup ys) = gd (fitsLine (xs.length + ys.length)) (some (0, .tup (xs ++ ys))) := rfl
@[simp] theorem q_mulL {xs : List Val} {k : Int} (h : -100000 ≤ k ∧ k ≤ 100000 ∧ xs.length * k.toNat ≤ 100000) : binV .Mult (.lst xs) (.int k) = some (1, .lst (flatRep k xs)) := by
  show gd (decide (-(2 ^ 63) ≤ k ∧ k < 2 ^ 63 ∧ xs.length * k.toNat ≤ sizeLine)) _ = _
  rw [decide_eq_true ⟨by omega, by omega, Nat.le_trans h.2.2 (by decide)⟩]; rfl
@[simp] theorem q_mulT {xs : List Val} {k : Int} (h : -100000 ≤ k ∧ k ≤ 100000 ∧ xs.length ≤ 100) : binV .Mult (.tup xs) (.int k) = some (0, .tup (flatRep k xs)) := by
  show gd (decide (k ≤ 100000 ∧ -100000 ≤ k ∧ xs.length ≤ 100)) _ = _
  rw [decide_eq_true (by omega)]; rfl
@[simp] theorem q_fits {n : Nat} (h : n ≤ 100000) : fitsLine n = true := decide_eq_true (Nat.le_trans h (by decide))
@[simp] theorem q_in {a b : Val} : cmpV .In a b = inS a b := rfl
@[simp] theorem q_nin {a b : Val} : cmpV .NotIn a b = (inS a b).map (!·) := rfl
@[simp] theorem q_lt {i j : Int} : cmpV .Lt (.int i) (.int j) = some (decide (i < j)) := rfl
@[simp] theorem q_le {i j : Int} : cmpV .LtE (.int i) (.int j) = some (decide (i ≤ j)) := rfl
@[simp] theorem q_gt {i j : Int} : cmpV .Gt (.int i) (.int j) = some (decide (j < i)) := rfl
@[simp] theorem q_ge {i j : Int} : cmpV .GtE (.int i) (.int j) = some (decide (j ≤ i)) := rfl
@[simp] theorem q_eq {a b : Val} : cmpV .Eq a b = eqS a b := rfl
@[simp] theorem q_ne {a b : Val} : cmpV .NotEq a b = (eqS a b).map (!·) := rfl
@[simp] theorem q_eqI {i j : Int} : eqS (.int i) (.int j) = some (decide (i = j)) := rfl
@[simp] theorem q_eqStr {i j : Str} : eqS (.str i) (.str j) = some (decide (i = j)) := rfl
@[simp] theorem q_eqB {i j : Bool} : eqS (.bl i) (.bl j) = some (decide (i = j)) := rfl
@[simp] theorem q_is0 : cmpV .Is .non .non = some true := rfl
@[simp] theorem q_isB {a b : Bool} : cmpV .Is (.bl a) (.bl b) = some (decide (a = b)) := rfl
@[simp] theorem q_isn0 : cmpV .IsNot .non .non = some false := rfl
@[simp] theorem q_isnB {a b : Bool} : cmpV .IsNot (.bl a) (.bl b) = some (!decide (a = b)) := rfl
@[simp] theorem q_tru0 : truV .non = some false := rfl
@[simp] theorem q_tru1 {b : _} : truV (.bl b) = some b := rfl
@[simp] theorem q_tru2 {i : Int} : truV (.int i) = some (i != 0) := rfl
@[simp] theorem q_tru3 {xs : _} : truV (.lst xs) = some (!xs.isEmpty) := rfl
@[simp] theorem q_tru4 {xs : _} : truV (.tup xs) = some (!xs.isEmpty) := rfl
@[simp] theorem q_tru5 {xs : _} : truV (.dic xs) = some (!xs.isEmpty) := rfl
@[simp] theorem q_len1 {xs : _} : bltV .len [.lst xs] = some (0, .int xs.length) := rfl
@[simp] theorem q_len2 {xs : _} : bltV .len [.tup xs] = some (0, .int xs.length) := rfl
@[simp] theorem q_len3 {s : Str} : bltV .len [.str s] = gd (fitsLine s.length) (some (0, .int s.length)) := rfl
@[simp] theorem q_repr {v : _} : bltV .repr [v] = (reprV v).map fun s => (0, .str s) := rfl
@[simp] theorem q_all {xs : _} : bltV .all [.lst xs] = (boolsOf xs).map fun bs => (0, .bl (bs.all id)) := rfl
@[simp] theorem q_any {xs : _} : bltV .any [.lst xs] = (boolsOf xs).map fun bs => (0, .bl (bs.any id)) := rfl
@[simp] theorem q_sum {xs : _} : bltV .sum [.lst xs] = (intsOf xs).map fun bs => (0, .int bs.sum) := rfl
@[simp] theorem q_sorted {xs : _} : bltV .sorted [.lst xs] = (intsOf xs).map fun l => (1, .lst ((sortI l).map .int)) := rfl
@[simp] theorem q_tuple1 {xs : _} : bltV .tuple [.lst xs] = some (0, .tup xs) := rfl
@[simp] theorem q_tuple2 {xs : _} : bltV .tuple [.tup xs] = some (0, .tup xs) := rfl
@[simp] theorem q_list1 {xs : _} : bltV .list [.lst xs] = some (1, .lst xs) := rfl
@[simp] theorem q_list2 {xs : _} : bltV .list [.tup xs] = some (1, .lst xs) := rfl
@[simp] theorem q_min {i j : Int} : bltV .min2 [.int i, .int j] = some (0, .int (if j < i then j else i)) := rfl
@[simp] theorem q_max {i j : Int} : bltV .max2 [.int i, .int j] = some (0, .int (if j > i then j else i)) := rfl
@[simp] theorem q_int1 {i : Int} : bltV .int [.int i] = some (0, .int i) := rfl
@[simp] theorem q_abs {i : Int} : bltV .abs [.int i] = some (0, .int (if i < 0 then -i else i)) := rfl
@[simp] theorem q_get1 {xs : _} {i : Int} : getV (.lst xs) (.int i) = (ixN xs.length i).bind fun j => xs[j]? := rfl
@[simp] theorem q_get2 {xs : _} {i : Int} : getV (.tup xs) (.int i) = (ixN xs.length i).bind fun j => xs[j]? := rfl
@[simp] theorem q_gets1 {xs : _} {i : Int} : getS (.lst xs) (.int i) = (ixN xs.length i).bind fun j => xs[j]? := rfl
@[simp] theorem q_gets2 {xs : _} {i : Int} : getS (.tup xs) (.int i) = (ixN xs.length i).bind fun j => xs[j]? := rfl
@[simp] theorem q_get3 {kvs k : _} : getV (.dic kvs) k = (keyOf k).bind fun q => (kvs.find? fun z => decide (z.1 = q)).map (·.2) := by cases k <;> rfl
@[simp] theorem q_key1 {i : _} : keyOf (.int i) = some (.inl i) := rfl
@[simp] theorem q_key2 {i : _} : keyOf (.str i) = some (.inr i) := rfl
@[simp] theorem q_inStr {i j : Str} : inS (.str i) (.str j) = some (!(Builtin.Str.occurrences j i 0 j.length 1).isEmpty) := rfl
@[simp] theorem q_inD {x kvs : _} : inS x (.dic kvs) = (keyOf x).map fun k => kvs.any fun q => decide (q.1 = k) := by cases x <;> rfl
@[simp] theorem q_slc1 {xs lo hi : _} : slcV (.lst xs) lo hi = some (1, .lst (cutL xs lo hi)) := rfl
@[simp] theorem q_slc2 {xs lo hi : _} : slcV (.tup xs) lo hi = some (0, .tup (cutL xs lo hi)) := rfl
@[simp] theorem q_items1 {xs : _} : itemsV (.lst xs) = some xs := rfl
@[simp] theorem q_items2 {xs : _} : itemsV (.tup xs) = some xs := rfl
@[simp] theorem q_items3 {s : _} : itemsV (.str s) = some (signs s) := rfl
@[simp] theorem q_flat1 {i : _} : (Val.int i).flat = true := rfl
@[simp] theorem q_flat2 {i : _} : (Val.str i).flat = true := rfl
@[simp] theorem q_flat3 {i : _} : (Val.bl i).flat = true := rfl
@[simp] theorem q_flat4 : Val.non.flat = true := rfl
@[simp] theorem q_flat5 {i : _} : (Val.tup i).flat = true := rfl
@[simp] theorem q_flat6 {i : _} : (Val.lst i).flat = false := rfl
@[simp] theorem q_flat7 {i : _} : (Val.dic i).flat = false := rfl
@[simp] theorem q_inner1 {i : _} : (Val.lst i).inner = i.all Val.flat := rfl
@[simp] theorem q_inner2 {i : _} : (Val.int i).inner = true := rfl
@[simp] theorem q_inner3 {i : _} : (Val.str i).inner = true := rfl
@[simp] theorem q_inner4 {i : _} : (Val.bl i).inner = true := rfl
@[simp] theorem q_inner5 {i : _} : (Val.tup i).inner = true := rfl
@[simp] theorem q_inner6 : Val.non.inner = true := rfl
@[simp] theorem q_isi1 {v : _} : isiV v .int = match v with | .int _ => true | .bl _ => true | _ => false := by cases v <;> rfl
@[simp] theorem q_isi2 {v : _} : isiV v .bool = match v with | .bl _ => true | _ => false := by cases v <;> rfl
@[simp] theorem q_isi3 {v : _} : isiV v .str = match v with | .str _ => true | _ => false := by cases v <;> rfl
@[simp] theorem q_isi4 {v : _} : isiV v .tuple = match v with | .tup _ => true | _ => false := by cases v <;> rfl
@[simp] theorem q_isi5 {v : _} : isiV v .list = match v with | .lst _ => true | _ => false := by cases v <;> rfl
@[simp] theorem q_isi6 {v : _} : isiV v .dict = match v with | .dic _ => true | _ => false := by cases v <;> rfl
@[simp] theorem q_bools0 : boolsOf [] = some [] := rfl
@[simp] theorem q_bools1 {b r : _} : boolsOf (.bl b :: r) = (boolsOf r).map (b :: ·) := rfl
@[simp] theorem q_ints0 : intsOf [] = some [] := rfl
@[simp] theorem q_ints1 {b r : _} : intsOf (.int b :: r) = (intsOf r).map (b :: ·) := rfl

@[simp] theorem q_pure_cst {a0 : _} {a1 : _} {a2 : _} : (CE.cst a0 a1 a2).pure = true := rfl
@[simp] theorem q_pure_var {a0 : _} {a1 : _} {a2 : _} : (CE.var a0 a1 a2).pure = true := rfl
@[simp] theorem q_pure_brw {a0 : _} {a1 : _} {a2 : _} : (CE.brw a0 a1 a2).pure = true := rfl
@[simp] theorem q_pure_mov {a0 : _} {a1 : _} {a2 : _} : (CE.mov a0 a1 a2).pure = true := rfl
@[simp] theorem q_pure_ref {a0 : _} {a1 : _} {a2 : _} : (CE.ref a0 a1 a2).pure = false := rfl
@[simp] theorem q_pure_glb {a0 : _} {a1 : _} : (CE.glb a0 a1).pure = true := rfl
@[simp] theorem q_pure_dic0 {a0 : _} : (CE.dic0 a0).pure = true := rfl
@[simp] theorem q_pure_popAt {a0 : _} {a1 : _} {a2 : _} {a3 : _} {a4 : _} {a5 : _} {a6 : _} {a7 : _} : (CE.popAt a0 a1 a2 a3 a4 a5 a6 a7).pure = false := rfl
@[simp] theorem q_pure_pth {a0 : _} {a1 : _} {a2 : _} {a3 : _} {a4 : _} : (CE.pth a0 a1 a2 a3 a4).pure = a3.pure := rfl
@[simp] theorem q_pure_tup {a0 : _} {a1 : _} {a2 : _} : (CE.tup a0 a1 a2).pure = a0.pure := rfl
@[simp] theorem q_pure_lst {a0 : _} {a1 : _} : (CE.lst a0 a1).pure = a0.pure := rfl
@[simp] theorem q_pure_bin {a0 : _} {a1 : _} {a2 : _} {a3 : _} : (CE.bin a0 a1 a2 a3).pure = (a1.pure && a2.pure) := rfl
@[simp] theorem q_pure_neg {a0 : _} {a1 : _} : (CE.neg a0 a1).pure = a0.pure := rfl
@[simp] theorem q_pure_nt {a0 : _} {a1 : _} : (CE.nt a0 a1).pure = a0.pure := rfl
@[simp] theorem q_pure_bop {a0 : _} {a1 : _} {a2 : _} : (CE.bop a0 a1 a2).pure = a1.pure := rfl
@[simp] theorem q_pure_cmp {a0 : _} {a1 : _} {a2 : _} {a3 : _} : (CE.cmp a0 a1 a2 a3).pure = (a1.pure && a2.pure) := rfl
@[simp] theorem q_pure_chn {a0 : _} {a1 : _} {a2 : _} {a3 : _} {a4 : _} {a5 : _} : (CE.chn a0 a1 a2 a3 a4 a5).pure = (a2.pure && a3.pure && a4.pure) := rfl
@[simp] theorem q_pure_ifx {a0 : _} {a1 : _} {a2 : _} {a3 : _} : (CE.ifx a0 a1 a2 a3).pure = (a0.pure && a1.pure && a2.pure) := rfl
@[simp] theorem q_pure_isi {a0 : _} {a1 : _} {a2 : _} {a3 : _} {a4 : _} : (CE.isi a0 a1 a2 a3 a4).pure = a0.pure := rfl
@[simp] theorem q_pure_blt {a0 : _} {a1 : _} {a2 : _} {a3 : _} : (CE.blt a0 a1 a2 a3).pure = a2.pure := rfl
@[simp] theorem q_pure_call {a0 : _} {a1 : _} {a2 : _} {a3 : _} {a4 : _} {a5 : _} : (CE.call a0 a1 a2 a3 a4 a5).pure = (a3.pure && a4.pure) := rfl
@[simp] theorem q_pure_idx {a0 : _} {a1 : _} {a2 : _} : (CE.idx a0 a1 a2).pure = (a0.pure && a1.pure) := rfl
@[simp] theorem q_pure_slc {a0 : _} {a1 : _} {a2 : _} {a3 : _} {a4 : _} : (CE.slc a0 a1 a2 a3 a4).pure = (a0.pure && a1.pure && a2.pure) := rfl
@[simp] theorem q_pure_lc {a0 : _} {a1 : _} {a2 : _} {a3 : _} {a4 : _} {a5 : _} {a6 : _} : (CE.lc a0 a1 a2 a3 a4 a5 a6).pure = (a0.pure && a2.pure && a3.pure) := rfl
@[simp] theorem q_pure_lc2 {a0 : _} {a1 : _} {a2 : _} {a3 : _} {a4 : _} {a5 : _} {a6 : _} {a7 : _} {a8 : _} {a9 : _} {a10 : _} : (CE.lc2 a0 a1 a2 a3 a4 a5 a6 a7 a8 a9 a10).pure = (a0.pure && a2.pure && a3.pure && a5.pure && a6.pure) := rfl
@[simp] theorem q_pure_dcm {a0 : _} {a1 : _} {a2 : _} {a3 : _} {a4 : _} {a5 : _} {a6 : _} {a7 : _} : (CE.dcm a0 a1 a2 a3 a4 a5 a6 a7).pure = (a0.pure && a1.pure && a3.pure && a4.pure) := rfl
@[simp] theorem q_pure_lrng {a0 : _} {a1 : _} {a2 : _} {a3 : _} {a4 : _} {a5 : _} : (CE.lrng a0 a1 a2 a3 a4 a5).pure = (a2.pure && a3.pure) := rfl
@[simp] theorem q_pure_lzip {a0 : _} {a1 : _} {a2 : _} {a3 : _} {a4 : _} {a5 : _} {a6 : _} {a7 : _} {a8 : _} {a9 : _} : (CE.lzip a0 a1 a2 a3 a4 a5 a6 a7 a8 a9).pure = (a3.pure && a4.pure) := rfl
@[simp] theorem q_pure_dcp {a0 : _} {a1 : _} {a2 : _} {a3 : _} : (CE.dcp a0 a1 a2 a3).pure = true := rfl
@[simp] theorem q_pure_rev {a0 : _} {a1 : _} {a2 : _} {a3 : _} {a4 : _} {a5 : _} : (CE.rev a0 a1 a2 a3 a4 a5).pure = a0.pure := rfl
@[simp] theorem q_pure_ssc {a0 : _} {a1 : _} {a2 : _} {a3 : _} {a4 : _} {a5 : _} {a6 : _} {a7 : _} {a8 : _} {a9 : _} {a10 : _} {a11 : _} {a12 : _} : (CE.ssc a0 a1 a2 a3 a4 a5 a6 a7 a8 a9 a10 a11 a12).pure = (a1.pure && a3.pure && a4.pure && a6.pure && a7.pure) := rfl
@[simp] theorem q_pures0 : CEs.nil.pure = true := rfl
@[simp] theorem q_pures1 {e es : _} : (CEs.cons e es).pure = (e.pure && es.pure) := rfl
@[simp] theorem q_purek0 : CKs.nil.pure = true := rfl
@[simp] theorem q_purek1 {x e p es : _} : (CKs.cons x e p es).pure = (e.pure && es.pure) := rfl
@[simp] theorem q_pureo0 : CO.no.pure = true := rfl
@[simp] theorem q_pureo1 {e : _} : (CO.is e).pure = e.pure := rfl
@[simp] theorem q_purei0 {e : _} : (CI.seq e).pure = e.pure := rfl
@[simp] theorem q_purei1 {np a p : _} : (CI.rng1 np a p).pure = a.pure := rfl
@[simp] theorem q_purei2 {np a b p : _} : (CI.rng2 np a b p).pure = (a.pure && b.pure) := rfl
@[simp] theorem q_purei3 {np a p : _} : (CI.enum np a p).pure = a.pure := rfl
@[simp] theorem q_purei4 {np a b p : _} : (CI.zip np a b p).pure = (a.pure && b.pure) := rfl
def callV (D : Den) (f : Nat) (ar : List Src) (dv : List Val) (es : CEs) (ks : CKs) (S : Slots) : Option (Res × Slots) :=
  (eva D es S).bind fun q => (evk D ks q.2).bind fun t => (arrange q.1 t.1 (dv.map .val) ar).bind fun as => (argRs t.2 as).bind fun rs => gd (decide (refsOf as).Nodup) ((D.fn f rs).bind fun w => (backS (wipeS t.2 (refsOf as)) as w.2).map fun S' => ((.own w.1.1, w.1.2), S'))
theorem ev_call {D : Den} {c x np es ks p S : _} {sh : CallSh} (h : D.calls[c]? = some sh) : ev D (.call c x np es ks p) S = callV D sh.f sh.ar sh.dv es ks S := by
  show D.calls[c]?.bind _ = _
  rw [h]
  rfl
end BV
/-! Facts of plain data: places, equality, repr. -/
namespace BV
open PySem PySem.Spec PyProof.Rows L2
@[simp] theorem q_fit {d : Nat} {r : R} : fitsIn d r = (r.2.flat || d == 0 || r.1 == d) := rfl
theorem ix_in {n : Nat} {i : Int} (h0 : 0 ≤ i) (h1 : i < n) : ixN n i = some i.toNat := by
  unfold ixN
  rw [if_pos h0, if_pos h1]
theorem ix_back {n : Nat} {i : Int} (h0 : i < 0) (h1 : -(n : Int) ≤ i) : ixN n i = some (i + n).toNat := by
  unfold ixN
  rw [if_neg (by omega), if_pos h1]
@[simp] theorem ix_lit0 {n : Nat} (h : 0 < n) : ixN n 0 = some 0 := ix_in (by decide) (by omega)
@[simp] theorem ix_lit2 {n : Nat} (h : 2 < n) : ixN n 2 = some 2 := ix_in (by decide) (by omega)
@[simp] theorem ix_lit3 {n : Nat} (h : 3 < n) : ixN n 3 = some 3 := ix_in (by decide) (by omega)
@[simp] theorem ix_lit4 {n : Nat} (h : 4 < n) : ixN n 4 = some 4 := ix_in (by decide) (by omega)
@[simp] theorem ix_lit5 {n : Nat} (h : 5 < n) : ixN n 5 = some 5 := ix_in (by decide) (by omega)
@[simp] theorem ix_lit6 {n : Nat} (h : 6 < n) : ixN n 6 = some 6 := ix_in (by decide) (by omega)
@[simp] theorem ix_lit7 {n : Nat} (h : 7 < n) : ixN n 7 = some 7 := ix_in (by decide) (by omega)
@[simp] theorem ix_lit8 {n : Nat} (h : 8 < n) : ixN n 8 = some 8 := ix_in (by decide) (by omega)
@[simp] theorem ix_lit9 {n : Nat} (h : 9 < n) : ixN n 9 = some 9 := ix_in (by decide) (by omega)
@[simp] theorem ix_lit1 {n : Nat} (h : 1 < n) : ixN n 1 = some 1 := ix_in (by decide) (by omega)
/-! ### equality -/
theorem eqv_ints : ∀ (l m : List Int), PyData.eqvAll (toDs (l.map .int)) (toDs (m.map .int)) = decide (l = m)
  | [], [] => rfl
  | [], _ :: _ => rfl
  | _ :: _, [] => rfl
  | a :: l, b :: m => by
    show (a == b && PyData.eqvAll (toDs (l.map .int)) (toDs (m.map .int))) = _
    rw [eqv_ints l m]
    by_cases h : a = b <;> simp [h]
theorem shaped_ints (l : List Int) : SeqAt.shaped (Val.lst (l.map .int)).toD = true := by
  have a : ∀ l : List Int, PyData.canLayAll0 (toDs (l.map .int)) = true ∧ PyData.depthAll (toDs (l.map .int)) = 0 := by
    intro l
    induction l with
    | nil => exact ⟨by simp [toDs, PyData.canLayAll0], by simp [toDs, PyData.depthAll]⟩
    | cons i l ih => exact ⟨by simp [toDs, Val.toD, PyData.canLayAll0, PyData.canLay0, ih.1], by simp [toDs, Val.toD, PyData.depthAll, PyData.depth, ih.2]⟩
  obtain ⟨h1, h2⟩ := a l
  unfold SeqAt.shaped
  simp [Val.toD, PyData.canLay0, PyData.depth, h1, h2]
theorem eqS_lst (xs ys : List Val) : eqS (.lst xs) (.lst ys) = bif xs.length != ys.length then some false else eqV (.lst xs) (.lst ys) := by
  show ((bif xs.length != ys.length then some false else none : Option Bool).orElse fun _ => eqV (.lst xs) (.lst ys)) = _
  cases xs.length != ys.length <;> rfl
theorem eq_ints (l m : List Int) : eqS (.lst (l.map .int)) (.lst (m.map .int)) = some (decide (l = m)) := by
  rw [eqS_lst]
  cases h : ((l.map Val.int).length != (m.map Val.int).length) with
  | true =>
    have : l ≠ m := fun e => by rw [e] at h; simp at h
    simp [this]
  | false =>
    show eqV _ _ = _
    unfold eqV
    rw [shaped_ints, shaped_ints]
    show some (PyData.eqvAll (toDs (l.map .int)) (toDs (m.map .int))) = _
    rw [eqv_ints]
@[simp] theorem eq_nil (xs : List Val) : eqS (.lst xs) (.lst []) = some xs.isEmpty := by
  cases xs with
  | nil => exact eq_ints [] []
  | cons x xs => rfl
/-! ### repr -/
mutual
def rsz : Val → Nat
  | .non => 4
  | .bl _ => 5
  | .int i => i.natAbs.log2 + 3
  | .str x => (reprText x).length
  | .tup xs => rszs xs + 4
  | .lst xs => rszs xs + 4
  | .dic kvs => (PyData.shown (Val.dic kvs).toD).length
def rszs : List Val → Nat
  | [] => 0
  | x :: xs => rsz x + 2 + rszs xs
end
theorem textFrom_le : ∀ (ts : List Str) (k : Nat) (acc : Str), (textFrom k acc ts).length ≤ acc.length + (ts.map fun t => t.length + 2).sum
  | [], k, acc => by show acc.length ≤ acc.length + 0; omega
  | t :: r, k, acc => by
    have ih := textFrom_le r (k + 1) (acc ++ (if k > 0 then ", " else "" : String) ++ t)
    have e : (acc ++ (if k > 0 then ", " else "" : String) ++ t).length = acc.length + (if k > 0 then 2 else 0) + t.length := by
      rw [strLen_append, strLen_append]
      split <;> rfl
    rw [e] at ih
    show (textFrom (k + 1) (acc ++ (if k > 0 then ", " else "" : String) ++ t) r).length ≤ _
    rw [List.map_cons, List.sum_cons]
    have : (if k > 0 then 2 else 0) ≤ 2 := by split <;> omega
    omega
theorem join_le : ∀ (ts : List Str), (Str.join ", " ts).length ≤ (ts.map fun t => t.length + 2).sum
  | [] => by show (0 : Nat) ≤ _; omega
  | [x] => by show x.length ≤ _; simp
  | x :: y :: r => by
    have ih := join_le (y :: r)
    have e : (Str.join ", " (x :: y :: r)) = x ++ ", " ++ Str.join ", " (y :: r) := rfl
    rw [e, strLen_append, strLen_append, List.map_cons, List.sum_cons]
    have e2 : ((", " : String) : Str).length = 2 := rfl
    rw [e2]
    omega
mutual
theorem shown_le : ∀ v : Val, (PyData.shown v.toD).length ≤ rsz v
  | .non => by show (Str.ofString "None").length ≤ 4; decide
  | .bl b => by cases b <;> decide
  | .int i => by
    have := int_text_length_le (a := i) (k := i.natAbs.log2 + 1) (by omega) (by omega)
    show (Str.ofString (toString i)).length ≤ i.natAbs.log2 + 3
    have e : (Str.ofString (toString i)).length = (toString i).length := PySem.ofString_length _
    omega
  | .str x => Nat.le_of_eq rfl
  | .tup xs => by
    have h := showns_le xs
    have j := join_le (PyData.shownAll (toDs xs))
    show (tupleText (PyData.shownAll (toDs xs))).length ≤ rszs xs + 4
    unfold tupleText
    rw [strLen_append, strLen_append]
    have e1 : (("(" : String) : Str).length = 1 := rfl
    have e2 : ((if (PyData.shownAll (toDs xs)).length == 1 then ",)" else ")" : String) : Str).length ≤ 2 := by split <;> decide
    rw [e1]
    omega
  | .lst xs => by
    have h := showns_le xs
    have j := textFrom_le (PyData.shownAll (toDs xs)) 0 "["
    show (listText (PyData.shownAll (toDs xs))).length ≤ rszs xs + 4
    unfold listText
    rw [strLen_append]
    have e1 : (("[" : String) : Str).length = 1 := rfl
    have e2 : (("]" : String) : Str).length = 1 := rfl
    rw [e1] at j
    rw [e2]
    omega
  | .dic kvs => Nat.le_of_eq rfl
theorem showns_le : ∀ vs : List Val, ((PyData.shownAll (toDs vs)).map fun t => t.length + 2).sum ≤ rszs vs
  | [] => by show (0 : Nat) ≤ _; omega
  | v :: vs => by
    have a := shown_le v
    have b := showns_le vs
    show (((PyData.shown v.toD :: PyData.shownAll (toDs vs))).map fun t => t.length + 2).sum ≤ rsz v + 2 + rszs vs
    rw [List.map_cons, List.sum_cons]
    omega
end
/-- what repr asks of a value -/
structure Shows (v : Val) : Prop where
  a : PyData.showable v.toD = true
  b : rsz v ≤ 1000000
  c : v.toD.depth ≤ 64
  d : (!v.toD.hasDict || v.plainD) = true
theorem reprs {v : Val} (h : Shows v) : reprV v = some (PyData.shown v.toD) := by
  unfold reprV
  have e : fitsLine (PyData.shown v.toD).length = true := decide_eq_true (Nat.le_trans (shown_le v) (Nat.le_trans h.b (by decide)))
  rw [h.a, e, decide_eq_true h.c, h.d]
  rfl
end BV
/-! Runs of blocks, loops, comprehensions. -/
namespace BV
open PySem PySem.Spec PyProof.Rows L2
@[simp] theorem flatRep_len {k : Int} {xs : List Val} : (flatRep k xs).length = k.toNat * xs.length := by
  unfold flatRep
  induction k.toNat with
  | zero => simp
  | succ n ih => rw [List.replicate_succ, List.flatten_cons, List.length_append, ih, Nat.succ_mul, Nat.add_comm]
theorem flatRep_mem {k : Int} {xs : List Val} {x : Val} (h : x ∈ flatRep k xs) : x ∈ xs := by
  unfold flatRep at h
  obtain ⟨l, hl, hx⟩ := List.mem_flatten.mp h
  rw [List.eq_of_mem_replicate hl] at hx
  exact hx
def Runs (D : Den) (ss : CSs) (S : Slots) (Q : Out → Prop) : Prop := ∃ o, exs D ss S = some o ∧ Q o
section
variable {D : Den} {S S' : Slots} {Q : Out → Prop} {s : CS} {ss : CSs}
theorem Runs.nil (h : Q (.nx S)) : Runs D .nil S Q := ⟨_, rfl, h⟩
theorem Runs.step (h : ex D s S = some (.nx S')) (k : Runs D ss S' Q) : Runs D (.cons s ss) S Q := by
  obtain ⟨o, e, q⟩ := k
  refine ⟨o, ?_, q⟩
  show (match ex D s S with
    | some (.nx S1) => exs D ss S1
    | o => o) = _
  rw [h]
  exact e
theorem Runs.ends {o : Out} (h : ex D s S = some o) (hn : ∀ S', o ≠ .nx S') (q : Q o) : Runs D (.cons s ss) S Q := by
  refine ⟨o, ?_, q⟩
  show (match ex D s S with
    | some (.nx S1) => exs D ss S1
    | o => o) = _
  rw [h]
  cases o with
  | nx S1 => exact absurd rfl (hn S1)
  | _ => rfl
theorem Runs.ret {r : R} (h : ex D s S = some (.rt r S')) (q : Q (.rt r S')) : Runs D (.cons s ss) S Q := Runs.ends h (fun _ e => by cases e) q
theorem Runs.if1 {c : CE} {a b : CSs} {p : Pos} (h : tst (ev D c S) = some (true, S')) (k : Runs D a S' fun o => match o with
    | .nx S2 => Runs D ss S2 Q
    | o => Q o) : Runs D (.cons (.ife c a b p) ss) S Q := by
  obtain ⟨o, e, q⟩ := k
  have hx : ex D (.ife c a b p) S = some o := by
    show (tst (ev D c S)).bind _ = _
    rw [h]
    exact e
  cases o with
  | nx S2 => exact Runs.step hx q
  | _ => exact Runs.ends hx (fun _ e => by cases e) q
theorem Runs.if0 {c : CE} {a b : CSs} {p : Pos} (h : tst (ev D c S) = some (false, S')) (k : Runs D b S' fun o => match o with
    | .nx S2 => Runs D ss S2 Q
    | o => Q o) : Runs D (.cons (.ife c a b p) ss) S Q := by
  obtain ⟨o, e, q⟩ := k
  have hx : ex D (.ife c a b p) S = some o := by
    show (tst (ev D c S)).bind _ = _
    rw [h]
    exact e
  cases o with
  | nx S2 => exact Runs.step hx q
  | _ => exact Runs.ends hx (fun _ e => by cases e) q
theorem forL_inv {f : Val → Slots → Option Out} (I : Nat → Slots → Prop) : ∀ (vs : List Val) (k : Nat) (S : Slots), (∀ i v S, vs[i]? = some v → I (k + i) S → ∃ S', (f v S = some (.nx S') ∨ f v S = some (.ct S')) ∧ I (k + i + 1) S') → I k S → ∃ S', forL f vs S = some (.nx S') ∧ I (k + vs.length) S'
  | [], k, S, _, h0 => ⟨S, rfl, h0⟩
  | v :: vs, k, S, h, h0 => by
    obtain ⟨S1, e1, i1⟩ := h 0 v S rfl h0
    obtain ⟨S2, e2, i2⟩ := forL_inv I vs (k + 1) S1 (fun i u S hu hi => by
      have := h (i + 1) u S (by simpa using hu) (by rw [show k + (i + 1) = k + 1 + i by omega]; exact hi)
      rw [show k + (i + 1) + 1 = k + 1 + i + 1 by omega] at this
      exact this) i1
    refine ⟨S2, ?_, by rw [List.length_cons, show k + (vs.length + 1) = k + 1 + vs.length by omega]; exact i2⟩
    rcases e1 with e1 | e1
    · show (match f v S with
        | some (.nx S1) => forL f vs S1
        | some (.ct S1) => forL f vs S1
        | some (.bk S1) => some (.nx S1)
        | some (.rt r S1) => some (.rt r S1)
        | none => none) = _
      rw [e1]; exact e2
    · show (match f v S with
        | some (.nx S1) => forL f vs S1
        | some (.ct S1) => forL f vs S1
        | some (.bk S1) => some (.nx S1)
        | some (.rt r S1) => some (.rt r S1)
        | none => none) = _
      rw [e1]; exact e2
theorem Runs.loop {t : CT} {it : CI} {body : CSs} {p : Pos} {vs : List Val} {S1 : Slots} (I : Nat → Slots → Prop) (h : evI D it S = some (vs, S1)) (h0 : I 0 S1)
    (turn : ∀ i v S, vs[i]? = some v → I i S → ∃ S2, t.set v S = some S2 ∧ Runs D body S2 fun o => match o with
      | .nx S' => I (i + 1) S'
      | .ct S' => I (i + 1) S'
      | _ => False) (k : ∀ S', I vs.length S' → Runs D ss S' Q) : Runs D (.cons (.forr t it body p) ss) S Q := by
  obtain ⟨S2, e2, i2⟩ := forL_inv (f := fun v S1 => (t.set v S1).bind fun S2 => exs D body S2) I vs 0 S1 (fun i v S hv hi => by
    rw [Nat.zero_add] at hi ⊢
    obtain ⟨S2, a, o, b, c⟩ := turn i v S hv hi
    cases o with
    | nx S' => exact ⟨S', .inl (by show (t.set v S).bind _ = _; rw [a]; exact b), c⟩
    | ct S' => exact ⟨S', .inr (by show (t.set v S).bind _ = _; rw [a]; exact b), c⟩
    | bk S' => exact c.elim
    | rt r S' => exact c.elim) h0
  rw [Nat.zero_add] at i2
  refine Runs.step (S' := S2) ?_ (k S2 i2)
  show (evI D it S).bind _ = _
  rw [h]
  exact e2
/-- the block of a def -/
theorem Runs.fn {P : Pg} {n f : Nat} {d : Df} {rs : List R} {Q : R → Slots → Prop} (hd : P.defs[f]? = some d) (hl : rs.length = d.ps.length) (k : Runs (P.den n) d.body (d.start rs) fun o => match o with
    | .rt r S => Q r (backP d.B 0 d.ps.length S)
    | .nx S => Q (0, .non) (backP d.B 0 d.ps.length S)
    | _ => False) : ∃ r fin, (P.den (n + 1)).fn f rs = some (r, fin) ∧ Q r fin := by
  obtain ⟨o, e, q⟩ := k
  have h : (P.den (n + 1)).fn f rs = d.outc (some o) := by
    show (match P.defs[f]? with
      | some d => gd (rs.length == d.ps.length) (d.outc (exs (P.den n) d.body (d.start rs)))
      | none => none) = _
    rw [hd]
    show gd (rs.length == d.ps.length) (d.outc (exs (P.den n) d.body (d.start rs))) = _
    rw [e, hl, beq_self_eq_true]
    rfl
  cases o with
  | nx S => exact ⟨_, _, h, q⟩
  | rt r S => exact ⟨_, _, h, q⟩
  | bk S => exact q.elim
  | ct S => exact q.elim
/-- a comprehension, each turn with its things -/
theorem compL_inv {f : Val → Slots → Option (List Val × Slots)} (I : Nat → List Val → Slots → Prop) : ∀ (vs : List Val) (k : Nat) (done : List Val) (S : Slots), (∀ i v done S, vs[i]? = some v → I (k + i) done S → ∃ o S', f v S = some (o, S') ∧ I (k + i + 1) (done ++ o) S') → I k done S →
    ∃ ws S', compL f vs S = some (ws, S') ∧ I (k + vs.length) (done ++ ws) S'
  | [], k, done, S, _, h0 => ⟨[], S, rfl, by rw [List.append_nil]; exact h0⟩
  | v :: vs, k, done, S, h, h0 => by
    obtain ⟨o, S1, e1, i1⟩ := h 0 v done S rfl h0
    obtain ⟨ws, S2, e2, i2⟩ := compL_inv I vs (k + 1) (done ++ o) S1 (fun i u d S hu hi => by
      have := h (i + 1) u d S (by simpa using hu) (by rw [show k + (i + 1) = k + 1 + i by omega]; exact hi)
      rw [show k + (i + 1) + 1 = k + 1 + i + 1 by omega] at this
      exact this) i1
    refine ⟨o ++ ws, S2, ?_, by rw [List.length_cons, show k + (vs.length + 1) = k + 1 + vs.length by omega, ← List.append_assoc]; exact i2⟩
    rw [q_compL1, e1]
    show (compL f vs S1).map _ = _
    rw [e2]
    rfl
theorem lc_inv {elt : CE} {t : CT} {it : CI} {ifs : CEs} {scp : Scope} {own : List (Str × Nat)} {p : Pos} {vs : List Val} {S1 : Slots} (I : Nat → List Val → Slots → Prop) (h : evI D it S = some (vs, S1)) (h0 : I 0 [] (wipeS S1 (own.map (·.2))))
    (turn : ∀ i v done S, vs[i]? = some v → I i done S → ∃ o S', lcTurn D elt t ifs (own.map (·.2)) v S = some (o, S') ∧ I (i + 1) (done ++ o) S') (hz : ∀ ws S', I vs.length ws S' → ws.length ≤ 100000) :
    ∃ ws S', ev D (.lc elt t it ifs scp own p) S = some ((.own 1, .lst ws), S') ∧ I vs.length ws S' := by
  obtain ⟨ws, S2, e2, i2⟩ := compL_inv (f := lcTurn D elt t ifs (own.map (·.2))) I vs 0 [] _ (fun i v d S hv hi => by
    rw [Nat.zero_add] at hi ⊢
    exact turn i v d S hv hi) h0
  rw [Nat.zero_add, List.nil_append] at i2
  refine ⟨ws, S2, ?_, i2⟩
  show (evI D it S).bind _ = _
  rw [h]
  show (compL (lcTurn D elt t ifs (own.map (·.2))) vs (wipeS S1 (own.map (·.2)))).bind _ = _
  rw [e2]
  show gd (fitsLine ws.length) _ = _
  rw [q_fits (hz ws S2 i2)]
  rfl
end
/-! ### slices -/
theorem cut_pre {xs : List Val} {k : Int} (h : 0 ≤ k) : cutL xs none (some k) = xs.take k.toNat := by
  obtain ⟨n, rfl⟩ : ∃ n : Nat, k = n := ⟨k.toNat, by omega⟩
  unfold cutL
  rw [HT.sIx_nat, HT.sIx_none, Int.toNat_natCast, List.drop_zero, Nat.sub_zero, List.take_eq_take_iff]
  omega
theorem cut_suf {xs : List Val} {k : Int} (h : 0 ≤ k) : cutL xs (some k) none = xs.drop k.toNat := by
  obtain ⟨n, rfl⟩ : ∃ n : Nat, k = n := ⟨k.toNat, by omega⟩
  unfold cutL
  rw [HT.sIx_nat, HT.sIx_none, Int.toNat_natCast]
  by_cases hn : n ≤ xs.length
  · rw [Nat.min_eq_left hn, List.take_of_length_le (by rw [List.length_drop]; omega)]
  · rw [Nat.min_eq_right (by omega), List.drop_eq_nil_of_le (by omega), List.drop_eq_nil_of_le (by omega)]
    simp
theorem ints_get {n : Nat} {lo : Int} {i : Nat} {v : Val} (h : (intsFrom lo n)[i]? = some v) : v = .int (lo + i) ∧ i < n := by
  have hl : i < n := by
    have := lt_of_get h
    rw [intsFrom_len] at this
    exact this
  rw [intsFrom_get hl] at h
  exact ⟨(Option.some.inj h).symm, hl⟩
/-! ### what repr asks, of sequences -/
structure Sm (x : Val) : Prop where
  a : PyData.showable x.toD = true
  b : rsz x ≤ 300
  c : x.toD.depth ≤ 4
theorem sm_all : ∀ (xs : List Val), (∀ x ∈ xs, Sm x) → PyData.showableAll (toDs xs) = true ∧ rszs xs ≤ 302 * xs.length ∧ PyData.depthAll (toDs xs) ≤ 4
  | [], _ => ⟨by simp [toDs, PyData.showableAll], by simp [rszs], by simp [toDs, PyData.depthAll]⟩
  | x :: xs, h => by
    obtain ⟨h1, h2, h3⟩ := sm_all xs fun y hy => h y (List.mem_cons_of_mem _ hy)
    have hx := h x (List.mem_cons_self ..)
    refine ⟨by simp [toDs, PyData.showableAll, hx.a, h1], ?_, ?_⟩
    · have := hx.b
      simp only [rszs, List.length_cons]
      omega
    · have := hx.c
      simp only [toDs, PyData.depthAll]
      omega
theorem noDict_all : ∀ (xs : List Val), (∀ x ∈ xs, x.toD.hasDict = false) → PyData.hasDictAll (toDs xs) = false
  | [], _ => by simp [toDs, PyData.hasDictAll]
  | x :: xs, h => by simp [toDs, PyData.hasDictAll, h x (List.mem_cons_self ..), noDict_all xs fun y hy => h y (List.mem_cons_of_mem _ hy)]
theorem plain_all : ∀ (xs : List Val), (∀ x ∈ xs, x.plainD = true) → plainDs xs = true
  | [], _ => rfl
  | x :: xs, h => by simp [plainDs, h x (List.mem_cons_self ..), plain_all xs fun y hy => h y (List.mem_cons_of_mem _ hy)]
theorem shows_tup {xs : List Val} (h : ∀ x ∈ xs, Sm x) (hl : xs.length ≤ 3000) (hd : (∀ x ∈ xs, x.toD.hasDict = false) ∨ ∀ x ∈ xs, x.plainD = true) : Shows (.tup xs) := by
  obtain ⟨h1, h2, h3⟩ := sm_all xs h
  refine ⟨by simpa [Val.toD, PyData.showable] using h1, by simp only [rsz]; omega, by simp only [Val.toD, PyData.depth]; omega, ?_⟩
  rcases hd with hd | hd
  · simp [Val.toD, PyData.hasDict, noDict_all xs hd]
  · simp [Val.plainD, plain_all xs hd]
theorem shows_lst {xs : List Val} (h : ∀ x ∈ xs, Sm x) (hl : xs.length ≤ 3000) (hd : ∀ x ∈ xs, x.toD.hasDict = false) : Shows (.lst xs) := by
  obtain ⟨h1, h2, h3⟩ := sm_all xs h
  exact ⟨by simpa [Val.toD, PyData.showable] using h1, by simp only [rsz]; omega, by simp only [Val.toD, PyData.depth]; omega, by simp [Val.toD, PyData.hasDict, noDict_all xs hd]⟩
theorem log_le {i : Int} (h0 : -(10 ^ 40) ≤ i) (h1 : i ≤ 10 ^ 40) : i.natAbs.log2 < 200 := by
  by_cases h : i.natAbs = 0
  · rw [h]; decide
  · rw [Nat.log2_lt h]
    have : (10 : Nat) ^ 40 < 2 ^ 200 := by decide
    omega
theorem sm_int {i : Int} (h0 : -(10 ^ 40) ≤ i) (h1 : i ≤ 10 ^ 40) : Sm (.int i) := by
  have := log_le h0 h1
  exact ⟨by simp only [Val.toD, PyData.showable, decide_eq_true_eq]; omega, by simp only [rsz]; omega, by simp [Val.toD, PyData.depth]⟩
theorem shows_int {i : Int} (h0 : -(10 ^ 40) ≤ i) (h1 : i ≤ 10 ^ 40) : Shows (.int i) := by
  have := sm_int h0 h1
  exact ⟨this.a, Nat.le_trans this.b (by decide), by simp [Val.toD, PyData.depth], by simp [Val.toD, PyData.hasDict]⟩
end BV
/-! Expressions, forwards. -/
namespace BV
open PySem PySem.Spec PyProof.Rows L2
def EvW (D : Den) (e : CE) (S : Slots) (Q : Res → Slots → Prop) : Prop := ∃ r S', ev D e S = some (r, S') ∧ Q r S'
section
variable {D : Den} {S S' : Slots}
theorem EvW.of {e : CE} {r : Res} {Q : Res → Slots → Prop} (h : ev D e S = some (r, S')) (q : Q r S') : EvW D e S Q := ⟨r, S', h, q⟩
theorem EvW.blt1 {f : BF} {np p : Pos} {e : CE} {Q : Res → Slots → Prop} (h : EvW D e S fun r S' => ∃ w, bltV f [r.2] = some w ∧ Q (.own w.1, w.2) S') : EvW D (.blt f np (.cons e .nil) p) S Q := by
  obtain ⟨r, S', e1, w, e2, q⟩ := h
  refine ⟨_, S', ?_, q⟩
  obtain ⟨m, v⟩ := r
  have : evo D (.cons e .nil) S = some ([v], S') := by
    show (ev D e S).bind _ = _
    rw [e1]
    cases m <;> rfl
  show (evo D (.cons e .nil) S).bind _ = _
  rw [this]
  show (bltV f [v]).map _ = _
  rw [e2]
  rfl
theorem EvW.lc {elt : CE} {t : CT} {it : CI} {ifs : CEs} {scp : Scope} {own : List (Str × Nat)} {p : Pos} {vs : List Val} {S1 : Slots} {Q : Res → Slots → Prop} (I : Nat → List Val → Slots → Prop) (h : evI D it S = some (vs, S1)) (h0 : I 0 [] (wipeS S1 (own.map (·.2))))
    (turn : ∀ i v done S, vs[i]? = some v → I i done S → ∃ o S', lcTurn D elt t ifs (own.map (·.2)) v S = some (o, S') ∧ I (i + 1) (done ++ o) S') (hz : ∀ ws S', I vs.length ws S' → ws.length ≤ 100000)
    (k : ∀ ws S', I vs.length ws S' → Q (.own 1, .lst ws) S') : EvW D (.lc elt t it ifs scp own p) S Q := by
  obtain ⟨ws, S2, e, i⟩ := lc_inv (scp := scp) (p := p) I h h0 turn hz
  exact ⟨_, _, e, k ws S2 i⟩
theorem Runs.asgW {i : Nat} {x : Str} {p p' : Pos} {e : CE} {ss : CSs} {Q : Out → Prop} (h : EvW D e S fun r S' => ∃ d, r.1 = .own d ∧ Runs D ss (S'.set i (some (d, r.2))) Q) : Runs D (.cons (.asg (.name i x p) e p') ss) S Q := by
  obtain ⟨⟨m, v⟩, S', e1, d, e2, q⟩ := h
  have e2 : m = .own d := e2
  subst e2
  refine Runs.step ?_ q
  rw [q_ex_asgn, e1]
  rfl
theorem Runs.retW {p : Pos} {e : CE} {ss : CSs} {Q : Out → Prop} (h : EvW D e S fun r S' => ∃ d, r.1 = .own d ∧ Q (.rt (d, r.2) S')) : Runs D (.cons (.ret e p) ss) S Q := by
  obtain ⟨⟨m, v⟩, S', e1, d, e2, q⟩ := h
  have e2 : m = .own d := e2
  subst e2
  refine Runs.ret ?_ q
  show (ev D e S).bind _ = _
  rw [e1]
  rfl
end
end BV
/-! Plain facts for the laws: comprehensions without effects, rising ints, sizes of texts, equality, tables. -/
namespace BV
open PySem PySem.Spec PyProof.Rows L2
theorem compL_map {f : Val → Slots → Option (List Val × Slots)} {g : Val → Val} {S : Slots} : ∀ {xs : List Val}, (∀ v ∈ xs, f v S = some ([g v], S)) → compL f xs S = some (xs.map g, S)
  | [], _ => rfl
  | v :: xs, h => by
    rw [q_compL1, h v (List.mem_cons_self ..)]
    show (compL f xs S).map _ = _
    rw [compL_map fun u hu => h u (List.mem_cons_of_mem _ hu)]
    rfl
theorem compL_filter {f : Val → Slots → Option (List Val × Slots)} {p : Val → Bool} {S : Slots} : ∀ {xs : List Val}, (∀ v ∈ xs, f v S = some (bif p v then [v] else [], S)) → compL f xs S = some (xs.filter p, S)
  | [], _ => rfl
  | v :: xs, h => by
    rw [q_compL1, h v (List.mem_cons_self ..)]
    show (compL f xs S).map _ = _
    rw [compL_filter fun u hu => h u (List.mem_cons_of_mem _ hu)]
    cases e : p v <;> simp [List.filter_cons, e]
theorem compL_flat {f : Val → Slots → Option (List Val × Slots)} {g : Val → List Val} {S : Slots} : ∀ {xs : List Val}, (∀ v ∈ xs, f v S = some (g v, S)) → compL f xs S = some (xs.flatMap g, S)
  | [], _ => rfl
  | v :: xs, h => by
    rw [q_compL1, h v (List.mem_cons_self ..)]
    show (compL f xs S).map _ = _
    rw [compL_flat fun u hu => h u (List.mem_cons_of_mem _ hu)]
    rfl
/-- over things made of plain ones -/
theorem compL_of {α : Type} {f : Val → Slots → Option (List Val × Slots)} {k : α → Val} {g : α → List Val} {S : Slots} {l : List α} (h : ∀ a ∈ l, f (k a) S = some (g a, S)) : compL f (l.map k) S = some (l.flatMap g, S) := by
  induction l with
  | nil => rfl
  | cons a l ih =>
    rw [List.map_cons, q_compL1, h a (List.mem_cons_self ..)]
    show (compL f (l.map k) S).map _ = _
    rw [ih fun b hb => h b (List.mem_cons_of_mem _ hb)]
    rfl
theorem compL_of1 {α : Type} {f : Val → Slots → Option (List Val × Slots)} {k g : α → Val} {S : Slots} {l : List α} (h : ∀ a ∈ l, f (k a) S = some ([g a], S)) : compL f (l.map k) S = some (l.map g, S) := by
  rw [compL_of (g := fun a => [g a]) h]
  congr 2
  induction l with
  | nil => rfl
  | cons a l ih => simp [ih fun b hb => h b (List.mem_cons_of_mem _ hb)]
theorem compL_ofF {α : Type} {f : Val → Slots → Option (List Val × Slots)} {k : α → Val} {p : α → Bool} {S : Slots} {l : List α} (h : ∀ a ∈ l, f (k a) S = some (bif p a then [k a] else [], S)) : compL f (l.map k) S = some ((l.filter p).map k, S) := by
  induction l with
  | nil => rfl
  | cons a l ih =>
    rw [List.map_cons, q_compL1, h a (List.mem_cons_self ..)]
    show (compL f (l.map k) S).map _ = _
    rw [ih fun b hb => h b (List.mem_cons_of_mem _ hb)]
    cases e : p a <;> simp [List.filter_cons, e]
theorem q_forL1 {f : Val → Slots → Option Out} {v : Val} {vs : List Val} {S : Slots} : forL f (v :: vs) S = match f v S with
    | some (.nx S1) => forL f vs S1
    | some (.ct S1) => forL f vs S1
    | some (.bk S1) => some (.nx S1)
    | some (.rt r S1) => some (.rt r S1)
    | none => none := rfl
theorem bools_map {g : Val → Bool} : ∀ (xs : List Val), boolsOf (xs.map fun x => .bl (g x)) = some (xs.map g)
  | [] => rfl
  | x :: xs => by
    show (boolsOf (xs.map fun x => .bl (g x))).map _ = _
    rw [bools_map xs]
    rfl
theorem bools_of {α : Type} {g : α → Bool} : ∀ (xs : List α), boolsOf (xs.map fun x => .bl (g x)) = some (xs.map g)
  | [] => rfl
  | x :: xs => by
    show (boolsOf (xs.map fun x => .bl (g x))).map _ = _
    rw [bools_of xs]
    rfl
/-! ### rising ints -/
theorem rng_ok {i j : Int} (h : -100000 ≤ i ∧ i ≤ 100000 ∧ -100000 ≤ j ∧ j ≤ 100000) : rngOk i j = true := by
  have a : inRange i = true := decide_eq_true (by omega)
  have b : inRange j = true := decide_eq_true (by omega)
  have c : decide ((j - i).toNat ≤ 2 ^ 24) = true := decide_eq_true (by omega)
  unfold rngOk
  rw [a, b, c]
  rfl
def iota (lo : Int) : Nat → List Int
  | 0 => []
  | n + 1 => lo :: iota (lo + 1) n
theorem ints_iota : ∀ (n : Nat) (lo : Int), intsFrom lo n = (iota lo n).map .int
  | 0, _ => rfl
  | n + 1, lo => congrArg (Val.int lo :: ·) (ints_iota n (lo + 1))
@[simp] theorem iota_len : ∀ (n : Nat) (lo : Int), (iota lo n).length = n
  | 0, _ => rfl
  | n + 1, lo => congrArg Nat.succ (iota_len n (lo + 1))
theorem mem_iota {x : Int} : ∀ {n : Nat} {lo : Int}, x ∈ iota lo n ↔ lo ≤ x ∧ x < lo + n
  | 0, lo => ⟨fun h => (by cases h), fun h => (by omega)⟩
  | n + 1, lo => by
    rw [iota, List.mem_cons, mem_iota]
    omega
theorem iota_add (lo d : Int) : ∀ (n : Nat) (a : Int), (iota a n).map (fun x => lo + d + x) = iota (lo + d + a) n
  | 0, _ => rfl
  | n + 1, a => by
    rw [iota, List.map_cons, iota_add lo d n (a + 1), iota]
    congr 2
    omega
theorem iota_map (lo : Int) : ∀ (n : Nat) (a : Int), (iota a n).map (fun x => lo + x) = iota (lo + a) n
  | 0, _ => rfl
  | n + 1, a => by
    rw [iota, List.map_cons, iota_map lo n (a + 1), iota]
    congr 2
    omega
theorem iota_split (m : Nat) : ∀ (n : Nat) (a : Int), iota a (n + m) = iota a n ++ iota (a + n) m
  | 0, a => by simp [iota]
  | n + 1, a => by
    rw [show n + 1 + m = n + m + 1 by omega, iota, iota_split m n (a + 1), iota, List.cons_append]
    congr 3
    omega
/-! ### how long texts get -/
structure Sz (v : Val) (m d : Nat) : Prop where
  a : PyData.showable v.toD = true
  b : rsz v ≤ m
  c : v.toD.depth ≤ d
  e : v.toD.hasDict = false
structure Szs (v : List Val) (m d : Nat) : Prop where
  a : PyData.showableAll (toDs v) = true
  b : rszs v ≤ m
  c : PyData.depthAll (toDs v) ≤ d
  e : PyData.hasDictAll (toDs v) = false
theorem Sz.shows {v : Val} {m d : Nat} (h : Sz v m d) (hm : m ≤ 1000000) (hd : d ≤ 64) : Shows v := ⟨h.a, Nat.le_trans h.b hm, Nat.le_trans h.c hd, by rw [h.e]; rfl⟩
theorem Sz.mono {v : Val} {m d m' d' : Nat} (h : Sz v m d) (hm : m ≤ m') (hd : d ≤ d') : Sz v m' d' := ⟨h.a, Nat.le_trans h.b hm, Nat.le_trans h.c hd, h.e⟩
theorem sz_non {d : Nat} : Sz .non 4 d := ⟨by simp [Val.toD, PyData.showable], by simp [rsz], by simp [Val.toD, PyData.depth], by simp [Val.toD, PyData.hasDict]⟩
theorem sz_bl {b : Bool} {d : Nat} : Sz (.bl b) 5 d := ⟨by simp [Val.toD, PyData.showable], by simp [rsz], by simp [Val.toD, PyData.depth], by simp [Val.toD, PyData.hasDict]⟩
theorem sz_int {i : Int} {d : Nat} (h : i.natAbs < 2 ^ 40) : Sz (.int i) 43 d := by
  have : i.natAbs.log2 < 40 := by
    by_cases e : i.natAbs = 0
    · rw [e]; decide
    · exact (Nat.log2_lt e).mpr h
  exact ⟨by simp only [Val.toD, PyData.showable, decide_eq_true_eq]; omega, by simp only [rsz]; omega, by simp [Val.toD, PyData.depth], by simp [Val.toD, PyData.hasDict]⟩
theorem sz_str {s : Str} {m d : Nat} (h : (reprText s).length ≤ m) : Sz (.str s) m d := ⟨by simp [Val.toD, PyData.showable], by simpa [rsz] using h, by simp [Val.toD, PyData.depth], by simp [Val.toD, PyData.hasDict]⟩
theorem szs_nil {d : Nat} : Szs [] 0 d := ⟨by simp [toDs, PyData.showableAll], by simp [rszs], by simp [toDs, PyData.depthAll], by simp [toDs, PyData.hasDictAll]⟩
theorem szs_cons {x : Val} {xs : List Val} {m k d : Nat} (h : Sz x m d) (r : Szs xs k d) : Szs (x :: xs) (m + 2 + k) d := by
  have := h.b
  have := h.c
  have := r.b
  have := r.c
  exact ⟨by simp [toDs, PyData.showableAll, h.a, r.a], by simp only [rszs]; omega, by simp only [toDs, PyData.depthAll]; omega, by simp [toDs, PyData.hasDictAll, h.e, r.e]⟩
theorem szs_all {m d : Nat} : ∀ {xs : List Val}, (∀ x ∈ xs, Sz x m d) → Szs xs ((m + 2) * xs.length) d
  | [], _ => szs_nil
  | x :: xs, h => by
    have := szs_cons (h x (List.mem_cons_self ..)) (szs_all fun y hy => h y (List.mem_cons_of_mem _ hy))
    rw [List.length_cons, Nat.mul_succ, Nat.add_comm]
    exact this
theorem szs_app {xs ys : List Val} {m k d : Nat} (h : Szs xs m d) (r : Szs ys k d) : Szs (xs ++ ys) (m + k) d := by
  have z : ∀ (xs : List Val), toDs (xs ++ ys) = toDs xs ++ toDs ys ∧ rszs (xs ++ ys) = rszs xs + rszs ys := by
    intro xs
    induction xs with
    | nil => exact ⟨rfl, by simp [rszs]⟩
    | cons x xs ih => exact ⟨by simp [toDs, ih.1], by simp [rszs, ih.2]; omega⟩
  have z2 : ∀ (a b : List PyData), PyData.showableAll (a ++ b) = (PyData.showableAll a && PyData.showableAll b) ∧ PyData.depthAll (a ++ b) = max (PyData.depthAll a) (PyData.depthAll b) ∧ PyData.hasDictAll (a ++ b) = (PyData.hasDictAll a || PyData.hasDictAll b) := by
    intro a b
    induction a with
    | nil => simp [PyData.showableAll, PyData.depthAll, PyData.hasDictAll]
    | cons x a ih => simp [PyData.showableAll, PyData.depthAll, PyData.hasDictAll, ih.1, ih.2.1, ih.2.2, Bool.and_assoc, Bool.or_assoc, Nat.max_assoc]
  obtain ⟨e1, e2⟩ := z xs
  obtain ⟨f1, f2, f3⟩ := z2 (toDs xs) (toDs ys)
  have := h.b
  have := r.b
  have := h.c
  have := r.c
  exact ⟨by rw [e1, f1, h.a, r.a]; rfl, by omega, by rw [e1, f2]; omega, by rw [e1, f3, h.e, r.e]; rfl⟩
theorem Szs.tup {xs : List Val} {m d : Nat} (h : Szs xs m d) : Sz (.tup xs) (m + 4) (d + 1) := by
  have := h.b
  have := h.c
  exact ⟨by simpa [Val.toD, PyData.showable] using h.a, by simp only [rsz]; omega, by simp only [Val.toD, PyData.depth]; omega, by simpa [Val.toD, PyData.hasDict] using h.e⟩
theorem Szs.lst {xs : List Val} {m d : Nat} (h : Szs xs m d) : Sz (.lst xs) (m + 4) (d + 1) := by
  have := h.b
  have := h.c
  exact ⟨by simpa [Val.toD, PyData.showable] using h.a, by simp only [rsz]; omega, by simp only [Val.toD, PyData.depth]; omega, by simpa [Val.toD, PyData.hasDict] using h.e⟩
/-! ### equality where there are no truths -/
mutual
def Val.nb : Val → Bool
  | .non => true
  | .bl _ => false
  | .int _ => true
  | .str s => PyData.strOk s
  | .tup xs => nbs xs
  | .lst xs => nbs xs
  | .dic _ => false
def nbs : List Val → Bool
  | [] => true
  | x :: xs => x.nb && nbs xs
end
theorem nbs_all : ∀ {xs : List Val}, (∀ x ∈ xs, x.nb = true) → nbs xs = true
  | [], _ => rfl
  | x :: xs, h => by
    unfold nbs
    rw [h x (List.mem_cons_self ..), nbs_all fun y hy => h y (List.mem_cons_of_mem _ hy)]
    rfl
theorem nbs_ints (l : List Int) : nbs (l.map .int) = true := nbs_all fun x hx => by
  obtain ⟨i, _, rfl⟩ := List.mem_map.mp hx
  rfl
mutual
theorem nb_lay : ∀ v : Val, v.nb = true → PyData.canLay0 v.toD = true
  | .non, _ => by simp [Val.toD, PyData.canLay0]
  | .bl _, h => by cases h
  | .int _, _ => by simp [Val.toD, PyData.canLay0]
  | .str s, h => by
    have h : PyData.strOk s = true := h
    simp [Val.toD, PyData.canLay0, h]
  | .tup xs, h => by
    have := nbs_lay xs h
    simp [Val.toD, PyData.canLay0, this]
  | .lst xs, h => by
    have := nbs_lay xs h
    simp [Val.toD, PyData.canLay0, this]
  | .dic _, h => by cases h
theorem nbs_lay : ∀ vs : List Val, nbs vs = true → PyData.canLayAll0 (toDs vs) = true
  | [], _ => by simp [toDs, PyData.canLayAll0]
  | v :: vs, h => by
    have h : (v.nb && nbs vs) = true := h
    rw [Bool.and_eq_true] at h
    simp [toDs, PyData.canLayAll0, nb_lay v h.1, nbs_lay vs h.2]
end
mutual
theorem eqv_nb : ∀ a b : Val, a.nb = true → b.nb = true → (PyData.eqv a.toD b.toD = true ↔ a = b)
  | .non, b, _, hb => by cases b <;> simp_all [Val.toD, PyData.eqv, Val.nb]
  | .bl _, _, h, _ => by cases h
  | .int i, b, _, hb => by cases b <;> simp_all [Val.toD, PyData.eqv, Val.nb]
  | .str i, b, _, hb => by cases b <;> simp_all [Val.toD, PyData.eqv, Val.nb]
  | .tup xs, .tup ys, ha, hb => by
    have := eqv_nbs xs ys ha hb
    simp [Val.toD, PyData.eqv, this]
  | .lst xs, .lst ys, ha, hb => by
    have := eqv_nbs xs ys ha hb
    simp [Val.toD, PyData.eqv, this]
  | .tup xs, .lst ys, ha, hb => by simp [Val.toD, PyData.eqv]
  | .lst xs, .tup ys, ha, hb => by simp [Val.toD, PyData.eqv]
  | .tup xs, .non, ha, hb => by simp [Val.toD, PyData.eqv]
  | .tup xs, .int _, ha, hb => by simp [Val.toD, PyData.eqv]
  | .tup xs, .str _, ha, hb => by simp [Val.toD, PyData.eqv]
  | .tup xs, .bl _, ha, hb => by cases hb
  | .tup xs, .dic _, ha, hb => by cases hb
  | .lst xs, .non, ha, hb => by simp [Val.toD, PyData.eqv]
  | .lst xs, .int _, ha, hb => by simp [Val.toD, PyData.eqv]
  | .lst xs, .str _, ha, hb => by simp [Val.toD, PyData.eqv]
  | .lst xs, .bl _, ha, hb => by cases hb
  | .lst xs, .dic _, ha, hb => by cases hb
  | .dic _, _, h, _ => by cases h
theorem eqv_nbs : ∀ a b : List Val, nbs a = true → nbs b = true → (PyData.eqvAll (toDs a) (toDs b) = true ↔ a = b)
  | [], [], _, _ => by simp [toDs, PyData.eqvAll]
  | [], _ :: _, _, _ => by simp [toDs, PyData.eqvAll]
  | _ :: _, [], _, _ => by simp [toDs, PyData.eqvAll]
  | x :: xs, y :: ys, ha, hb => by
    have ha : (x.nb && nbs xs) = true := ha
    have hb : (y.nb && nbs ys) = true := hb
    rw [Bool.and_eq_true] at ha hb
    have h1 := eqv_nb x y ha.1 hb.1
    have h2 := eqv_nbs xs ys ha.2 hb.2
    simp [toDs, PyData.eqvAll, h1, h2]
end
theorem eqV_nb {a b : Val} (ha : a.nb = true) (hb : b.nb = true) (da : a.toD.depth ≤ 64) (db : b.toD.depth ≤ 64) {t : Bool} (h : t = true ↔ a = b) : eqV a b = some t := by
  unfold eqV SeqAt.shaped
  rw [nb_lay a ha, nb_lay b hb, decide_eq_true da, decide_eq_true db]
  show some _ = some t
  congr 1
  have := eqv_nb a b ha hb
  cases q : PyData.eqv a.toD b.toD <;> cases t <;> simp_all
theorem eqS_nb {a b : Val} (ha : a.nb = true) (hb : b.nb = true) (da : a.toD.depth ≤ 64) (db : b.toD.depth ≤ 64) {t : Bool} (h : t = true ↔ a = b) : eqS a b = some t := by
  have e := eqV_nb ha hb da db h
  unfold eqS
  have z : scalar a b = none ∨ scalar a b = some t := by
    cases a <;> cases b <;> first | exact .inl rfl | (right; simp only [scalar]; cases t <;> simp_all; done) | (cases ha; done) | skip
    · rename_i xs ys
      show (bif xs.length != ys.length then some false else none) = none ∨ (bif xs.length != ys.length then some false else none) = some t
      cases q : xs.length != ys.length with
      | false => exact .inl rfl
      | true =>
        right
        cases t with
        | false => rfl
        | true =>
          have := h.mp rfl
          cases this
          simp at q
  rcases z with z | z
  · rw [z]; exact e
  · rw [z]; rfl
theorem eqS_same {a : Val} (ha : a.nb = true) (da : a.toD.depth ≤ 64) : eqS a a = some true := eqS_nb ha ha da da (by simp)
theorem depth_flatI : ∀ (l : List Int), PyData.depthAll (toDs (l.map .int)) = 0
  | [] => by simp [toDs, PyData.depthAll]
  | i :: l => by simp [toDs, Val.toD, PyData.depthAll, PyData.depth, depth_flatI l]
theorem eq_tints (l m : List Int) : eqS (.tup (l.map .int)) (.tup (m.map .int)) = some (decide (l = m)) := by
  refine eqS_nb (a := .tup (l.map .int)) (b := .tup (m.map .int)) (nbs_ints l) (nbs_ints m) (by simp [Val.toD, PyData.depth, depth_flatI]) (by simp [Val.toD, PyData.depth, depth_flatI]) ?_
  rw [decide_eq_true_eq]
  constructor
  · rintro rfl; rfl
  · intro h
    have h : l.map Val.int = m.map Val.int := by injection h
    exact List.map_inj_right (fun a b e => by injection e) |>.mp h
/-! ### in -/
theorem in_ints (i : Int) (l : List Int) : inS (.int i) (.lst (l.map .int)) = some (decide (i ∈ l)) ∧ inS (.int i) (.tup (l.map .int)) = some (decide (i ∈ l)) := by
  have a : ∀ l : List Int, flatSs (l.map .int) = some (l.map V.int) := by
    intro l
    induction l with
    | nil => rfl
    | cons j l ih =>
      show (flatS (.int j)).bind (fun u => (flatSs (l.map .int)).map (u :: ·)) = _
      rw [ih]; rfl
  have b : ∀ l : List Int, inV (.int i) (l.map V.int) = decide (i ∈ l) := by
    intro l
    induction l with
    | nil => rfl
    | cons j l ih =>
      have ih : (l.map V.int).any (fun y => L2.eqV y (.int i)) = decide (i ∈ l) := ih
      show (L2.eqV (.int j) (.int i) || (l.map V.int).any fun y => L2.eqV y (.int i)) = _
      rw [ih]
      have : L2.eqV (.int j) (.int i) = decide (j = i) := by simp [L2.eqV]; rfl
      rw [this]
      by_cases e : j = i <;> by_cases m : i ∈ l <;> simp [e, m]
      exact fun z => absurd z.symm e
  constructor
  · show (flatS (.int i)).bind (fun u => (flatSs (l.map .int)).map fun us => inV u us) = _
    rw [a]
    show some (inV (.int i) (l.map V.int)) = _
    rw [b]
  · show (flatS (.int i)).bind (fun u => (flatSs (l.map .int)).map fun us => inV u us) = _
    rw [a]
    show some (inV (.int i) (l.map V.int)) = _
    rw [b]
@[simp] theorem in_ints1 (i : Int) (l : List Int) : inS (.int i) (.lst (l.map .int)) = some (decide (i ∈ l)) := (in_ints i l).1
@[simp] theorem in_ints2 (i : Int) (l : List Int) : inS (.int i) (.tup (l.map .int)) = some (decide (i ∈ l)) := (in_ints i l).2
theorem any_put (kvs : List (Key × Val)) (k k' : Key) (v : Val) : ((putD kvs k v).any fun q => decide (q.1 = k')) = (decide (k = k') || kvs.any fun q => decide (q.1 = k')) := by
  have hm : ∀ kvs : List (Key × Val), ((kvs.map fun q => bif decide (q.1 = k) then (q.1, v) else q).any fun q => decide (q.1 = k')) = kvs.any fun q => decide (q.1 = k') := by
    intro kvs
    induction kvs with
    | nil => rfl
    | cons q r ih =>
      rw [List.map_cons, List.any_cons, List.any_cons, ih]
      cases decide (q.1 = k) <;> rfl
  unfold putD
  cases h : kvs.any fun q => decide (q.1 = k) with
  | false =>
    show ((kvs ++ [(k, v)]).any _) = _
    rw [List.any_append, List.any_cons, List.any_nil, Bool.or_false, Bool.or_comm]
  | true =>
    show ((kvs.map _).any _) = _
    rw [hm]
    by_cases e : k = k'
    · subst e; rw [h]; simp
    · simp [e]
theorem put_ints (v : Val) : ∀ (l : List Int) (acc : List (Key × Val)), ∃ kvs, putAll acc (l.map fun i => .tup [.int i, v]) = some kvs ∧ ∀ i : Int, (kvs.any fun q => decide (q.1 = .inl i)) = (decide (i ∈ l) || acc.any fun q => decide (q.1 = .inl i))
  | [], acc => ⟨acc, rfl, fun i => by simp⟩
  | j :: l, acc => by
    obtain ⟨kvs, e, h⟩ := put_ints v l (putD acc (.inl j) v)
    refine ⟨kvs, e, fun i => ?_⟩
    rw [h, any_put]
    by_cases c : i = j
    · subst c; simp
    · have c2 : ¬ (Sum.inl j : Key) = .inl i := fun z => c (by injection z with z; exact z.symm)
      simp [c, c2]
theorem in_dic (i : Int) (kvs : List (Key × Val)) : inS (.int i) (.dic kvs) = some (kvs.any fun q => decide (q.1 = .inl i)) := rfl
end BV
/-! Loops that may end by a return; rows of pairs. -/
namespace BV
open PySem PySem.Spec PyProof.Rows L2
section
variable {D : Den} {S : Slots} {ss : CSs} {Q : Out → Prop}
theorem forL_invR {f : Val → Slots → Option Out} (I : Nat → Slots → Prop) (E : R → Slots → Prop) : ∀ (vs : List Val) (k : Nat) (S : Slots), (∀ i v S, vs[i]? = some v → I (k + i) S → ∃ o, f v S = some o ∧ match o with
      | .nx S' => I (k + i + 1) S'
      | .ct S' => I (k + i + 1) S'
      | .rt r S' => E r S'
      | .bk _ => False) → I k S → ∃ o, forL f vs S = some o ∧ match o with
      | .nx S' => I (k + vs.length) S'
      | .rt r S' => E r S'
      | _ => False
  | [], k, S, _, h0 => ⟨.nx S, rfl, h0⟩
  | v :: vs, k, S, h, h0 => by
    obtain ⟨o, e1, i1⟩ := h 0 v S rfl h0
    have go : ∀ S1, I (k + 1) S1 → ∃ o, forL f vs S1 = some o ∧ match o with
        | .nx S' => I (k + (v :: vs).length) S'
        | .rt r S' => E r S'
        | _ => False := fun S1 h1 => by
      obtain ⟨o, e2, i2⟩ := forL_invR I E vs (k + 1) S1 (fun i u S hu hi => by
        have := h (i + 1) u S (by simpa using hu) (by rw [show k + (i + 1) = k + 1 + i by omega]; exact hi)
        rw [show k + (i + 1) + 1 = k + 1 + i + 1 by omega] at this
        exact this) h1
      rw [List.length_cons, show k + (vs.length + 1) = k + 1 + vs.length by omega]
      exact ⟨o, e2, i2⟩
    rw [q_forL1, e1]
    cases o with
    | nx S1 => exact go S1 i1
    | ct S1 => exact go S1 i1
    | bk S1 => exact i1.elim
    | rt r S1 => exact ⟨_, rfl, i1⟩
theorem Runs.loopR {t : CT} {it : CI} {body : CSs} {p : Pos} {vs : List Val} {S1 : Slots} (I : Nat → Slots → Prop) (E : R → Slots → Prop) (h : evI D it S = some (vs, S1)) (h0 : I 0 S1)
    (turn : ∀ i v S, vs[i]? = some v → I i S → ∃ S2, t.set v S = some S2 ∧ Runs D body S2 fun o => match o with
      | .nx S' => I (i + 1) S'
      | .ct S' => I (i + 1) S'
      | .rt r S' => E r S'
      | .bk _ => False) (hE : ∀ r S', E r S' → Q (.rt r S')) (k : ∀ S', I vs.length S' → Runs D ss S' Q) : Runs D (.cons (.forr t it body p) ss) S Q := by
  obtain ⟨o, e2, i2⟩ := forL_invR (f := fun v S1 => (t.set v S1).bind fun S2 => exs D body S2) I E vs 0 S1 (fun i v S hv hi => by
    rw [Nat.zero_add] at hi ⊢
    obtain ⟨S2, a, o, b, c⟩ := turn i v S hv hi
    exact ⟨o, by show (t.set v S).bind _ = _; rw [a]; exact b, c⟩) h0
  rw [Nat.zero_add] at i2
  have hx : ex D (.forr t it body p) S = some o := by
    show (evI D it S).bind _ = _
    rw [h]
    exact e2
  cases o with
  | nx S' => exact Runs.step hx (k S' i2)
  | rt r S' => exact Runs.ret hx (hE r S' i2)
  | bk S' => exact i2.elim
  | ct S' => exact i2.elim
end
theorem numbered_map {α : Type} (f : α → Val) : ∀ (l : List α) (k : Nat), numbered k (l.map f) = (l.zipIdx k).map fun q => .tup [.int (q.2 : Int), f q.1]
  | [], _ => rfl
  | a :: l, k => by
    rw [List.map_cons, List.zipIdx_cons, List.map_cons, ← numbered_map f l (k + 1)]
    rfl
theorem pairUp_ints : ∀ (l m : List Int), pairUp (l.map .int) (m.map .int) = (l.zip m).map fun q => .tup [.int q.1, .int q.2]
  | [], _ => rfl
  | _ :: _, [] => rfl
  | a :: l, b :: m => by
    show Val.tup [.int a, .int b] :: pairUp (l.map .int) (m.map .int) = _
    rw [pairUp_ints l m]; rfl
@[simp] theorem str_inj {a b : String} : (Str.ofString a = Str.ofString b) ↔ a = b := by
  constructor
  · intro h
    rw [Str.ofString_eq_toList, Str.ofString_eq_toList] at h
    have h1 : (a.toList.map Char.toNat).toArray = (b.toList.map Char.toNat).toArray := Str.mk.inj h
    have h2 := congrArg Array.toList h1
    rw [List.toList_toArray, List.toList_toArray] at h2
    have h3 : a.toList = b.toList := (List.map_inj_right fun x y e => Char.toNat_inj.mp e).mp h2
    exact String.toList_inj.mp h3
  · rintro rfl; rfl
theorem eqV_str (a b : Str) : L2.eqV (.str a) (.str b) = decide (a = b) := by simp [L2.eqV]; rfl
@[simp] theorem in_str2 {s a b : Str} : inS (.str s) (.tup [.str a, .str b]) = some (decide (a = s) || decide (b = s)) := by
  show some (L2.eqV (.str a) (.str s) || (L2.eqV (.str b) (.str s) || false)) = _
  rw [eqV_str, eqV_str, Bool.or_false]
@[simp] theorem in_str3 {s a b c : Str} : inS (.str s) (.tup [.str a, .str b, .str c]) = some (decide (a = s) || (decide (b = s) || decide (c = s))) := by
  show some (L2.eqV (.str a) (.str s) || (L2.eqV (.str b) (.str s) || (L2.eqV (.str c) (.str s) || false))) = _
  rw [eqV_str, eqV_str, eqV_str, Bool.or_false]
example : decide ((Str.ofString "add") = (Str.ofString "copy")) = false := by simp
end BV
namespace K66
open PySem PySem.Spec PyProof.Rows L2 BV
abbrev prog : Program := PySem.Challenge.pw_haulring_k66_whole_combs_by_rests
def top (i : Nat) : Stmt := prog.main.body.getD i (.Pass ⟨0, 0, 0, 0⟩)
/-- is_whole: 0 thing, 1 least, 2 most -/
def d_is_whole_b : CSs := (.cons (.ret (.bop .And (.cons (.isi (.brw 0 "thing" ⟨20, 22, 20, 27⟩) .int ⟨20, 11, 20, 21⟩ ⟨20, 29, 20, 32⟩ ⟨20, 11, 20, 33⟩) (.cons (.nt (.isi (.brw 0 "thing" ⟨20, 54, 20, 59⟩) .bool ⟨20, 43, 20, 53⟩ ⟨20, 61, 20, 65⟩ ⟨20, 43, 20, 66⟩) ⟨20, 39, 20, 66⟩) (.cons (.chn .LtE .LtE (.brw 1 "least" ⟨20, 73, 20, 78⟩) (.brw 0 "thing" ⟨20, 82, 20, 87⟩) (.brw 2 "most" ⟨20, 91, 20, 95⟩) ⟨20, 73, 20, 95⟩) .nil))) ⟨20, 11, 20, 96⟩) ⟨20, 4, 20, 96⟩)
  .nil)
def d_is_whole : Df := ⟨"is_whole", ["thing", "least", "most"], ["thing", "least", "most"], [], defScope (top 9), d_is_whole_b⟩
/-- is_byte: 0 thing -/
def d_is_byte_b : CSs := (.cons (.ret (.call 0 "is_whole" ⟨22, 11, 22, 19⟩ (.cons (.var 0 "thing" ⟨22, 20, 22, 25⟩) .nil) (.cons "most" (.glb "GREATEST_BYTE" ⟨22, 32, 22, 45⟩) ⟨22, 27, 22, 45⟩ .nil) ⟨22, 11, 22, 46⟩) ⟨22, 4, 22, 46⟩)
  .nil)
def d_is_byte : Df := ⟨"is_byte", ["thing"], ["thing"], [], defScope (top 10), d_is_byte_b⟩
/-- is_flag: 0 thing -/
def d_is_flag_b : CSs := (.cons (.ret (.call 0 "is_whole" ⟨24, 11, 24, 19⟩ (.cons (.var 0 "thing" ⟨24, 20, 24, 25⟩) .nil) (.cons "most" (.bin .Sub (.glb "FLAGS" ⟨24, 32, 24, 37⟩) (.cst (.int 1) 0 ⟨24, 40, 24, 41⟩) ⟨24, 32, 24, 41⟩) ⟨24, 27, 24, 41⟩ .nil) ⟨24, 11, 24, 42⟩) ⟨24, 4, 24, 42⟩)
  .nil)
def d_is_flag : Df := ⟨"is_flag", ["thing"], ["thing"], [], defScope (top 11), d_is_flag_b⟩
def d_area_wrong_l0 : CSs := (.cons (.ife (.nt (.call 1 "is_whole" ⟨33, 15, 33, 23⟩ (.cons (.idx (.brw 0 "thing" ⟨33, 24, 33, 29⟩) (.brw 2 "number" ⟨33, 30, 33, 36⟩) ⟨33, 24, 33, 37⟩) .nil) (.cons "least" (.var 3 "least" ⟨33, 45, 33, 50⟩) ⟨33, 39, 33, 50⟩ (.cons "most" (.var 4 "most" ⟨33, 57, 33, 61⟩) ⟨33, 52, 33, 61⟩ .nil)) ⟨33, 15, 33, 62⟩) ⟨33, 11, 33, 62⟩) (.cons (.ret (.lst (.cons (.var 2 "number" ⟨34, 20, 34, 26⟩) .nil) ⟨34, 19, 34, 27⟩) ⟨34, 12, 34, 27⟩)
    .nil) .nil ⟨33, 8, 34, 27⟩)
    .nil)
/-- area_wrong: 0 thing, 1 bounds, 2 number, 3 least, 4 most, 5 start, 6 count, 7 rows, 8 pitch, 9 is_beyond -/
def d_area_wrong_b : CSs := (.cons (.ife (.bop .Or (.cons (.nt (.isi (.brw 0 "thing" ⟨29, 22, 29, 27⟩) .tuple ⟨29, 11, 29, 21⟩ ⟨29, 29, 29, 34⟩ ⟨29, 11, 29, 35⟩) ⟨29, 7, 29, 35⟩) (.cons (.cmp .NotEq (.blt .len ⟨29, 39, 29, 42⟩ (.cons (.brw 0 "thing" ⟨29, 43, 29, 48⟩) .nil) ⟨29, 39, 29, 49⟩) (.cst (.int 4) 0 ⟨29, 53, 29, 54⟩) ⟨29, 39, 29, 54⟩) .nil)) ⟨29, 7, 29, 54⟩) (.cons (.ret (.lst (.cons (.cst .none 0 ⟨30, 16, 30, 20⟩) .nil) ⟨30, 15, 30, 21⟩) ⟨30, 8, 30, 21⟩)
    .nil) .nil ⟨29, 4, 30, 21⟩)
  (.cons (.asg (.name 1 "bounds" ⟨31, 4, 31, 10⟩) (.tup (.cons (.tup (.cons (.cst (.int 0) 0 ⟨31, 15, 31, 16⟩) (.cons (.glb "GREATEST_CELL" ⟨31, 18, 31, 31⟩) .nil)) 0 ⟨31, 14, 31, 32⟩) (.cons (.tup (.cons (.cst (.int 1) 0 ⟨31, 35, 31, 36⟩) (.cons (.glb "MOST_AREA" ⟨31, 38, 31, 47⟩) .nil)) 0 ⟨31, 34, 31, 48⟩) (.cons (.tup (.cons (.cst (.int 1) 0 ⟨31, 51, 31, 52⟩) (.cons (.glb "MOST_AREA" ⟨31, 54, 31, 63⟩) .nil)) 0 ⟨31, 50, 31, 64⟩) (.cons (.tup (.cons (.cst (.int 1) 0 ⟨31, 67, 31, 68⟩) (.cons (.glb "GREATEST_CELL" ⟨31, 70, 31, 83⟩) .nil)) 0 ⟨31, 66, 31, 84⟩) .nil)))) 0 ⟨31, 13, 31, 85⟩) ⟨31, 4, 31, 85⟩)
  (.cons (.forr (.tup (.cons (.name 2 "number" ⟨32, 8, 32, 14⟩) (.cons (.tup (.cons (.name 3 "least" ⟨32, 17, 32, 22⟩) (.cons (.name 4 "most" ⟨32, 24, 32, 28⟩) .nil)) 0 ⟨32, 16, 32, 29⟩) .nil)) 0 ⟨32, 8, 32, 29⟩) (.enum ⟨32, 33, 32, 42⟩ (.var 1 "bounds" ⟨32, 43, 32, 49⟩) ⟨32, 33, 32, 50⟩) d_area_wrong_l0 ⟨32, 4, 34, 27⟩)
  (.cons (.asg (.tup (.cons (.name 5 "start" ⟨35, 4, 35, 9⟩) (.cons (.name 6 "count" ⟨35, 11, 35, 16⟩) (.cons (.name 7 "rows" ⟨35, 18, 35, 22⟩) (.cons (.name 8 "pitch" ⟨35, 24, 35, 29⟩) .nil)))) 0 ⟨35, 4, 35, 29⟩) (.var 0 "thing" ⟨35, 32, 35, 37⟩) ⟨35, 4, 35, 37⟩)
  (.cons (.ife (.bop .Or (.cons (.cmp .Lt (.brw 8 "pitch" ⟨36, 7, 36, 12⟩) (.brw 6 "count" ⟨36, 15, 36, 20⟩) ⟨36, 7, 36, 20⟩) (.cons (.bop .And (.cons (.cmp .Eq (.brw 7 "rows" ⟨36, 25, 36, 29⟩) (.cst (.int 1) 0 ⟨36, 33, 36, 34⟩) ⟨36, 25, 36, 34⟩) (.cons (.cmp .NotEq (.brw 8 "pitch" ⟨36, 39, 36, 44⟩) (.brw 6 "count" ⟨36, 48, 36, 53⟩) ⟨36, 39, 36, 53⟩) .nil)) ⟨36, 25, 36, 53⟩) .nil)) ⟨36, 7, 36, 54⟩) (.cons (.ret (.lst (.cons (.cst (.int 3) 0 ⟨37, 16, 37, 17⟩) .nil) ⟨37, 15, 37, 18⟩) ⟨37, 8, 37, 18⟩)
    .nil) .nil ⟨36, 4, 37, 18⟩)
  (.cons (.asg (.name 9 "is_beyond" ⟨38, 4, 38, 13⟩) (.cmp .Gt (.bin .Add (.bin .Add (.brw 5 "start" ⟨38, 16, 38, 21⟩) (.bin .Mult (.bin .Sub (.brw 7 "rows" ⟨38, 25, 38, 29⟩) (.cst (.int 1) 0 ⟨38, 32, 38, 33⟩) ⟨38, 25, 38, 33⟩) (.brw 8 "pitch" ⟨38, 37, 38, 42⟩) ⟨38, 24, 38, 42⟩) ⟨38, 16, 38, 42⟩) (.brw 6 "count" ⟨38, 45, 38, 50⟩) ⟨38, 16, 38, 50⟩) (.glb "MOST_CELLS" ⟨38, 53, 38, 63⟩) ⟨38, 16, 38, 63⟩) ⟨38, 4, 38, 63⟩)
  (.cons (.ret (.ifx (.bop .Or (.cons (.brw 9 "is_beyond" ⟨39, 20, 39, 29⟩) (.cons (.cmp .Gt (.bin .Mult (.brw 7 "rows" ⟨39, 33, 39, 37⟩) (.brw 6 "count" ⟨39, 40, 39, 45⟩) ⟨39, 33, 39, 45⟩) (.glb "MOST_AREA" ⟨39, 48, 39, 57⟩) ⟨39, 33, 39, 57⟩) .nil)) ⟨39, 20, 39, 57⟩) (.lst (.cons (.glb "END" ⟨39, 12, 39, 15⟩) .nil) ⟨39, 11, 39, 16⟩) (.lst .nil ⟨39, 63, 39, 65⟩) ⟨39, 11, 39, 65⟩) ⟨39, 4, 39, 65⟩)
  .nil)))))))
def d_area_wrong : Df := ⟨"area_wrong", ["thing"], ["thing", "bounds", "number", "least", "most", "start", "count", "rows", "pitch", "is_beyond"], [], defScope (top 15), d_area_wrong_b⟩
def d_need_area_l0 : CSs := (.cons (.nvr (PySem.Stmt.Raise (exc := (some (PySem.Expr.Call (func := (PySem.Expr.Name "BadArea" ⟨42, 14, 42, 21⟩)) (args := [(PySem.Expr.Name "place" ⟨42, 22, 42, 27⟩)]) (keywords := []) (pos := ⟨42, 14, 42, 28⟩)))) (cause := none) (pos := ⟨42, 8, 42, 28⟩)))
    .nil)
/-- need_area: 0 thing, 1 place -/
def d_need_area_b : CSs := (.cons (.forr (.name 1 "place" ⟨41, 8, 41, 13⟩) (.seq (.call 2 "area_wrong" ⟨41, 17, 41, 27⟩ (.cons (.var 0 "thing" ⟨41, 28, 41, 33⟩) .nil) .nil ⟨41, 17, 41, 34⟩)) d_need_area_l0 ⟨41, 4, 42, 28⟩)
  .nil)
def d_need_area : Df := ⟨"need_area", ["thing"], ["thing", "place"], [], defScope (top 16), d_need_area_b⟩
def d_own_cells_c0 : CE := (.lc2 (.bin .Add (.bin .Add (.brw 1 "start" ⟨45, 18, 45, 23⟩) (.bin .Mult (.brw 5 "row" ⟨45, 26, 45, 29⟩) (.brw 4 "pitch" ⟨45, 32, 45, 37⟩) ⟨45, 26, 45, 37⟩) ⟨45, 18, 45, 37⟩) (.brw 6 "spot" ⟨45, 40, 45, 44⟩) ⟨45, 18, 45, 44⟩) (.name 5 "row" ⟨45, 49, 45, 52⟩) (.rng1 ⟨45, 56, 45, 61⟩ (.brw 3 "rows" ⟨45, 62, 45, 66⟩) ⟨45, 56, 45, 67⟩) .nil (.name 6 "spot" ⟨45, 72, 45, 76⟩) (.rng1 ⟨45, 80, 45, 85⟩ (.brw 2 "count" ⟨45, 86, 45, 91⟩) ⟨45, 80, 45, 92⟩) .nil { kind := PySem.ScopeKind.function, names := [ (PySem.Str.ofString ".0", PySem.NameKind.local), (PySem.Str.ofString "row", PySem.NameKind.local), (PySem.Str.ofString "spot", PySem.NameKind.local), (PySem.Str.ofString "range", PySem.NameKind.globalImplicit), (PySem.Str.ofString "count", PySem.NameKind.free), (PySem.Str.ofString "pitch", PySem.NameKind.free), (PySem.Str.ofString "start", PySem.NameKind.free)], isGenerator := false, isCoroutine := false, more := [] : PySem.Scope } [("row", 5), ("spot", 6)] [6] ⟨45, 17, 45, 93⟩)
@[simp] theorem d_own_cells_c0_p : d_own_cells_c0.pure = true := rfl
@[simp] theorem d_own_cells_c0_a {D : Den} {es : CEs} {S : Slots} : eva D (.cons d_own_cells_c0 es) S = (ev D d_own_cells_c0 S).bind fun q => match q.1.1 with | .own _ => (eva D es q.2).map fun t => (.val q.1.2 :: t.1, t.2) | .bor => none := rfl
/-- own_cells: 0 area, 1 start, 2 count, 3 rows, 4 pitch, 5 row, 6 spot -/
def d_own_cells_b : CSs := (.cons (.asg (.tup (.cons (.name 1 "start" ⟨44, 4, 44, 9⟩) (.cons (.name 2 "count" ⟨44, 11, 44, 16⟩) (.cons (.name 3 "rows" ⟨44, 18, 44, 22⟩) (.cons (.name 4 "pitch" ⟨44, 24, 44, 29⟩) .nil)))) 0 ⟨44, 4, 44, 29⟩) (.var 0 "area" ⟨44, 32, 44, 36⟩) ⟨44, 4, 44, 36⟩)
  (.cons (.ret (.blt .tuple ⟨45, 11, 45, 16⟩ (.cons d_own_cells_c0 .nil) ⟨45, 11, 45, 94⟩) ⟨45, 4, 45, 94⟩)
  .nil))
def d_own_cells : Df := ⟨"own_cells", ["area"], ["area", "start", "count", "rows", "pitch", "row", "spot"], [], defScope (top 17), d_own_cells_b⟩
/-- cells_of: 0 area -/
def d_cells_of_b : CSs := (.cons (.expr (.call 3 "need_area" ⟨47, 4, 47, 13⟩ (.cons (.var 0 "area" ⟨47, 14, 47, 18⟩) .nil) .nil ⟨47, 4, 47, 19⟩) ⟨47, 4, 47, 19⟩)
  (.cons (.ret (.call 4 "own_cells" ⟨48, 11, 48, 20⟩ (.cons (.var 0 "area" ⟨48, 21, 48, 25⟩) .nil) .nil ⟨48, 11, 48, 26⟩) ⟨48, 4, 48, 26⟩)
  .nil))
def d_cells_of : Df := ⟨"cells_of", ["area"], ["area"], [], defScope (top 18), d_cells_of_b⟩
/-- own_size: 0 area, 1 start, 2 count, 3 rows, 4 pitch -/
def d_own_size_b : CSs := (.cons (.asg (.tup (.cons (.name 1 "start" ⟨50, 4, 50, 9⟩) (.cons (.name 2 "count" ⟨50, 11, 50, 16⟩) (.cons (.name 3 "rows" ⟨50, 18, 50, 22⟩) (.cons (.name 4 "pitch" ⟨50, 24, 50, 29⟩) .nil)))) 0 ⟨50, 4, 50, 29⟩) (.var 0 "area" ⟨50, 32, 50, 36⟩) ⟨50, 4, 50, 36⟩)
  (.cons (.ret (.bin .Mult (.brw 2 "count" ⟨51, 11, 51, 16⟩) (.brw 3 "rows" ⟨51, 19, 51, 23⟩) ⟨51, 11, 51, 23⟩) ⟨51, 4, 51, 23⟩)
  .nil))
def d_own_size : Df := ⟨"own_size", ["area"], ["area", "start", "count", "rows", "pitch"], [], defScope (top 19), d_own_size_b⟩
/-- size_of: 0 area -/
def d_size_of_b : CSs := (.cons (.expr (.call 3 "need_area" ⟨53, 4, 53, 13⟩ (.cons (.var 0 "area" ⟨53, 14, 53, 18⟩) .nil) .nil ⟨53, 4, 53, 19⟩) ⟨53, 4, 53, 19⟩)
  (.cons (.ret (.call 5 "own_size" ⟨54, 11, 54, 19⟩ (.cons (.var 0 "area" ⟨54, 20, 54, 24⟩) .nil) .nil ⟨54, 11, 54, 25⟩) ⟨54, 4, 54, 25⟩)
  .nil))
def d_size_of : Df := ⟨"size_of", ["area"], ["area"], [], defScope (top 20), d_size_of_b⟩
def d_they_meet_c0 : CE := (.dcm (.var 3 "cell" ⟨58, 12, 58, 16⟩) (.cst (.bool true) 0 ⟨58, 18, 58, 22⟩) (.name 3 "cell" ⟨58, 27, 58, 31⟩) (.seq (.call 4 "own_cells" ⟨58, 35, 58, 44⟩ (.cons (.var 0 "one" ⟨58, 45, 58, 48⟩) .nil) .nil ⟨58, 35, 58, 49⟩)) .nil { kind := PySem.ScopeKind.function, names := [(PySem.Str.ofString ".0", PySem.NameKind.local), (PySem.Str.ofString "cell", PySem.NameKind.local)], isGenerator := false, isCoroutine := false, more := [] : PySem.Scope } [("cell", 3)] ⟨58, 11, 58, 50⟩)
@[simp] theorem d_they_meet_c0_p : d_they_meet_c0.pure = true := rfl
@[simp] theorem d_they_meet_c0_a {D : Den} {es : CEs} {S : Slots} : eva D (.cons d_they_meet_c0 es) S = (ev D d_they_meet_c0 S).bind fun q => match q.1.1 with | .own _ => (eva D es q.2).map fun t => (.val q.1.2 :: t.1, t.2) | .bor => none := rfl
def d_they_meet_c1 : CE := (.lc (.cmp .In (.brw 3 "cell" ⟨59, 16, 59, 20⟩) (.brw 2 "mine" ⟨59, 24, 59, 28⟩) ⟨59, 16, 59, 28⟩) (.name 3 "cell" ⟨59, 33, 59, 37⟩) (.seq (.call 4 "own_cells" ⟨59, 41, 59, 50⟩ (.cons (.var 1 "other" ⟨59, 51, 59, 56⟩) .nil) .nil ⟨59, 41, 59, 57⟩)) .nil { kind := PySem.ScopeKind.function, names := [ (PySem.Str.ofString ".0", PySem.NameKind.local), (PySem.Str.ofString "cell", PySem.NameKind.local), (PySem.Str.ofString "mine", PySem.NameKind.free)], isGenerator := false, isCoroutine := false, more := [] : PySem.Scope } [("cell", 3)] ⟨59, 15, 59, 58⟩)
@[simp] theorem d_they_meet_c1_p : d_they_meet_c1.pure = true := rfl
@[simp] theorem d_they_meet_c1_a {D : Den} {es : CEs} {S : Slots} : eva D (.cons d_they_meet_c1 es) S = (ev D d_they_meet_c1 S).bind fun q => match q.1.1 with | .own _ => (eva D es q.2).map fun t => (.val q.1.2 :: t.1, t.2) | .bor => none := rfl
/-- they_meet: 0 one, 1 other, 2 mine, 3 cell -/
def d_they_meet_b : CSs := (.cons (.expr (.call 3 "need_area" ⟨56, 4, 56, 13⟩ (.cons (.var 0 "one" ⟨56, 14, 56, 17⟩) .nil) .nil ⟨56, 4, 56, 18⟩) ⟨56, 4, 56, 18⟩)
  (.cons (.expr (.call 3 "need_area" ⟨57, 4, 57, 13⟩ (.cons (.var 1 "other" ⟨57, 14, 57, 19⟩) .nil) .nil ⟨57, 4, 57, 20⟩) ⟨57, 4, 57, 20⟩)
  (.cons (.asg (.name 2 "mine" ⟨58, 4, 58, 8⟩) d_they_meet_c0 ⟨58, 4, 58, 50⟩)
  (.cons (.ret (.blt .any ⟨59, 11, 59, 14⟩ (.cons d_they_meet_c1 .nil) ⟨59, 11, 59, 59⟩) ⟨59, 4, 59, 59⟩)
  .nil))))
def d_they_meet : Df := ⟨"they_meet", ["one", "other"], ["one", "other", "mine", "cell"], [], defScope (top 21), d_they_meet_b⟩
def d_own_stretches_c0 : CE := (.lc (.tup (.cons (.bin .Add (.brw 1 "start" ⟨64, 19, 64, 24⟩) (.bin .Mult (.brw 5 "row" ⟨64, 27, 64, 30⟩) (.brw 4 "pitch" ⟨64, 33, 64, 38⟩) ⟨64, 27, 64, 38⟩) ⟨64, 19, 64, 38⟩) (.cons (.var 2 "count" ⟨64, 40, 64, 45⟩) .nil)) 0 ⟨64, 18, 64, 46⟩) (.name 5 "row" ⟨64, 51, 64, 54⟩) (.rng1 ⟨64, 58, 64, 63⟩ (.brw 3 "rows" ⟨64, 64, 64, 68⟩) ⟨64, 58, 64, 69⟩) .nil { kind := PySem.ScopeKind.function, names := [ (PySem.Str.ofString ".0", PySem.NameKind.local), (PySem.Str.ofString "row", PySem.NameKind.local), (PySem.Str.ofString "count", PySem.NameKind.free), (PySem.Str.ofString "pitch", PySem.NameKind.free), (PySem.Str.ofString "start", PySem.NameKind.free)], isGenerator := false, isCoroutine := false, more := [] : PySem.Scope } [("row", 5)] ⟨64, 17, 64, 70⟩)
@[simp] theorem d_own_stretches_c0_p : d_own_stretches_c0.pure = true := rfl
@[simp] theorem d_own_stretches_c0_a {D : Den} {es : CEs} {S : Slots} : eva D (.cons d_own_stretches_c0 es) S = (ev D d_own_stretches_c0 S).bind fun q => match q.1.1 with | .own _ => (eva D es q.2).map fun t => (.val q.1.2 :: t.1, t.2) | .bor => none := rfl
/-- own_stretches: 0 area, 1 start, 2 count, 3 rows, 4 pitch, 5 row -/
def d_own_stretches_b : CSs := (.cons (.asg (.tup (.cons (.name 1 "start" ⟨61, 4, 61, 9⟩) (.cons (.name 2 "count" ⟨61, 11, 61, 16⟩) (.cons (.name 3 "rows" ⟨61, 18, 61, 22⟩) (.cons (.name 4 "pitch" ⟨61, 24, 61, 29⟩) .nil)))) 0 ⟨61, 4, 61, 29⟩) (.var 0 "area" ⟨61, 32, 61, 36⟩) ⟨61, 4, 61, 36⟩)
  (.cons (.ife (.cmp .Eq (.brw 4 "pitch" ⟨62, 7, 62, 12⟩) (.brw 2 "count" ⟨62, 16, 62, 21⟩) ⟨62, 7, 62, 21⟩) (.cons (.ret (.tup (.cons (.tup (.cons (.var 1 "start" ⟨63, 17, 63, 22⟩) (.cons (.bin .Mult (.brw 2 "count" ⟨63, 24, 63, 29⟩) (.brw 3 "rows" ⟨63, 32, 63, 36⟩) ⟨63, 24, 63, 36⟩) .nil)) 0 ⟨63, 16, 63, 37⟩) .nil) 0 ⟨63, 15, 63, 39⟩) ⟨63, 8, 63, 39⟩)
    .nil) .nil ⟨62, 4, 63, 39⟩)
  (.cons (.ret (.blt .tuple ⟨64, 11, 64, 16⟩ (.cons d_own_stretches_c0 .nil) ⟨64, 11, 64, 71⟩) ⟨64, 4, 64, 71⟩)
  .nil)))
def d_own_stretches : Df := ⟨"own_stretches", ["area"], ["area", "start", "count", "rows", "pitch", "row"], [], defScope (top 22), d_own_stretches_b⟩
/-- stretches_of: 0 area -/
def d_stretches_of_b : CSs := (.cons (.expr (.call 3 "need_area" ⟨66, 4, 66, 13⟩ (.cons (.var 0 "area" ⟨66, 14, 66, 18⟩) .nil) .nil ⟨66, 4, 66, 19⟩) ⟨66, 4, 66, 19⟩)
  (.cons (.ret (.call 6 "own_stretches" ⟨67, 11, 67, 24⟩ (.cons (.var 0 "area" ⟨67, 25, 67, 29⟩) .nil) .nil ⟨67, 11, 67, 30⟩) ⟨67, 4, 67, 30⟩)
  .nil))
def d_stretches_of : Df := ⟨"stretches_of", ["area"], ["area"], [], defScope (top 23), d_stretches_of_b⟩
/-- plain_area: 0 start, 1 count, 2 found -/
def d_plain_area_b : CSs := (.cons (.asg (.name 2 "found" ⟨69, 4, 69, 9⟩) (.tup (.cons (.var 0 "start" ⟨69, 13, 69, 18⟩) (.cons (.var 1 "count" ⟨69, 20, 69, 25⟩) (.cons (.cst (.int 1) 0 ⟨69, 27, 69, 28⟩) (.cons (.var 1 "count" ⟨69, 30, 69, 35⟩) .nil)))) 0 ⟨69, 12, 69, 36⟩) ⟨69, 4, 69, 36⟩)
  (.cons (.expr (.call 3 "need_area" ⟨70, 4, 70, 13⟩ (.cons (.var 2 "found" ⟨70, 14, 70, 19⟩) .nil) .nil ⟨70, 4, 70, 20⟩) ⟨70, 4, 70, 20⟩)
  (.cons (.ret (.var 2 "found" ⟨71, 11, 71, 16⟩) ⟨71, 4, 71, 16⟩)
  .nil)))
def d_plain_area : Df := ⟨"plain_area", ["start", "count"], ["start", "count", "found"], [], defScope (top 24), d_plain_area_b⟩
/-- is_thing: 0 thing, 1 kind -/
def d_is_thing_b : CSs := (.cons (.ife (.cmp .Eq (.brw 1 "kind" ⟨87, 7, 87, 11⟩) (.cst (.str "A") 0 ⟨87, 15, 87, 18⟩) ⟨87, 7, 87, 18⟩) (.cons (.ret (.cmp .Eq (.call 2 "area_wrong" ⟨88, 15, 88, 25⟩ (.cons (.var 0 "thing" ⟨88, 26, 88, 31⟩) .nil) .nil ⟨88, 15, 88, 32⟩) (.lst .nil ⟨88, 36, 88, 38⟩) ⟨88, 15, 88, 38⟩) ⟨88, 8, 88, 38⟩)
    .nil) .nil ⟨87, 4, 88, 38⟩)
  (.cons (.ife (.cmp .Eq (.brw 1 "kind" ⟨89, 7, 89, 11⟩) (.cst (.str "B") 0 ⟨89, 15, 89, 18⟩) ⟨89, 7, 89, 18⟩) (.cons (.ret (.call 7 "is_byte" ⟨90, 15, 90, 22⟩ (.cons (.var 0 "thing" ⟨90, 23, 90, 28⟩) .nil) .nil ⟨90, 15, 90, 29⟩) ⟨90, 8, 90, 29⟩)
    .nil) .nil ⟨89, 4, 90, 29⟩)
  (.cons (.ife (.cmp .Eq (.brw 1 "kind" ⟨91, 7, 91, 11⟩) (.cst (.str "C") 0 ⟨91, 15, 91, 18⟩) ⟨91, 7, 91, 18⟩) (.cons (.ret (.call 0 "is_whole" ⟨92, 15, 92, 23⟩ (.cons (.var 0 "thing" ⟨92, 24, 92, 29⟩) .nil) (.cons "most" (.glb "GREATEST_CELL" ⟨92, 36, 92, 49⟩) ⟨92, 31, 92, 49⟩ .nil) ⟨92, 15, 92, 50⟩) ⟨92, 8, 92, 50⟩)
    .nil) .nil ⟨91, 4, 92, 50⟩)
  (.cons (.ife (.cmp .Eq (.brw 1 "kind" ⟨93, 7, 93, 11⟩) (.cst (.str "F") 0 ⟨93, 15, 93, 18⟩) ⟨93, 7, 93, 18⟩) (.cons (.ret (.call 8 "is_flag" ⟨94, 15, 94, 22⟩ (.cons (.var 0 "thing" ⟨94, 23, 94, 28⟩) .nil) .nil ⟨94, 15, 94, 29⟩) ⟨94, 8, 94, 29⟩)
    .nil) .nil ⟨93, 4, 94, 29⟩)
  (.cons (.ife (.cmp .Eq (.brw 1 "kind" ⟨95, 7, 95, 11⟩) (.cst (.str "H") 0 ⟨95, 15, 95, 18⟩) ⟨95, 7, 95, 18⟩) (.cons (.ret (.call 0 "is_whole" ⟨96, 15, 96, 23⟩ (.cons (.var 0 "thing" ⟨96, 24, 96, 29⟩) .nil) (.cons "most" (.cst (.int 1) 0 ⟨96, 36, 96, 37⟩) ⟨96, 31, 96, 37⟩ .nil) ⟨96, 15, 96, 38⟩) ⟨96, 8, 96, 38⟩)
    .nil) .nil ⟨95, 4, 96, 38⟩)
  (.cons (.ife (.cmp .Eq (.brw 1 "kind" ⟨97, 7, 97, 11⟩) (.cst (.str "N") 0 ⟨97, 15, 97, 18⟩) ⟨97, 7, 97, 18⟩) (.cons (.ret (.call 1 "is_whole" ⟨98, 15, 98, 23⟩ (.cons (.var 0 "thing" ⟨98, 24, 98, 29⟩) .nil) (.cons "least" (.cst (.int 1) 0 ⟨98, 37, 98, 38⟩) ⟨98, 31, 98, 38⟩ (.cons "most" (.glb "MOST_NOTED" ⟨98, 45, 98, 55⟩) ⟨98, 40, 98, 55⟩ .nil)) ⟨98, 15, 98, 56⟩) ⟨98, 8, 98, 56⟩)
    .nil) .nil ⟨97, 4, 98, 56⟩)
  (.cons (.ret (.bop .Or (.cons (.cmp .Eq (.brw 1 "kind" ⟨99, 11, 99, 15⟩) (.cst (.str "S") 0 ⟨99, 19, 99, 22⟩) ⟨99, 11, 99, 22⟩) (.cons (.cmp .Eq (.call 9 "list_wrong" ⟨99, 26, 99, 36⟩ (.cons (.var 0 "thing" ⟨99, 37, 99, 42⟩) .nil) .nil ⟨99, 26, 99, 43⟩) (.lst .nil ⟨99, 47, 99, 49⟩) ⟨99, 26, 99, 49⟩) .nil)) ⟨99, 11, 99, 49⟩) ⟨99, 4, 99, 49⟩)
  .nil)))))))
def d_is_thing : Df := ⟨"is_thing", ["thing", "kind"], ["thing", "kind"], [], defScope (top 39), d_is_thing_b⟩
/-- form_of: 0 thing, 1 forms, 2 kinds -/
def d_form_of_b : CSs := (.cons (.ife (.bop .Or (.cons (.nt (.isi (.brw 0 "thing" ⟨101, 22, 101, 27⟩) .tuple ⟨101, 11, 101, 21⟩ ⟨101, 29, 101, 34⟩ ⟨101, 11, 101, 35⟩) ⟨101, 7, 101, 35⟩) (.cons (.cmp .Eq (.brw 0 "thing" ⟨101, 39, 101, 44⟩) (.tup .nil 0 ⟨101, 48, 101, 50⟩) ⟨101, 39, 101, 50⟩) (.cons (.nt (.isi (.idx (.brw 0 "thing" ⟨101, 70, 101, 75⟩) (.cst (.int 0) 0 ⟨101, 76, 101, 77⟩) ⟨101, 70, 101, 78⟩) .str ⟨101, 59, 101, 69⟩ ⟨101, 80, 101, 83⟩ ⟨101, 59, 101, 84⟩) ⟨101, 55, 101, 84⟩) (.cons (.cmp .NotIn (.idx (.brw 0 "thing" ⟨101, 90, 101, 95⟩) (.cst (.int 0) 0 ⟨101, 96, 101, 97⟩) ⟨101, 90, 101, 98⟩) (.brw 1 "forms" ⟨101, 106, 101, 111⟩) ⟨101, 90, 101, 111⟩) .nil)))) ⟨101, 7, 101, 112⟩) (.cons (.ret (.lst .nil ⟨102, 15, 102, 17⟩) ⟨102, 8, 102, 17⟩)
    .nil) .nil ⟨101, 4, 102, 17⟩)
  (.cons (.asg (.name 2 "kinds" ⟨103, 4, 103, 9⟩) (.idx (.brw 1 "forms" ⟨103, 12, 103, 17⟩) (.idx (.brw 0 "thing" ⟨103, 18, 103, 23⟩) (.cst (.int 0) 0 ⟨103, 24, 103, 25⟩) ⟨103, 18, 103, 26⟩) ⟨103, 12, 103, 27⟩) ⟨103, 4, 103, 27⟩)
  (.cons (.ret (.ifx (.cmp .Eq (.blt .len ⟨104, 22, 104, 25⟩ (.cons (.brw 0 "thing" ⟨104, 26, 104, 31⟩) .nil) ⟨104, 22, 104, 32⟩) (.bin .Add (.blt .len ⟨104, 36, 104, 39⟩ (.cons (.brw 2 "kinds" ⟨104, 40, 104, 45⟩) .nil) ⟨104, 36, 104, 46⟩) (.cst (.int 1) 0 ⟨104, 49, 104, 50⟩) ⟨104, 36, 104, 50⟩) ⟨104, 22, 104, 50⟩) (.lst (.cons (.var 2 "kinds" ⟨104, 12, 104, 17⟩) .nil) ⟨104, 11, 104, 18⟩) (.lst .nil ⟨104, 56, 104, 58⟩) ⟨104, 11, 104, 58⟩) ⟨104, 4, 104, 58⟩)
  .nil)))
def d_form_of : Df := ⟨"form_of", ["thing", "forms"], ["thing", "forms", "kinds"], [], defScope (top 40), d_form_of_b⟩
def d_things_wrong_c0 : CE := (.lc (.bin .Add (.brw 2 "number" ⟨106, 12, 106, 18⟩) (.cst (.int 1) 0 ⟨106, 21, 106, 22⟩) ⟨106, 12, 106, 22⟩) (.tup (.cons (.name 2 "number" ⟨106, 27, 106, 33⟩) (.cons (.name 3 "kind" ⟨106, 35, 106, 39⟩) .nil)) 0 ⟨106, 27, 106, 39⟩) (.enum ⟨106, 43, 106, 52⟩ (.var 1 "kinds" ⟨106, 53, 106, 58⟩) ⟨106, 43, 106, 59⟩) (.cons (.nt (.call 10 "is_thing" ⟨106, 67, 106, 75⟩ (.cons (.idx (.brw 0 "thing" ⟨106, 76, 106, 81⟩) (.bin .Add (.brw 2 "number" ⟨106, 82, 106, 88⟩) (.cst (.int 1) 0 ⟨106, 91, 106, 92⟩) ⟨106, 82, 106, 92⟩) ⟨106, 76, 106, 93⟩) (.cons (.var 3 "kind" ⟨106, 95, 106, 99⟩) .nil)) .nil ⟨106, 67, 106, 100⟩) ⟨106, 63, 106, 100⟩) .nil) { kind := PySem.ScopeKind.function, names := [ (PySem.Str.ofString ".0", PySem.NameKind.local), (PySem.Str.ofString "number", PySem.NameKind.local), (PySem.Str.ofString "kind", PySem.NameKind.local), (PySem.Str.ofString "is_thing", PySem.NameKind.globalImplicit), (PySem.Str.ofString "thing", PySem.NameKind.free)], isGenerator := false, isCoroutine := false, more := [] : PySem.Scope } [("number", 2), ("kind", 3)] ⟨106, 11, 106, 101⟩)
@[simp] theorem d_things_wrong_c0_p : d_things_wrong_c0.pure = true := rfl
@[simp] theorem d_things_wrong_c0_a {D : Den} {es : CEs} {S : Slots} : eva D (.cons d_things_wrong_c0 es) S = (ev D d_things_wrong_c0 S).bind fun q => match q.1.1 with | .own _ => (eva D es q.2).map fun t => (.val q.1.2 :: t.1, t.2) | .bor => none := rfl
/-- things_wrong: 0 thing, 1 kinds, 2 number, 3 kind -/
def d_things_wrong_b : CSs := (.cons (.ret (.slc d_things_wrong_c0 .no (.is (.cst (.int 1) 0 ⟨106, 103, 106, 104⟩)) ⟨106, 102, 106, 104⟩ ⟨106, 11, 106, 105⟩) ⟨106, 4, 106, 105⟩)
  .nil)
def d_things_wrong : Df := ⟨"things_wrong", ["thing", "kinds"], ["thing", "kinds", "number", "kind"], [], defScope (top 41), d_things_wrong_b⟩
def d_step_wrong_l0 : CSs := (.cons (.asg (.name 2 "wrong" ⟨109, 8, 109, 13⟩) (.call 11 "things_wrong" ⟨109, 16, 109, 28⟩ (.cons (.var 0 "thing" ⟨109, 29, 109, 34⟩) (.cons (.var 1 "kinds" ⟨109, 36, 109, 41⟩) .nil)) .nil ⟨109, 16, 109, 42⟩) ⟨109, 8, 109, 42⟩)
    (.cons (.ife (.bop .Or (.cons (.cmp .NotEq (.brw 2 "wrong" ⟨110, 11, 110, 16⟩) (.lst .nil ⟨110, 20, 110, 22⟩) ⟨110, 11, 110, 22⟩) (.cons (.cmp .NotIn (.idx (.brw 0 "thing" ⟨110, 26, 110, 31⟩) (.cst (.int 0) 0 ⟨110, 32, 110, 33⟩) ⟨110, 26, 110, 34⟩) (.tup (.cons (.glb "COPY" ⟨110, 43, 110, 47⟩) (.cons (.glb "FILL" ⟨110, 49, 110, 53⟩) .nil)) 0 ⟨110, 42, 110, 54⟩) ⟨110, 26, 110, 54⟩) .nil)) ⟨110, 11, 110, 54⟩) (.cons (.ret (.var 2 "wrong" ⟨111, 19, 111, 24⟩) ⟨111, 12, 111, 24⟩)
    .nil) .nil ⟨110, 8, 111, 24⟩)
    (.cons (.ife (.bop .And (.cons (.cmp .Eq (.idx (.brw 0 "thing" ⟨112, 11, 112, 16⟩) (.cst (.int 0) 0 ⟨112, 17, 112, 18⟩) ⟨112, 11, 112, 19⟩) (.glb "COPY" ⟨112, 23, 112, 27⟩) ⟨112, 11, 112, 27⟩) (.cons (.cmp .NotEq (.call 5 "own_size" ⟨112, 32, 112, 40⟩ (.cons (.idx (.brw 0 "thing" ⟨112, 41, 112, 46⟩) (.cst (.int 1) 0 ⟨112, 47, 112, 48⟩) ⟨112, 41, 112, 49⟩) .nil) .nil ⟨112, 32, 112, 50⟩) (.call 5 "own_size" ⟨112, 54, 112, 62⟩ (.cons (.idx (.brw 0 "thing" ⟨112, 63, 112, 68⟩) (.cst (.int 2) 0 ⟨112, 69, 112, 70⟩) ⟨112, 63, 112, 71⟩) .nil) .nil ⟨112, 54, 112, 72⟩) ⟨112, 32, 112, 72⟩) .nil)) ⟨112, 11, 112, 72⟩) (.cons (.ret (.lst (.cons (.glb "SIZE" ⟨113, 20, 113, 24⟩) .nil) ⟨113, 19, 113, 25⟩) ⟨113, 12, 113, 25⟩)
    .nil) .nil ⟨112, 8, 113, 25⟩)
    (.cons (.ret (.ifx (.call 0 "is_whole" ⟨114, 21, 114, 29⟩ (.cons (.idx (.brw 0 "thing" ⟨114, 30, 114, 35⟩) (.cst (.int 3) 0 ⟨114, 36, 114, 37⟩) ⟨114, 30, 114, 38⟩) .nil) (.cons "most" (.bin .Sub (.call 5 "own_size" ⟨114, 45, 114, 53⟩ (.cons (.idx (.brw 0 "thing" ⟨114, 54, 114, 59⟩) (.cst (.int 1) 0 ⟨114, 60, 114, 61⟩) ⟨114, 54, 114, 62⟩) .nil) .nil ⟨114, 45, 114, 63⟩) (.cst (.int 1) 0 ⟨114, 66, 114, 67⟩) ⟨114, 45, 114, 67⟩) ⟨114, 40, 114, 67⟩ .nil) ⟨114, 21, 114, 68⟩) (.lst .nil ⟨114, 15, 114, 17⟩) (.lst (.cons (.glb "SKIP" ⟨114, 75, 114, 79⟩) .nil) ⟨114, 74, 114, 80⟩) ⟨114, 15, 114, 80⟩) ⟨114, 8, 114, 80⟩)
    .nil))))
/-- step_wrong: 0 thing, 1 kinds, 2 wrong -/
def d_step_wrong_b : CSs := (.cons (.forr (.name 1 "kinds" ⟨108, 8, 108, 13⟩) (.seq (.call 12 "form_of" ⟨108, 17, 108, 24⟩ (.cons (.var 0 "thing" ⟨108, 25, 108, 30⟩) (.cons (.dcp ⟨108, 32, 108, 36⟩ ⟨108, 37, 108, 47⟩ "STEP_FORMS" ⟨108, 32, 108, 48⟩) .nil)) .nil ⟨108, 17, 108, 49⟩)) d_step_wrong_l0 ⟨108, 4, 114, 80⟩)
  (.cons (.ret (.lst (.cons (.cst .none 0 ⟨115, 12, 115, 16⟩) .nil) ⟨115, 11, 115, 17⟩) ⟨115, 4, 115, 17⟩)
  .nil))
def d_step_wrong : Df := ⟨"step_wrong", ["thing"], ["thing", "kinds", "wrong"], [], defScope (top 42), d_step_wrong_b⟩
def d_need_step_l0 : CSs := (.cons (.nvr (PySem.Stmt.Raise (exc := (some (PySem.Expr.Call (func := (PySem.Expr.Name "BadStep" ⟨118, 14, 118, 21⟩)) (args := [(PySem.Expr.Name "place" ⟨118, 22, 118, 27⟩)]) (keywords := []) (pos := ⟨118, 14, 118, 28⟩)))) (cause := none) (pos := ⟨118, 8, 118, 28⟩)))
    .nil)
/-- need_step: 0 thing, 1 place -/
def d_need_step_b : CSs := (.cons (.forr (.name 1 "place" ⟨117, 8, 117, 13⟩) (.seq (.call 13 "step_wrong" ⟨117, 17, 117, 27⟩ (.cons (.var 0 "thing" ⟨117, 28, 117, 33⟩) .nil) .nil ⟨117, 17, 117, 34⟩)) d_need_step_l0 ⟨117, 4, 118, 28⟩)
  .nil)
def d_need_step : Df := ⟨"need_step", ["thing"], ["thing", "place"], [], defScope (top 43), d_need_step_b⟩
def d_list_wrong_c0 : CE := (.lc (.var 1 "number" ⟨122, 12, 122, 18⟩) (.tup (.cons (.name 1 "number" ⟨122, 23, 122, 29⟩) (.cons (.name 2 "step" ⟨122, 31, 122, 35⟩) .nil)) 0 ⟨122, 23, 122, 35⟩) (.enum ⟨122, 39, 122, 48⟩ (.var 0 "thing" ⟨122, 49, 122, 54⟩) ⟨122, 39, 122, 55⟩) (.cons (.cmp .NotEq (.call 13 "step_wrong" ⟨122, 59, 122, 69⟩ (.cons (.var 2 "step" ⟨122, 70, 122, 74⟩) .nil) .nil ⟨122, 59, 122, 75⟩) (.lst .nil ⟨122, 79, 122, 81⟩) ⟨122, 59, 122, 81⟩) .nil) { kind := PySem.ScopeKind.function, names := [ (PySem.Str.ofString ".0", PySem.NameKind.local), (PySem.Str.ofString "number", PySem.NameKind.local), (PySem.Str.ofString "step", PySem.NameKind.local), (PySem.Str.ofString "step_wrong", PySem.NameKind.globalImplicit)], isGenerator := false, isCoroutine := false, more := [] : PySem.Scope } [("number", 1), ("step", 2)] ⟨122, 11, 122, 82⟩)
@[simp] theorem d_list_wrong_c0_p : d_list_wrong_c0.pure = true := rfl
@[simp] theorem d_list_wrong_c0_a {D : Den} {es : CEs} {S : Slots} : eva D (.cons d_list_wrong_c0 es) S = (ev D d_list_wrong_c0 S).bind fun q => match q.1.1 with | .own _ => (eva D es q.2).map fun t => (.val q.1.2 :: t.1, t.2) | .bor => none := rfl
/-- list_wrong: 0 thing, 1 number, 2 step -/
def d_list_wrong_b : CSs := (.cons (.ife (.bop .Or (.cons (.nt (.isi (.brw 0 "thing" ⟨120, 22, 120, 27⟩) .tuple ⟨120, 11, 120, 21⟩ ⟨120, 29, 120, 34⟩ ⟨120, 11, 120, 35⟩) ⟨120, 7, 120, 35⟩) (.cons (.nt (.chn .LtE .LtE (.cst (.int 1) 0 ⟨120, 43, 120, 44⟩) (.blt .len ⟨120, 48, 120, 51⟩ (.cons (.brw 0 "thing" ⟨120, 52, 120, 57⟩) .nil) ⟨120, 48, 120, 58⟩) (.glb "MOST_STEPS" ⟨120, 62, 120, 72⟩) ⟨120, 43, 120, 72⟩) ⟨120, 39, 120, 72⟩) .nil)) ⟨120, 7, 120, 72⟩) (.cons (.ret (.lst (.cons (.cst .none 0 ⟨121, 16, 121, 20⟩) .nil) ⟨121, 15, 121, 21⟩) ⟨121, 8, 121, 21⟩)
    .nil) .nil ⟨120, 4, 121, 21⟩)
  (.cons (.ret (.slc d_list_wrong_c0 .no (.is (.cst (.int 1) 0 ⟨122, 84, 122, 85⟩)) ⟨122, 83, 122, 85⟩ ⟨122, 11, 122, 86⟩) ⟨122, 4, 122, 86⟩)
  .nil))
def d_list_wrong : Df := ⟨"list_wrong", ["thing"], ["thing", "number", "step"], [], defScope (top 44), d_list_wrong_b⟩
def d_all_touches_c0 : CE := (.lc (.tup (.cons (.tup (.cons (.glb "READ" ⟨126, 18, 126, 22⟩) (.cons (.var 2 "cell" ⟨126, 24, 126, 28⟩) .nil)) 0 ⟨126, 17, 126, 29⟩) (.cons (.tup (.cons (.glb "WRITE" ⟨126, 32, 126, 37⟩) (.cons (.var 3 "far" ⟨126, 39, 126, 42⟩) .nil)) 0 ⟨126, 31, 126, 43⟩) .nil)) 0 ⟨126, 16, 126, 44⟩) (.tup (.cons (.name 2 "cell" ⟨126, 49, 126, 53⟩) (.cons (.name 3 "far" ⟨126, 55, 126, 58⟩) .nil)) 0 ⟨126, 49, 126, 58⟩) (.seq (.var 1 "pairs" ⟨126, 62, 126, 67⟩)) .nil { kind := PySem.ScopeKind.function, names := [ (PySem.Str.ofString ".0", PySem.NameKind.local), (PySem.Str.ofString "cell", PySem.NameKind.local), (PySem.Str.ofString "far", PySem.NameKind.local), (PySem.Str.ofString "READ", PySem.NameKind.globalImplicit), (PySem.Str.ofString "WRITE", PySem.NameKind.globalImplicit)], isGenerator := false, isCoroutine := false, more := [] : PySem.Scope } [("cell", 2), ("far", 3)] ⟨126, 15, 126, 68⟩)
@[simp] theorem d_all_touches_c0_p : d_all_touches_c0.pure = true := rfl
@[simp] theorem d_all_touches_c0_a {D : Den} {es : CEs} {S : Slots} : eva D (.cons d_all_touches_c0 es) S = (ev D d_all_touches_c0 S).bind fun q => match q.1.1 with | .own _ => (eva D es q.2).map fun t => (.val q.1.2 :: t.1, t.2) | .bor => none := rfl
def d_all_touches_c1 : CE := (.lc (.tup (.cons (.tup (.cons (.glb "WRITE" ⟨128, 18, 128, 23⟩) (.cons (.var 2 "cell" ⟨128, 25, 128, 29⟩) .nil)) 0 ⟨128, 17, 128, 30⟩) .nil) 0 ⟨128, 16, 128, 32⟩) (.name 2 "cell" ⟨128, 37, 128, 41⟩) (.seq (.slc (.call 4 "own_cells" ⟨128, 45, 128, 54⟩ (.cons (.idx (.brw 0 "step" ⟨128, 55, 128, 59⟩) (.cst (.int 1) 0 ⟨128, 60, 128, 61⟩) ⟨128, 55, 128, 62⟩) .nil) .nil ⟨128, 45, 128, 63⟩) (.is (.idx (.brw 0 "step" ⟨128, 64, 128, 68⟩) (.cst (.int 3) 0 ⟨128, 69, 128, 70⟩) ⟨128, 64, 128, 71⟩)) .no ⟨128, 64, 128, 72⟩ ⟨128, 45, 128, 73⟩)) .nil { kind := PySem.ScopeKind.function, names := [ (PySem.Str.ofString ".0", PySem.NameKind.local), (PySem.Str.ofString "cell", PySem.NameKind.local), (PySem.Str.ofString "WRITE", PySem.NameKind.globalImplicit)], isGenerator := false, isCoroutine := false, more := [] : PySem.Scope } [("cell", 2)] ⟨128, 15, 128, 74⟩)
@[simp] theorem d_all_touches_c1_p : d_all_touches_c1.pure = true := rfl
@[simp] theorem d_all_touches_c1_a {D : Den} {es : CEs} {S : Slots} : eva D (.cons d_all_touches_c1 es) S = (ev D d_all_touches_c1 S).bind fun q => match q.1.1 with | .own _ => (eva D es q.2).map fun t => (.val q.1.2 :: t.1, t.2) | .bor => none := rfl
def d_all_touches_c2 : CE := (.lc (.tup (.cons (.tup (.cons (.glb "READ" ⟨130, 18, 130, 22⟩) (.cons (.var 2 "cell" ⟨130, 24, 130, 28⟩) .nil)) 0 ⟨130, 17, 130, 29⟩) .nil) 0 ⟨130, 16, 130, 31⟩) (.name 2 "cell" ⟨130, 36, 130, 40⟩) (.seq (.call 4 "own_cells" ⟨130, 44, 130, 53⟩ (.cons (.idx (.brw 0 "step" ⟨130, 54, 130, 58⟩) (.cst (.int 1) 0 ⟨130, 59, 130, 60⟩) ⟨130, 54, 130, 61⟩) .nil) .nil ⟨130, 44, 130, 62⟩)) .nil { kind := PySem.ScopeKind.function, names := [ (PySem.Str.ofString ".0", PySem.NameKind.local), (PySem.Str.ofString "cell", PySem.NameKind.local), (PySem.Str.ofString "READ", PySem.NameKind.globalImplicit)], isGenerator := false, isCoroutine := false, more := [] : PySem.Scope } [("cell", 2)] ⟨130, 15, 130, 63⟩)
@[simp] theorem d_all_touches_c2_p : d_all_touches_c2.pure = true := rfl
@[simp] theorem d_all_touches_c2_a {D : Den} {es : CEs} {S : Slots} : eva D (.cons d_all_touches_c2 es) S = (ev D d_all_touches_c2 S).bind fun q => match q.1.1 with | .own _ => (eva D es q.2).map fun t => (.val q.1.2 :: t.1, t.2) | .bor => none := rfl
/-- all_touches: 0 step, 1 pairs, 2 cell, 3 far -/
def d_all_touches_b : CSs := (.cons (.ife (.cmp .Eq (.idx (.brw 0 "step" ⟨124, 7, 124, 11⟩) (.cst (.int 0) 0 ⟨124, 12, 124, 13⟩) ⟨124, 7, 124, 14⟩) (.glb "COPY" ⟨124, 18, 124, 22⟩) ⟨124, 7, 124, 22⟩) (.cons (.asg (.name 1 "pairs" ⟨125, 8, 125, 13⟩) (.slc (.lzip true ⟨125, 16, 125, 20⟩ ⟨125, 21, 125, 24⟩ (.call 4 "own_cells" ⟨125, 25, 125, 34⟩ (.cons (.idx (.brw 0 "step" ⟨125, 35, 125, 39⟩) (.cst (.int 1) 0 ⟨125, 40, 125, 41⟩) ⟨125, 35, 125, 42⟩) .nil) .nil ⟨125, 25, 125, 43⟩) (.call 4 "own_cells" ⟨125, 45, 125, 54⟩ (.cons (.idx (.brw 0 "step" ⟨125, 55, 125, 59⟩) (.cst (.int 2) 0 ⟨125, 60, 125, 61⟩) ⟨125, 55, 125, 62⟩) .nil) .nil ⟨125, 45, 125, 63⟩) ⟨125, 65, 125, 76⟩ ⟨125, 72, 125, 76⟩ 0 ⟨125, 21, 125, 77⟩ ⟨125, 16, 125, 78⟩) (.is (.idx (.brw 0 "step" ⟨125, 79, 125, 83⟩) (.cst (.int 3) 0 ⟨125, 84, 125, 85⟩) ⟨125, 79, 125, 86⟩)) .no ⟨125, 79, 125, 87⟩ ⟨125, 16, 125, 88⟩) ⟨125, 8, 125, 88⟩)
    (.cons (.ret d_all_touches_c0 ⟨126, 8, 126, 68⟩)
    .nil)) .nil ⟨124, 4, 126, 68⟩)
  (.cons (.ife (.cmp .Eq (.idx (.brw 0 "step" ⟨127, 7, 127, 11⟩) (.cst (.int 0) 0 ⟨127, 12, 127, 13⟩) ⟨127, 7, 127, 14⟩) (.glb "FILL" ⟨127, 18, 127, 22⟩) ⟨127, 7, 127, 22⟩) (.cons (.ret d_all_touches_c1 ⟨128, 8, 128, 74⟩)
    .nil) .nil ⟨127, 4, 128, 74⟩)
  (.cons (.ife (.cmp .Eq (.idx (.brw 0 "step" ⟨129, 7, 129, 11⟩) (.cst (.int 0) 0 ⟨129, 12, 129, 13⟩) ⟨129, 7, 129, 14⟩) (.glb "ADD" ⟨129, 18, 129, 21⟩) ⟨129, 7, 129, 21⟩) (.cons (.ret (.bin .Add d_all_touches_c2 (.lst (.cons (.tup (.cons (.tup (.cons (.glb "WRITE" ⟨130, 69, 130, 74⟩) (.cons (.idx (.brw 0 "step" ⟨130, 76, 130, 80⟩) (.cst (.int 2) 0 ⟨130, 81, 130, 82⟩) ⟨130, 76, 130, 83⟩) .nil)) 0 ⟨130, 68, 130, 84⟩) .nil) 0 ⟨130, 67, 130, 86⟩) .nil) ⟨130, 66, 130, 87⟩) ⟨130, 15, 130, 87⟩) ⟨130, 8, 130, 87⟩)
    .nil) .nil ⟨129, 4, 130, 87⟩)
  (.cons (.ret (.lst (.cons (.tup .nil 0 ⟨131, 12, 131, 14⟩) .nil) ⟨131, 11, 131, 15⟩) ⟨131, 4, 131, 15⟩)
  .nil))))
def d_all_touches : Df := ⟨"all_touches", ["step"], ["step", "pairs", "cell", "far"], [], defScope (top 45), d_all_touches_b⟩
def d_cells_by_c0 : CE := (.ssc ⟨133, 17, 133, 23⟩ (.var 4 "cell" ⟨133, 25, 133, 29⟩) (.name 2 "touches" ⟨133, 34, 133, 41⟩) (.seq (.call 14 "all_touches" ⟨133, 45, 133, 56⟩ (.cons (.var 0 "step" ⟨133, 57, 133, 61⟩) .nil) .nil ⟨133, 45, 133, 62⟩)) .nil (.tup (.cons (.name 3 "own" ⟨133, 67, 133, 70⟩) (.cons (.name 4 "cell" ⟨133, 72, 133, 76⟩) .nil)) 0 ⟨133, 67, 133, 76⟩) (.seq (.var 2 "touches" ⟨133, 80, 133, 87⟩)) (.cons (.cmp .Eq (.brw 3 "own" ⟨133, 91, 133, 94⟩) (.brw 1 "way" ⟨133, 98, 133, 101⟩) ⟨133, 91, 133, 101⟩) .nil) { kind := PySem.ScopeKind.function, names := [ (PySem.Str.ofString ".0", PySem.NameKind.local), (PySem.Str.ofString "touches", PySem.NameKind.local), (PySem.Str.ofString "own", PySem.NameKind.local), (PySem.Str.ofString "cell", PySem.NameKind.local), (PySem.Str.ofString "way", PySem.NameKind.free)], isGenerator := false, isCoroutine := false, more := [] : PySem.Scope } [("touches", 2), ("own", 3), ("cell", 4)] [3, 4] ⟨133, 24, 133, 102⟩ ⟨133, 17, 133, 103⟩)
@[simp] theorem d_cells_by_c0_p : d_cells_by_c0.pure = true := rfl
@[simp] theorem d_cells_by_c0_a {D : Den} {es : CEs} {S : Slots} : eva D (.cons d_cells_by_c0 es) S = (ev D d_cells_by_c0 S).bind fun q => match q.1.1 with | .own _ => (eva D es q.2).map fun t => (.val q.1.2 :: t.1, t.2) | .bor => none := rfl
/-- cells_by: 0 step, 1 way, 2 touches, 3 own, 4 cell -/
def d_cells_by_b : CSs := (.cons (.ret (.blt .tuple ⟨133, 11, 133, 16⟩ (.cons d_cells_by_c0 .nil) ⟨133, 11, 133, 104⟩) ⟨133, 4, 133, 104⟩)
  .nil)
def d_cells_by : Df := ⟨"cells_by", ["step", "way"], ["step", "way", "touches", "own", "cell"], [], defScope (top 46), d_cells_by_b⟩
def d_own_clash_c0 : CE := (.dcm (.var 5 "cell" ⟨136, 19, 136, 23⟩) (.cst (.bool true) 0 ⟨136, 25, 136, 29⟩) (.name 5 "cell" ⟨136, 34, 136, 38⟩) (.seq (.call 15 "cells_by" ⟨136, 42, 136, 50⟩ (.cons (.var 2 "first" ⟨136, 51, 136, 56⟩) (.cons (.glb "WRITE" ⟨136, 58, 136, 63⟩) .nil)) .nil ⟨136, 42, 136, 64⟩)) .nil { kind := PySem.ScopeKind.function, names := [(PySem.Str.ofString ".0", PySem.NameKind.local), (PySem.Str.ofString "cell", PySem.NameKind.local)], isGenerator := false, isCoroutine := false, more := [] : PySem.Scope } [("cell", 5)] ⟨136, 18, 136, 65⟩)
@[simp] theorem d_own_clash_c0_p : d_own_clash_c0.pure = true := rfl
@[simp] theorem d_own_clash_c0_a {D : Den} {es : CEs} {S : Slots} : eva D (.cons d_own_clash_c0 es) S = (ev D d_own_clash_c0 S).bind fun q => match q.1.1 with | .own _ => (eva D es q.2).map fun t => (.val q.1.2 :: t.1, t.2) | .bor => none := rfl
def d_own_clash_c1 : CE := (.lc (.cmp .In (.brw 5 "cell" ⟨137, 16, 137, 20⟩) (.brw 4 "written" ⟨137, 24, 137, 31⟩) ⟨137, 16, 137, 31⟩) (.name 5 "cell" ⟨137, 36, 137, 40⟩) (.seq (.bin .Add (.call 15 "cells_by" ⟨137, 44, 137, 52⟩ (.cons (.var 3 "second" ⟨137, 53, 137, 59⟩) (.cons (.glb "READ" ⟨137, 61, 137, 65⟩) .nil)) .nil ⟨137, 44, 137, 66⟩) (.call 15 "cells_by" ⟨137, 69, 137, 77⟩ (.cons (.var 3 "second" ⟨137, 78, 137, 84⟩) (.cons (.glb "WRITE" ⟨137, 86, 137, 91⟩) .nil)) .nil ⟨137, 69, 137, 92⟩) ⟨137, 44, 137, 92⟩)) .nil { kind := PySem.ScopeKind.function, names := [ (PySem.Str.ofString ".0", PySem.NameKind.local), (PySem.Str.ofString "cell", PySem.NameKind.local), (PySem.Str.ofString "written", PySem.NameKind.free)], isGenerator := false, isCoroutine := false, more := [] : PySem.Scope } [("cell", 5)] ⟨137, 15, 137, 93⟩)
@[simp] theorem d_own_clash_c1_p : d_own_clash_c1.pure = true := rfl
@[simp] theorem d_own_clash_c1_a {D : Den} {es : CEs} {S : Slots} : eva D (.cons d_own_clash_c1 es) S = (ev D d_own_clash_c1 S).bind fun q => match q.1.1 with | .own _ => (eva D es q.2).map fun t => (.val q.1.2 :: t.1, t.2) | .bor => none := rfl
def d_own_clash_l0 : CSs := (.cons (.asg (.name 4 "written" ⟨136, 8, 136, 15⟩) d_own_clash_c0 ⟨136, 8, 136, 65⟩)
    (.cons (.ife (.blt .any ⟨137, 11, 137, 14⟩ (.cons d_own_clash_c1 .nil) ⟨137, 11, 137, 94⟩) (.cons (.ret (.cst (.bool true) 0 ⟨138, 19, 138, 23⟩) ⟨138, 12, 138, 23⟩)
    .nil) .nil ⟨137, 8, 138, 23⟩)
    .nil))
/-- own_clash: 0 one, 1 other, 2 first, 3 second, 4 written, 5 cell -/
def d_own_clash_b : CSs := (.cons (.forr (.tup (.cons (.name 2 "first" ⟨135, 8, 135, 13⟩) (.cons (.name 3 "second" ⟨135, 15, 135, 21⟩) .nil)) 0 ⟨135, 8, 135, 21⟩) (.seq (.tup (.cons (.tup (.cons (.var 0 "one" ⟨135, 27, 135, 30⟩) (.cons (.var 1 "other" ⟨135, 32, 135, 37⟩) .nil)) 0 ⟨135, 26, 135, 38⟩) (.cons (.tup (.cons (.var 1 "other" ⟨135, 41, 135, 46⟩) (.cons (.var 0 "one" ⟨135, 48, 135, 51⟩) .nil)) 0 ⟨135, 40, 135, 52⟩) .nil)) 0 ⟨135, 25, 135, 53⟩)) d_own_clash_l0 ⟨135, 4, 138, 23⟩)
  (.cons (.ret (.cst (.bool false) 0 ⟨139, 11, 139, 16⟩) ⟨139, 4, 139, 16⟩)
  .nil))
def d_own_clash : Df := ⟨"own_clash", ["one", "other"], ["one", "other", "first", "second", "written", "cell"], [], defScope (top 47), d_own_clash_b⟩
/-- steps_clash: 0 one, 1 other -/
def d_steps_clash_b : CSs := (.cons (.expr (.call 16 "need_step" ⟨141, 4, 141, 13⟩ (.cons (.var 0 "one" ⟨141, 14, 141, 17⟩) .nil) .nil ⟨141, 4, 141, 18⟩) ⟨141, 4, 141, 18⟩)
  (.cons (.expr (.call 16 "need_step" ⟨142, 4, 142, 13⟩ (.cons (.var 1 "other" ⟨142, 14, 142, 19⟩) .nil) .nil ⟨142, 4, 142, 20⟩) ⟨142, 4, 142, 20⟩)
  (.cons (.ret (.call 17 "own_clash" ⟨143, 11, 143, 20⟩ (.cons (.var 0 "one" ⟨143, 21, 143, 24⟩) (.cons (.var 1 "other" ⟨143, 26, 143, 31⟩) .nil)) .nil ⟨143, 11, 143, 32⟩) ⟨143, 4, 143, 32⟩)
  .nil)))
def d_steps_clash : Df := ⟨"steps_clash", ["one", "other"], ["one", "other"], [], defScope (top 48), d_steps_clash_b⟩
/-- _law_mixed: 0 _law_drawn, 1 _law_k -/
def d_law_mixed_b : CSs := (.cons (.asg (.name 0 "_law_drawn" ⟨146, 4, 146, 14⟩) (.bin .Mod (.blt .int ⟨146, 17, 146, 20⟩ (.cons (.bin .Pow (.bin .Add (.bin .Add (.bin .Add (.bin .Mod (.blt .int ⟨146, 22, 146, 25⟩ (.cons (.brw 0 "_law_drawn" ⟨146, 26, 146, 36⟩) .nil) ⟨146, 22, 146, 37⟩) (.cst (.int 2147483647) 0 ⟨146, 40, 146, 50⟩) ⟨146, 22, 146, 50⟩) (.bin .Mult (.bin .Mult (.cst (.int 7919) 0 ⟨146, 53, 146, 57⟩) (.brw 1 "_law_k" ⟨146, 60, 146, 66⟩) ⟨146, 53, 146, 66⟩) (.brw 1 "_law_k" ⟨146, 69, 146, 75⟩) ⟨146, 53, 146, 75⟩) ⟨146, 22, 146, 75⟩) (.bin .Mult (.cst (.int 31) 0 ⟨146, 78, 146, 80⟩) (.brw 1 "_law_k" ⟨146, 83, 146, 89⟩) ⟨146, 78, 146, 89⟩) ⟨146, 22, 146, 89⟩) (.cst (.int 5) 0 ⟨146, 92, 146, 93⟩) ⟨146, 22, 146, 93⟩) (.cst (.int 5) 0 ⟨146, 98, 146, 99⟩) ⟨146, 21, 146, 99⟩) .nil) ⟨146, 17, 146, 100⟩) (.cst (.int 2147483629) 0 ⟨146, 103, 146, 113⟩) ⟨146, 17, 146, 113⟩) ⟨146, 4, 146, 113⟩)
  (.cons (.ret (.bin .FloorDiv (.bin .Mod (.blt .int ⟨147, 11, 147, 14⟩ (.cons (.bin .Mult (.brw 0 "_law_drawn" ⟨147, 15, 147, 25⟩) (.bin .Add (.cst (.int 48271) 0 ⟨147, 29, 147, 34⟩) (.bin .Mult (.cst (.int 2) 0 ⟨147, 37, 147, 38⟩) (.brw 1 "_law_k" ⟨147, 41, 147, 47⟩) ⟨147, 37, 147, 47⟩) ⟨147, 29, 147, 47⟩) ⟨147, 15, 147, 48⟩) .nil) ⟨147, 11, 147, 49⟩) (.cst (.int 2147483587) 0 ⟨147, 52, 147, 62⟩) ⟨147, 11, 147, 62⟩) (.cst (.int 7) 0 ⟨147, 66, 147, 67⟩) ⟨147, 11, 147, 67⟩) ⟨147, 4, 147, 67⟩)
  .nil))
def d_law_mixed : Df := ⟨"_law_mixed", ["_law_drawn", "_law_k"], ["_law_drawn", "_law_k"], [], defScope (top 50), d_law_mixed_b⟩
/-- _law_take: 0 _law_stream, 1 _law_many, 2 _law_cell, 3 _law_drawn -/
def d_law_take_b : CSs := (.cons (.setI 0 "_law_stream" ⟨149, 4, 149, 15⟩ (.cst (.int 2) 0 ⟨149, 16, 149, 17⟩) (.bin .Add (.pth 0 "_law_stream" ⟨149, 21, 149, 32⟩ (.cst (.int 2) 0 ⟨149, 33, 149, 34⟩) ⟨149, 21, 149, 35⟩) (.cst (.int 1) 0 ⟨149, 38, 149, 39⟩) ⟨149, 21, 149, 39⟩) ⟨149, 4, 149, 18⟩ ⟨149, 4, 149, 39⟩)
  (.cons (.ife (.bop .And (.cons (.cmp .Lt (.pth 0 "_law_stream" ⟨150, 7, 150, 18⟩ (.cst (.int 1) 0 ⟨150, 19, 150, 20⟩) ⟨150, 7, 150, 21⟩) (.cst (.int 2) 0 ⟨150, 24, 150, 25⟩) ⟨150, 7, 150, 25⟩) (.cons (.cmp .NotEq (.pth 0 "_law_stream" ⟨150, 30, 150, 41⟩ (.cst (.int 0) 0 ⟨150, 42, 150, 43⟩) ⟨150, 30, 150, 44⟩) (.lst .nil ⟨150, 48, 150, 50⟩) ⟨150, 30, 150, 50⟩) .nil)) ⟨150, 7, 150, 50⟩) (.cons (.asg (.name 2 "_law_cell" ⟨151, 8, 151, 17⟩) (.popAt 0 "_law_stream" ⟨151, 20, 151, 31⟩ (.cst (.int 0) 0 ⟨151, 32, 151, 33⟩) ⟨151, 20, 151, 34⟩ (.cst (.int 0) 0 ⟨151, 39, 151, 40⟩) ⟨151, 20, 151, 38⟩ ⟨151, 20, 151, 41⟩) ⟨151, 8, 151, 41⟩)
    (.cons (.setI 0 "_law_stream" ⟨152, 8, 152, 19⟩ (.cst (.int 1) 0 ⟨152, 20, 152, 21⟩) (.ifx (.cmp .GtE (.brw 2 "_law_cell" ⟨152, 38, 152, 47⟩) (.bin .Pow (.cst (.int 10) 0 ⟨152, 51, 152, 53⟩) (.cst (.int 18) 0 ⟨152, 57, 152, 59⟩) ⟨152, 51, 152, 59⟩) ⟨152, 38, 152, 59⟩) (.var 2 "_law_cell" ⟨152, 25, 152, 34⟩) (.cst (.int 0) 0 ⟨152, 65, 152, 66⟩) ⟨152, 25, 152, 66⟩) ⟨152, 8, 152, 22⟩ ⟨152, 8, 152, 66⟩)
    (.cons (.setI 0 "_law_stream" ⟨153, 8, 153, 19⟩ (.cst (.int 3) 0 ⟨153, 20, 153, 21⟩) (.call 18 "_law_mixed" ⟨153, 25, 153, 35⟩ (.cons (.bin .Add (.pth 0 "_law_stream" ⟨153, 36, 153, 47⟩ (.cst (.int 3) 0 ⟨153, 48, 153, 49⟩) ⟨153, 36, 153, 50⟩) (.brw 2 "_law_cell" ⟨153, 53, 153, 62⟩) ⟨153, 36, 153, 62⟩) (.cons (.pth 0 "_law_stream" ⟨153, 64, 153, 75⟩ (.cst (.int 2) 0 ⟨153, 76, 153, 77⟩) ⟨153, 64, 153, 78⟩) .nil)) .nil ⟨153, 25, 153, 79⟩) ⟨153, 8, 153, 22⟩ ⟨153, 8, 153, 79⟩)
    .nil))) .nil ⟨150, 4, 153, 79⟩)
  (.cons (.ife (.cmp .Gt (.pth 0 "_law_stream" ⟨154, 7, 154, 18⟩ (.cst (.int 1) 0 ⟨154, 19, 154, 20⟩) ⟨154, 7, 154, 21⟩) (.cst (.int 1) 0 ⟨154, 24, 154, 25⟩) ⟨154, 7, 154, 25⟩) (.cons (.asg (.name 3 "_law_drawn" ⟨155, 8, 155, 18⟩) (.bin .Mod (.blt .int ⟨155, 21, 155, 24⟩ (.cons (.pth 0 "_law_stream" ⟨155, 25, 155, 36⟩ (.cst (.int 1) 0 ⟨155, 37, 155, 38⟩) ⟨155, 25, 155, 39⟩) .nil) ⟨155, 21, 155, 40⟩) (.brw 1 "_law_many" ⟨155, 43, 155, 52⟩) ⟨155, 21, 155, 52⟩) ⟨155, 8, 155, 52⟩)
    (.cons (.setI 0 "_law_stream" ⟨156, 8, 156, 19⟩ (.cst (.int 1) 0 ⟨156, 20, 156, 21⟩) (.bin .FloorDiv (.pth 0 "_law_stream" ⟨156, 25, 156, 36⟩ (.cst (.int 1) 0 ⟨156, 37, 156, 38⟩) ⟨156, 25, 156, 39⟩) (.brw 1 "_law_many" ⟨156, 43, 156, 52⟩) ⟨156, 25, 156, 52⟩) ⟨156, 8, 156, 22⟩ ⟨156, 8, 156, 52⟩)
    (.cons (.ret (.var 3 "_law_drawn" ⟨157, 15, 157, 25⟩) ⟨157, 8, 157, 25⟩)
    .nil))) .nil ⟨154, 4, 157, 25⟩)
  (.cons (.ret (.bin .Mod (.bin .FloorDiv (.call 18 "_law_mixed" ⟨158, 11, 158, 21⟩ (.cons (.bin .Add (.pth 0 "_law_stream" ⟨158, 22, 158, 33⟩ (.cst (.int 3) 0 ⟨158, 34, 158, 35⟩) ⟨158, 22, 158, 36⟩) (.bin .Mult (.cst (.int 104729) 0 ⟨158, 39, 158, 45⟩) (.pth 0 "_law_stream" ⟨158, 48, 158, 59⟩ (.cst (.int 2) 0 ⟨158, 60, 158, 61⟩) ⟨158, 48, 158, 62⟩) ⟨158, 39, 158, 62⟩) ⟨158, 22, 158, 62⟩) (.cons (.pth 0 "_law_stream" ⟨158, 64, 158, 75⟩ (.cst (.int 2) 0 ⟨158, 76, 158, 77⟩) ⟨158, 64, 158, 78⟩) .nil)) .nil ⟨158, 11, 158, 79⟩) (.cst (.int 11) 0 ⟨158, 83, 158, 85⟩) ⟨158, 11, 158, 85⟩) (.brw 1 "_law_many" ⟨158, 88, 158, 97⟩) ⟨158, 11, 158, 97⟩) ⟨158, 4, 158, 97⟩)
  .nil))))
def d_law_take : Df := ⟨"_law_take", ["_law_stream", "_law_many"], ["_law_stream", "_law_many", "_law_cell", "_law_drawn"], [0], defScope (top 51), d_law_take_b⟩
/-- _law_of: 0 _law_stream, 1 _law_some -/
def d_law_of_b : CSs := (.cons (.ret (.idx (.var 1 "_law_some" ⟨160, 11, 160, 20⟩) (.call 19 "_law_take" ⟨160, 21, 160, 30⟩ (.cons (.ref 0 "_law_stream" ⟨160, 31, 160, 42⟩) (.cons (.blt .len ⟨160, 44, 160, 47⟩ (.cons (.brw 1 "_law_some" ⟨160, 48, 160, 57⟩) .nil) ⟨160, 44, 160, 58⟩) .nil)) .nil ⟨160, 21, 160, 59⟩) ⟨160, 11, 160, 60⟩) ⟨160, 4, 160, 60⟩)
  .nil)
def d_law_of : Df := ⟨"_law_of", ["_law_stream", "_law_some"], ["_law_stream", "_law_some"], [0], defScope (top 52), d_law_of_b⟩
/-- _law_comb: 0 _law_begin, 1 _law_wide, 2 _law_rows, 3 _law_pitch -/
def d_law_comb_b : CSs := (.cons (.ret (.tup (.cons (.var 0 "_law_begin" ⟨162, 12, 162, 22⟩) (.cons (.var 1 "_law_wide" ⟨162, 24, 162, 33⟩) (.cons (.var 2 "_law_rows" ⟨162, 35, 162, 44⟩) (.cons (.ifx (.cmp .Gt (.brw 2 "_law_rows" ⟨162, 60, 162, 69⟩) (.cst (.int 1) 0 ⟨162, 72, 162, 73⟩) ⟨162, 60, 162, 73⟩) (.var 3 "_law_pitch" ⟨162, 46, 162, 56⟩) (.var 1 "_law_wide" ⟨162, 79, 162, 88⟩) ⟨162, 46, 162, 88⟩) .nil)))) 0 ⟨162, 11, 162, 89⟩) ⟨162, 4, 162, 89⟩)
  .nil)
def d_law_comb : Df := ⟨"_law_comb", ["_law_begin", "_law_wide", "_law_rows", "_law_pitch"], ["_law_begin", "_law_wide", "_law_rows", "_law_pitch"], [], defScope (top 53), d_law_comb_b⟩
def d_law_shared_l0 : CSs := (.cons (.asg (.name 12 "_law_shift" ⟨169, 8, 169, 18⟩) (.bin .Add (.brw 0 "_law_gap" ⟨169, 21, 169, 29⟩) (.bin .Mult (.brw 11 "_law_m" ⟨169, 32, 169, 38⟩) (.brw 1 "_law_pitch" ⟨169, 41, 169, 51⟩) ⟨169, 32, 169, 51⟩) ⟨169, 21, 169, 51⟩) ⟨169, 8, 169, 51⟩)
    (.cons (.asg (.name 13 "_law_own" ⟨170, 8, 170, 16⟩) (.bin .Sub (.blt .min2 ⟨170, 19, 170, 22⟩ (.cons (.brw 4 "_law_wide" ⟨170, 23, 170, 32⟩) (.cons (.bin .Add (.brw 12 "_law_shift" ⟨170, 34, 170, 44⟩) (.brw 6 "_law_far" ⟨170, 47, 170, 55⟩) ⟨170, 34, 170, 55⟩) .nil)) ⟨170, 19, 170, 56⟩) (.blt .max2 ⟨170, 59, 170, 62⟩ (.cons (.cst (.int 0) 0 ⟨170, 63, 170, 64⟩) (.cons (.brw 12 "_law_shift" ⟨170, 66, 170, 76⟩) .nil)) ⟨170, 59, 170, 77⟩) ⟨170, 19, 170, 77⟩) ⟨170, 8, 170, 77⟩)
    (.cons (.asg (.name 10 "_law_found" ⟨171, 8, 171, 18⟩) (.bin .Add (.brw 10 "_law_found" ⟨171, 21, 171, 31⟩) (.bin .Mult (.brw 13 "_law_own" ⟨171, 34, 171, 42⟩) (.bin .Add (.bin .Sub (.blt .min2 ⟨171, 46, 171, 49⟩ (.cons (.bin .Sub (.brw 5 "_law_rows" ⟨171, 50, 171, 59⟩) (.cst (.int 1) 0 ⟨171, 62, 171, 63⟩) ⟨171, 50, 171, 63⟩) (.cons (.bin .Sub (.bin .Sub (.brw 7 "_law_more" ⟨171, 65, 171, 74⟩) (.cst (.int 1) 0 ⟨171, 77, 171, 78⟩) ⟨171, 65, 171, 78⟩) (.brw 11 "_law_m" ⟨171, 81, 171, 87⟩) ⟨171, 65, 171, 87⟩) .nil)) ⟨171, 46, 171, 88⟩) (.blt .max2 ⟨171, 91, 171, 94⟩ (.cons (.cst (.int 0) 0 ⟨171, 95, 171, 96⟩) (.cons (.bin .Sub (.cst (.int 0) 0 ⟨171, 98, 171, 99⟩) (.brw 11 "_law_m" ⟨171, 102, 171, 108⟩) ⟨171, 98, 171, 108⟩) .nil)) ⟨171, 91, 171, 109⟩) ⟨171, 46, 171, 109⟩) (.cst (.int 1) 0 ⟨171, 112, 171, 113⟩) ⟨171, 46, 171, 113⟩) ⟨171, 34, 171, 114⟩) ⟨171, 21, 171, 114⟩) ⟨171, 8, 171, 114⟩)
    .nil)))
/-- _law_shared: 0 _law_gap, 1 _law_pitch, 2 _law_first, 3 _law_second, 4 _law_wide, 5 _law_rows, 6 _law_far, 7 _law_more, 8 _law_least, 9 _law_most, 10 _law_found, 11 _law_m, 12 _law_shift, 13 _law_own -/
def d_law_shared_b : CSs := (.cons (.asg (.tup (.cons (.tup (.cons (.name 4 "_law_wide" ⟨164, 5, 164, 14⟩) (.cons (.name 5 "_law_rows" ⟨164, 16, 164, 25⟩) .nil)) 0 ⟨164, 4, 164, 26⟩) (.cons (.tup (.cons (.name 6 "_law_far" ⟨164, 29, 164, 37⟩) (.cons (.name 7 "_law_more" ⟨164, 39, 164, 48⟩) .nil)) 0 ⟨164, 28, 164, 49⟩) .nil)) 0 ⟨164, 4, 164, 49⟩) (.tup (.cons (.var 2 "_law_first" ⟨164, 53, 164, 63⟩) (.cons (.var 3 "_law_second" ⟨164, 65, 164, 76⟩) .nil)) 0 ⟨164, 52, 164, 77⟩) ⟨164, 4, 164, 77⟩)
  (.cons (.asg (.name 8 "_law_least" ⟨165, 4, 165, 14⟩) (.blt .max2 ⟨165, 17, 165, 20⟩ (.cons (.bin .Sub (.cst (.int 1) 0 ⟨165, 21, 165, 22⟩) (.brw 5 "_law_rows" ⟨165, 25, 165, 34⟩) ⟨165, 21, 165, 34⟩) (.cons (.bin .Sub (.cst (.int 0) 0 ⟨165, 36, 165, 37⟩) (.bin .FloorDiv (.bin .Sub (.bin .Add (.brw 6 "_law_far" ⟨165, 41, 165, 49⟩) (.brw 0 "_law_gap" ⟨165, 52, 165, 60⟩) ⟨165, 41, 165, 60⟩) (.cst (.int 1) 0 ⟨165, 63, 165, 64⟩) ⟨165, 41, 165, 64⟩) (.brw 1 "_law_pitch" ⟨165, 69, 165, 79⟩) ⟨165, 40, 165, 79⟩) ⟨165, 36, 165, 79⟩) .nil)) ⟨165, 17, 165, 80⟩) ⟨165, 4, 165, 80⟩)
  (.cons (.asg (.name 9 "_law_most" ⟨166, 4, 166, 13⟩) (.blt .min2 ⟨166, 16, 166, 19⟩ (.cons (.bin .Sub (.brw 7 "_law_more" ⟨166, 20, 166, 29⟩) (.cst (.int 1) 0 ⟨166, 32, 166, 33⟩) ⟨166, 20, 166, 33⟩) (.cons (.bin .FloorDiv (.bin .Sub (.bin .Sub (.brw 4 "_law_wide" ⟨166, 36, 166, 45⟩) (.cst (.int 1) 0 ⟨166, 48, 166, 49⟩) ⟨166, 36, 166, 49⟩) (.brw 0 "_law_gap" ⟨166, 52, 166, 60⟩) ⟨166, 36, 166, 60⟩) (.brw 1 "_law_pitch" ⟨166, 65, 166, 75⟩) ⟨166, 35, 166, 75⟩) .nil)) ⟨166, 16, 166, 76⟩) ⟨166, 4, 166, 76⟩)
  (.cons (.asg (.name 10 "_law_found" ⟨167, 4, 167, 14⟩) (.cst (.int 0) 0 ⟨167, 17, 167, 18⟩) ⟨167, 4, 167, 18⟩)
  (.cons (.forr (.name 11 "_law_m" ⟨168, 8, 168, 14⟩) (.rng2 ⟨168, 18, 168, 23⟩ (.brw 8 "_law_least" ⟨168, 24, 168, 34⟩) (.bin .Add (.brw 9 "_law_most" ⟨168, 36, 168, 45⟩) (.cst (.int 1) 0 ⟨168, 48, 168, 49⟩) ⟨168, 36, 168, 49⟩) ⟨168, 18, 168, 50⟩) d_law_shared_l0 ⟨168, 4, 171, 114⟩)
  (.cons (.ret (.var 10 "_law_found" ⟨172, 11, 172, 21⟩) ⟨172, 4, 172, 21⟩)
  .nil))))))
def d_law_shared : Df := ⟨"_law_shared", ["_law_gap", "_law_pitch", "_law_first", "_law_second"], ["_law_gap", "_law_pitch", "_law_first", "_law_second", "_law_wide", "_law_rows", "_law_far", "_law_more", "_law_least", "_law_most", "_law_found", "_law_m", "_law_shift", "_law_own"], [], defScope (top 54), d_law_shared_b⟩
def d_law_two_right_c0 : CE := (.lc (.var 14 "_law_cell" ⟨182, 12, 182, 21⟩) (.name 14 "_law_cell" ⟨182, 26, 182, 35⟩) (.seq (.call 22 "cells_of" ⟨182, 39, 182, 47⟩ (.cons (.var 6 "_law_one" ⟨182, 48, 182, 56⟩) .nil) .nil ⟨182, 39, 182, 57⟩)) (.cons (.cmp .In (.brw 14 "_law_cell" ⟨182, 61, 182, 70⟩) (.brw 9 "_law_its" ⟨182, 74, 182, 82⟩) ⟨182, 61, 182, 82⟩) .nil) { kind := PySem.ScopeKind.function, names := [ (PySem.Str.ofString ".0", PySem.NameKind.local), (PySem.Str.ofString "_law_cell", PySem.NameKind.local), (PySem.Str.ofString "_law_its", PySem.NameKind.free)], isGenerator := false, isCoroutine := false, more := [] : PySem.Scope } [("_law_cell", 14)] ⟨182, 11, 182, 83⟩)
@[simp] theorem d_law_two_right_c0_p : d_law_two_right_c0.pure = true := rfl
@[simp] theorem d_law_two_right_c0_a {D : Den} {es : CEs} {S : Slots} : eva D (.cons d_law_two_right_c0 es) S = (ev D d_law_two_right_c0 S).bind fun q => match q.1.1 with | .own _ => (eva D es q.2).map fun t => (.val q.1.2 :: t.1, t.2) | .bor => none := rfl
def d_law_two_right_c1 : CE := (.lc (.var 14 "_law_cell" ⟨192, 24, 192, 33⟩) (.name 14 "_law_cell" ⟨192, 38, 192, 47⟩) (.seq (.call 22 "cells_of" ⟨192, 51, 192, 59⟩ (.cons (.var 11 "_law_later" ⟨192, 60, 192, 70⟩) .nil) .nil ⟨192, 51, 192, 71⟩)) (.cons (.cmp .In (.brw 14 "_law_cell" ⟨192, 75, 192, 84⟩) (.brw 12 "_law_mine" ⟨192, 88, 192, 97⟩) ⟨192, 75, 192, 97⟩) .nil) { kind := PySem.ScopeKind.function, names := [ (PySem.Str.ofString ".0", PySem.NameKind.local), (PySem.Str.ofString "_law_cell", PySem.NameKind.local), (PySem.Str.ofString "_law_mine", PySem.NameKind.free)], isGenerator := false, isCoroutine := false, more := [] : PySem.Scope } [("_law_cell", 14)] ⟨192, 23, 192, 98⟩)
@[simp] theorem d_law_two_right_c1_p : d_law_two_right_c1.pure = true := rfl
@[simp] theorem d_law_two_right_c1_a {D : Den} {es : CEs} {S : Slots} : eva D (.cons d_law_two_right_c1 es) S = (ev D d_law_two_right_c1 S).bind fun q => match q.1.1 with | .own _ => (eva D es q.2).map fun t => (.val q.1.2 :: t.1, t.2) | .bor => none := rfl
/-- _law_two_right: 0 _law_stream, 1 _law_pitch, 2 _law_first, 3 _law_second, 4 _law_begin, 5 _law_gap, 6 _law_one, 7 _law_other, 8 _law_due, 9 _law_its, 10 _law_told, 11 _law_later, 12 _law_mine, 13 _law_shared_here, 14 _law_cell -/
def d_law_two_right_b : CSs := (.cons (.asg (.name 1 "_law_pitch" ⟨174, 4, 174, 14⟩) (.bin .Add (.cst (.int 1) 0 ⟨174, 17, 174, 18⟩) (.call 19 "_law_take" ⟨174, 21, 174, 30⟩ (.cons (.ref 0 "_law_stream" ⟨174, 31, 174, 42⟩) (.cons (.cst (.int 12) 0 ⟨174, 44, 174, 46⟩) .nil)) .nil ⟨174, 21, 174, 47⟩) ⟨174, 17, 174, 47⟩) ⟨174, 4, 174, 47⟩)
  (.cons (.asg (.name 2 "_law_first" ⟨175, 4, 175, 14⟩) (.tup (.cons (.bin .Add (.cst (.int 1) 0 ⟨175, 18, 175, 19⟩) (.call 19 "_law_take" ⟨175, 22, 175, 31⟩ (.cons (.ref 0 "_law_stream" ⟨175, 32, 175, 43⟩) (.cons (.var 1 "_law_pitch" ⟨175, 45, 175, 55⟩) .nil)) .nil ⟨175, 22, 175, 56⟩) ⟨175, 18, 175, 56⟩) (.cons (.bin .Add (.cst (.int 1) 0 ⟨175, 58, 175, 59⟩) (.call 19 "_law_take" ⟨175, 62, 175, 71⟩ (.cons (.ref 0 "_law_stream" ⟨175, 72, 175, 83⟩) (.cons (.cst (.int 6) 0 ⟨175, 85, 175, 86⟩) .nil)) .nil ⟨175, 62, 175, 87⟩) ⟨175, 58, 175, 87⟩) .nil)) 0 ⟨175, 17, 175, 88⟩) ⟨175, 4, 175, 88⟩)
  (.cons (.asg (.name 3 "_law_second" ⟨176, 4, 176, 15⟩) (.tup (.cons (.bin .Add (.cst (.int 1) 0 ⟨176, 19, 176, 20⟩) (.call 19 "_law_take" ⟨176, 23, 176, 32⟩ (.cons (.ref 0 "_law_stream" ⟨176, 33, 176, 44⟩) (.cons (.var 1 "_law_pitch" ⟨176, 46, 176, 56⟩) .nil)) .nil ⟨176, 23, 176, 57⟩) ⟨176, 19, 176, 57⟩) (.cons (.bin .Add (.cst (.int 1) 0 ⟨176, 59, 176, 60⟩) (.call 19 "_law_take" ⟨176, 63, 176, 72⟩ (.cons (.ref 0 "_law_stream" ⟨176, 73, 176, 84⟩) (.cons (.cst (.int 6) 0 ⟨176, 86, 176, 87⟩) .nil)) .nil ⟨176, 63, 176, 88⟩) ⟨176, 59, 176, 88⟩) .nil)) 0 ⟨176, 18, 176, 89⟩) ⟨176, 4, 176, 89⟩)
  (.cons (.par 4 5 "_law_begin" "_law_gap" ⟨177, 4, 177, 14⟩ ⟨177, 16, 177, 24⟩ 0 ⟨177, 4, 177, 24⟩ (.call 20 "_law_of" ⟨177, 28, 177, 35⟩ (.cons (.ref 0 "_law_stream" ⟨177, 36, 177, 47⟩) (.cons (.lst (.cons (.cst (.int 0) 0 ⟨177, 50, 177, 51⟩) (.cons (.call 19 "_law_take" ⟨177, 53, 177, 62⟩ (.cons (.ref 0 "_law_stream" ⟨177, 63, 177, 74⟩) (.cons (.cst (.int 30) 0 ⟨177, 76, 177, 78⟩) .nil)) .nil ⟨177, 53, 177, 79⟩) (.cons (.cst (.int 850) 0 ⟨177, 81, 177, 84⟩) .nil))) ⟨177, 49, 177, 85⟩) .nil)) .nil ⟨177, 28, 177, 86⟩) (.bin .Sub (.call 19 "_law_take" ⟨177, 88, 177, 97⟩ (.cons (.ref 0 "_law_stream" ⟨177, 98, 177, 109⟩) (.cons (.cst (.int 100) 0 ⟨177, 111, 177, 114⟩) .nil)) .nil ⟨177, 88, 177, 115⟩) (.cst (.int 20) 0 ⟨177, 118, 177, 120⟩) ⟨177, 88, 177, 120⟩) 0 ⟨177, 27, 177, 121⟩ ⟨177, 4, 177, 121⟩)
  (.cons (.asg (.name 4 "_law_begin" ⟨178, 4, 178, 14⟩) (.blt .max2 ⟨178, 17, 178, 20⟩ (.cons (.brw 4 "_law_begin" ⟨178, 21, 178, 31⟩) (.cons (.bin .Sub (.cst (.int 0) 0 ⟨178, 33, 178, 34⟩) (.brw 5 "_law_gap" ⟨178, 37, 178, 45⟩) ⟨178, 33, 178, 45⟩) .nil)) ⟨178, 17, 178, 46⟩) ⟨178, 4, 178, 46⟩)
  (.cons (.asg (.name 6 "_law_one" ⟨179, 4, 179, 12⟩) (.call 21 "_law_comb" ⟨179, 15, 179, 24⟩ (.cons (.var 4 "_law_begin" ⟨179, 25, 179, 35⟩) (.cons (.idx (.brw 2 "_law_first" ⟨179, 37, 179, 47⟩) (.cst (.int 0) 0 ⟨179, 48, 179, 49⟩) ⟨179, 37, 179, 50⟩) (.cons (.idx (.brw 2 "_law_first" ⟨179, 52, 179, 62⟩) (.cst (.int 1) 0 ⟨179, 63, 179, 64⟩) ⟨179, 52, 179, 65⟩) (.cons (.var 1 "_law_pitch" ⟨179, 67, 179, 77⟩) .nil)))) .nil ⟨179, 15, 179, 78⟩) ⟨179, 4, 179, 78⟩)
  (.cons (.asg (.name 7 "_law_other" ⟨180, 4, 180, 14⟩) (.call 21 "_law_comb" ⟨180, 17, 180, 26⟩ (.cons (.bin .Add (.brw 4 "_law_begin" ⟨180, 27, 180, 37⟩) (.brw 5 "_law_gap" ⟨180, 40, 180, 48⟩) ⟨180, 27, 180, 48⟩) (.cons (.idx (.brw 3 "_law_second" ⟨180, 50, 180, 61⟩) (.cst (.int 0) 0 ⟨180, 62, 180, 63⟩) ⟨180, 50, 180, 64⟩) (.cons (.idx (.brw 3 "_law_second" ⟨180, 66, 180, 77⟩) (.cst (.int 1) 0 ⟨180, 78, 180, 79⟩) ⟨180, 66, 180, 80⟩) (.cons (.var 1 "_law_pitch" ⟨180, 82, 180, 92⟩) .nil)))) .nil ⟨180, 17, 180, 93⟩) ⟨180, 4, 180, 93⟩)
  (.cons (.asg (.tup (.cons (.name 8 "_law_due" ⟨181, 4, 181, 12⟩) (.cons (.name 9 "_law_its" ⟨181, 14, 181, 22⟩) .nil)) 0 ⟨181, 4, 181, 22⟩) (.tup (.cons (.call 23 "_law_shared" ⟨181, 26, 181, 37⟩ (.cons (.var 5 "_law_gap" ⟨181, 38, 181, 46⟩) (.cons (.var 1 "_law_pitch" ⟨181, 48, 181, 58⟩) (.cons (.var 2 "_law_first" ⟨181, 60, 181, 70⟩) (.cons (.var 3 "_law_second" ⟨181, 72, 181, 83⟩) .nil)))) .nil ⟨181, 26, 181, 84⟩) (.cons (.call 22 "cells_of" ⟨181, 86, 181, 94⟩ (.cons (.var 7 "_law_other" ⟨181, 95, 181, 105⟩) .nil) .nil ⟨181, 86, 181, 106⟩) .nil)) 0 ⟨181, 25, 181, 107⟩) ⟨181, 4, 181, 107⟩)
  (.cons (.ife (.cmp .NotEq (.blt .len ⟨182, 7, 182, 10⟩ (.cons d_law_two_right_c0 .nil) ⟨182, 7, 182, 84⟩) (.brw 8 "_law_due" ⟨182, 88, 182, 96⟩) ⟨182, 7, 182, 96⟩) (.cons (.ret (.cst (.bool false) 0 ⟨183, 15, 183, 20⟩) ⟨183, 8, 183, 20⟩)
    .nil) .nil ⟨182, 4, 183, 20⟩)
  (.cons (.asg (.name 10 "_law_told" ⟨184, 4, 184, 13⟩) (.lst (.cons (.call 24 "they_meet" ⟨184, 17, 184, 26⟩ (.cons (.var 6 "_law_one" ⟨184, 27, 184, 35⟩) (.cons (.var 7 "_law_other" ⟨184, 37, 184, 47⟩) .nil)) .nil ⟨184, 17, 184, 48⟩) (.cons (.call 24 "they_meet" ⟨184, 50, 184, 59⟩ (.cons (.var 7 "_law_other" ⟨184, 60, 184, 70⟩) (.cons (.var 6 "_law_one" ⟨184, 72, 184, 80⟩) .nil)) .nil ⟨184, 50, 184, 81⟩) .nil)) ⟨184, 16, 184, 82⟩) ⟨184, 4, 184, 82⟩)
  (.cons (.app 10 "_law_told" ⟨185, 4, 185, 13⟩ ⟨185, 4, 185, 20⟩ (.call 25 "steps_clash" ⟨185, 21, 185, 32⟩ (.cons (.tup (.cons (.cst (.str "fill") 0 ⟨185, 34, 185, 40⟩) (.cons (.var 6 "_law_one" ⟨185, 42, 185, 50⟩) (.cons (.cst (.int 1) 0 ⟨185, 52, 185, 53⟩) (.cons (.cst (.int 0) 0 ⟨185, 55, 185, 56⟩) .nil)))) 0 ⟨185, 33, 185, 57⟩) (.cons (.tup (.cons (.cst (.str "fill") 0 ⟨185, 60, 185, 66⟩) (.cons (.var 7 "_law_other" ⟨185, 68, 185, 78⟩) (.cons (.cst (.int 2) 0 ⟨185, 80, 185, 81⟩) (.cons (.cst (.int 0) 0 ⟨185, 83, 185, 84⟩) .nil)))) 0 ⟨185, 59, 185, 85⟩) .nil)) .nil ⟨185, 21, 185, 86⟩) ⟨185, 4, 185, 87⟩ ⟨185, 4, 185, 87⟩)
  (.cons (.app 10 "_law_told" ⟨186, 4, 186, 13⟩ ⟨186, 4, 186, 20⟩ (.call 25 "steps_clash" ⟨186, 21, 186, 32⟩ (.cons (.tup (.cons (.cst (.str "add") 0 ⟨186, 34, 186, 39⟩) (.cons (.var 6 "_law_one" ⟨186, 41, 186, 49⟩) (.cons (.var 4 "_law_begin" ⟨186, 51, 186, 61⟩) .nil))) 0 ⟨186, 33, 186, 62⟩) (.cons (.tup (.cons (.cst (.str "fill") 0 ⟨186, 65, 186, 71⟩) (.cons (.var 7 "_law_other" ⟨186, 73, 186, 83⟩) (.cons (.cst (.int 2) 0 ⟨186, 85, 186, 86⟩) (.cons (.cst (.int 0) 0 ⟨186, 88, 186, 89⟩) .nil)))) 0 ⟨186, 64, 186, 90⟩) .nil)) .nil ⟨186, 21, 186, 91⟩) ⟨186, 4, 186, 92⟩ ⟨186, 4, 186, 92⟩)
  (.cons (.ife (.cmp .NotEq (.blt .repr ⟨187, 7, 187, 11⟩ (.cons (.brw 10 "_law_told" ⟨187, 12, 187, 21⟩) .nil) ⟨187, 7, 187, 22⟩) (.blt .repr ⟨187, 26, 187, 30⟩ (.cons (.bin .Mult (.lst (.cons (.cmp .Gt (.brw 8 "_law_due" ⟨187, 32, 187, 40⟩) (.cst (.int 0) 0 ⟨187, 43, 187, 44⟩) ⟨187, 32, 187, 44⟩) .nil) ⟨187, 31, 187, 45⟩) (.cst (.int 4) 0 ⟨187, 48, 187, 49⟩) ⟨187, 31, 187, 49⟩) .nil) ⟨187, 26, 187, 50⟩) ⟨187, 7, 187, 50⟩) (.cons (.ret (.cst (.bool false) 0 ⟨188, 15, 188, 20⟩) ⟨188, 8, 188, 20⟩)
    .nil) .nil ⟨187, 4, 188, 20⟩)
  (.cons (.ife (.cmp .IsNot (.call 25 "steps_clash" ⟨189, 7, 189, 18⟩ (.cons (.tup (.cons (.cst (.str "add") 0 ⟨189, 20, 189, 25⟩) (.cons (.var 6 "_law_one" ⟨189, 27, 189, 35⟩) (.cons (.cst (.int 1020) 0 ⟨189, 37, 189, 41⟩) .nil))) 0 ⟨189, 19, 189, 42⟩) (.cons (.tup (.cons (.cst (.str "add") 0 ⟨189, 45, 189, 50⟩) (.cons (.var 7 "_law_other" ⟨189, 52, 189, 62⟩) (.cons (.cst (.int 1021) 0 ⟨189, 64, 189, 68⟩) .nil))) 0 ⟨189, 44, 189, 69⟩) .nil)) .nil ⟨189, 7, 189, 70⟩) (.cst (.bool false) 0 ⟨189, 78, 189, 83⟩) ⟨189, 7, 189, 83⟩) (.cons (.ret (.cst (.bool false) 0 ⟨190, 15, 190, 20⟩) ⟨190, 8, 190, 20⟩)
    .nil) .nil ⟨189, 4, 190, 20⟩)
  (.cons (.asg (.tup (.cons (.name 11 "_law_later" ⟨191, 4, 191, 14⟩) (.cons (.name 12 "_law_mine" ⟨191, 16, 191, 25⟩) .nil)) 0 ⟨191, 4, 191, 25⟩) (.tup (.cons (.bin .Add (.tup (.cons (.bin .Add (.idx (.brw 6 "_law_one" ⟨191, 30, 191, 38⟩) (.cst (.int 0) 0 ⟨191, 39, 191, 40⟩) ⟨191, 30, 191, 41⟩) (.brw 1 "_law_pitch" ⟨191, 44, 191, 54⟩) ⟨191, 30, 191, 54⟩) .nil) 0 ⟨191, 29, 191, 56⟩) (.slc (.brw 6 "_law_one" ⟨191, 59, 191, 67⟩) (.is (.cst (.int 1) 0 ⟨191, 68, 191, 69⟩)) .no ⟨191, 68, 191, 70⟩ ⟨191, 59, 191, 71⟩) ⟨191, 29, 191, 71⟩) (.cons (.call 22 "cells_of" ⟨191, 73, 191, 81⟩ (.cons (.var 6 "_law_one" ⟨191, 82, 191, 90⟩) .nil) .nil ⟨191, 73, 191, 91⟩) .nil)) 0 ⟨191, 28, 191, 92⟩) ⟨191, 4, 191, 92⟩)
  (.cons (.asg (.name 13 "_law_shared_here" ⟨192, 4, 192, 20⟩) d_law_two_right_c1 ⟨192, 4, 192, 98⟩)
  (.cons (.ife (.cmp .NotEq (.blt .len ⟨193, 7, 193, 10⟩ (.cons (.brw 13 "_law_shared_here" ⟨193, 11, 193, 27⟩) .nil) ⟨193, 7, 193, 28⟩) (.bin .Mult (.idx (.brw 2 "_law_first" ⟨193, 32, 193, 42⟩) (.cst (.int 0) 0 ⟨193, 43, 193, 44⟩) ⟨193, 32, 193, 45⟩) (.bin .Sub (.idx (.brw 2 "_law_first" ⟨193, 49, 193, 59⟩) (.cst (.int 1) 0 ⟨193, 60, 193, 61⟩) ⟨193, 49, 193, 62⟩) (.cst (.int 1) 0 ⟨193, 65, 193, 66⟩) ⟨193, 49, 193, 66⟩) ⟨193, 32, 193, 67⟩) ⟨193, 7, 193, 67⟩) (.cons (.ret (.cst (.bool false) 0 ⟨194, 15, 194, 20⟩) ⟨194, 8, 194, 20⟩)
    .nil) .nil ⟨193, 4, 194, 20⟩)
  (.cons (.ret (.cmp .Eq (.call 24 "they_meet" ⟨195, 11, 195, 20⟩ (.cons (.var 6 "_law_one" ⟨195, 21, 195, 29⟩) (.cons (.var 11 "_law_later" ⟨195, 31, 195, 41⟩) .nil)) .nil ⟨195, 11, 195, 42⟩) (.cmp .Gt (.idx (.brw 2 "_law_first" ⟨195, 47, 195, 57⟩) (.cst (.int 1) 0 ⟨195, 58, 195, 59⟩) ⟨195, 47, 195, 60⟩) (.cst (.int 1) 0 ⟨195, 63, 195, 64⟩) ⟨195, 47, 195, 64⟩) ⟨195, 11, 195, 65⟩) ⟨195, 4, 195, 65⟩)
  .nil))))))))))))))))))
def d_law_two_right : Df := ⟨"_law_two_right", ["_law_stream"], ["_law_stream", "_law_pitch", "_law_first", "_law_second", "_law_begin", "_law_gap", "_law_one", "_law_other", "_law_due", "_law_its", "_law_told", "_law_later", "_law_mine", "_law_shared_here", "_law_cell"], [0], defScope (top 55), d_law_two_right_b⟩
def d_law_combs_right_l0 : CSs := (.cons (.app 6 "_law_combs" ⟨202, 8, 202, 18⟩ ⟨202, 8, 202, 25⟩ (.call 21 "_law_comb" ⟨202, 26, 202, 35⟩ (.cons (.bin .Add (.brw 5 "_law_begin" ⟨202, 36, 202, 46⟩) (.bin .Mult (.brw 1 "_law_wide" ⟨202, 49, 202, 58⟩) (.brw 7 "_law_k" ⟨202, 61, 202, 67⟩) ⟨202, 49, 202, 67⟩) ⟨202, 36, 202, 67⟩) (.cons (.var 1 "_law_wide" ⟨202, 69, 202, 78⟩) (.cons (.var 3 "_law_rows" ⟨202, 80, 202, 89⟩) (.cons (.var 4 "_law_pitch" ⟨202, 91, 202, 101⟩) .nil)))) .nil ⟨202, 26, 202, 102⟩) ⟨202, 8, 202, 103⟩ ⟨202, 8, 202, 103⟩)
    .nil)
def d_law_combs_right_l1 : CSs := (.cons (.ife (.bop .Or (.cons (.call 24 "they_meet" ⟨207, 15, 207, 24⟩ (.cons (.var 10 "_law_one" ⟨207, 25, 207, 33⟩) (.cons (.var 11 "_law_other" ⟨207, 35, 207, 45⟩) .nil)) .nil ⟨207, 15, 207, 46⟩) (.cons (.call 24 "they_meet" ⟨207, 50, 207, 59⟩ (.cons (.var 11 "_law_other" ⟨207, 60, 207, 70⟩) (.cons (.var 10 "_law_one" ⟨207, 72, 207, 80⟩) .nil)) .nil ⟨207, 50, 207, 81⟩) .nil)) ⟨207, 15, 207, 81⟩) (.cons (.ret (.cst (.bool false) 0 ⟨208, 23, 208, 28⟩) ⟨208, 16, 208, 28⟩)
    .nil) .nil ⟨207, 12, 208, 28⟩)
    .nil)
def d_law_combs_right_c0 : CE := (.lc (.tup (.cons (.cst (.str "fill") 0 ⟨209, 23, 209, 29⟩) (.cons (.var 13 "_law_area" ⟨209, 31, 209, 40⟩) (.cons (.cst (.int 7) 0 ⟨209, 42, 209, 43⟩) (.cons (.cst (.int 0) 0 ⟨209, 45, 209, 46⟩) .nil)))) 0 ⟨209, 22, 209, 47⟩) (.name 13 "_law_area" ⟨209, 52, 209, 61⟩) (.seq (.bin .Add (.slc (.brw 6 "_law_combs" ⟨209, 65, 209, 75⟩) .no (.is (.brw 7 "_law_k" ⟨209, 77, 209, 83⟩)) ⟨209, 76, 209, 83⟩ ⟨209, 65, 209, 84⟩) (.slc (.brw 6 "_law_combs" ⟨209, 87, 209, 97⟩) (.is (.bin .Add (.brw 7 "_law_k" ⟨209, 98, 209, 104⟩) (.cst (.int 1) 0 ⟨209, 107, 209, 108⟩) ⟨209, 98, 209, 108⟩)) .no ⟨209, 98, 209, 109⟩ ⟨209, 87, 209, 110⟩) ⟨209, 65, 209, 110⟩)) .nil { kind := PySem.ScopeKind.function, names := [(PySem.Str.ofString ".0", PySem.NameKind.local), (PySem.Str.ofString "_law_area", PySem.NameKind.local)], isGenerator := false, isCoroutine := false, more := [] : PySem.Scope } [("_law_area", 13)] ⟨209, 21, 209, 111⟩)
@[simp] theorem d_law_combs_right_c0_p : d_law_combs_right_c0.pure = true := rfl
@[simp] theorem d_law_combs_right_c0_a {D : Den} {es : CEs} {S : Slots} : eva D (.cons d_law_combs_right_c0 es) S = (ev D d_law_combs_right_c0 S).bind fun q => match q.1.1 with | .own _ => (eva D es q.2).map fun t => (.val q.1.2 :: t.1, t.2) | .bor => none := rfl
def d_law_combs_right_c1 : CE := (.lc (.cst (.int 1) 0 ⟨210, 12, 210, 13⟩) (.name 14 "_law_step" ⟨210, 18, 210, 27⟩) (.seq (.var 12 "_law_fills" ⟨210, 31, 210, 41⟩)) (.cons (.call 25 "steps_clash" ⟨210, 45, 210, 56⟩ (.cons (.tup (.cons (.cst (.str "fill") 0 ⟨210, 58, 210, 64⟩) (.cons (.var 10 "_law_one" ⟨210, 66, 210, 74⟩) (.cons (.cst (.int 8) 0 ⟨210, 76, 210, 77⟩) (.cons (.cst (.int 0) 0 ⟨210, 79, 210, 80⟩) .nil)))) 0 ⟨210, 57, 210, 81⟩) (.cons (.var 14 "_law_step" ⟨210, 83, 210, 92⟩) .nil)) .nil ⟨210, 45, 210, 93⟩) .nil) { kind := PySem.ScopeKind.function, names := [ (PySem.Str.ofString ".0", PySem.NameKind.local), (PySem.Str.ofString "_law_step", PySem.NameKind.local), (PySem.Str.ofString "steps_clash", PySem.NameKind.globalImplicit), (PySem.Str.ofString "_law_one", PySem.NameKind.free)], isGenerator := false, isCoroutine := false, more := [] : PySem.Scope } [("_law_step", 14)] ⟨210, 11, 210, 94⟩)
@[simp] theorem d_law_combs_right_c1_p : d_law_combs_right_c1.pure = true := rfl
@[simp] theorem d_law_combs_right_c1_a {D : Den} {es : CEs} {S : Slots} : eva D (.cons d_law_combs_right_c1 es) S = (ev D d_law_combs_right_c1 S).bind fun q => match q.1.1 with | .own _ => (eva D es q.2).map fun t => (.val q.1.2 :: t.1, t.2) | .bor => none := rfl
def d_law_combs_right_l2 : CSs := (.cons (.asg (.name 9 "_law_found" ⟨205, 8, 205, 18⟩) (.bin .Add (.brw 9 "_law_found" ⟨205, 21, 205, 31⟩) (.blt .list ⟨205, 34, 205, 38⟩ (.cons (.call 22 "cells_of" ⟨205, 39, 205, 47⟩ (.cons (.var 10 "_law_one" ⟨205, 48, 205, 56⟩) .nil) .nil ⟨205, 39, 205, 57⟩) .nil) ⟨205, 34, 205, 58⟩) ⟨205, 21, 205, 58⟩) ⟨205, 8, 205, 58⟩)
    (.cons (.forr (.name 11 "_law_other" ⟨206, 12, 206, 22⟩) (.seq (.slc (.brw 6 "_law_combs" ⟨206, 26, 206, 36⟩) .no (.is (.brw 7 "_law_k" ⟨206, 38, 206, 44⟩)) ⟨206, 37, 206, 44⟩ ⟨206, 26, 206, 45⟩)) d_law_combs_right_l1 ⟨206, 8, 208, 28⟩)
    (.cons (.asg (.name 12 "_law_fills" ⟨209, 8, 209, 18⟩) d_law_combs_right_c0 ⟨209, 8, 209, 111⟩)
    (.cons (.ife (.cmp .NotEq d_law_combs_right_c1 (.lst .nil ⟨210, 98, 210, 100⟩) ⟨210, 11, 210, 100⟩) (.cons (.ret (.cst (.bool false) 0 ⟨211, 19, 211, 24⟩) ⟨211, 12, 211, 24⟩)
    .nil) .nil ⟨210, 8, 211, 24⟩)
    (.cons (.ife (.bop .Or (.cons (.nt (.call 24 "they_meet" ⟨212, 15, 212, 24⟩ (.cons (.var 10 "_law_one" ⟨212, 25, 212, 33⟩) (.cons (.var 8 "_law_whole" ⟨212, 35, 212, 45⟩) .nil)) .nil ⟨212, 15, 212, 46⟩) ⟨212, 11, 212, 46⟩) (.cons (.cmp .NotEq (.call 27 "size_of" ⟨212, 50, 212, 57⟩ (.cons (.var 10 "_law_one" ⟨212, 58, 212, 66⟩) .nil) .nil ⟨212, 50, 212, 67⟩) (.bin .Mult (.brw 1 "_law_wide" ⟨212, 71, 212, 80⟩) (.brw 3 "_law_rows" ⟨212, 83, 212, 92⟩) ⟨212, 71, 212, 92⟩) ⟨212, 50, 212, 92⟩) .nil)) ⟨212, 11, 212, 92⟩) (.cons (.ret (.cst (.bool false) 0 ⟨213, 19, 213, 24⟩) ⟨213, 12, 213, 24⟩)
    .nil) .nil ⟨212, 8, 213, 24⟩)
    (.cons (.ife (.cmp .IsNot (.call 25 "steps_clash" ⟨214, 11, 214, 22⟩ (.cons (.tup (.cons (.cst (.str "fill") 0 ⟨214, 24, 214, 30⟩) (.cons (.var 8 "_law_whole" ⟨214, 32, 214, 42⟩) (.cons (.cst (.int 0) 0 ⟨214, 44, 214, 45⟩) (.cons (.cst (.int 0) 0 ⟨214, 47, 214, 48⟩) .nil)))) 0 ⟨214, 23, 214, 49⟩) (.cons (.tup (.cons (.cst (.str "fill") 0 ⟨214, 52, 214, 58⟩) (.cons (.var 10 "_law_one" ⟨214, 60, 214, 68⟩) (.cons (.cst (.int 8) 0 ⟨214, 70, 214, 71⟩) (.cons (.cst (.int 0) 0 ⟨214, 73, 214, 74⟩) .nil)))) 0 ⟨214, 51, 214, 75⟩) .nil)) .nil ⟨214, 11, 214, 76⟩) (.cst (.bool true) 0 ⟨214, 84, 214, 88⟩) ⟨214, 11, 214, 88⟩) (.cons (.ret (.cst (.bool false) 0 ⟨215, 19, 215, 24⟩) ⟨215, 12, 215, 24⟩)
    .nil) .nil ⟨214, 8, 215, 24⟩)
    (.cons (.ife (.cmp .NotEq (.blt .len ⟨216, 11, 216, 14⟩ (.cons (.call 28 "stretches_of" ⟨216, 15, 216, 27⟩ (.cons (.var 10 "_law_one" ⟨216, 28, 216, 36⟩) .nil) .nil ⟨216, 15, 216, 37⟩) .nil) ⟨216, 11, 216, 38⟩) (.ifx (.cmp .Eq (.brw 2 "_law_many" ⟨216, 48, 216, 57⟩) (.cst (.int 1) 0 ⟨216, 61, 216, 62⟩) ⟨216, 48, 216, 62⟩) (.cst (.int 1) 0 ⟨216, 43, 216, 44⟩) (.brw 3 "_law_rows" ⟨216, 68, 216, 77⟩) ⟨216, 43, 216, 77⟩) ⟨216, 11, 216, 78⟩) (.cons (.ret (.cst (.bool false) 0 ⟨217, 19, 217, 24⟩) ⟨217, 12, 217, 24⟩)
    .nil) .nil ⟨216, 8, 217, 24⟩)
    .nil)))))))
/-- _law_combs_right: 0 _law_stream, 1 _law_wide, 2 _law_many, 3 _law_rows, 4 _law_pitch, 5 _law_begin, 6 _law_combs, 7 _law_k, 8 _law_whole, 9 _law_found, 10 _law_one, 11 _law_other, 12 _law_fills, 13 _law_area, 14 _law_step -/
def d_law_combs_right_b : CSs := (.cons (.par 1 2 "_law_wide" "_law_many" ⟨197, 4, 197, 13⟩ ⟨197, 15, 197, 24⟩ 0 ⟨197, 4, 197, 24⟩ (.bin .Add (.cst (.int 1) 0 ⟨197, 28, 197, 29⟩) (.call 19 "_law_take" ⟨197, 32, 197, 41⟩ (.cons (.ref 0 "_law_stream" ⟨197, 42, 197, 53⟩) (.cons (.cst (.int 6) 0 ⟨197, 55, 197, 56⟩) .nil)) .nil ⟨197, 32, 197, 57⟩) ⟨197, 28, 197, 57⟩) (.bin .Add (.cst (.int 1) 0 ⟨197, 59, 197, 60⟩) (.call 19 "_law_take" ⟨197, 63, 197, 72⟩ (.cons (.ref 0 "_law_stream" ⟨197, 73, 197, 84⟩) (.cons (.cst (.int 5) 0 ⟨197, 86, 197, 87⟩) .nil)) .nil ⟨197, 63, 197, 88⟩) ⟨197, 59, 197, 88⟩) 0 ⟨197, 27, 197, 89⟩ ⟨197, 4, 197, 89⟩)
  (.cons (.par 3 4 "_law_rows" "_law_pitch" ⟨198, 4, 198, 13⟩ ⟨198, 15, 198, 25⟩ 0 ⟨198, 4, 198, 25⟩ (.bin .Add (.cst (.int 1) 0 ⟨198, 29, 198, 30⟩) (.call 19 "_law_take" ⟨198, 33, 198, 42⟩ (.cons (.ref 0 "_law_stream" ⟨198, 43, 198, 54⟩) (.cons (.cst (.int 8) 0 ⟨198, 56, 198, 57⟩) .nil)) .nil ⟨198, 33, 198, 58⟩) ⟨198, 29, 198, 58⟩) (.bin .Mult (.brw 1 "_law_wide" ⟨198, 60, 198, 69⟩) (.brw 2 "_law_many" ⟨198, 72, 198, 81⟩) ⟨198, 60, 198, 81⟩) 0 ⟨198, 28, 198, 82⟩ ⟨198, 4, 198, 82⟩)
  (.cons (.asg (.name 5 "_law_begin" ⟨199, 4, 199, 14⟩) (.call 20 "_law_of" ⟨199, 17, 199, 24⟩ (.cons (.ref 0 "_law_stream" ⟨199, 25, 199, 36⟩) (.cons (.lst (.cons (.cst (.int 0) 0 ⟨199, 39, 199, 40⟩) (.cons (.call 19 "_law_take" ⟨199, 42, 199, 51⟩ (.cons (.ref 0 "_law_stream" ⟨199, 52, 199, 63⟩) (.cons (.cst (.int 40) 0 ⟨199, 65, 199, 67⟩) .nil)) .nil ⟨199, 42, 199, 68⟩) (.cons (.bin .Sub (.cst (.int 1024) 0 ⟨199, 70, 199, 74⟩) (.bin .Mult (.brw 4 "_law_pitch" ⟨199, 77, 199, 87⟩) (.brw 3 "_law_rows" ⟨199, 90, 199, 99⟩) ⟨199, 77, 199, 99⟩) ⟨199, 70, 199, 99⟩) .nil))) ⟨199, 38, 199, 100⟩) .nil)) .nil ⟨199, 17, 199, 101⟩) ⟨199, 4, 199, 101⟩)
  (.cons (.asg (.name 6 "_law_combs" ⟨200, 4, 200, 14⟩) (.lst .nil ⟨200, 17, 200, 19⟩) ⟨200, 4, 200, 19⟩)
  (.cons (.forr (.name 7 "_law_k" ⟨201, 8, 201, 14⟩) (.rng1 ⟨201, 18, 201, 23⟩ (.brw 2 "_law_many" ⟨201, 24, 201, 33⟩) ⟨201, 18, 201, 34⟩) d_law_combs_right_l0 ⟨201, 4, 202, 103⟩)
  (.cons (.par 8 9 "_law_whole" "_law_found" ⟨203, 4, 203, 14⟩ ⟨203, 16, 203, 26⟩ 0 ⟨203, 4, 203, 26⟩ (.call 26 "plain_area" ⟨203, 30, 203, 40⟩ (.cons (.var 5 "_law_begin" ⟨203, 41, 203, 51⟩) (.cons (.bin .Mult (.brw 4 "_law_pitch" ⟨203, 53, 203, 63⟩) (.brw 3 "_law_rows" ⟨203, 66, 203, 75⟩) ⟨203, 53, 203, 75⟩) .nil)) .nil ⟨203, 30, 203, 76⟩) (.lst .nil ⟨203, 78, 203, 80⟩) 0 ⟨203, 29, 203, 81⟩ ⟨203, 4, 203, 81⟩)
  (.cons (.forr (.tup (.cons (.name 7 "_law_k" ⟨204, 8, 204, 14⟩) (.cons (.name 10 "_law_one" ⟨204, 16, 204, 24⟩) .nil)) 0 ⟨204, 8, 204, 24⟩) (.enum ⟨204, 28, 204, 37⟩ (.var 6 "_law_combs" ⟨204, 38, 204, 48⟩) ⟨204, 28, 204, 49⟩) d_law_combs_right_l2 ⟨204, 4, 217, 24⟩)
  (.cons (.ife (.cmp .NotEq (.call 28 "stretches_of" ⟨218, 7, 218, 19⟩ (.cons (.var 8 "_law_whole" ⟨218, 20, 218, 30⟩) .nil) .nil ⟨218, 7, 218, 31⟩) (.tup (.cons (.tup (.cons (.var 5 "_law_begin" ⟨218, 37, 218, 47⟩) (.cons (.bin .Mult (.brw 4 "_law_pitch" ⟨218, 49, 218, 59⟩) (.brw 3 "_law_rows" ⟨218, 62, 218, 71⟩) ⟨218, 49, 218, 71⟩) .nil)) 0 ⟨218, 36, 218, 72⟩) .nil) 0 ⟨218, 35, 218, 74⟩) ⟨218, 7, 218, 74⟩) (.cons (.ret (.cst (.bool false) 0 ⟨219, 15, 219, 20⟩) ⟨219, 8, 219, 20⟩)
    .nil) .nil ⟨218, 4, 219, 20⟩)
  (.cons (.ret (.cmp .Eq (.blt .tuple ⟨220, 11, 220, 16⟩ (.cons (.blt .sorted ⟨220, 17, 220, 23⟩ (.cons (.brw 9 "_law_found" ⟨220, 24, 220, 34⟩) .nil) ⟨220, 17, 220, 35⟩) .nil) ⟨220, 11, 220, 36⟩) (.call 22 "cells_of" ⟨220, 40, 220, 48⟩ (.cons (.var 8 "_law_whole" ⟨220, 49, 220, 59⟩) .nil) .nil ⟨220, 40, 220, 60⟩) ⟨220, 11, 220, 60⟩) ⟨220, 4, 220, 60⟩)
  .nil)))))))))
def d_law_combs_right : Df := ⟨"_law_combs_right", ["_law_stream"], ["_law_stream", "_law_wide", "_law_many", "_law_rows", "_law_pitch", "_law_begin", "_law_combs", "_law_k", "_law_whole", "_law_found", "_law_one", "_law_other", "_law_fills", "_law_area", "_law_step"], [0], defScope (top 56), d_law_combs_right_b⟩
def d_law_l0 : CSs := (.cons (.ife (.nt (.call 29 "_law_two_right" ⟨225, 19, 225, 33⟩ (.cons (.ref 1 "_law_stream" ⟨225, 34, 225, 45⟩) .nil) .nil ⟨225, 19, 225, 46⟩) ⟨225, 15, 225, 46⟩) (.cons (.ret (.cst (.bool false) 0 ⟨226, 23, 226, 28⟩) ⟨226, 16, 226, 28⟩)
    .nil) .nil ⟨225, 12, 226, 28⟩)
    .nil)
def d_law_l1 : CSs := (.cons (.forr (.name 3 "_law_again" ⟨224, 12, 224, 22⟩) (.rng1 ⟨224, 26, 224, 31⟩ (.cst (.int 3) 0 ⟨224, 32, 224, 33⟩) ⟨224, 26, 224, 34⟩) d_law_l0 ⟨224, 8, 226, 28⟩)
    (.cons (.ife (.nt (.call 30 "_law_combs_right" ⟨227, 15, 227, 31⟩ (.cons (.ref 1 "_law_stream" ⟨227, 32, 227, 43⟩) .nil) .nil ⟨227, 15, 227, 44⟩) ⟨227, 11, 227, 44⟩) (.cons (.ret (.cst (.bool false) 0 ⟨228, 19, 228, 24⟩) ⟨228, 12, 228, 24⟩)
    .nil) .nil ⟨227, 8, 228, 24⟩)
    .nil))
/-- law: 0 _law_script, 1 _law_stream, 2 _law_turn, 3 _law_again -/
def d_law_b : CSs := (.cons (.asg (.name 1 "_law_stream" ⟨222, 4, 222, 15⟩) (.lst (.cons (.slc (.bin .Add (.brw 0 "_law_script" ⟨222, 20, 222, 31⟩) (.lst (.cons (.cst (.int 0) 0 ⟨222, 35, 222, 36⟩) .nil) ⟨222, 34, 222, 37⟩) ⟨222, 20, 222, 37⟩) .no (.is (.cst (.int 63) 0 ⟨222, 40, 222, 42⟩)) ⟨222, 39, 222, 42⟩ ⟨222, 19, 222, 43⟩) (.cons (.cst (.int 0) 0 ⟨222, 45, 222, 46⟩) (.cons (.cst (.int 0) 0 ⟨222, 48, 222, 49⟩) (.cons (.cst (.int 7) 0 ⟨222, 51, 222, 52⟩) (.cons (.cst (.int 0) 0 ⟨222, 54, 222, 55⟩) .nil))))) ⟨222, 18, 222, 56⟩) ⟨222, 4, 222, 56⟩)
  (.cons (.forr (.name 2 "_law_turn" ⟨223, 8, 223, 17⟩) (.rng1 ⟨223, 21, 223, 26⟩ (.bin .Add (.cst (.int 4) 0 ⟨223, 27, 223, 28⟩) (.blt .min2 ⟨223, 31, 223, 34⟩ (.cons (.cst (.int 6) 0 ⟨223, 35, 223, 36⟩) (.cons (.blt .len ⟨223, 38, 223, 41⟩ (.cons (.brw 0 "_law_script" ⟨223, 42, 223, 53⟩) .nil) ⟨223, 38, 223, 54⟩) .nil)) ⟨223, 31, 223, 55⟩) ⟨223, 27, 223, 55⟩) ⟨223, 21, 223, 56⟩) d_law_l1 ⟨223, 4, 228, 24⟩)
  (.cons (.ret (.cst (.bool true) 0 ⟨229, 11, 229, 15⟩) ⟨229, 4, 229, 15⟩)
  .nil)))
def d_law : Df := ⟨"law", ["_law_script"], ["_law_script", "_law_stream", "_law_turn", "_law_again"], [], defScope (top 57), d_law_b⟩
def sh0 : CallSh := ⟨0, "is_whole", 1, ["most"], [.pos 0, .dfl 0, .kw 0], [(.int 0)]⟩
def sh1 : CallSh := ⟨0, "is_whole", 1, ["least", "most"], [.pos 0, .kw 0, .kw 1], []⟩
def sh2 : CallSh := ⟨3, "area_wrong", 1, [], [.pos 0], []⟩
def sh3 : CallSh := ⟨4, "need_area", 1, [], [.pos 0], []⟩
def sh4 : CallSh := ⟨5, "own_cells", 1, [], [.pos 0], []⟩
def sh5 : CallSh := ⟨7, "own_size", 1, [], [.pos 0], []⟩
def sh6 : CallSh := ⟨10, "own_stretches", 1, [], [.pos 0], []⟩
def sh7 : CallSh := ⟨1, "is_byte", 1, [], [.pos 0], []⟩
def sh8 : CallSh := ⟨2, "is_flag", 1, [], [.pos 0], []⟩
def sh9 : CallSh := ⟨18, "list_wrong", 1, [], [.pos 0], []⟩
def sh10 : CallSh := ⟨13, "is_thing", 2, [], [.pos 0, .pos 1], []⟩
def sh11 : CallSh := ⟨15, "things_wrong", 2, [], [.pos 0, .pos 1], []⟩
def sh12 : CallSh := ⟨14, "form_of", 2, [], [.pos 0, .pos 1], []⟩
def sh13 : CallSh := ⟨16, "step_wrong", 1, [], [.pos 0], []⟩
def sh14 : CallSh := ⟨19, "all_touches", 1, [], [.pos 0], []⟩
def sh15 : CallSh := ⟨20, "cells_by", 2, [], [.pos 0, .pos 1], []⟩
def sh16 : CallSh := ⟨17, "need_step", 1, [], [.pos 0], []⟩
def sh17 : CallSh := ⟨21, "own_clash", 2, [], [.pos 0, .pos 1], []⟩
def sh18 : CallSh := ⟨23, "_law_mixed", 2, [], [.pos 0, .pos 1], []⟩
def sh19 : CallSh := ⟨24, "_law_take", 2, [], [.pos 0, .pos 1], []⟩
def sh20 : CallSh := ⟨25, "_law_of", 2, [], [.pos 0, .pos 1], []⟩
def sh21 : CallSh := ⟨26, "_law_comb", 4, [], [.pos 0, .pos 1, .pos 2, .pos 3], []⟩
def sh22 : CallSh := ⟨6, "cells_of", 1, [], [.pos 0], []⟩
def sh23 : CallSh := ⟨27, "_law_shared", 4, [], [.pos 0, .pos 1, .pos 2, .pos 3], []⟩
def sh24 : CallSh := ⟨9, "they_meet", 2, [], [.pos 0, .pos 1], []⟩
def sh25 : CallSh := ⟨22, "steps_clash", 2, [], [.pos 0, .pos 1], []⟩
def sh26 : CallSh := ⟨12, "plain_area", 2, [], [.pos 0, .pos 1], []⟩
def sh27 : CallSh := ⟨8, "size_of", 1, [], [.pos 0], []⟩
def sh28 : CallSh := ⟨11, "stretches_of", 1, [], [.pos 0], []⟩
def sh29 : CallSh := ⟨28, "_law_two_right", 1, [], [.pos 0], []⟩
def sh30 : CallSh := ⟨29, "_law_combs_right", 1, [], [.pos 0], []⟩
def P : Pg := ⟨[d_is_whole, d_is_byte, d_is_flag, d_area_wrong, d_need_area, d_own_cells, d_cells_of, d_own_size, d_size_of, d_they_meet, d_own_stretches, d_stretches_of, d_plain_area, d_is_thing, d_form_of, d_things_wrong, d_step_wrong, d_need_step, d_list_wrong, d_all_touches, d_cells_by, d_own_clash, d_steps_clash, d_law_mixed, d_law_take, d_law_of, d_law_comb, d_law_shared, d_law_two_right, d_law_combs_right, d_law], [sh0, sh1, sh2, sh3, sh4, sh5, sh6, sh7, sh8, sh9, sh10, sh11, sh12, sh13, sh14, sh15, sh16, sh17, sh18, sh19, sh20, sh21, sh22, sh23, sh24, sh25, sh26, sh27, sh28, sh29, sh30], [("GREATEST_BYTE", (.int 255)), ("FLAGS", (.int 8)), ("GREATEST_CELL", (.int 1023)), ("MOST_AREA", (.int 256)), ("MOST_CELLS", (.int 1024)), ("END", (.str "end")), ("MOST_NOTED", (.int 99)), ("FILL", (.str "fill")), ("COPY", (.str "copy")), ("SIZE", (.str "size")), ("SKIP", (.str "skip")), ("MOST_STEPS", (.int 64)), ("WRITE", (.str "w")), ("READ", (.str "r")), ("ADD", (.str "add"))], ["isinstance", "bool", "int", "len", "tuple", "enumerate", "range", "any", "str", "dict", "list", "zip", "sorted", "max", "min", "repr"], [("STEP_FORMS", [("copy", (.str "AAS")), ("fill", (.str "ABS")), ("add", (.str "AC")), ("note", (.str "F")), ("wait", (.str "FN")), ("fence", (.str ""))])]⟩
theorem wf : P.wf = true := by kernel_rfl
@[simp] theorem d_is_whole_B : d_is_whole.B = [] := rfl
@[simp] theorem d_is_whole_ps : d_is_whole.ps.length = 3 := rfl
theorem op_is_whole (n : Nat) (r0 r1 r2 : R) : (P.den (n + 1)).fn 0 [r0, r1, r2] = d_is_whole.outc (exs (P.den n) d_is_whole_b [some r0, some r1, some r2]) := rfl
@[simp] theorem d_is_byte_B : d_is_byte.B = [] := rfl
@[simp] theorem d_is_byte_ps : d_is_byte.ps.length = 1 := rfl
theorem op_is_byte (n : Nat) (r0 : R) : (P.den (n + 1)).fn 1 [r0] = d_is_byte.outc (exs (P.den n) d_is_byte_b [some r0]) := rfl
@[simp] theorem d_is_flag_B : d_is_flag.B = [] := rfl
@[simp] theorem d_is_flag_ps : d_is_flag.ps.length = 1 := rfl
theorem op_is_flag (n : Nat) (r0 : R) : (P.den (n + 1)).fn 2 [r0] = d_is_flag.outc (exs (P.den n) d_is_flag_b [some r0]) := rfl
@[simp] theorem d_area_wrong_B : d_area_wrong.B = [] := rfl
@[simp] theorem d_area_wrong_ps : d_area_wrong.ps.length = 1 := rfl
theorem op_area_wrong (n : Nat) (r0 : R) : (P.den (n + 1)).fn 3 [r0] = d_area_wrong.outc (exs (P.den n) d_area_wrong_b [some r0, none, none, none, none, none, none, none, none, none]) := rfl
@[simp] theorem d_need_area_B : d_need_area.B = [] := rfl
@[simp] theorem d_need_area_ps : d_need_area.ps.length = 1 := rfl
theorem op_need_area (n : Nat) (r0 : R) : (P.den (n + 1)).fn 4 [r0] = d_need_area.outc (exs (P.den n) d_need_area_b [some r0, none]) := rfl
@[simp] theorem d_own_cells_B : d_own_cells.B = [] := rfl
@[simp] theorem d_own_cells_ps : d_own_cells.ps.length = 1 := rfl
theorem op_own_cells (n : Nat) (r0 : R) : (P.den (n + 1)).fn 5 [r0] = d_own_cells.outc (exs (P.den n) d_own_cells_b [some r0, none, none, none, none, none, none]) := rfl
@[simp] theorem d_cells_of_B : d_cells_of.B = [] := rfl
@[simp] theorem d_cells_of_ps : d_cells_of.ps.length = 1 := rfl
theorem op_cells_of (n : Nat) (r0 : R) : (P.den (n + 1)).fn 6 [r0] = d_cells_of.outc (exs (P.den n) d_cells_of_b [some r0]) := rfl
@[simp] theorem d_own_size_B : d_own_size.B = [] := rfl
@[simp] theorem d_own_size_ps : d_own_size.ps.length = 1 := rfl
theorem op_own_size (n : Nat) (r0 : R) : (P.den (n + 1)).fn 7 [r0] = d_own_size.outc (exs (P.den n) d_own_size_b [some r0, none, none, none, none]) := rfl
@[simp] theorem d_size_of_B : d_size_of.B = [] := rfl
@[simp] theorem d_size_of_ps : d_size_of.ps.length = 1 := rfl
theorem op_size_of (n : Nat) (r0 : R) : (P.den (n + 1)).fn 8 [r0] = d_size_of.outc (exs (P.den n) d_size_of_b [some r0]) := rfl
@[simp] theorem d_they_meet_B : d_they_meet.B = [] := rfl
@[simp] theorem d_they_meet_ps : d_they_meet.ps.length = 2 := rfl
theorem op_they_meet (n : Nat) (r0 r1 : R) : (P.den (n + 1)).fn 9 [r0, r1] = d_they_meet.outc (exs (P.den n) d_they_meet_b [some r0, some r1, none, none]) := rfl
@[simp] theorem d_own_stretches_B : d_own_stretches.B = [] := rfl
@[simp] theorem d_own_stretches_ps : d_own_stretches.ps.length = 1 := rfl
theorem op_own_stretches (n : Nat) (r0 : R) : (P.den (n + 1)).fn 10 [r0] = d_own_stretches.outc (exs (P.den n) d_own_stretches_b [some r0, none, none, none, none, none]) := rfl
@[simp] theorem d_stretches_of_B : d_stretches_of.B = [] := rfl
@[simp] theorem d_stretches_of_ps : d_stretches_of.ps.length = 1 := rfl
theorem op_stretches_of (n : Nat) (r0 : R) : (P.den (n + 1)).fn 11 [r0] = d_stretches_of.outc (exs (P.den n) d_stretches_of_b [some r0]) := rfl
@[simp] theorem d_plain_area_B : d_plain_area.B = [] := rfl
@[simp] theorem d_plain_area_ps : d_plain_area.ps.length = 2 := rfl
theorem op_plain_area (n : Nat) (r0 r1 : R) : (P.den (n + 1)).fn 12 [r0, r1] = d_plain_area.outc (exs (P.den n) d_plain_area_b [some r0, some r1, none]) := rfl
@[simp] theorem d_is_thing_B : d_is_thing.B = [] := rfl
@[simp] theorem d_is_thing_ps : d_is_thing.ps.length = 2 := rfl
theorem op_is_thing (n : Nat) (r0 r1 : R) : (P.den (n + 1)).fn 13 [r0, r1] = d_is_thing.outc (exs (P.den n) d_is_thing_b [some r0, some r1]) := rfl
@[simp] theorem d_form_of_B : d_form_of.B = [] := rfl
@[simp] theorem d_form_of_ps : d_form_of.ps.length = 2 := rfl
theorem op_form_of (n : Nat) (r0 r1 : R) : (P.den (n + 1)).fn 14 [r0, r1] = d_form_of.outc (exs (P.den n) d_form_of_b [some r0, some r1, none]) := rfl
@[simp] theorem d_things_wrong_B : d_things_wrong.B = [] := rfl
@[simp] theorem d_things_wrong_ps : d_things_wrong.ps.length = 2 := rfl
theorem op_things_wrong (n : Nat) (r0 r1 : R) : (P.den (n + 1)).fn 15 [r0, r1] = d_things_wrong.outc (exs (P.den n) d_things_wrong_b [some r0, some r1, none, none]) := rfl
@[simp] theorem d_step_wrong_B : d_step_wrong.B = [] := rfl
@[simp] theorem d_step_wrong_ps : d_step_wrong.ps.length = 1 := rfl
theorem op_step_wrong (n : Nat) (r0 : R) : (P.den (n + 1)).fn 16 [r0] = d_step_wrong.outc (exs (P.den n) d_step_wrong_b [some r0, none, none]) := rfl
@[simp] theorem d_need_step_B : d_need_step.B = [] := rfl
@[simp] theorem d_need_step_ps : d_need_step.ps.length = 1 := rfl
theorem op_need_step (n : Nat) (r0 : R) : (P.den (n + 1)).fn 17 [r0] = d_need_step.outc (exs (P.den n) d_need_step_b [some r0, none]) := rfl
@[simp] theorem d_list_wrong_B : d_list_wrong.B = [] := rfl
@[simp] theorem d_list_wrong_ps : d_list_wrong.ps.length = 1 := rfl
theorem op_list_wrong (n : Nat) (r0 : R) : (P.den (n + 1)).fn 18 [r0] = d_list_wrong.outc (exs (P.den n) d_list_wrong_b [some r0, none, none]) := rfl
@[simp] theorem d_all_touches_B : d_all_touches.B = [] := rfl
@[simp] theorem d_all_touches_ps : d_all_touches.ps.length = 1 := rfl
theorem op_all_touches (n : Nat) (r0 : R) : (P.den (n + 1)).fn 19 [r0] = d_all_touches.outc (exs (P.den n) d_all_touches_b [some r0, none, none, none]) := rfl
@[simp] theorem d_cells_by_B : d_cells_by.B = [] := rfl
@[simp] theorem d_cells_by_ps : d_cells_by.ps.length = 2 := rfl
theorem op_cells_by (n : Nat) (r0 r1 : R) : (P.den (n + 1)).fn 20 [r0, r1] = d_cells_by.outc (exs (P.den n) d_cells_by_b [some r0, some r1, none, none, none]) := rfl
@[simp] theorem d_own_clash_B : d_own_clash.B = [] := rfl
@[simp] theorem d_own_clash_ps : d_own_clash.ps.length = 2 := rfl
theorem op_own_clash (n : Nat) (r0 r1 : R) : (P.den (n + 1)).fn 21 [r0, r1] = d_own_clash.outc (exs (P.den n) d_own_clash_b [some r0, some r1, none, none, none, none]) := rfl
@[simp] theorem d_steps_clash_B : d_steps_clash.B = [] := rfl
@[simp] theorem d_steps_clash_ps : d_steps_clash.ps.length = 2 := rfl
theorem op_steps_clash (n : Nat) (r0 r1 : R) : (P.den (n + 1)).fn 22 [r0, r1] = d_steps_clash.outc (exs (P.den n) d_steps_clash_b [some r0, some r1]) := rfl
@[simp] theorem d_law_mixed_B : d_law_mixed.B = [] := rfl
@[simp] theorem d_law_mixed_ps : d_law_mixed.ps.length = 2 := rfl
theorem op_law_mixed (n : Nat) (r0 r1 : R) : (P.den (n + 1)).fn 23 [r0, r1] = d_law_mixed.outc (exs (P.den n) d_law_mixed_b [some r0, some r1]) := rfl
@[simp] theorem d_law_take_B : d_law_take.B = [0] := rfl
@[simp] theorem d_law_take_ps : d_law_take.ps.length = 2 := rfl
theorem op_law_take (n : Nat) (r0 r1 : R) : (P.den (n + 1)).fn 24 [r0, r1] = d_law_take.outc (exs (P.den n) d_law_take_b [some r0, some r1, none, none]) := rfl
@[simp] theorem d_law_of_B : d_law_of.B = [0] := rfl
@[simp] theorem d_law_of_ps : d_law_of.ps.length = 2 := rfl
theorem op_law_of (n : Nat) (r0 r1 : R) : (P.den (n + 1)).fn 25 [r0, r1] = d_law_of.outc (exs (P.den n) d_law_of_b [some r0, some r1]) := rfl
@[simp] theorem d_law_comb_B : d_law_comb.B = [] := rfl
@[simp] theorem d_law_comb_ps : d_law_comb.ps.length = 4 := rfl
theorem op_law_comb (n : Nat) (r0 r1 r2 r3 : R) : (P.den (n + 1)).fn 26 [r0, r1, r2, r3] = d_law_comb.outc (exs (P.den n) d_law_comb_b [some r0, some r1, some r2, some r3]) := rfl
@[simp] theorem d_law_shared_B : d_law_shared.B = [] := rfl
@[simp] theorem d_law_shared_ps : d_law_shared.ps.length = 4 := rfl
theorem op_law_shared (n : Nat) (r0 r1 r2 r3 : R) : (P.den (n + 1)).fn 27 [r0, r1, r2, r3] = d_law_shared.outc (exs (P.den n) d_law_shared_b [some r0, some r1, some r2, some r3, none, none, none, none, none, none, none, none, none, none]) := rfl
@[simp] theorem d_law_two_right_B : d_law_two_right.B = [0] := rfl
@[simp] theorem d_law_two_right_ps : d_law_two_right.ps.length = 1 := rfl
theorem op_law_two_right (n : Nat) (r0 : R) : (P.den (n + 1)).fn 28 [r0] = d_law_two_right.outc (exs (P.den n) d_law_two_right_b [some r0, none, none, none, none, none, none, none, none, none, none, none, none, none, none]) := rfl
@[simp] theorem d_law_combs_right_B : d_law_combs_right.B = [0] := rfl
@[simp] theorem d_law_combs_right_ps : d_law_combs_right.ps.length = 1 := rfl
theorem op_law_combs_right (n : Nat) (r0 : R) : (P.den (n + 1)).fn 29 [r0] = d_law_combs_right.outc (exs (P.den n) d_law_combs_right_b [some r0, none, none, none, none, none, none, none, none, none, none, none, none, none, none]) := rfl
@[simp] theorem d_law_B : d_law.B = [] := rfl
@[simp] theorem d_law_ps : d_law.ps.length = 1 := rfl
theorem op_law (n : Nat) (r0 : R) : (P.den (n + 1)).fn 30 [r0] = d_law.outc (exs (P.den n) d_law_b [some r0, none, none, none]) := rfl
@[simp] theorem cl_0 {n : Nat} {x np es ks p : _} {S : Slots} : ev (P.den n) (.call 0 x np es ks p) S = callV (P.den n) 0 [.pos 0, .dfl 0, .kw 0] [(.int 0)] es ks S := ev_call (sh := sh0) (by cases n <;> rfl)
@[simp] theorem cl_1 {n : Nat} {x np es ks p : _} {S : Slots} : ev (P.den n) (.call 1 x np es ks p) S = callV (P.den n) 0 [.pos 0, .kw 0, .kw 1] [] es ks S := ev_call (sh := sh1) (by cases n <;> rfl)
@[simp] theorem cl_2 {n : Nat} {x np es ks p : _} {S : Slots} : ev (P.den n) (.call 2 x np es ks p) S = callV (P.den n) 3 [.pos 0] [] es ks S := ev_call (sh := sh2) (by cases n <;> rfl)
@[simp] theorem cl_3 {n : Nat} {x np es ks p : _} {S : Slots} : ev (P.den n) (.call 3 x np es ks p) S = callV (P.den n) 4 [.pos 0] [] es ks S := ev_call (sh := sh3) (by cases n <;> rfl)
@[simp] theorem cl_4 {n : Nat} {x np es ks p : _} {S : Slots} : ev (P.den n) (.call 4 x np es ks p) S = callV (P.den n) 5 [.pos 0] [] es ks S := ev_call (sh := sh4) (by cases n <;> rfl)
@[simp] theorem cl_5 {n : Nat} {x np es ks p : _} {S : Slots} : ev (P.den n) (.call 5 x np es ks p) S = callV (P.den n) 7 [.pos 0] [] es ks S := ev_call (sh := sh5) (by cases n <;> rfl)
@[simp] theorem cl_6 {n : Nat} {x np es ks p : _} {S : Slots} : ev (P.den n) (.call 6 x np es ks p) S = callV (P.den n) 10 [.pos 0] [] es ks S := ev_call (sh := sh6) (by cases n <;> rfl)
@[simp] theorem cl_7 {n : Nat} {x np es ks p : _} {S : Slots} : ev (P.den n) (.call 7 x np es ks p) S = callV (P.den n) 1 [.pos 0] [] es ks S := ev_call (sh := sh7) (by cases n <;> rfl)
@[simp] theorem cl_8 {n : Nat} {x np es ks p : _} {S : Slots} : ev (P.den n) (.call 8 x np es ks p) S = callV (P.den n) 2 [.pos 0] [] es ks S := ev_call (sh := sh8) (by cases n <;> rfl)
@[simp] theorem cl_9 {n : Nat} {x np es ks p : _} {S : Slots} : ev (P.den n) (.call 9 x np es ks p) S = callV (P.den n) 18 [.pos 0] [] es ks S := ev_call (sh := sh9) (by cases n <;> rfl)
@[simp] theorem cl_10 {n : Nat} {x np es ks p : _} {S : Slots} : ev (P.den n) (.call 10 x np es ks p) S = callV (P.den n) 13 [.pos 0, .pos 1] [] es ks S := ev_call (sh := sh10) (by cases n <;> rfl)
@[simp] theorem cl_11 {n : Nat} {x np es ks p : _} {S : Slots} : ev (P.den n) (.call 11 x np es ks p) S = callV (P.den n) 15 [.pos 0, .pos 1] [] es ks S := ev_call (sh := sh11) (by cases n <;> rfl)
@[simp] theorem cl_12 {n : Nat} {x np es ks p : _} {S : Slots} : ev (P.den n) (.call 12 x np es ks p) S = callV (P.den n) 14 [.pos 0, .pos 1] [] es ks S := ev_call (sh := sh12) (by cases n <;> rfl)
@[simp] theorem cl_13 {n : Nat} {x np es ks p : _} {S : Slots} : ev (P.den n) (.call 13 x np es ks p) S = callV (P.den n) 16 [.pos 0] [] es ks S := ev_call (sh := sh13) (by cases n <;> rfl)
@[simp] theorem cl_14 {n : Nat} {x np es ks p : _} {S : Slots} : ev (P.den n) (.call 14 x np es ks p) S = callV (P.den n) 19 [.pos 0] [] es ks S := ev_call (sh := sh14) (by cases n <;> rfl)
@[simp] theorem cl_15 {n : Nat} {x np es ks p : _} {S : Slots} : ev (P.den n) (.call 15 x np es ks p) S = callV (P.den n) 20 [.pos 0, .pos 1] [] es ks S := ev_call (sh := sh15) (by cases n <;> rfl)
@[simp] theorem cl_16 {n : Nat} {x np es ks p : _} {S : Slots} : ev (P.den n) (.call 16 x np es ks p) S = callV (P.den n) 17 [.pos 0] [] es ks S := ev_call (sh := sh16) (by cases n <;> rfl)
@[simp] theorem cl_17 {n : Nat} {x np es ks p : _} {S : Slots} : ev (P.den n) (.call 17 x np es ks p) S = callV (P.den n) 21 [.pos 0, .pos 1] [] es ks S := ev_call (sh := sh17) (by cases n <;> rfl)
@[simp] theorem cl_18 {n : Nat} {x np es ks p : _} {S : Slots} : ev (P.den n) (.call 18 x np es ks p) S = callV (P.den n) 23 [.pos 0, .pos 1] [] es ks S := ev_call (sh := sh18) (by cases n <;> rfl)
@[simp] theorem cl_19 {n : Nat} {x np es ks p : _} {S : Slots} : ev (P.den n) (.call 19 x np es ks p) S = callV (P.den n) 24 [.pos 0, .pos 1] [] es ks S := ev_call (sh := sh19) (by cases n <;> rfl)
@[simp] theorem cl_20 {n : Nat} {x np es ks p : _} {S : Slots} : ev (P.den n) (.call 20 x np es ks p) S = callV (P.den n) 25 [.pos 0, .pos 1] [] es ks S := ev_call (sh := sh20) (by cases n <;> rfl)
@[simp] theorem cl_21 {n : Nat} {x np es ks p : _} {S : Slots} : ev (P.den n) (.call 21 x np es ks p) S = callV (P.den n) 26 [.pos 0, .pos 1, .pos 2, .pos 3] [] es ks S := ev_call (sh := sh21) (by cases n <;> rfl)
@[simp] theorem cl_22 {n : Nat} {x np es ks p : _} {S : Slots} : ev (P.den n) (.call 22 x np es ks p) S = callV (P.den n) 6 [.pos 0] [] es ks S := ev_call (sh := sh22) (by cases n <;> rfl)
@[simp] theorem cl_23 {n : Nat} {x np es ks p : _} {S : Slots} : ev (P.den n) (.call 23 x np es ks p) S = callV (P.den n) 27 [.pos 0, .pos 1, .pos 2, .pos 3] [] es ks S := ev_call (sh := sh23) (by cases n <;> rfl)
@[simp] theorem cl_24 {n : Nat} {x np es ks p : _} {S : Slots} : ev (P.den n) (.call 24 x np es ks p) S = callV (P.den n) 9 [.pos 0, .pos 1] [] es ks S := ev_call (sh := sh24) (by cases n <;> rfl)
@[simp] theorem cl_25 {n : Nat} {x np es ks p : _} {S : Slots} : ev (P.den n) (.call 25 x np es ks p) S = callV (P.den n) 22 [.pos 0, .pos 1] [] es ks S := ev_call (sh := sh25) (by cases n <;> rfl)
@[simp] theorem cl_26 {n : Nat} {x np es ks p : _} {S : Slots} : ev (P.den n) (.call 26 x np es ks p) S = callV (P.den n) 12 [.pos 0, .pos 1] [] es ks S := ev_call (sh := sh26) (by cases n <;> rfl)
@[simp] theorem cl_27 {n : Nat} {x np es ks p : _} {S : Slots} : ev (P.den n) (.call 27 x np es ks p) S = callV (P.den n) 8 [.pos 0] [] es ks S := ev_call (sh := sh27) (by cases n <;> rfl)
@[simp] theorem cl_28 {n : Nat} {x np es ks p : _} {S : Slots} : ev (P.den n) (.call 28 x np es ks p) S = callV (P.den n) 11 [.pos 0] [] es ks S := ev_call (sh := sh28) (by cases n <;> rfl)
@[simp] theorem cl_29 {n : Nat} {x np es ks p : _} {S : Slots} : ev (P.den n) (.call 29 x np es ks p) S = callV (P.den n) 28 [.pos 0] [] es ks S := ev_call (sh := sh29) (by cases n <;> rfl)
@[simp] theorem cl_30 {n : Nat} {x np es ks p : _} {S : Slots} : ev (P.den n) (.call 30 x np es ks p) S = callV (P.den n) 29 [.pos 0] [] es ks S := ev_call (sh := sh30) (by cases n <;> rfl)
@[simp] theorem tab_0 {n : Nat} : (P.den n).tab "STEP_FORMS" = some ([("copy", (.str "AAS")), ("fill", (.str "ABS")), ("add", (.str "AC")), ("note", (.str "F")), ("wait", (.str "FN")), ("fence", (.str ""))] : List (Str × Val)) := by cases n <;> rfl
@[simp] theorem con_0 {n : Nat} : (P.den n).const "GREATEST_BYTE" = some (.int 255) := by cases n <;> rfl
@[simp] theorem con_1 {n : Nat} : (P.den n).const "FLAGS" = some (.int 8) := by cases n <;> rfl
@[simp] theorem con_2 {n : Nat} : (P.den n).const "GREATEST_CELL" = some (.int 1023) := by cases n <;> rfl
@[simp] theorem con_3 {n : Nat} : (P.den n).const "MOST_AREA" = some (.int 256) := by cases n <;> rfl
@[simp] theorem con_4 {n : Nat} : (P.den n).const "MOST_CELLS" = some (.int 1024) := by cases n <;> rfl
@[simp] theorem con_5 {n : Nat} : (P.den n).const "END" = some (.str "end") := by cases n <;> rfl
@[simp] theorem con_6 {n : Nat} : (P.den n).const "MOST_NOTED" = some (.int 99) := by cases n <;> rfl
@[simp] theorem con_7 {n : Nat} : (P.den n).const "FILL" = some (.str "fill") := by cases n <;> rfl
@[simp] theorem con_8 {n : Nat} : (P.den n).const "COPY" = some (.str "copy") := by cases n <;> rfl
@[simp] theorem con_9 {n : Nat} : (P.den n).const "SIZE" = some (.str "size") := by cases n <;> rfl
@[simp] theorem con_10 {n : Nat} : (P.den n).const "SKIP" = some (.str "skip") := by cases n <;> rfl
@[simp] theorem con_11 {n : Nat} : (P.den n).const "MOST_STEPS" = some (.int 64) := by cases n <;> rfl
@[simp] theorem con_12 {n : Nat} : (P.den n).const "WRITE" = some (.str "w") := by cases n <;> rfl
@[simp] theorem con_13 {n : Nat} : (P.den n).const "READ" = some (.str "r") := by cases n <;> rfl
@[simp] theorem con_14 {n : Nat} : (P.den n).const "ADD" = some (.str "add") := by cases n <;> rfl
def dx : List Dx := [⟨d_is_whole, defArgs (top 9), [], [("least", .int 0), ("most", .int 1023)]⟩,
  ⟨d_is_byte, defArgs (top 10), [], []⟩,
  ⟨d_is_flag, defArgs (top 11), [], []⟩,
  ⟨d_area_wrong, defArgs (top 15), [], []⟩,
  ⟨d_need_area, defArgs (top 16), [], []⟩,
  ⟨d_own_cells, defArgs (top 17), [], []⟩,
  ⟨d_cells_of, defArgs (top 18), [], []⟩,
  ⟨d_own_size, defArgs (top 19), [], []⟩,
  ⟨d_size_of, defArgs (top 20), [], []⟩,
  ⟨d_they_meet, defArgs (top 21), [], []⟩,
  ⟨d_own_stretches, defArgs (top 22), [], []⟩,
  ⟨d_stretches_of, defArgs (top 23), [], []⟩,
  ⟨d_plain_area, defArgs (top 24), [], []⟩,
  ⟨d_is_thing, defArgs (top 39), [], []⟩,
  ⟨d_form_of, defArgs (top 40), [], []⟩,
  ⟨d_things_wrong, defArgs (top 41), [], []⟩,
  ⟨d_step_wrong, defArgs (top 42), [], []⟩,
  ⟨d_need_step, defArgs (top 43), [], []⟩,
  ⟨d_list_wrong, defArgs (top 44), [], []⟩,
  ⟨d_all_touches, defArgs (top 45), [], []⟩,
  ⟨d_cells_by, defArgs (top 46), [], []⟩,
  ⟨d_own_clash, defArgs (top 47), [], []⟩,
  ⟨d_steps_clash, defArgs (top 48), [], []⟩,
  ⟨d_law_mixed, defArgs (top 50), [], []⟩,
  ⟨d_law_take, defArgs (top 51), [], []⟩,
  ⟨d_law_of, defArgs (top 52), [], []⟩,
  ⟨d_law_comb, defArgs (top 53), [], []⟩,
  ⟨d_law_shared, defArgs (top 54), [], []⟩,
  ⟨d_law_two_right, defArgs (top 55), [], []⟩,
  ⟨d_law_combs_right, defArgs (top 56), [], []⟩,
  ⟨d_law, defArgs (top 57), [], []⟩]
section
variable {K : Frag} {a : Addr} {fd : FuncData}
theorem bd0 (F : FunD K "is_whole" "is_whole" (defArgs (top 9)) d_is_whole_b.py (defScope (top 9)) [] [("least", .int 0), ("most", .int 1023)] a fd) : Bd K fd ["thing", "least", "most"] sh0 :=
  bindB F [("least", .int 0)] (by simp) (fun q h => (by simp at h ⊢; grind)) (.cons (.int 0) .nil) fun _ _ _ _ _ _ us mv ws h1 h2 h3 => match us, mv, ws, h1, h2, h3 with | [u0], [m0], [w0], _, _, _ => ⟨_, rfl, ⟨_, _, _, _, _, _, rfl, rfl, rfl⟩⟩
theorem bd1 (F : FunD K "is_whole" "is_whole" (defArgs (top 9)) d_is_whole_b.py (defScope (top 9)) [] [("least", .int 0), ("most", .int 1023)] a fd) : Bd K fd ["thing", "least", "most"] sh1 :=
  bindA F rfl fun _ _ _ _ _ _ us ws h1 h2 => match us, ws, h1, h2 with | [u0], [w0, w1], _, _ => ⟨_, rfl, rfl⟩
theorem bd2 (F : FunD K "area_wrong" "area_wrong" (defArgs (top 15)) d_area_wrong_b.py (defScope (top 15)) [] [] a fd) : Bd K fd ["thing"] sh2 :=
  bindA F rfl fun _ _ _ _ _ _ us ws h1 h2 => match us, ws, h1, h2 with | [u0], [], _, _ => ⟨_, rfl, rfl⟩
theorem bd3 (F : FunD K "need_area" "need_area" (defArgs (top 16)) d_need_area_b.py (defScope (top 16)) [] [] a fd) : Bd K fd ["thing"] sh3 :=
  bindA F rfl fun _ _ _ _ _ _ us ws h1 h2 => match us, ws, h1, h2 with | [u0], [], _, _ => ⟨_, rfl, rfl⟩
theorem bd4 (F : FunD K "own_cells" "own_cells" (defArgs (top 17)) d_own_cells_b.py (defScope (top 17)) [] [] a fd) : Bd K fd ["area"] sh4 :=
  bindA F rfl fun _ _ _ _ _ _ us ws h1 h2 => match us, ws, h1, h2 with | [u0], [], _, _ => ⟨_, rfl, rfl⟩
theorem bd5 (F : FunD K "own_size" "own_size" (defArgs (top 19)) d_own_size_b.py (defScope (top 19)) [] [] a fd) : Bd K fd ["area"] sh5 :=
  bindA F rfl fun _ _ _ _ _ _ us ws h1 h2 => match us, ws, h1, h2 with | [u0], [], _, _ => ⟨_, rfl, rfl⟩
theorem bd6 (F : FunD K "own_stretches" "own_stretches" (defArgs (top 22)) d_own_stretches_b.py (defScope (top 22)) [] [] a fd) : Bd K fd ["area"] sh6 :=
  bindA F rfl fun _ _ _ _ _ _ us ws h1 h2 => match us, ws, h1, h2 with | [u0], [], _, _ => ⟨_, rfl, rfl⟩
theorem bd7 (F : FunD K "is_byte" "is_byte" (defArgs (top 10)) d_is_byte_b.py (defScope (top 10)) [] [] a fd) : Bd K fd ["thing"] sh7 :=
  bindA F rfl fun _ _ _ _ _ _ us ws h1 h2 => match us, ws, h1, h2 with | [u0], [], _, _ => ⟨_, rfl, rfl⟩
theorem bd8 (F : FunD K "is_flag" "is_flag" (defArgs (top 11)) d_is_flag_b.py (defScope (top 11)) [] [] a fd) : Bd K fd ["thing"] sh8 :=
  bindA F rfl fun _ _ _ _ _ _ us ws h1 h2 => match us, ws, h1, h2 with | [u0], [], _, _ => ⟨_, rfl, rfl⟩
theorem bd9 (F : FunD K "list_wrong" "list_wrong" (defArgs (top 44)) d_list_wrong_b.py (defScope (top 44)) [] [] a fd) : Bd K fd ["thing"] sh9 :=
  bindA F rfl fun _ _ _ _ _ _ us ws h1 h2 => match us, ws, h1, h2 with | [u0], [], _, _ => ⟨_, rfl, rfl⟩
theorem bd10 (F : FunD K "is_thing" "is_thing" (defArgs (top 39)) d_is_thing_b.py (defScope (top 39)) [] [] a fd) : Bd K fd ["thing", "kind"] sh10 :=
  bindA F rfl fun _ _ _ _ _ _ us ws h1 h2 => match us, ws, h1, h2 with | [u0, u1], [], _, _ => ⟨_, rfl, rfl⟩
theorem bd11 (F : FunD K "things_wrong" "things_wrong" (defArgs (top 41)) d_things_wrong_b.py (defScope (top 41)) [] [] a fd) : Bd K fd ["thing", "kinds"] sh11 :=
  bindA F rfl fun _ _ _ _ _ _ us ws h1 h2 => match us, ws, h1, h2 with | [u0, u1], [], _, _ => ⟨_, rfl, rfl⟩
theorem bd12 (F : FunD K "form_of" "form_of" (defArgs (top 40)) d_form_of_b.py (defScope (top 40)) [] [] a fd) : Bd K fd ["thing", "forms"] sh12 :=
  bindA F rfl fun _ _ _ _ _ _ us ws h1 h2 => match us, ws, h1, h2 with | [u0, u1], [], _, _ => ⟨_, rfl, rfl⟩
theorem bd13 (F : FunD K "step_wrong" "step_wrong" (defArgs (top 42)) d_step_wrong_b.py (defScope (top 42)) [] [] a fd) : Bd K fd ["thing"] sh13 :=
  bindA F rfl fun _ _ _ _ _ _ us ws h1 h2 => match us, ws, h1, h2 with | [u0], [], _, _ => ⟨_, rfl, rfl⟩
theorem bd14 (F : FunD K "all_touches" "all_touches" (defArgs (top 45)) d_all_touches_b.py (defScope (top 45)) [] [] a fd) : Bd K fd ["step"] sh14 :=
  bindA F rfl fun _ _ _ _ _ _ us ws h1 h2 => match us, ws, h1, h2 with | [u0], [], _, _ => ⟨_, rfl, rfl⟩
theorem bd15 (F : FunD K "cells_by" "cells_by" (defArgs (top 46)) d_cells_by_b.py (defScope (top 46)) [] [] a fd) : Bd K fd ["step", "way"] sh15 :=
  bindA F rfl fun _ _ _ _ _ _ us ws h1 h2 => match us, ws, h1, h2 with | [u0, u1], [], _, _ => ⟨_, rfl, rfl⟩
theorem bd16 (F : FunD K "need_step" "need_step" (defArgs (top 43)) d_need_step_b.py (defScope (top 43)) [] [] a fd) : Bd K fd ["thing"] sh16 :=
  bindA F rfl fun _ _ _ _ _ _ us ws h1 h2 => match us, ws, h1, h2 with | [u0], [], _, _ => ⟨_, rfl, rfl⟩
theorem bd17 (F : FunD K "own_clash" "own_clash" (defArgs (top 47)) d_own_clash_b.py (defScope (top 47)) [] [] a fd) : Bd K fd ["one", "other"] sh17 :=
  bindA F rfl fun _ _ _ _ _ _ us ws h1 h2 => match us, ws, h1, h2 with | [u0, u1], [], _, _ => ⟨_, rfl, rfl⟩
theorem bd18 (F : FunD K "_law_mixed" "_law_mixed" (defArgs (top 50)) d_law_mixed_b.py (defScope (top 50)) [] [] a fd) : Bd K fd ["_law_drawn", "_law_k"] sh18 :=
  bindA F rfl fun _ _ _ _ _ _ us ws h1 h2 => match us, ws, h1, h2 with | [u0, u1], [], _, _ => ⟨_, rfl, rfl⟩
theorem bd19 (F : FunD K "_law_take" "_law_take" (defArgs (top 51)) d_law_take_b.py (defScope (top 51)) [] [] a fd) : Bd K fd ["_law_stream", "_law_many"] sh19 :=
  bindA F rfl fun _ _ _ _ _ _ us ws h1 h2 => match us, ws, h1, h2 with | [u0, u1], [], _, _ => ⟨_, rfl, rfl⟩
theorem bd20 (F : FunD K "_law_of" "_law_of" (defArgs (top 52)) d_law_of_b.py (defScope (top 52)) [] [] a fd) : Bd K fd ["_law_stream", "_law_some"] sh20 :=
  bindA F rfl fun _ _ _ _ _ _ us ws h1 h2 => match us, ws, h1, h2 with | [u0, u1], [], _, _ => ⟨_, rfl, rfl⟩
theorem bd21 (F : FunD K "_law_comb" "_law_comb" (defArgs (top 53)) d_law_comb_b.py (defScope (top 53)) [] [] a fd) : Bd K fd ["_law_begin", "_law_wide", "_law_rows", "_law_pitch"] sh21 :=
  bindA F rfl fun _ _ _ _ _ _ us ws h1 h2 => match us, ws, h1, h2 with | [u0, u1, u2, u3], [], _, _ => ⟨_, rfl, rfl⟩
theorem bd22 (F : FunD K "cells_of" "cells_of" (defArgs (top 18)) d_cells_of_b.py (defScope (top 18)) [] [] a fd) : Bd K fd ["area"] sh22 :=
  bindA F rfl fun _ _ _ _ _ _ us ws h1 h2 => match us, ws, h1, h2 with | [u0], [], _, _ => ⟨_, rfl, rfl⟩
theorem bd23 (F : FunD K "_law_shared" "_law_shared" (defArgs (top 54)) d_law_shared_b.py (defScope (top 54)) [] [] a fd) : Bd K fd ["_law_gap", "_law_pitch", "_law_first", "_law_second"] sh23 :=
  bindA F rfl fun _ _ _ _ _ _ us ws h1 h2 => match us, ws, h1, h2 with | [u0, u1, u2, u3], [], _, _ => ⟨_, rfl, rfl⟩
theorem bd24 (F : FunD K "they_meet" "they_meet" (defArgs (top 21)) d_they_meet_b.py (defScope (top 21)) [] [] a fd) : Bd K fd ["one", "other"] sh24 :=
  bindA F rfl fun _ _ _ _ _ _ us ws h1 h2 => match us, ws, h1, h2 with | [u0, u1], [], _, _ => ⟨_, rfl, rfl⟩
theorem bd25 (F : FunD K "steps_clash" "steps_clash" (defArgs (top 48)) d_steps_clash_b.py (defScope (top 48)) [] [] a fd) : Bd K fd ["one", "other"] sh25 :=
  bindA F rfl fun _ _ _ _ _ _ us ws h1 h2 => match us, ws, h1, h2 with | [u0, u1], [], _, _ => ⟨_, rfl, rfl⟩
theorem bd26 (F : FunD K "plain_area" "plain_area" (defArgs (top 24)) d_plain_area_b.py (defScope (top 24)) [] [] a fd) : Bd K fd ["start", "count"] sh26 :=
  bindA F rfl fun _ _ _ _ _ _ us ws h1 h2 => match us, ws, h1, h2 with | [u0, u1], [], _, _ => ⟨_, rfl, rfl⟩
theorem bd27 (F : FunD K "size_of" "size_of" (defArgs (top 20)) d_size_of_b.py (defScope (top 20)) [] [] a fd) : Bd K fd ["area"] sh27 :=
  bindA F rfl fun _ _ _ _ _ _ us ws h1 h2 => match us, ws, h1, h2 with | [u0], [], _, _ => ⟨_, rfl, rfl⟩
theorem bd28 (F : FunD K "stretches_of" "stretches_of" (defArgs (top 23)) d_stretches_of_b.py (defScope (top 23)) [] [] a fd) : Bd K fd ["area"] sh28 :=
  bindA F rfl fun _ _ _ _ _ _ us ws h1 h2 => match us, ws, h1, h2 with | [u0], [], _, _ => ⟨_, rfl, rfl⟩
theorem bd29 (F : FunD K "_law_two_right" "_law_two_right" (defArgs (top 55)) d_law_two_right_b.py (defScope (top 55)) [] [] a fd) : Bd K fd ["_law_stream"] sh29 :=
  bindA F rfl fun _ _ _ _ _ _ us ws h1 h2 => match us, ws, h1, h2 with | [u0], [], _, _ => ⟨_, rfl, rfl⟩
theorem bd30 (F : FunD K "_law_combs_right" "_law_combs_right" (defArgs (top 56)) d_law_combs_right_b.py (defScope (top 56)) [] [] a fd) : Bd K fd ["_law_stream"] sh30 :=
  bindA F rfl fun _ _ _ _ _ _ us ws h1 h2 => match us, ws, h1, h2 with | [u0], [], _, _ => ⟨_, rfl, rfl⟩
end
theorem cal {K : Frag} : ∀ (c : Nat) (sh : CallSh), P.calls[c]? = some sh → ∃ e : Dx, dx[sh.f]? = some e ∧ e.df.x = sh.x ∧ ∀ (a : Addr) (fd : FuncData), FunD K e.df.x e.df.x e.params e.df.body.py e.df.sc (e.dd.dvs K) (e.dd.kws K) a fd → Bd K fd e.df.ps sh
  | 0, sh, h => by cases h; exact ⟨_, rfl, rfl, fun a fd F => bd0 F⟩
  | 1, sh, h => by cases h; exact ⟨_, rfl, rfl, fun a fd F => bd1 F⟩
  | 2, sh, h => by cases h; exact ⟨_, rfl, rfl, fun a fd F => bd2 F⟩
  | 3, sh, h => by cases h; exact ⟨_, rfl, rfl, fun a fd F => bd3 F⟩
  | 4, sh, h => by cases h; exact ⟨_, rfl, rfl, fun a fd F => bd4 F⟩
  | 5, sh, h => by cases h; exact ⟨_, rfl, rfl, fun a fd F => bd5 F⟩
  | 6, sh, h => by cases h; exact ⟨_, rfl, rfl, fun a fd F => bd6 F⟩
  | 7, sh, h => by cases h; exact ⟨_, rfl, rfl, fun a fd F => bd7 F⟩
  | 8, sh, h => by cases h; exact ⟨_, rfl, rfl, fun a fd F => bd8 F⟩
  | 9, sh, h => by cases h; exact ⟨_, rfl, rfl, fun a fd F => bd9 F⟩
  | 10, sh, h => by cases h; exact ⟨_, rfl, rfl, fun a fd F => bd10 F⟩
  | 11, sh, h => by cases h; exact ⟨_, rfl, rfl, fun a fd F => bd11 F⟩
  | 12, sh, h => by cases h; exact ⟨_, rfl, rfl, fun a fd F => bd12 F⟩
  | 13, sh, h => by cases h; exact ⟨_, rfl, rfl, fun a fd F => bd13 F⟩
  | 14, sh, h => by cases h; exact ⟨_, rfl, rfl, fun a fd F => bd14 F⟩
  | 15, sh, h => by cases h; exact ⟨_, rfl, rfl, fun a fd F => bd15 F⟩
  | 16, sh, h => by cases h; exact ⟨_, rfl, rfl, fun a fd F => bd16 F⟩
  | 17, sh, h => by cases h; exact ⟨_, rfl, rfl, fun a fd F => bd17 F⟩
  | 18, sh, h => by cases h; exact ⟨_, rfl, rfl, fun a fd F => bd18 F⟩
  | 19, sh, h => by cases h; exact ⟨_, rfl, rfl, fun a fd F => bd19 F⟩
  | 20, sh, h => by cases h; exact ⟨_, rfl, rfl, fun a fd F => bd20 F⟩
  | 21, sh, h => by cases h; exact ⟨_, rfl, rfl, fun a fd F => bd21 F⟩
  | 22, sh, h => by cases h; exact ⟨_, rfl, rfl, fun a fd F => bd22 F⟩
  | 23, sh, h => by cases h; exact ⟨_, rfl, rfl, fun a fd F => bd23 F⟩
  | 24, sh, h => by cases h; exact ⟨_, rfl, rfl, fun a fd F => bd24 F⟩
  | 25, sh, h => by cases h; exact ⟨_, rfl, rfl, fun a fd F => bd25 F⟩
  | 26, sh, h => by cases h; exact ⟨_, rfl, rfl, fun a fd F => bd26 F⟩
  | 27, sh, h => by cases h; exact ⟨_, rfl, rfl, fun a fd F => bd27 F⟩
  | 28, sh, h => by cases h; exact ⟨_, rfl, rfl, fun a fd F => bd28 F⟩
  | 29, sh, h => by cases h; exact ⟨_, rfl, rfl, fun a fd F => bd29 F⟩
  | 30, sh, h => by cases h; exact ⟨_, rfl, rfl, fun a fd F => bd30 F⟩
  | c + 31, sh, h => by cases h
def loose : List Str := (["HaulError", "BadArea", "BadStep", "MOST_CELLS", "FLAGS", "GREATEST_CELL", "GREATEST_BYTE", "is_whole", "is_byte", "is_flag", "MOST_AREA", "END", "area_wrong", "need_area", "own_cells", "cells_of", "own_size", "size_of", "they_meet", "own_stretches"] : List Str) ++ (["stretches_of", "plain_area", "MOST_STEPS", "MOST_NOTED", "COPY", "FILL", "ADD", "NOTE", "WAIT", "FENCE", "READ", "WRITE", "SIZE", "SKIP", "STEP_FORMS", "is_thing", "form_of", "things_wrong", "step_wrong", "need_step"] : List Str) ++ (["list_wrong", "all_touches", "cells_by", "own_clash", "steps_clash", "_law_mixed", "_law_take", "_law_of", "_law_comb", "_law_shared", "_law_two_right", "_law_combs_right"] : List Str)
abbrev Rr : PySem.W.OpenRow := PySem.W.OpenLaw.row PySem.Challenge.rw_haulring_k66_whole_combs_by_rests
abbrev hk : PySem.W.Hook := He.hookX 4 (faOf P) (dx.map Dx.dd) (tabsOf P) [] (exP P)
def ob (s : PySem.W.SharedT) : He.AlX := He.obsX 4 (faOf P) (dx.map Dx.dd) (tabsOf P) [] (exP P) (HandSHeadRun.getT s)
theorem ob_eq (s : PySem.W.SharedT) : ob s = hk.obs s.abs := He.obsX_eq (HandSHeadRun.getT_eq s)
theorem run (w : World) : HandSHeadRun.RunEq Rr (PySem.W.view Rr.prog [57]) hk ob 6000 loose w := by
  refine PySem.W.byRow2 "special-get-raises" (P := fun w => HandSHeadRun.RunEq Rr (PySem.W.view Rr.prog [57]) hk ob 6000 loose w) ?_ ?_ w
  · intro w os
    kernel_rfl
  · intro w os
    kernel_rfl
theorem holds_by (n : Nat) (hr : Room n callerA) (law : ∀ ns : List Int, ns.length ≤ 63 → (∀ k ∈ ns, Builtin.Int.intBits k ≤ 1048576) → ∃ dd fin, (P.den n).fn 30 [(0, .lst (ns.map Val.int))] = some ((dd, .bl true), fin)) :
    PySem.W.WalkO (PySem.W.view Rr.prog [57]) loose (PySem.W.XL (PySem.W.view Rr.prog [57]) []) hk.says Rr.toRowW (HandSHeadRun.topDef Rr.prog 57) [] (fun f vs => PySem.call f vs) := by
  refine law_end (l := PySem.Challenge.rw_haulring_k66_whole_combs_by_rests) (m := 63) (n := n) (P := P) (f := 30) (df := d_law) (x := "_law_script") rfl (by decide) (by kernel_rfl) hr wf rfl rfl ?_ law
  intro w mg fa h Y G hmg0
  obtain ⟨K, KX, c⟩ := Y
  have hmg : mg ("law" : Str) = some (.ref fa) := by
    have e : (HandSHeadRun.topDef Rr.prog 57).name = ("law" : Str) := by kernel_rfl
    rw [← e]
    exact hmg0
  obtain ⟨L, F⟩ := head_lk (dx := dx) rfl KX G c cal
  obtain ⟨fd, F⟩ := F 30 _ rfl
  have e := hmg.symm.trans (He.glo_ok KX G (glo_in c.t.d 30 rfl))
  cases e
  exact ⟨K, fd, KX, L, ⟨_, _, _, _, F⟩, fun s u => by
    have b := FunD.bindsA (ps := ["_law_script"]) F fun _ _ _ _ _ _ us hl => match us, hl with | [_], _ => rfl
    exact b s [u] rfl⟩
end K66
namespace K66
open PySem PySem.Spec PyProof.Rows L2 BV
theorem mixed_ok (n : Nat) (a k : Int) (h0 : 0 ≤ k) (h1 : k ≤ 1000000) : ∃ r, 0 ≤ r ∧ (P.den (n + 1)).fn 23 [(0, .int a), (0, .int k)] = some ((0, .int r), [none, none]) := by
  rw [op_law_mixed]
  have hk : 0 ≤ k * k ∧ k * k ≤ 1000000 * 1000000 := ⟨Int.mul_nonneg h0 h0, Int.mul_le_mul h1 h1 h0 (by decide)⟩
  have hk2 : 7919 * k * k = 7919 * (k * k) := Int.mul_assoc _ _ _
  refine ⟨(a % 2147483647 + 7919 * k * k + 31 * k + 5) ^ 5 % 2147483629 * (48271 + 2 * k) % 2147483587 / 7, by omega, ?_⟩
  simp (disch := first | omega | (simp; done) | (simp; omega)) [d_law_mixed_b]
/-- the stream after c draws -/
def Stm (c : Int) (v : Val) : Prop := 0 ≤ c ∧ ∃ (cells : List Int) (a s t : Int), v = .lst [.lst (cells.map .int), .int a, .int c, .int s, .int t]
@[simp] theorem all_flat (l : List Int) : l.all (Val.flat ∘ Val.int) = true := List.all_eq_true.mpr fun _ _ => rfl
theorem take_ok (n : Nat) {c m : Int} {v : Val} (g : Stm c v) (hc : c < 1000000) (h0 : 0 < m) (h1 : m < 1073741824) :
    ∃ r v', 0 ≤ r ∧ r < m ∧ Stm (c + 1) v' ∧ (P.den (n + 2)).fn 24 [(2, v), (0, .int m)] = some ((0, .int r), [some (2, v'), none]) := by
  obtain ⟨hc0, cells, a, s, t, rfl⟩ := g
  rw [op_law_take]
  have hr : ∀ x : Int, 0 ≤ x % m ∧ x % m < m := fun x => ⟨Int.emod_nonneg _ (by omega), Int.emod_lt_of_pos _ h0⟩
  by_cases ha : a < 2
  · have ha1 : ¬ 1 < a := by omega
    cases cells with
    | nil =>
      obtain ⟨z, hz, e⟩ := mixed_ok n (s + 104729 * (c + 1)) (c + 1) (by omega) (by omega)
      exact ⟨_, _, (hr (z / 11)).1, (hr (z / 11)).2, ⟨by omega, [], a, s, t, rfl⟩, by simp (disch := first | omega | (simp; done) | (simp; omega)) [d_law_take_b, callV, ha, ha1, e]⟩
    | cons x xs =>
      obtain ⟨z, hz, e⟩ := mixed_ok n (s + x) (c + 1) (by omega) (by omega)
      by_cases hx : 1000000000000000000 ≤ x
      · have hx1 : 1 < x := by omega
        exact ⟨_, _, (hr x).1, (hr x).2, ⟨by omega, xs, x / m, z, t, rfl⟩, by simp (disch := first | omega | (simp; done) | (simp; omega)) [d_law_take_b, callV, ha, hx, hx1, e]⟩
      · obtain ⟨z2, hz2, e2⟩ := mixed_ok n (z + 104729 * (c + 1)) (c + 1) (by omega) (by omega)
        exact ⟨_, _, (hr (z2 / 11)).1, (hr (z2 / 11)).2, ⟨by omega, xs, 0, z, t, rfl⟩, by simp (disch := first | omega | (simp; done) | (simp; omega)) [d_law_take_b, callV, ha, hx, e, e2]⟩
  · have ha1 : 1 < a := by omega
    exact ⟨_, _, (hr a).1, (hr a).2, ⟨by omega, cells, a / m, s, t, rfl⟩, by simp (disch := first | omega | (simp; done) | (simp; omega)) [d_law_take_b, callV, ha, ha1]⟩
theorem of_ok (n : Nat) {c : Int} {v : Val} {xs : List Val} (g : Stm c v) (hc : c < 1000000) (h0 : 0 < xs.length) (h1 : xs.length < 1073741824) :
    ∃ u v', u ∈ xs ∧ Stm (c + 1) v' ∧ (P.den (n + 3)).fn 25 [(2, v), (0, .lst xs)] = some ((0, u), [some (2, v'), none]) := by
  rw [op_law_of]
  obtain ⟨r, v', r0, r1, g', e⟩ := take_ok n (m := xs.length) g hc (by omega) (by omega)
  obtain ⟨u, hu⟩ : ∃ u, xs[r.toNat]? = some u := ⟨xs[r.toNat]'(by omega), List.getElem?_eq_getElem (by omega)⟩
  refine ⟨u, v', List.mem_of_getElem? hu, g', ?_⟩
  simp [d_law_of_b, callV, e, ix_in r0 r1, hu]
end K66
namespace K66
open PySem PySem.Spec PyProof.Rows L2 BV
def numB (v : Val) (lo hi : Int) : Bool := match v with
  | .int i => decide (lo ≤ i) && decide (i ≤ hi)
  | _ => false
theorem whole_ok (n : Nat) (v : Val) (lo hi : Int) : (P.den (n + 1)).fn 0 [(0, v), (0, .int lo), (0, .int hi)] = some ((0, .bl (numB v lo hi)), [none, none, none]) := by
  rw [op_is_whole]
  cases v with
  | int i => by_cases h : lo ≤ i <;> simp [d_is_whole_b, numB, h]
  | _ => simp [d_is_whole_b, numB]
/-- a good area -/
structure Ar (s c r p : Int) : Prop where
  s0 : 0 ≤ s
  c0 : 1 ≤ c
  r0 : 1 ≤ r
  pc : c ≤ p
  p1 : r = 1 → p = c
  en : s + (r - 1) * p + c ≤ 1024
  sz : r * c ≤ 256
def arV (s c r p : Int) : Val := .tup [.int s, .int c, .int r, .int p]
theorem Ar.b {s c r p : Int} (h : Ar s c r p) : s ≤ 1023 ∧ c ≤ 256 ∧ r ≤ 256 ∧ p ≤ 1023 ∧ 0 ≤ (r - 1) * p := by
  have h1 := h.s0; have h2 := h.c0; have h3 := h.r0; have h4 := h.pc; have h6 := h.en; have h7 := h.sz
  have a1 : 0 ≤ (r - 1) * p := Int.mul_nonneg (by omega) (by omega)
  have a2 : c ≤ 256 := by
    have : 1 * c ≤ r * c := Int.mul_le_mul_of_nonneg_right h3 (by omega)
    omega
  have a3 : r ≤ 256 := by
    have : r * 1 ≤ r * c := Int.mul_le_mul_of_nonneg_left h2 (by omega)
    omega
  have a4 : p ≤ 1023 := by
    by_cases e : r = 1
    · rw [h.p1 e]; omega
    · have : 1 * p ≤ (r - 1) * p := Int.mul_le_mul_of_nonneg_right (by omega) (by omega)
      omega
  exact ⟨by omega, a2, a3, a4, a1⟩
theorem wrong_ok (n : Nat) {s c r p : Int} (h : Ar s c r p) : (P.den (n + 2)).fn 3 [(0, arV s c r p)] = some ((1, .lst []), [none]) := by
  rw [op_area_wrong]
  obtain ⟨b1, b2, b3, b4, b5⟩ := h.b
  have h1 := h.s0; have h2 := h.c0; have h3 := h.r0; have h4 := h.pc; have h6 := h.en; have h7 := h.sz
  have q1 : numB (.int s) 0 1023 = true := by simp [numB]; omega
  have q2 : numB (.int c) 1 256 = true := by simp [numB]; omega
  have q3 : numB (.int r) 1 256 = true := by simp [numB]; omega
  have q4 : numB (.int p) 1 1023 = true := by simp [numB]; omega
  have m1 : ¬ p < c := by omega
  have m3 : ¬ 1024 < s + (r - 1) * p + c := by omega
  have m4 : ¬ 256 < r * c := by omega
  by_cases e : r = 1
  · subst e
    have m2 := h.p1 rfl
    subst m2
    have m5 : ¬ 1024 < s + p := by omega
    have m6 : ¬ 256 < p := by omega
    simp (disch := first | omega | (simp; done) | (simp; omega)) [d_area_wrong_b, d_area_wrong_l0, arV, callV, whole_ok, BV.numbered, q_forL1, q1, q2, q3, q4, m1, m5, m6, dispD]
  · simp (disch := first | omega | (simp; done) | (simp; omega)) [d_area_wrong_b, d_area_wrong_l0, arV, callV, whole_ok, BV.numbered, q_forL1, q1, q2, q3, q4, m1, m3, m4, e, dispD]
theorem need_ok (n : Nat) {s c r p : Int} (h : Ar s c r p) : (P.den (n + 3)).fn 4 [(0, arV s c r p)] = some ((0, .non), [none]) := by
  rw [op_need_area]
  simp [d_need_area_b, d_need_area_l0, callV, wrong_ok n h]
/-- the cells, row by row -/
def rowsC (s c p : Int) : Nat → List Int
  | 0 => []
  | k + 1 => rowsC s c p k ++ iota (s + (k : Int) * p) c.toNat
def cellsI (s c r p : Int) : List Int := rowsC s c p r.toNat
theorem rows_flat (s c p : Int) : ∀ k : Nat, (iota 0 k).flatMap (fun row => iota (s + row * p) c.toNat) = rowsC s c p k
  | 0 => rfl
  | k + 1 => by
    have : iota 0 (k + 1) = iota 0 k ++ [(k : Int)] := by
      rw [iota_split 1 k 0]
      simp [iota]
    rw [this, List.flatMap_append, rows_flat s c p k]
    simp [rowsC]
theorem rows_len (s c p : Int) (h : 0 ≤ c) : ∀ k : Nat, (rowsC s c p k).length = k * c.toNat
  | 0 => by simp [rowsC]
  | k + 1 => by rw [rowsC, List.length_append, rows_len s c p h k, iota_len, Nat.succ_mul]
theorem cells_len {s c r p : Int} (h : Ar s c r p) : ((cellsI s c r p).length : Int) = r * c ∧ (cellsI s c r p).length ≤ 256 := by
  have h2 := h.c0; have h3 := h.r0; have h7 := h.sz
  have e : ((cellsI s c r p).length : Int) = r * c := by
    unfold cellsI
    rw [rows_len s c p (by omega), Int.natCast_mul, Int.toNat_of_nonneg (by omega), Int.toNat_of_nonneg (by omega)]
  exact ⟨e, by omega⟩
theorem own_ok (n : Nat) {s c r p : Int} (h : Ar s c r p) : (P.den (n + 1)).fn 5 [(0, arV s c r p)] = some ((0, .tup ((cellsI s c r p).map .int)), [none]) := by
  rw [op_own_cells]
  obtain ⟨b1, b2, b3, b4, b5⟩ := h.b
  have h1 := h.s0; have h2 := h.c0; have h3 := h.r0; have h4 := h.pc
  have i1 : inRange r = true := decide_eq_true (by omega)
  have i2 : inRange c = true := decide_eq_true (by omega)
  have hl := (cells_len h).2
  simp (disch := first | omega | (simp; done) | (simp; omega)) [d_own_cells_b, d_own_cells_c0, arV, i1, ints_iota]
  rw [compL_of (g := fun row => (iota (s + row * p) c.toNat).map .int)]
  · have e : (iota 0 r.toNat).flatMap (fun row => (iota (s + row * p) c.toNat).map Val.int) = (cellsI s c r p).map .int := by
      unfold cellsI
      rw [← rows_flat, List.map_flatMap]
    have hl2 : ((iota 0 r.toNat).flatMap fun row => (iota (s + row * p) c.toNat).map Val.int).length ≤ 100000 := by
      rw [e, List.length_map]; omega
    simp only [Option.bind_some, q_fits hl2]
    simp [e]
  · intro row hr
    rw [mem_iota] at hr
    have f1 : -18446744073709551616 < p ∧ p < 18446744073709551616 := by omega
    simp (disch := first | omega | (simp; done) | (simp; omega)) [i2, f1, ints_iota]
    rw [compL_of1 (g := fun x => .int (s + row * p + x))]
    · have e : (iota 0 c.toNat).map (fun x => Val.int (s + row * p + x)) = (iota (s + row * p) c.toNat).map .int := by
        have := congrArg (List.map Val.int) (iota_map (s + row * p) c.toNat 0)
        rw [List.map_map, Int.add_zero] at this
        exact this
      rw [e]
      exact ⟨_, _, rfl, rfl, rfl⟩
    · intro x hx
      simp (disch := first | omega | (simp; done) | (simp; omega)) [f1]
end K66
namespace K66
open PySem PySem.Spec PyProof.Rows L2 BV
variable {s c r p s' c' r' p' : Int}
theorem cells_ok (n : Nat) (h : Ar s c r p) : (P.den (n + 4)).fn 6 [(0, arV s c r p)] = some ((0, .tup ((cellsI s c r p).map .int)), [none]) := by
  rw [op_cells_of]
  simp [d_cells_of_b, callV, need_ok n h, own_ok (n + 2) h]
theorem osize_ok (n : Nat) (h : Ar s c r p) : (P.den (n + 1)).fn 7 [(0, arV s c r p)] = some ((0, .int (c * r)), [none]) := by
  rw [op_own_size]
  obtain ⟨b1, b2, b3, b4, b5⟩ := h.b
  have h2 := h.c0; have h3 := h.r0
  simp (disch := first | omega | (simp; done) | (simp; omega)) [d_own_size_b, arV]
def sharesB (l m : List Int) : Bool := m.any fun i => decide (i ∈ l)
theorem meet_ok (n : Nat) (h : Ar s c r p) (h' : Ar s' c' r' p') : (P.den (n + 4)).fn 9 [(0, arV s c r p), (0, arV s' c' r' p')] = some ((0, .bl (sharesB (cellsI s c r p) (cellsI s' c' r' p'))), [none, none]) := by
  rw [op_they_meet]
  have l1 := (cells_len h).2
  have l2 := (cells_len h').2
  simp [d_they_meet_b, d_they_meet_c0, d_they_meet_c1, callV, need_ok n h, need_ok n h', own_ok (n + 2) h, own_ok (n + 2) h']
  rw [compL_of1 (g := fun i => .tup [.int i, .bl true])]
  · obtain ⟨kvs, e1, e2⟩ := put_ints (.bl true) (cellsI s c r p) []
    have f1 : fitsLine (cellsI s c r p).length = true := q_fits (by omega)
    have f2 : fitsLine (cellsI s' c' r' p').length = true := q_fits (by omega)
    simp [f1, e1, own_ok (n + 2) h']
    rw [compL_of1 (g := fun i => .bl (decide (i ∈ cellsI s c r p)))]
    · simp [f2, bools_of (g := fun i => decide (i ∈ cellsI s c r p)), sharesB, Function.comp_def]
    · intro i hi
      simp [in_dic, e2]
  · intro i hi
    simp
def pairI (q : Int × Int) : Val := .tup [.int q.1, .int q.2]
def strI (s c r p : Int) : List (Int × Int) := if p = c then [(s, c * r)] else (iota 0 r.toNat).map fun k => (s + k * p, c)
theorem ostr_ok (n : Nat) (h : Ar s c r p) : (P.den (n + 1)).fn 10 [(0, arV s c r p)] = some ((0, .tup ((strI s c r p).map pairI)), [none]) := by
  rw [op_own_stretches]
  obtain ⟨b1, b2, b3, b4, b5⟩ := h.b
  have h2 := h.c0; have h3 := h.r0; have h4 := h.pc
  have i1 : inRange r = true := decide_eq_true (by omega)
  by_cases e : p = c
  · simp (disch := first | omega | (simp; done) | (simp; omega)) [d_own_stretches_b, arV, e, strI, pairI]
  · simp (disch := first | omega | (simp; done) | (simp; omega)) [d_own_stretches_b, d_own_stretches_c0, arV, e, i1, ints_iota]
    rw [compL_of1 (g := fun k => pairI (s + k * p, c))]
    · have f1 : fitsLine r.toNat = true := q_fits (by omega)
      simp [f1, strI, e, Function.comp_def]
    · intro k hk
      simp (disch := first | omega | (simp; done) | (simp; omega)) [pairI]
theorem str_ok (n : Nat) (h : Ar s c r p) : (P.den (n + 4)).fn 11 [(0, arV s c r p)] = some ((0, .tup ((strI s c r p).map pairI)), [none]) := by
  rw [op_stretches_of]
  simp [d_stretches_of_b, callV, need_ok n h, ostr_ok (n + 2) h]
theorem size_ok (n : Nat) (h : Ar s c r p) : (P.den (n + 4)).fn 8 [(0, arV s c r p)] = some ((0, .int (c * r)), [none]) := by
  rw [op_size_of]
  simp [d_size_of_b, callV, need_ok n h, osize_ok (n + 2) h]
theorem plain_ar (h : Ar s c 1 c) : arV s c 1 c = .tup [.int s, .int c, .int 1, .int c] := rfl
theorem plain_ok (n : Nat) (h : Ar s c 1 c) : (P.den (n + 4)).fn 12 [(0, .int s), (0, .int c)] = some ((0, arV s c 1 c), [none, none]) := by
  rw [op_plain_area]
  have e := need_ok n h
  unfold arV at e
  simp [d_plain_area_b, callV, e, arV]
end K66
namespace K66
open PySem PySem.Spec PyProof.Rows L2 BV
theorem mem_rows {s c p x : Int} (hc : 0 ≤ c) : ∀ {k : Nat}, x ∈ rowsC s c p k ↔ ∃ j : Int, 0 ≤ j ∧ j < k ∧ s + j * p ≤ x ∧ x < s + j * p + c
  | 0 => by
    simp only [rowsC, List.not_mem_nil, false_iff]
    rintro ⟨j, a, b, _⟩
    omega
  | k + 1 => by
    rw [rowsC, List.mem_append, mem_rows hc, mem_iota]
    constructor
    · rintro (⟨j, a, b, d, e⟩ | ⟨a, b⟩)
      · exact ⟨j, a, by omega, d, e⟩
      · exact ⟨k, by omega, by omega, a, by omega⟩
    · rintro ⟨j, a, b, d, e⟩
      by_cases h : j = k
      · subst h
        exact .inr ⟨d, by omega⟩
      · exact .inl ⟨j, a, by omega, d, e⟩
/-- how many -/
def cnt (q : Int → Bool) : List Int → Nat
  | [] => 0
  | x :: l => (if q x then 1 else 0) + cnt q l
theorem cnt_filter (q : Int → Bool) : ∀ l : List Int, (l.filter q).length = cnt q l
  | [] => rfl
  | x :: l => by
    rw [List.filter_cons, cnt, ← cnt_filter q l]
    cases q x <;> simp <;> omega
theorem cnt_app (q : Int → Bool) : ∀ l m : List Int, cnt q (l ++ m) = cnt q l + cnt q m
  | [], m => by simp [cnt]
  | x :: l, m => by rw [List.cons_append, cnt, cnt, cnt_app q l m]; omega
theorem cnt_congr {q t : Int → Bool} : ∀ {l : List Int}, (∀ x ∈ l, q x = t x) → cnt q l = cnt t l
  | [], _ => rfl
  | x :: l, h => by rw [cnt, cnt, h x (List.mem_cons_self ..), cnt_congr fun y hy => h y (List.mem_cons_of_mem _ hy)]
/-- a sum over ints -/
def sm (f : Int → Int) : List Int → Int
  | [] => 0
  | x :: l => f x + sm f l
theorem sm_congr {f g : Int → Int} : ∀ {l : List Int}, (∀ x ∈ l, f x = g x) → sm f l = sm g l
  | [], _ => rfl
  | x :: l, h => by rw [sm, sm, h x (List.mem_cons_self ..), sm_congr fun y hy => h y (List.mem_cons_of_mem _ hy)]
theorem sm_add (f g : Int → Int) : ∀ l : List Int, sm (fun x => f x + g x) l = sm f l + sm g l
  | [] => rfl
  | x :: l => by rw [sm, sm, sm, sm_add f g l]; omega
theorem sm_zero : ∀ l : List Int, sm (fun _ => 0) l = 0
  | [] => rfl
  | x :: l => by rw [sm, sm_zero l]; rfl
theorem sm_mul (k : Int) (f : Int → Int) : ∀ l : List Int, sm (fun x => f x * k) l = sm f l * k
  | [] => by simp [sm]
  | x :: l => by rw [sm, sm, sm_mul k f l, Int.add_mul]
theorem sm_swap (f : Int → Int → Int) (m : List Int) : ∀ l : List Int, sm (fun x => sm (fun y => f x y) m) l = sm (fun y => sm (fun x => f x y) l) m
  | [] => by simp only [sm]; rw [sm_zero]
  | x :: l => by
    rw [sm, sm_swap f m l, ← sm_add]
    rfl
def ind (b : Bool) : Int := if b then 1 else 0
theorem cnt_sm (q : Int → Bool) : ∀ l : List Int, (cnt q l : Int) = sm (fun x => ind (q x)) l
  | [] => rfl
  | x :: l => by
    rw [cnt, sm, ← cnt_sm q l]
    cases q x <;> simp [ind]
theorem sm_none {f : Int → Bool} : ∀ {l : List Int}, (∀ x ∈ l, f x = false) → sm (fun x => ind (f x)) l = 0
  | [], _ => rfl
  | x :: l, h => by rw [sm, sm_none fun y hy => h y (List.mem_cons_of_mem _ hy), h x (List.mem_cons_self ..)]; rfl
/-- one at the most -/
theorem sm_one {f : Int → Bool} (hu : ∀ x y, f x = true → f y = true → x = y) : ∀ (n : Nat) (lo a : Int), lo ≤ a → a < lo + n → f a = true → sm (fun x => ind (f x)) (iota lo n) = 1
  | 0, lo, a, h1, h2, _ => by omega
  | n + 1, lo, a, h1, h2, h3 => by
    rw [iota, sm]
    by_cases e : lo = a
    · subst e
      rw [h3, sm_none fun x hx => ?_]
      · rfl
      · rw [mem_iota] at hx
        cases q : f x with
        | false => rfl
        | true => have := hu x lo q h3; omega
    · rw [sm_one hu n (lo + 1) a (by omega) (by omega) h3]
      cases q : f lo with
      | false => rfl
      | true => exact absurd (hu lo a q h3) e
/-- of an interval -/
theorem sm_int (lo hi : Int) : ∀ (n : Nat) (a : Int), sm (fun x => ind (decide (lo ≤ x) && decide (x < hi))) (iota a n) = (((min (a + n) hi - max a lo).toNat : Nat) : Int)
  | 0, a => by
    simp only [iota, sm]
    omega
  | n + 1, a => by
    rw [iota, sm, sm_int lo hi n (a + 1)]
    by_cases h1 : lo ≤ a <;> by_cases h2 : a < hi <;> simp [ind, h1, h2] <;> omega
theorem mul_lt_cancel {a b p : Int} (hp : 0 < p) (h : a * p < b * p) : a < b := by
  apply Int.lt_of_mul_lt_mul_right h (by omega)
theorem sm_rows (q : Int → Bool) (s c p : Int) : ∀ k : Nat, (cnt q (rowsC s c p k) : Int) = sm (fun i => sm (fun x => ind (q (s + i * p + x))) (iota 0 c.toNat)) (iota 0 k)
  | 0 => rfl
  | k + 1 => by
    have sp : ∀ (n : Nat) (a : Int), iota a (n + 1) = iota a n ++ [a + n] := by
      intro n
      induction n with
      | zero => intro a; simp [iota]
      | succ n ih =>
        intro a
        rw [iota, ih (a + 1), iota, List.cons_append]
        congr 3
        omega
    have ap : ∀ (f : Int → Int) (l m : List Int), sm f (l ++ m) = sm f l + sm f m := by
      intro f l m
      induction l with
      | nil => simp [sm]
      | cons x l ih => rw [List.cons_append, sm, sm, ih]; omega
    have sh : ∀ (n : Nat) (a d : Int), cnt q (iota (d + a) n) = sm (fun x => ind (q (d + x))) (iota a n) := by
      intro n
      induction n with
      | zero => intro a d; rfl
      | succ n ih =>
        intro a d
        rw [iota, cnt, iota, sm, ← ih (a + 1) d, show d + (a + 1) = d + a + 1 by omega]
        cases q (d + a) <;> simp [ind]
    rw [rowsC, cnt_app, Int.natCast_add, sm_rows q s c p k, sp, ap]
    have := sh c.toNat 0 (s + k * p)
    rw [Int.add_zero] at this
    rw [this]
    simp [sm]
def sharedI (g p W R F M : Int) : Int :=
  let lo := max (1 - R) (0 - (F + g - 1) / p)
  let hi := min (M - 1) ((W - 1 - g) / p)
  sm (fun m => (min W (g + m * p + F) - max 0 (g + m * p)) * (min (R - 1) (M - 1 - m) - max 0 (0 - m) + 1)) (iota lo (hi + 1 - lo).toNat)
theorem shared_ok {b g p W R F M : Int} (p0 : 1 ≤ p) (w0 : 1 ≤ W) (w1 : W ≤ p) (f0 : 1 ≤ F) (f1 : F ≤ p) (r0 : 1 ≤ R) (m0 : 1 ≤ M) :
    (((rowsC b W p R.toNat).filter fun x => decide (x ∈ rowsC (b + g) F p M.toNat)).length : Int) = sharedI g p W R F M := by
  rw [cnt_filter, sm_rows]
  generalize hlo : max (1 - R) (0 - (F + g - 1) / p) = lo
  generalize hhi : min (M - 1) ((W - 1 - g) / p) = hi
  have key : ∀ i ∈ iota 0 R.toNat, ∀ x ∈ iota 0 W.toNat, ind (decide (b + i * p + x ∈ rowsC (b + g) F p M.toNat)) =
      sm (fun m => ind ((decide (0 ≤ i + m) && decide (i + m < M)) && (decide (g + m * p ≤ x) && decide (x < g + m * p + F)))) (iota lo (hi + 1 - lo).toNat) := by
    intro i hi' x hx
    rw [mem_iota] at hi' hx
    have uq : ∀ m m' : Int, ((decide (0 ≤ i + m) && decide (i + m < M)) && (decide (g + m * p ≤ x) && decide (x < g + m * p + F))) = true → ((decide (0 ≤ i + m') && decide (i + m' < M)) && (decide (g + m' * p ≤ x) && decide (x < g + m' * p + F))) = true → m = m' := by
      intro m m' h h'
      simp only [Bool.and_eq_true, decide_eq_true_eq] at h h'
      have a1 : m * p < (m' + 1) * p := by rw [Int.add_mul]; omega
      have a2 : m' * p < (m + 1) * p := by rw [Int.add_mul]; omega
      have := mul_lt_cancel (by omega) a1
      have := mul_lt_cancel (by omega) a2
      omega
    by_cases h : b + i * p + x ∈ rowsC (b + g) F p M.toNat
    · obtain ⟨j, j0, j1, a1, a2⟩ := (mem_rows (by omega)).mp h
      have e1 : (j - i) * p = j * p - i * p := Int.sub_mul ..
      have l1 : j - i ≤ (W - 1 - g) / p := (Int.le_ediv_iff_mul_le (by omega)).mpr (by omega)
      have l2 : i - j ≤ (F + g - 1) / p := (Int.le_ediv_iff_mul_le (by omega)).mpr (by
        have : (i - j) * p = i * p - j * p := Int.sub_mul ..
        omega)
      rw [sm_one uq _ lo (j - i) (by omega) (by omega) (by
        simp only [Bool.and_eq_true, decide_eq_true_eq]
        omega)]
      simp [ind, h]
    · rw [sm_none fun m _ => ?_]
      · simp [ind, h]
      · cases q : ((decide (0 ≤ i + m) && decide (i + m < M)) && (decide (g + m * p ≤ x) && decide (x < g + m * p + F))) with
        | false => rfl
        | true =>
          exfalso
          simp only [Bool.and_eq_true, decide_eq_true_eq] at q
          have e1 : (i + m) * p = i * p + m * p := Int.add_mul ..
          exact h ((mem_rows (by omega)).mpr ⟨i + m, by omega, by omega, by omega, by omega⟩)
  rw [sm_congr fun i hi' => sm_congr fun x hx => key i hi' x hx]
  rw [sm_congr fun i hi' => sm_swap (fun x m => ind ((decide (0 ≤ i + m) && decide (i + m < M)) && (decide (g + m * p ≤ x) && decide (x < g + m * p + F)))) _ _, sm_swap]
  unfold sharedI
  simp only [hlo, hhi]
  apply sm_congr
  intro m hm
  rw [mem_iota] at hm
  have m1 : m ≤ (W - 1 - g) / p := by omega
  have m2 : 0 - m ≤ (F + g - 1) / p := by omega
  rw [Int.le_ediv_iff_mul_le (by omega)] at m1 m2
  have e2 : (0 - m) * p = - (m * p) := by rw [Int.sub_mul]; omega
  have s1 : ∀ i, sm (fun x => ind ((decide (0 ≤ i + m) && decide (i + m < M)) && (decide (g + m * p ≤ x) && decide (x < g + m * p + F)))) (iota 0 W.toNat) = ind (decide (0 - m ≤ i) && decide (i < M - m)) * (min W (g + m * p + F) - max 0 (g + m * p)) := by
    intro i
    have q1 : decide (0 ≤ i + m) = decide (0 - m ≤ i) := by congr 1; apply propext; omega
    have q2 : decide (i + m < M) = decide (i < M - m) := by congr 1; apply propext; omega
    rw [q1, q2]
    cases (decide (0 - m ≤ i) && decide (i < M - m)) with
    | false =>
      show sm (fun _ => (0 : Int)) (iota 0 W.toNat) = _
      rw [sm_zero]
      simp [ind]
    | true =>
      have := sm_int (g + m * p) (g + m * p + F) W.toNat 0
      simp only [Bool.true_and]
      rw [this]
      simp only [ind, if_true]
      omega
  rw [sm_congr fun i _ => s1 i, sm_mul, sm_int, Int.mul_comm]
  congr 1
  omega
theorem all_filter {q : Int → Bool} {l : List Int} (h : ∀ x ∈ l, q x = true) : l.filter q = l := List.filter_eq_self.mpr h
/-- a pitch further on -/
theorem later_ok {b p W : Int} {k : Nat} (p0 : 1 ≤ p) (w0 : 1 ≤ W) (w1 : W ≤ p) :
    (((rowsC (b + p) W p (k + 1)).filter fun x => decide (x ∈ rowsC b W p (k + 1))).length : Int) = W * k := by
  have rl : ∀ k : Nat, (rowsC (b + p) W p k).length = k * W.toNat := by
    intro k
    induction k with
    | zero => simp [rowsC]
    | succ k ih =>
      have il : ∀ (n : Nat) (lo : Int), (iota lo n).length = n := by
        intro n
        induction n with
        | zero => intro lo; rfl
        | succ n ih => intro lo; exact congrArg Nat.succ (ih (lo + 1))
      rw [rowsC, List.length_append, ih, il, Nat.succ_mul]
  have un : rowsC (b + p) W p (k + 1) = rowsC (b + p) W p k ++ iota (b + p + (k : Int) * p) W.toNat := rfl
  rw [un, List.filter_append, List.length_append, all_filter, List.filter_eq_nil_iff.mpr, rl]
  · simp only [List.length_nil, Int.natCast_add, Int.natCast_mul]
    rw [Int.toNat_of_nonneg (by omega), Int.mul_comm]
    omega
  · intro x hx
    rw [mem_iota] at hx
    rw [decide_eq_true_eq, mem_rows (by omega)]
    rintro ⟨j, j0, j1, a, c⟩
    have : j * p ≤ k * p := Int.mul_le_mul_of_nonneg_right (by omega) (by omega)
    omega
  · intro x hx
    obtain ⟨j, j0, j1, a, c⟩ := (mem_rows (by omega)).mp hx
    rw [decide_eq_true_eq, mem_rows (by omega)]
    have : (j + 1) * p = j * p + p := by rw [Int.add_mul]; omega
    exact ⟨j + 1, by omega, by omega, by omega, by omega⟩
/-! ### combs -/
/-- which comb a cell is of -/
theorem comb_at {b w m i j x : Int} (w0 : 1 ≤ w) (m0 : 1 ≤ m) (i0 : 0 ≤ i) (i1 : i < m) (h1 : b + w * i + j * (w * m) ≤ x) (h2 : x < b + w * i + j * (w * m) + w) : (x - b) / w = j * m + i := by
  have e : j * (w * m) = w * (j * m) := by rw [Int.mul_comm w m, ← Int.mul_assoc, Int.mul_comm]
  have e2 : w * (j * m + i) = w * (j * m) + w * i := Int.mul_add ..
  have : x - b = w * (j * m + i) + (x - b - w * (j * m + i)) := by omega
  rw [this, Int.mul_add_ediv_left _ _ (by omega), Int.ediv_eq_zero_of_lt (by omega) (by omega)]
  omega
theorem comb_mod {m i j q : Int} (i0 : 0 ≤ i) (i1 : i < m) (h : q = j * m + i) : q % m = i ∧ q / m = j := by
  subst h
  constructor
  · rw [Int.add_comm, Int.add_mul_emod_self_right]
    exact Int.emod_eq_of_lt i0 i1
  · rw [Int.add_comm, Int.add_mul_ediv_right _ _ (by omega), Int.ediv_eq_zero_of_lt i0 i1]
    omega
def combC (b w m : Int) (r : Nat) (i : Int) : List Int := rowsC (b + w * i) w (w * m) r
theorem mem_comb {b w m i x : Int} {r : Nat} (w0 : 1 ≤ w) (m0 : 1 ≤ m) (i0 : 0 ≤ i) (i1 : i < m) : x ∈ combC b w m r i ↔ b ≤ x ∧ x < b + w * m * r ∧ (x - b) / w % m = i := by
  unfold combC
  rw [mem_rows (by omega)]
  constructor
  · rintro ⟨j, j0, j1, h1, h2⟩
    have e := comb_at w0 m0 i0 i1 h1 h2
    have wi : 0 ≤ w * i := Int.mul_nonneg (by omega) i0
    have wm : 0 ≤ w * m := Int.mul_nonneg (by omega) (by omega)
    have wj : 0 ≤ j * (w * m) := Int.mul_nonneg j0 wm
    have wi2 : w * i + w ≤ w * m := by
      have := Int.mul_le_mul_of_nonneg_left (show i + 1 ≤ m by omega) (show 0 ≤ w by omega)
      rw [Int.mul_add] at this
      omega
    have wr : (j + 1) * (w * m) ≤ r * (w * m) := Int.mul_le_mul_of_nonneg_right (by omega) wm
    rw [Int.add_mul] at wr
    have : w * m * r = r * (w * m) := Int.mul_comm ..
    exact ⟨by omega, by omega, (comb_mod i0 i1 e).1⟩
  · rintro ⟨h1, h2, h3⟩
    have wm : 0 < w * m := Int.mul_pos (by omega) (by omega)
    have a1 := Int.mul_ediv_add_emod (x - b) w
    have a2 := Int.mul_ediv_add_emod ((x - b) / w) m
    have a3 := Int.emod_nonneg (x - b) (show w ≠ 0 by omega)
    have a4 := Int.emod_lt_of_pos (x - b) (show 0 < w by omega)
    have q0 : 0 ≤ (x - b) / w := Int.ediv_nonneg (by omega) (by omega)
    have j0 : 0 ≤ (x - b) / w / m := Int.ediv_nonneg q0 (by omega)
    generalize hj : (x - b) / w / m = j at *
    rw [h3] at a2
    have e : j * (w * m) = w * (m * j) := by rw [← Int.mul_assoc, Int.mul_comm, Int.mul_comm j w, ← Int.mul_assoc, Int.mul_comm m w, Int.mul_assoc]
    have e2 : w * ((x - b) / w) = w * (m * j) + w * i := by rw [← a2, Int.mul_add]
    refine ⟨j, j0, ?_, by omega, by omega⟩
    have wi : 0 ≤ w * i := Int.mul_nonneg (by omega) i0
    have : j * (w * m) < r * (w * m) := by
      have : w * m * r = r * (w * m) := Int.mul_comm ..
      omega
    exact mul_lt_cancel wm this
theorem iota_nodup : ∀ (n : Nat) (lo : Int), (iota lo n).Nodup
  | 0, _ => List.nodup_nil
  | n + 1, lo => by
    rw [iota, List.nodup_cons]
    exact ⟨fun h => by rw [mem_iota] at h; omega, iota_nodup n (lo + 1)⟩
theorem iota_up : ∀ (n : Nat) (lo : Int), (iota lo n).Pairwise (· ≤ ·)
  | 0, _ => List.Pairwise.nil
  | n + 1, lo => by
    rw [iota, List.pairwise_cons]
    exact ⟨fun x h => by rw [mem_iota] at h; omega, iota_up n (lo + 1)⟩
theorem rows_nodup {s c p : Int} (c0 : 0 ≤ c) (cp : c ≤ p) : ∀ k : Nat, (rowsC s c p k).Nodup
  | 0 => List.nodup_nil
  | k + 1 => by
    rw [rowsC, List.nodup_append]
    refine ⟨rows_nodup c0 cp k, iota_nodup _ _, fun x hx y hy e => ?_⟩
    subst e
    obtain ⟨j, j0, j1, h1, h2⟩ := (mem_rows c0).mp hx
    rw [mem_iota] at hy
    have := Int.mul_le_mul_of_nonneg_right (show j + 1 ≤ k by omega) (show 0 ≤ p by omega)
    rw [Int.add_mul] at this
    omega
theorem perm_nodup : ∀ {l m : List Int}, l.Nodup → m.Nodup → (∀ x, x ∈ l ↔ x ∈ m) → l.Perm m := by
  intro l m hl hm h
  rw [List.perm_iff_count]
  intro a
  rw [hl.count, hm.count]
  simp [h a]
/-- all combs together -/
def allC (b w m : Int) (r : Nat) : Nat → List Int
  | 0 => []
  | k + 1 => allC b w m r k ++ combC b w m r k
theorem mem_all {b w m x : Int} {r : Nat} (w0 : 1 ≤ w) (m0 : 1 ≤ m) : ∀ {k : Nat}, (k : Int) ≤ m → (x ∈ allC b w m r k ↔ b ≤ x ∧ x < b + w * m * r ∧ (x - b) / w % m < k)
  | 0, _ => by
    simp only [allC, List.not_mem_nil, false_iff]
    have := Int.emod_nonneg ((x - b) / w) (show m ≠ 0 by omega)
    omega
  | k + 1, h => by
    rw [allC, List.mem_append, mem_all w0 m0 (by omega), mem_comb w0 m0 (by omega) (by omega)]
    omega
theorem all_perm {b w m : Int} {r : Nat} (w0 : 1 ≤ w) (m0 : 1 ≤ m) : (allC b w m r m.toNat).Perm (iota b (w * m * r).toNat) := by
  have nd : ∀ k : Nat, (k : Int) ≤ m → (allC b w m r k).Nodup := by
    intro k
    induction k with
    | zero => intro _; exact List.nodup_nil
    | succ k ih =>
      intro h
      rw [allC, List.nodup_append]
      have wm : w ≤ w * m := by
        have := Int.mul_le_mul_of_nonneg_left m0 (show 0 ≤ w by omega)
        omega
      refine ⟨ih (by omega), rows_nodup (by omega) wm _, fun x hx y hy e => ?_⟩
      subst e
      rw [mem_all w0 m0 (by omega)] at hx
      rw [mem_comb w0 m0 (by omega) (by omega)] at hy
      omega
  have w2 : 0 ≤ w * m * r := Int.mul_nonneg (Int.mul_nonneg (by omega) (by omega)) (by omega)
  refine perm_nodup (nd _ (by omega)) (iota_nodup _ _) fun x => ?_
  rw [mem_all w0 m0 (by omega), mem_iota]
  have := Int.emod_lt_of_pos ((x - b) / w) (show 0 < m by omega)
  omega
end K66
namespace K66
open PySem PySem.Spec PyProof.Rows L2 BV
variable {s c r p s' c' r' p' : Int}
theorem rows_mem {x : Int} (hc : 0 ≤ c) : ∀ {k : Nat}, x ∈ rowsC s c p k ↔ ∃ i : Nat, i < k ∧ s + i * p ≤ x ∧ x < s + i * p + c
  | 0 => ⟨fun h => (by cases h), fun ⟨i, h, _⟩ => (by omega)⟩
  | k + 1 => by
    rw [rowsC, List.mem_append, rows_mem hc, mem_iota, Int.toNat_of_nonneg hc]
    constructor
    · rintro (⟨i, h1, h2⟩ | h)
      · exact ⟨i, by omega, h2⟩
      · exact ⟨k, by omega, h⟩
    · rintro ⟨i, h1, h2⟩
      by_cases e : i = k
      · subst e; exact .inr h2
      · exact .inl ⟨i, by omega, h2⟩
theorem cells_mem {x : Int} (h : Ar s c r p) : x ∈ cellsI s c r p ↔ ∃ i : Int, 0 ≤ i ∧ i < r ∧ s + i * p ≤ x ∧ x < s + i * p + c := by
  have h2 := h.c0; have h3 := h.r0
  unfold cellsI
  rw [rows_mem (by omega)]
  constructor
  · rintro ⟨i, a, b⟩
    exact ⟨i, by omega, by omega, b⟩
  · rintro ⟨i, a, b, e⟩
    refine ⟨i.toNat, by omega, ?_⟩
    rw [Int.toNat_of_nonneg a]
    exact e
theorem row_le (h : Ar s c r p) {i : Int} (a : 0 ≤ i) (b : i < r) : 0 ≤ i * p ∧ s + i * p + c ≤ 1024 := by
  have h2 := h.c0; have h4 := h.pc; have h6 := h.en
  have q : i * p ≤ (r - 1) * p := Int.mul_le_mul_of_nonneg_right (by omega) (by omega)
  exact ⟨Int.mul_nonneg a (by omega), by omega⟩
theorem cells_in {x : Int} (h : Ar s c r p) (hx : x ∈ cellsI s c r p) : 0 ≤ x ∧ x < 1024 := by
  obtain ⟨i, a, b, e1, e2⟩ := (cells_mem h).mp hx
  have := row_le h a b
  have := h.s0
  omega
theorem first_in (h : Ar s c r p) : s ∈ cellsI s c r p := (cells_mem h).mpr ⟨0, by omega, by have := h.r0; omega, by simp, by have := h.c0; simp; omega⟩
theorem sz_ints {l : List Int} {d : Nat} (h : ∀ x ∈ l, x.natAbs < 2 ^ 40) : Szs (l.map .int) (45 * l.length) d := by
  have := szs_all (xs := l.map .int) (m := 43) (d := d) fun x hx => by
    obtain ⟨i, hi, rfl⟩ := List.mem_map.mp hx
    exact sz_int (h i hi)
  rw [List.length_map] at this
  exact this
theorem sz_cells (h : Ar s c r p) {d : Nat} : Sz (.tup ((cellsI s c r p).map .int)) 11524 (d + 1) := by
  have := (cells_len h).2
  exact (sz_ints fun x hx => by have := cells_in h hx; omega).tup.mono (by omega) (Nat.le_refl _)
theorem str_in (h : Ar s c r p) {q : Int × Int} (hq : q ∈ strI s c r p) : 0 ≤ q.1 ∧ q.1 < 1024 ∧ 0 ≤ q.2 ∧ q.2 ≤ 256 := by
  have h1 := h.s0; have h2 := h.c0; have h3 := h.r0; have h6 := h.en; have h7 := h.sz
  obtain ⟨b1, b2, b3, b4, b5⟩ := h.b
  unfold strI at hq
  split at hq
  · have : q = (s, c * r) := by simpa using hq
    subst this
    have e : c * r = r * c := Int.mul_comm _ _
    have e0 : 0 ≤ c * r := Int.mul_nonneg (by omega) (by omega)
    exact ⟨h1, by show s < 1024; omega, e0, by show c * r ≤ 256; omega⟩
  · obtain ⟨k, hk, rfl⟩ := List.mem_map.mp hq
    rw [mem_iota] at hk
    have := row_le h (i := k) (by omega) (by omega)
    exact ⟨by show 0 ≤ s + k * p; omega, by show s + k * p < 1024; omega, by show 0 ≤ c; omega, by show c ≤ 256; omega⟩
theorem sz_pairs {l : List (Int × Int)} {d : Nat} (h : ∀ q ∈ l, q.1.natAbs < 2 ^ 40 ∧ q.2.natAbs < 2 ^ 40) : Sz (.tup (l.map pairI)) (96 * l.length + 4) (d + 2) := by
  have := szs_all (xs := l.map pairI) (m := 94) (d := d + 1) fun x hx => by
    obtain ⟨q, hq, rfl⟩ := List.mem_map.mp hx
    exact ((szs_cons (sz_int (h q hq).1) (szs_cons (sz_int (h q hq).2) szs_nil)).tup).mono (by omega) (Nat.le_refl _)
  rw [List.length_map] at this
  exact this.tup
theorem str_len (h : Ar s c r p) : (strI s c r p).length ≤ 256 := by
  obtain ⟨b1, b2, b3, b4, b5⟩ := h.b
  unfold strI
  split
  · simp
  · rw [List.length_map, iota_len]; omega
theorem sz_str' (h : Ar s c r p) {d : Nat} : Sz (.tup ((strI s c r p).map pairI)) 24580 (d + 2) := by
  have := str_len h
  exact (sz_pairs fun q hq => by have := str_in h hq; omega).mono (by omega) (Nat.le_refl _)
end K66
namespace K66
open PySem PySem.Spec PyProof.Rows L2 BV
abbrev A4 := Int × Int × Int × Int
def v4 (q : A4) : Val := arV q.1 q.2.1 q.2.2.1 q.2.2.2
def Ok4 (q : A4) : Prop := Ar q.1 q.2.1 q.2.2.1 q.2.2.2
def c4 (q : A4) : List Int := cellsI q.1 q.2.1 q.2.2.1 q.2.2.2
def z4 (q : A4) : Int := q.2.1 * q.2.2.1
theorem c4_len {q : A4} (h : Ok4 q) : ((c4 q).length : Int) = z4 q ∧ (c4 q).length ≤ 256 := by
  obtain ⟨a, b⟩ := cells_len h
  exact ⟨by unfold c4 z4; rw [a, Int.mul_comm], b⟩
theorem c4_in {q : A4} (h : Ok4 q) {x : Int} (hx : x ∈ c4 q) : 0 ≤ x ∧ x < 1024 := cells_in h hx
theorem z4_b {q : A4} (h : Ok4 q) : 1 ≤ z4 q ∧ z4 q ≤ 256 := by
  have h2 := h.c0; have h3 := h.r0; have h7 := h.sz
  have : 1 * 1 ≤ q.2.1 * q.2.2.1 := Int.mul_le_mul h2 h3 (by omega) (by omega)
  have e : q.2.1 * q.2.2.1 = q.2.2.1 * q.2.1 := Int.mul_comm _ _
  unfold z4
  omega
/-- the steps -/
inductive Stp where
  | copy (a b : A4) (k : Int)
  | fill (a : A4) (b k : Int)
  | add (a : A4) (c : Int)
  | note (f : Int)
  | wait (f m : Int)
  | fence
def Stp.v : Stp → Val
  | .copy a b k => .tup [.str "copy", v4 a, v4 b, .int k]
  | .fill a b k => .tup [.str "fill", v4 a, .int b, .int k]
  | .add a c => .tup [.str "add", v4 a, .int c]
  | .note f => .tup [.str "note", .int f]
  | .wait f m => .tup [.str "wait", .int f, .int m]
  | .fence => .tup [.str "fence"]
def Stp.Ok : Stp → Prop
  | .copy a b k => Ok4 a ∧ Ok4 b ∧ z4 a = z4 b ∧ 0 ≤ k ∧ k < z4 a
  | .fill a b k => Ok4 a ∧ 0 ≤ b ∧ b < 256 ∧ 0 ≤ k ∧ k < z4 a
  | .add a c => Ok4 a ∧ 0 ≤ c ∧ c < 1024
  | .note f => 0 ≤ f ∧ f < 8
  | .wait f m => 0 ≤ f ∧ f < 8 ∧ 1 ≤ m ∧ m ≤ 99
  | .fence => True
/-- what the parts touch -/
def Stp.tch : Stp → List (List (Str × Int))
  | .copy a b k => (((c4 a).zip (c4 b)).drop k.toNat).map fun q => [("r", q.1), ("w", q.2)]
  | .fill a _ k => ((c4 a).drop k.toNat).map fun x => [("w", x)]
  | .add a c => ((c4 a).map fun x => [(("r" : Str), x)]) ++ [[(("w" : Str), c)]]
  | _ => [[]]
def tV (q : Str × Int) : Val := .tup [.str q.1, .int q.2]
def tsV (l : List (Str × Int)) : Val := .tup (l.map tV)
theorem tch_in {s : Stp} (h : s.Ok) {t : List (Str × Int)} (ht : t ∈ s.tch) {q : Str × Int} (hq : q ∈ t) : (q.1 = "r" ∨ q.1 = "w") ∧ 0 ≤ q.2 ∧ q.2 < 1024 := by
  cases s with
  | copy a b k =>
    obtain ⟨z, hz, rfl⟩ := List.mem_map.mp ht
    have hz := List.mem_of_mem_drop hz
    have h1 := List.of_mem_zip (a := z.1) (b := z.2) hz
    simp only [List.mem_cons, List.mem_nil_iff, or_false] at hq
    rcases hq with rfl | rfl
    · exact ⟨.inl rfl, c4_in h.1 h1.1⟩
    · exact ⟨.inr rfl, c4_in h.2.1 h1.2⟩
  | fill a b k =>
    obtain ⟨z, hz, rfl⟩ := List.mem_map.mp ht
    have hz := List.mem_of_mem_drop hz
    simp only [List.mem_cons, List.mem_nil_iff, or_false] at hq
    subst hq
    exact ⟨.inr rfl, c4_in h.1 hz⟩
  | add a c =>
    rcases List.mem_append.mp ht with ht | ht
    · obtain ⟨z, hz, rfl⟩ := List.mem_map.mp ht
      simp only [List.mem_cons, List.mem_nil_iff, or_false] at hq
      subst hq
      exact ⟨.inl rfl, c4_in h.1 hz⟩
    · simp only [List.mem_cons, List.mem_nil_iff, or_false] at ht
      subst ht
      simp only [List.mem_cons, List.mem_nil_iff, or_false] at hq
      subst hq
      exact ⟨.inr rfl, h.2⟩
  | _ =>
    have : t = [] := by simpa [Stp.tch] using ht
    subst this
    cases hq
theorem tch_len {s : Stp} (h : s.Ok) : s.tch.length ≤ 257 := by
  cases s with
  | copy a b k =>
    have := (c4_len h.1).2
    simp only [Stp.tch, List.length_map, List.length_drop, List.length_zip]
    omega
  | fill a b k =>
    have := (c4_len h.1).2
    simp only [Stp.tch, List.length_map, List.length_drop]
    omega
  | add a c =>
    have := (c4_len h.1).2
    simp only [Stp.tch, List.length_append, List.length_map, List.length_cons, List.length_nil]
    omega
  | _ => simp [Stp.tch]
theorem own4 (n : Nat) {q : A4} (h : Ok4 q) : (P.den (n + 1)).fn 5 [(0, v4 q)] = some ((0, .tup ((c4 q).map .int)), [none]) := own_ok n h
theorem size4 (n : Nat) {q : A4} (h : Ok4 q) : (P.den (n + 1)).fn 7 [(0, v4 q)] = some ((0, .int (z4 q)), [none]) := osize_ok n h
theorem wrong4 (n : Nat) {q : A4} (h : Ok4 q) : (P.den (n + 2)).fn 3 [(0, v4 q)] = some ((1, .lst []), [none]) := wrong_ok n h
theorem drop_fits {l : List Val} {k : Nat} (h : l.length ≤ 300) : fitsLine (l.length - k) = true := q_fits (by omega)
theorem all_touches_ok (n : Nat) {s : Stp} (h : s.Ok) : (P.den (n + 2)).fn 19 [(0, s.v)] = some ((1, .lst (s.tch.map tsV)), [none]) := by
  rw [op_all_touches]
  cases s with
  | copy a b k =>
    obtain ⟨ha, hb, hz, k0, k1⟩ := h
    have la := c4_len ha
    have lb := c4_len hb
    have hl : (c4 a).length = (c4 b).length := by omega
    have e1 := own4 n ha
    have e2 := own4 n hb
    simp [d_all_touches_b, d_all_touches_c0, callV, Stp.v, e1, e2, hl, pairUp_ints, cut_suf k0, ← List.map_drop]
    rw [compL_of1 (g := fun q => tsV [("r", q.1), ("w", q.2)])]
    · have f : fitsLine ((c4 b).length - k.toNat) = true := q_fits (by omega)
      simp [f, hl, Stp.tch, Function.comp_def]
    · intro q hq
      simp [tsV, tV]
  | fill a b k =>
    obtain ⟨ha, b0, b1, k0, k1⟩ := h
    have la := c4_len ha
    have e1 := own4 n ha
    simp [d_all_touches_b, d_all_touches_c1, callV, Stp.v, e1, cut_suf k0, ← List.map_drop]
    rw [compL_of1 (g := fun x => tsV [("w", x)])]
    · have f : fitsLine ((c4 a).length - k.toNat) = true := q_fits (by omega)
      simp [f, Stp.tch, Function.comp_def]
    · intro q hq
      simp [tsV, tV]
  | add a c =>
    obtain ⟨ha, c0, c1⟩ := h
    have la := c4_len ha
    have e1 := own4 n ha
    simp [d_all_touches_b, d_all_touches_c2, callV, Stp.v, e1]
    rw [compL_of1 (g := fun x => tsV [("r", x)])]
    · have f : fitsLine (c4 a).length = true := q_fits (by omega)
      have f2 : fitsLine ((c4 a).length + 1) = true := q_fits (by omega)
      simp [f, f2, Stp.tch, Function.comp_def, tsV, tV, dispD]
    · intro q hq
      simp [tsV, tV]
  | _ => simp [d_all_touches_b, Stp.v, Stp.tch, tsV, dispD]
end K66
namespace K66
open PySem PySem.Spec PyProof.Rows L2 BV
theorem byte_ok (n : Nat) {i : Int} (h0 : 0 ≤ i) (h1 : i < 256) : (P.den (n + 2)).fn 1 [(0, .int i)] = some ((0, .bl true), [none]) := by
  rw [op_is_byte]
  have q : numB (.int i) 0 255 = true := by simp [numB]; omega
  simp [d_is_byte_b, callV, whole_ok, q]
theorem flag_ok (n : Nat) {i : Int} (h0 : 0 ≤ i) (h1 : i < 8) : (P.den (n + 2)).fn 2 [(0, .int i)] = some ((0, .bl true), [none]) := by
  rw [op_is_flag]
  have q : numB (.int i) 0 7 = true := by simp [numB]; omega
  simp [d_is_flag_b, callV, whole_ok, q]
/-- the things of a kind -/
def KOk : String → Val → Prop
  | "A", v => ∃ q : A4, Ok4 q ∧ v = v4 q
  | "B", v => ∃ i : Int, 0 ≤ i ∧ i < 256 ∧ v = .int i
  | "C", v => ∃ i : Int, 0 ≤ i ∧ i < 1024 ∧ v = .int i
  | "F", v => ∃ i : Int, 0 ≤ i ∧ i < 8 ∧ v = .int i
  | "N", v => ∃ i : Int, 1 ≤ i ∧ i ≤ 99 ∧ v = .int i
  | _, _ => True
theorem thing_A (n : Nat) {q : A4} (h : Ok4 q) : (P.den (n + 3)).fn 13 [(0, v4 q), (0, .str "A")] = some ((0, .bl true), [none, none]) := by
  rw [op_is_thing]
  simp [d_is_thing_b, callV, wrong4 n h]
theorem thing_B (n : Nat) {i : Int} (h0 : 0 ≤ i) (h1 : i < 256) : (P.den (n + 3)).fn 13 [(0, .int i), (0, .str "B")] = some ((0, .bl true), [none, none]) := by
  rw [op_is_thing]
  simp [d_is_thing_b, callV, byte_ok n h0 h1]
theorem thing_C (n : Nat) {i : Int} (h0 : 0 ≤ i) (h1 : i < 1024) : (P.den (n + 3)).fn 13 [(0, .int i), (0, .str "C")] = some ((0, .bl true), [none, none]) := by
  rw [op_is_thing]
  have q : numB (.int i) 0 1023 = true := by simp [numB]; omega
  simp [d_is_thing_b, callV, whole_ok, q]
theorem thing_F (n : Nat) {i : Int} (h0 : 0 ≤ i) (h1 : i < 8) : (P.den (n + 3)).fn 13 [(0, .int i), (0, .str "F")] = some ((0, .bl true), [none, none]) := by
  rw [op_is_thing]
  simp [d_is_thing_b, callV, flag_ok n h0 h1]
theorem thing_N (n : Nat) {i : Int} (h0 : 1 ≤ i) (h1 : i ≤ 99) : (P.den (n + 3)).fn 13 [(0, .int i), (0, .str "N")] = some ((0, .bl true), [none, none]) := by
  rw [op_is_thing]
  have q : numB (.int i) 1 99 = true := by simp [numB]; omega
  simp [d_is_thing_b, callV, whole_ok, q]
theorem thing_S (n : Nat) (v : Val) : (P.den (n + 3)).fn 13 [(0, v), (0, .str "S")] = some ((0, .bl true), [none, none]) := by
  rw [op_is_thing]
  simp [d_is_thing_b, callV]
/-- the forms -/
def formS : Stp → Str
  | .copy _ _ _ => "AAS"
  | .fill _ _ _ => "ABS"
  | .add _ _ => "AC"
  | .note _ => "F"
  | .wait _ _ => "FN"
  | .fence => ""
def forms : List (Key × Val) := [(.inr "copy", .str "AAS"), (.inr "fill", .str "ABS"), (.inr "add", .str "AC"), (.inr "note", .str "F"), (.inr "wait", .str "FN"), (.inr "fence", .str "")]
theorem so1 : PyData.strOk (Str.ofString "copy") = true := by decide +kernel
theorem so2 : PyData.strOk (Str.ofString "fill") = true := by decide +kernel
theorem so3 : PyData.strOk (Str.ofString "add") = true := by decide +kernel
theorem so4 : PyData.strOk (Str.ofString "note") = true := by decide +kernel
theorem so5 : PyData.strOk (Str.ofString "wait") = true := by decide +kernel
theorem so6 : PyData.strOk (Str.ofString "fence") = true := by decide +kernel
theorem sl1 : (Str.ofString "AAS").length = 3 := by decide +kernel
theorem sl2 : (Str.ofString "ABS").length = 3 := by decide +kernel
theorem sl3 : (Str.ofString "AC").length = 2 := by decide +kernel
theorem sl4 : (Str.ofString "F").length = 1 := by decide +kernel
theorem sl5 : (Str.ofString "FN").length = 2 := by decide +kernel
theorem sl6 : (Str.ofString "").length = 0 := by decide +kernel
theorem st_nb (s : Stp) : s.v.nb = true := by cases s <;> simp [Stp.v, v4, arV, Val.nb, nbs, so1, so2, so3, so4, so5, so6]
theorem st_depth (s : Stp) : s.v.toD.depth ≤ 2 := by cases s <;> simp [Stp.v, v4, arV, Val.toD, toDs, PyData.depth, PyData.depthAll]
theorem st_ne (s : Stp) : eqS s.v (.tup []) = some false := eqS_nb (st_nb s) rfl (by have := st_depth s; omega) (by simp [Val.toD, toDs, PyData.depth, PyData.depthAll]) (by cases s <;> simp [Stp.v])
theorem form_ok (n : Nat) (s : Stp) : (P.den (n + 1)).fn 14 [(0, s.v), (0, .dic forms)] = some ((1, .lst [.str (formS s)]), [none, none]) := by
  rw [op_form_of]
  have z := st_ne s
  cases s <;> (simp only [Stp.v] at z; simp [d_form_of_b, Stp.v, formS, forms, z, dispD, sl1, sl2, sl3, sl4, sl5, sl6])
end K66
namespace K66
open PySem PySem.Spec PyProof.Rows L2 BV
theorem flatMap_nil {α β : Type} (l : List α) : (l.flatMap fun _ => ([] : List β)) = [] := by
  induction l with
  | nil => rfl
  | cons a l ih => simp
theorem compL_nils {f : Val → Slots → Option (List Val × Slots)} {S : Slots} {xs : List Val} (h : ∀ v ∈ xs, f v S = some ([], S)) : compL f xs S = some ([], S) := by
  rw [compL_flat (g := fun _ => []) h, flatMap_nil]
theorem sg1 : BV.numbered 0 (BV.signs "AAS") = [.tup [.int 0, .str "A"], .tup [.int 1, .str "A"], .tup [.int 2, .str "S"]] := by kernel_rfl
theorem sg2 : BV.numbered 0 (BV.signs "ABS") = [.tup [.int 0, .str "A"], .tup [.int 1, .str "B"], .tup [.int 2, .str "S"]] := by kernel_rfl
theorem sg3 : BV.numbered 0 (BV.signs "AC") = [.tup [.int 0, .str "A"], .tup [.int 1, .str "C"]] := by kernel_rfl
theorem sg4 : BV.numbered 0 (BV.signs "F") = [.tup [.int 0, .str "F"]] := by kernel_rfl
theorem sg5 : BV.numbered 0 (BV.signs "FN") = [.tup [.int 0, .str "F"], .tup [.int 1, .str "N"]] := by kernel_rfl
theorem sg6 : BV.numbered 0 (BV.signs "") = [] := by kernel_rfl
theorem things_c (n : Nat) {s : Stp} (h : s.Ok) : ev (P.den (n + 3)) d_things_wrong_c0 [some (0, s.v), some (0, .str (formS s)), none, none] = some ((.own 1, .lst []), [some (0, s.v), some (0, .str (formS s)), none, none]) := by
  cases s with
  | copy a b k =>
    have e1 := thing_A n h.1
    have e2 := thing_A n h.2.1
    have e3 := thing_S n (.int k)
    simp [d_things_wrong_c0, formS, sg1]
    rw [compL_nils]
    · simp
    · intro v hv
      simp only [List.mem_cons, List.mem_nil_iff, or_false] at hv
      rcases hv with rfl | rfl | rfl <;> simp [Stp.v, callV, e1, e2, e3]
  | fill a b k =>
    have e1 := thing_A n h.1
    have e2 := thing_B n h.2.1 h.2.2.1
    have e3 := thing_S n (.int k)
    simp [d_things_wrong_c0, formS, sg2]
    rw [compL_nils]
    · simp
    · intro v hv
      simp only [List.mem_cons, List.mem_nil_iff, or_false] at hv
      rcases hv with rfl | rfl | rfl <;> simp [Stp.v, callV, e1, e2, e3]
  | add a c =>
    have e1 := thing_A n h.1
    have e2 := thing_C n h.2.1 h.2.2
    simp [d_things_wrong_c0, formS, sg3]
    rw [compL_nils]
    · simp
    · intro v hv
      simp only [List.mem_cons, List.mem_nil_iff, or_false] at hv
      rcases hv with rfl | rfl <;> simp [Stp.v, callV, e1, e2]
  | note f =>
    have e1 := thing_F n h.1 h.2
    simp [d_things_wrong_c0, formS, sg4]
    rw [compL_nils]
    · simp
    · intro v hv
      simp only [List.mem_cons, List.mem_nil_iff, or_false] at hv
      subst hv
      simp [Stp.v, callV, e1]
  | wait f m =>
    have e1 := thing_F n h.1 h.2.1
    have e2 := thing_N n h.2.2.1 h.2.2.2
    simp [d_things_wrong_c0, formS, sg5]
    rw [compL_nils]
    · simp
    · intro v hv
      simp only [List.mem_cons, List.mem_nil_iff, or_false] at hv
      rcases hv with rfl | rfl <;> simp [Stp.v, callV, e1, e2]
  | fence => simp [d_things_wrong_c0, formS, sg6]
theorem cut_nil1 : cutL [] none (some 1) = [] := by rw [cut_pre (by omega)]; rfl
theorem things_ok (n : Nat) {s : Stp} (h : s.Ok) : (P.den (n + 4)).fn 15 [(0, s.v), (0, .str (formS s))] = some ((1, .lst []), [none, none]) := by
  rw [op_things_wrong]
  simp [d_things_wrong_b, things_c n h, cut_nil1]
def dW : Stp → Nat
  | .copy _ _ _ => 1
  | .fill _ _ _ => 1
  | _ => 0
theorem stepw_ok (n : Nat) {s : Stp} (h : s.Ok) : (P.den (n + 5)).fn 16 [(0, s.v)] = some ((dW s, .lst []), [none]) := by
  rw [op_step_wrong]
  have e1 := form_ok (n + 3) s
  have e2 := things_ok n h
  have ef : (forms.map fun q => (q.1, q.2)) = forms := by simp
  unfold forms at e1
  cases s with
  | copy a b k =>
    have q : numB (.int k) 0 (z4 a - 1) = true := by have := h.2.2.2; simp [numB]; omega
    have q2 := h.2.2.1
    rw [q2] at q
    have z1 := size4 (n + 3) h.1
    have z2 := size4 (n + 3) h.2.1
    simp only [Stp.v] at e1 e2
    simp [d_step_wrong_b, d_step_wrong_l0, q_forL1, Stp.v, callV, e1, e2, z1, z2, whole_ok, q, q2, dispD, dW]
  | fill a b k =>
    have q : numB (.int k) 0 (z4 a - 1) = true := by have := h.2.2.2; simp [numB]; omega
    have z1 := size4 (n + 3) h.1
    simp only [Stp.v] at e1 e2
    simp [d_step_wrong_b, d_step_wrong_l0, q_forL1, Stp.v, callV, e1, e2, z1, whole_ok, q, dispD, dW]
  | _ =>
    simp only [Stp.v] at e1 e2
    simp [d_step_wrong_b, d_step_wrong_l0, q_forL1, Stp.v, callV, e1, e2, dispD, dW]
theorem listw_c (n : Nat) {l : List Stp} (h : ∀ s ∈ l, s.Ok) : ev (P.den (n + 5)) d_list_wrong_c0 [some (0, .tup (l.map Stp.v)), none, none] = some ((.own 1, .lst []), [some (0, .tup (l.map Stp.v)), none, none]) := by
  simp [d_list_wrong_c0]
  rw [compL_nils]
  · simp
  · intro v hv
    rw [numbered_map] at hv
    obtain ⟨⟨s, i⟩, hs, rfl⟩ := List.mem_map.mp hv
    have hm : s ∈ l := (List.mem_zipIdx hs).2.2 ▸ List.getElem_mem _
    simp [callV, stepw_ok n (h s hm)]
theorem listw_ok (n : Nat) {l : List Stp} (h : ∀ s ∈ l, s.Ok) (h0 : 1 ≤ l.length) (h1 : l.length ≤ 64) : (P.den (n + 6)).fn 18 [(0, .tup (l.map Stp.v))] = some ((1, .lst []), [none]) := by
  rw [op_list_wrong]
  have q0 : (1 : Int) ≤ l.length := by omega
  have q1 : (l.length : Int) ≤ 64 := by omega
  simp [d_list_wrong_b, listw_c n h, q0, q1, cut_nil1]
end K66
namespace K66
open PySem PySem.Spec PyProof.Rows L2 BV
theorem needs_ok (n : Nat) {s : Stp} (h : s.Ok) : (P.den (n + 6)).fn 17 [(0, s.v)] = some ((0, .non), [none]) := by
  rw [op_need_step]
  simp [d_need_step_b, d_need_step_l0, callV, stepw_ok n h]
/-- the cells of a part by a way -/
def tW (w : Str) (t : List (Str × Int)) : List Int := (t.filter fun q => decide (q.1 = w)).map (·.2)
def Stp.by (s : Stp) (w : Str) : List Int := s.tch.flatMap (tW w)
theorem tw_len {s : Stp} {t : List (Str × Int)} (ht : t ∈ s.tch) (w : Str) : (tW w t).length ≤ 2 := by
  have h : t.length ≤ 2 := by
    cases s with
    | copy a b k => obtain ⟨z, hz, rfl⟩ := List.mem_map.mp ht; simp
    | fill a b k => obtain ⟨z, hz, rfl⟩ := List.mem_map.mp ht; simp
    | add a c =>
      rcases List.mem_append.mp ht with ht | ht
      · obtain ⟨z, hz, rfl⟩ := List.mem_map.mp ht; simp
      · simp at ht; subst ht; simp
    | _ => simp [Stp.tch] at ht; subst ht; simp
  unfold tW
  rw [List.length_map]
  exact Nat.le_trans (List.length_filter_le ..) h
theorem flat_len {α β : Type} {f : α → List β} : ∀ {l : List α}, (∀ a ∈ l, (f a).length ≤ 2) → (l.flatMap f).length ≤ 2 * l.length
  | [], _ => by simp
  | a :: l, h => by
    have h1 := h a (List.mem_cons_self ..)
    have h2 := flat_len fun b hb => h b (List.mem_cons_of_mem _ hb)
    rw [List.flatMap_cons, List.length_append, List.length_cons]
    omega
theorem by_len {s : Stp} (h : s.Ok) (w : Str) : (s.by w).length ≤ 600 := by
  have := flat_len (f := tW w) (l := s.tch) fun t ht => tw_len ht w
  have := tch_len h
  unfold Stp.by
  omega
theorem ints_of : ∀ l : List Int, intsOf (l.map .int) = some l
  | [] => rfl
  | i :: l => by
    show (intsOf (l.map .int)).map (i :: ·) = _
    rw [ints_of l]; rfl
theorem by_in (n : Nat) (s : Stp) (w : Str) (t : List (Str × Int)) (a0 a1 a2 : Option R) : True := trivial
theorem by_ok (n : Nat) {s : Stp} (h : s.Ok) (w : Str) : (P.den (n + 3)).fn 20 [(0, s.v), (0, .str w)] = some ((0, .tup ((sortU (s.by w)).map .int)), [none, none]) := by
  rw [op_cells_by]
  have hl : decide ((s.by w).length ≤ 4000) = true := decide_eq_true (by have := by_len h w; omega)
  simp [d_cells_by_b, d_cells_by_c0, callV, all_touches_ok n h]
  rw [compL_of (g := fun t => (tW w t).map .int)]
  · have e : s.tch.flatMap (fun t => (tW w t).map Val.int) = (s.by w).map .int := by
      unfold Stp.by
      rw [List.map_flatMap]
    simp only [Option.bind_some, e, ints_of, hl]
    simp [gd]
  · intro t ht
    simp [tsV]
    rw [compL_of (g := fun q : Str × Int => bif decide (q.1 = w) then [Val.int q.2] else [])]
    · have e : (t.flatMap fun q : Str × Int => bif decide (q.1 = w) then [Val.int q.2] else []) = (tW w t).map .int := by
        unfold tW
        clear ht
        induction t with
        | nil => rfl
        | cons q t ih =>
          rw [List.flatMap_cons, ih, List.filter_cons]
          by_cases c : q.1 = w <;> simp [c]
      simp only [e]
      simp
      exact ⟨_, _, ⟨rfl, rfl⟩, rfl, rfl⟩
    · intro q hq
      by_cases c : q.1 = w <;> simp [tV, c]
/-- one writes what the other one touches -/
def hitB (a b : Stp) : Bool := (sortU (b.by "r") ++ sortU (b.by "w")).any fun x => decide (x ∈ sortU (a.by "w"))
theorem hit_iff {a b : Stp} : hitB a b = true ↔ ∃ x, (x ∈ b.by "r" ∨ x ∈ b.by "w") ∧ x ∈ a.by "w" := by
  unfold hitB
  rw [List.any_eq_true]
  constructor
  · rintro ⟨x, h1, h2⟩
    rw [List.mem_append, mem_sortU, mem_sortU] at h1
    rw [decide_eq_true_eq, mem_sortU] at h2
    exact ⟨x, h1, h2⟩
  · rintro ⟨x, h1, h2⟩
    refine ⟨x, ?_, ?_⟩
    · rw [List.mem_append, mem_sortU, mem_sortU]; exact h1
    · rw [decide_eq_true_eq, mem_sortU]; exact h2
theorem insU_len (x : Int) : ∀ l : List Int, (insU x l).length ≤ l.length + 1
  | [] => by simp [insU]
  | y :: r => by
    unfold insU
    split
    · simp
    · split
      · simp
      · have := insU_len x r
        simp only [List.length_cons]
        omega
theorem sortU_len : ∀ l : List Int, (sortU l).length ≤ l.length
  | [] => by simp [sortU]
  | x :: l => by
    have h1 := sortU_len l
    have h2 := insU_len x (sortU l)
    have e : sortU (x :: l) = insU x (sortU l) := rfl
    rw [e, List.length_cons]
    omega
theorem hit_turn (n : Nat) {a b : Stp} (ha : a.Ok) (hb : b.Ok) {u0 u1 u4 u5 : Option R} : ∃ u, exs (P.den (n + 3)) d_own_clash_l0 [u0, u1, some (0, a.v), some (0, b.v), u4, u5] = some (bif hitB a b then .rt (0, .bl true) [u0, u1, some (0, a.v), some (0, b.v), u, none] else .nx [u0, u1, some (0, a.v), some (0, b.v), u, none]) := by
  have l1 := by_len ha "w"
  have l2 := by_len hb "r"
  have l3 := by_len hb "w"
  have m1 := sortU_len (a.by "w")
  have m2 := sortU_len (b.by "r")
  have m3 := sortU_len (b.by "w")
  have e1 := by_ok n ha "w"
  have e2 := by_ok n hb "r"
  have e3 := by_ok n hb "w"
  obtain ⟨kvs, k1, k2⟩ := put_ints (.bl true) (sortU (a.by "w")) []
  have f1 : fitsLine (sortU (a.by "w")).length = true := q_fits (by omega)
  have f2 : fitsLine ((sortU (b.by "r")).length + (sortU (b.by "w")).length) = true := q_fits (by omega)
  refine ⟨some (1, .dic kvs), ?_⟩
  simp [d_own_clash_l0, d_own_clash_c0, callV, e1]
  rw [compL_of1 (g := fun i => .tup [.int i, .bl true])]
  · simp [f1, k1, d_own_clash_c1, callV, e2, e3, f2]
    rw [← List.map_append, compL_of1 (g := fun i => .bl (decide (i ∈ sortU (a.by "w"))))]
    · have f3 : fitsLine (sortU (b.by "r") ++ sortU (b.by "w")).length = true := by rw [List.length_append]; exact f2
      have eh : hitB a b = (sortU (b.by "r") ++ sortU (b.by "w")).any fun x => decide (x ∈ sortU (a.by "w")) := rfl
      rw [eh]
      generalize sortU (b.by "r") ++ sortU (b.by "w") = L at *
      simp only [Option.bind_some, List.length_map, f3, bools_of (g := fun i => decide (i ∈ sortU (a.by "w")))]
      cases q : L.any fun x => decide (x ∈ sortU (a.by "w")) <;> simp [gd, bools_of (g := fun i => decide (i ∈ sortU (a.by "w"))), Function.comp_def, q]
    · intro i hi
      simp [in_dic, k2]
  · intro i hi
    simp
def clashB (a b : Stp) : Bool := hitB a b || hitB b a
theorem oclash_ok (n : Nat) {a b : Stp} (ha : a.Ok) (hb : b.Ok) : (P.den (n + 4)).fn 21 [(0, a.v), (0, b.v)] = some ((0, .bl (clashB a b)), [none, none]) := by
  rw [op_own_clash]
  obtain ⟨u, e1⟩ := hit_turn n ha hb (u0 := some (0, a.v)) (u1 := some (0, b.v)) (u4 := none) (u5 := none)
  obtain ⟨u', e2⟩ := hit_turn n hb ha (u0 := some (0, a.v)) (u1 := some (0, b.v)) (u4 := u) (u5 := none)
  unfold clashB
  cases h1 : hitB a b with
  | true =>
    rw [h1] at e1
    simp only [cond_true] at e1
    simp [d_own_clash_b, q_forL1, e1]
  | false =>
    rw [h1] at e1
    simp only [cond_false] at e1
    cases h2 : hitB b a with
    | true =>
      rw [h2] at e2
      simp only [cond_true] at e2
      simp [d_own_clash_b, q_forL1, e1, e2]
    | false =>
      rw [h2] at e2
      simp only [cond_false] at e2
      simp [d_own_clash_b, q_forL1, e1, e2]
theorem clash_ok (n : Nat) {a b : Stp} (ha : a.Ok) (hb : b.Ok) : (P.den (n + 7)).fn 22 [(0, a.v), (0, b.v)] = some ((0, .bl (clashB a b)), [none, none]) := by
  rw [op_steps_clash]
  simp [d_steps_clash_b, callV, needs_ok n ha, needs_ok n hb, oclash_ok (n + 2) ha hb]
end K66
namespace K66
open PySem PySem.Spec PyProof.Rows L2 BV
theorem q_mn {i j : Int} : bltV .min2 [.int i, .int j] = some (0, .int (min i j)) := by
  show some (0, Val.int (if j < i then j else i)) = _
  have : (if j < i then j else i) = min i j := by split <;> omega
  rw [this]
theorem q_mx {i j : Int} : bltV .max2 [.int i, .int j] = some (0, .int (max i j)) := by
  show some (0, Val.int (if j > i then j else i)) = _
  have : (if j > i then j else i) = max i j := by split <;> omega
  rw [this]
theorem comb_ok (n : Nat) (b w r p : Int) : (P.den (n + 1)).fn 26 [(0, .int b), (0, .int w), (0, .int r), (0, .int p)] = some ((0, arV b w r (if 1 < r then p else w)), [none, none, none, none]) := by
  rw [op_law_comb]
  by_cases h : 1 < r <;> simp [d_law_comb_b, arV, h]
theorem comb_ar {b w r p : Int} (b0 : 0 ≤ b) (w0 : 1 ≤ w) (wp : w ≤ p) (r0 : 1 ≤ r) (he : b + (r - 1) * p + w ≤ 1024) (hz : r * w ≤ 256) : Ar b w r (if 1 < r then p else w) := by
  by_cases h : 1 < r
  · rw [if_pos h]
    exact ⟨b0, w0, r0, wp, fun e => by omega, he, hz⟩
  · rw [if_neg h]
    have : r = 1 := by omega
    subst this
    exact ⟨b0, w0, r0, by omega, fun _ => rfl, by simp at he ⊢; omega, hz⟩
theorem comb_cells {b w r p : Int} (r0 : 1 ≤ r) : cellsI b w r (if 1 < r then p else w) = rowsC b w p r.toNat := by
  unfold cellsI
  by_cases h : 1 < r
  · rw [if_pos h]
  · have : r = 1 := by omega
    subst this
    simp [rowsC]
theorem sm_app (f : Int → Int) : ∀ l m : List Int, sm f (l ++ m) = sm f l + sm f m
  | [], m => by simp [sm]
  | x :: l, m => by rw [List.cons_append, sm, sm, sm_app f l m]; omega
/-! ### the law's own reckoning -/
theorem shared_turn (n : Nat) {g p W R F M lo hi acc m f : Int} (hf : m * p = f) (f0 : -100000 ≤ f) (f1 : f ≤ 100000) (p0 : -1000 ≤ p) (p1 : p ≤ 1000) (w0 : 1 ≤ W) (w1 : W ≤ 100) (F0 : 1 ≤ F) (F1 : F ≤ 100) (g0 : -1000 ≤ g) (g1 : g ≤ 1000) {a2 a3 a12 a13 : Option BV.R} :
    exs (P.den n) d_law_shared_l0 [some (0, .int g), some (0, .int p), a2, a3, some (0, .int W), some (0, .int R), some (0, .int F), some (0, .int M), some (0, .int lo), some (0, .int hi), some (0, .int acc), some (0, .int m), a12, a13] =
    some (.nx [some (0, .int g), some (0, .int p), a2, a3, some (0, .int W), some (0, .int R), some (0, .int F), some (0, .int M), some (0, .int lo), some (0, .int hi), some (0, .int (acc + (min W (g + f + F) - max 0 (g + f)) * (min (R - 1) (M - 1 - m) - max 0 (0 - m) + 1))), some (0, .int m), some (0, .int (g + f)), some (0, .int (min W (g + f + F) - max 0 (g + f)))]) := by
  generalize ho : min W (g + f + F) - max 0 (g + f) = o
  have o0 : -1000000 ≤ o := by omega
  have o1 : o ≤ 1000000 := by omega
  simp (disch := first | omega | (simp; done) | (simp; omega)) only [d_law_shared_l0]
  simp (disch := first | omega | (simp; done) | (simp; omega)) [-q_min, -q_max, q_mn, q_mx, hf, ho]
theorem lshared_ok (n : Nat) {g p W R F M : Int} (g0 : -100 ≤ g) (g1 : g ≤ 100) (p0 : 1 ≤ p) (p1 : p ≤ 12) (w0 : 1 ≤ W) (w1 : W ≤ p) (f0 : 1 ≤ F) (f1 : F ≤ p) (r0 : 1 ≤ R) (r1 : R ≤ 6) (m0 : 1 ≤ M) (m1 : M ≤ 6) :
    (P.den (n + 1)).fn 27 [(0, .int g), (0, .int p), (0, .tup [.int W, .int R]), (0, .tup [.int F, .int M])] = some ((0, .int (sharedI g p W R F M)), [none, none, none, none]) := by
  obtain ⟨⟨dd, u⟩, fin, e, q⟩ := Runs.fn (P := P) (n := n) (f := 27) (d := d_law_shared) (rs := [(0, .int g), (0, .int p), (0, .tup [.int W, .int R]), (0, .tup [.int F, .int M])]) (Q := fun z fin => z = (0, .int (sharedI g p W R F M)) ∧ fin = [none, none, none, none]) rfl rfl (by
    show Runs (P.den n) d_law_shared_b [some (0, .int g), some (0, .int p), some (0, .tup [.int W, .int R]), some (0, .tup [.int F, .int M]), none, none, none, none, none, none, none, none, none, none] _
    unfold d_law_shared_b
    generalize hlo : max (1 - R) (0 - (F + g - 1) / p) = lo
    generalize hhi : min (M - 1) ((W - 1 - g) / p) = hi
    have lo0 : -10 ≤ lo := by omega
    have hi1 : hi ≤ 10 := by omega
    refine Runs.step (S' := [some (0, .int g), some (0, .int p), some (0, .tup [.int W, .int R]), some (0, .tup [.int F, .int M]), some (0, .int W), some (0, .int R), some (0, .int F), some (0, .int M), none, none, none, none, none, none]) (by simp) ?_
    refine Runs.step (S' := [some (0, .int g), some (0, .int p), some (0, .tup [.int W, .int R]), some (0, .tup [.int F, .int M]), some (0, .int W), some (0, .int R), some (0, .int F), some (0, .int M), some (0, .int lo), none, none, none, none, none]) (by simp (disch := first | omega | (simp; done) | (simp; omega)) [-q_min, -q_max, q_mn, q_mx]; omega) ?_
    refine Runs.step (S' := [some (0, .int g), some (0, .int p), some (0, .tup [.int W, .int R]), some (0, .tup [.int F, .int M]), some (0, .int W), some (0, .int R), some (0, .int F), some (0, .int M), some (0, .int lo), some (0, .int hi), none, none, none, none]) (by simp (disch := first | omega | (simp; done) | (simp; omega)) [-q_min, -q_max, q_mn, q_mx]; omega) ?_
    refine Runs.step (S' := [some (0, .int g), some (0, .int p), some (0, .tup [.int W, .int R]), some (0, .tup [.int F, .int M]), some (0, .int W), some (0, .int R), some (0, .int F), some (0, .int M), some (0, .int lo), some (0, .int hi), some (0, .int 0), none, none, none]) (by simp) ?_
    have l2 : -1000 ≤ (F + g - 1) / p ∧ (F + g - 1) / p < 1001 := ⟨(Int.le_ediv_iff_mul_le (by omega)).mpr (by omega), (Int.ediv_lt_iff_lt_mul (by omega)).mpr (by omega)⟩
    have l3 : -1000 ≤ (W - 1 - g) / p ∧ (W - 1 - g) / p < 1001 := ⟨(Int.le_ediv_iff_mul_le (by omega)).mpr (by omega), (Int.ediv_lt_iff_lt_mul (by omega)).mpr (by omega)⟩
    have i1 : inRange lo = true := decide_eq_true (by omega)
    have i2 : inRange (hi + 1) = true := decide_eq_true (by omega)
    refine Runs.loop (I := fun i S => ∃ a11 a12 a13, S = [some (0, .int g), some (0, .int p), some (0, .tup [.int W, .int R]), some (0, .tup [.int F, .int M]), some (0, .int W), some (0, .int R), some (0, .int F), some (0, .int M), some (0, .int lo), some (0, .int hi), some (0, .int (sm (fun m => (min W (g + m * p + F) - max 0 (g + m * p)) * (min (R - 1) (M - 1 - m) - max 0 (0 - m) + 1)) (iota lo i))), a11, a12, a13]) (vs := intsFrom lo (hi + 1 - lo).toNat) (S1 := [some (0, .int g), some (0, .int p), some (0, .tup [.int W, .int R]), some (0, .tup [.int F, .int M]), some (0, .int W), some (0, .int R), some (0, .int F), some (0, .int M), some (0, .int lo), some (0, .int hi), some (0, .int 0), none, none, none]) (by simp [i1, i2]) ⟨_, _, _, rfl⟩ ?_ ?_
    · rintro i v S hv ⟨a11, a12, a13, rfl⟩
      obtain ⟨rfl, hi'⟩ := ints_get hv
      refine ⟨_, rfl, ?_⟩
      have hm : -10 ≤ lo + (i : Int) ∧ lo + (i : Int) ≤ 10 := by omega
      have b1 : -10 * p ≤ (lo + (i : Int)) * p := Int.mul_le_mul_of_nonneg_right hm.1 (by omega)
      have b2 : (lo + (i : Int)) * p ≤ 10 * p := Int.mul_le_mul_of_nonneg_right hm.2 (by omega)
      refine ⟨_, shared_turn n (R := R) (M := M) (lo := lo) (hi := hi) (f := (lo + (i : Int)) * p) rfl (by omega) (by omega) (by omega) (by omega) w0 (by omega) f0 (by omega) (by omega) (by omega), ?_⟩
      refine ⟨some (0, .int (lo + (i : Int))), some (0, .int (g + (lo + (i : Int)) * p)), some (0, .int (min W (g + (lo + (i : Int)) * p + F) - max 0 (g + (lo + (i : Int)) * p))), ?_⟩
      rw [iota_split 1 i lo, sm_app]
      simp [sm, iota]
    · rintro S ⟨a11, a12, a13, rfl⟩
      rw [intsFrom_len]
      have ee : sharedI g p W R F M = sm (fun m => (min W (g + m * p + F) - max 0 (g + m * p)) * (min (R - 1) (M - 1 - m) - max 0 (0 - m) + 1)) (iota lo (hi + 1 - lo).toNat) := by
        unfold sharedI
        simp only [hlo, hhi]
      rw [ee]
      generalize sm (fun m => (min W (g + m * p + F) - max 0 (g + m * p)) * (min (R - 1) (M - 1 - m) - max 0 (0 - m) + 1)) (iota lo (hi + 1 - lo).toNat) = tt
      refine Runs.ret (r := (0, .int tt)) (S' := _) (by simp; exact rfl) ⟨rfl, rfl⟩)
  rw [e, q.1, q.2]
end K66
namespace K66
open PySem PySem.Spec PyProof.Rows L2 BV
theorem flat_one {α β : Type} {f : α → β} {h : β → List α} (e : ∀ a, h (f a) = [a]) : ∀ l : List α, (l.map f).flatMap h = l
  | [] => rfl
  | a :: l => by rw [List.map_cons, List.flatMap_cons, e, flat_one e l]; rfl
theorem flat_no {α β γ : Type} {f : α → β} {h : β → List γ} (e : ∀ a, h (f a) = []) : ∀ l : List α, (l.map f).flatMap h = []
  | [] => rfl
  | a :: l => by rw [List.map_cons, List.flatMap_cons, e, flat_no e l]; rfl
theorem fill_w (a : A4) (b : Int) : (Stp.fill a b 0).by "w" = c4 a := by
  have e : (Stp.fill a b 0).tch = (c4 a).map fun x => [(("w" : Str), x)] := by simp [Stp.tch]
  unfold Stp.by
  rw [e]
  exact flat_one (fun x => by simp [tW]) _
theorem fill_r (a : A4) (b : Int) : (Stp.fill a b 0).by "r" = [] := by
  have e : (Stp.fill a b 0).tch = (c4 a).map fun x => [(("w" : Str), x)] := by simp [Stp.tch]
  unfold Stp.by
  rw [e]
  exact flat_no (fun x => by simp [tW]) _
theorem add_w (a : A4) (c : Int) : (Stp.add a c).by "w" = [c] := by
  have e : (Stp.add a c).tch = ((c4 a).map fun x => [(("r" : Str), x)]) ++ [[(("w" : Str), c)]] := rfl
  unfold Stp.by
  rw [e, List.flatMap_append, flat_no (fun x => by simp [tW])]
  simp [tW]
theorem add_r (a : A4) (c : Int) : (Stp.add a c).by "r" = c4 a := by
  have e : (Stp.add a c).tch = ((c4 a).map fun x => [(("r" : Str), x)]) ++ [[(("w" : Str), c)]] := rfl
  unfold Stp.by
  rw [e, List.flatMap_append, flat_one (fun x => by simp [tW])]
  simp [tW]
theorem shares_iff {l m : List Int} : sharesB l m = true ↔ ∃ x, x ∈ m ∧ x ∈ l := by
  unfold sharesB
  rw [List.any_eq_true]
  simp only [decide_eq_true_eq]
theorem clash_ff (a b : A4) (k k' : Int) : clashB (.fill a k 0) (.fill b k' 0) = sharesB (c4 a) (c4 b) := by
  rw [Bool.eq_iff_iff]
  unfold clashB
  rw [Bool.or_eq_true, hit_iff, hit_iff, fill_w, fill_r, fill_w, fill_r, shares_iff]
  constructor
  · rintro (⟨x, h, h'⟩ | ⟨x, h, h'⟩)
    · rcases h with h | h
      · cases h
      · exact ⟨x, h, h'⟩
    · rcases h with h | h
      · cases h
      · exact ⟨x, h', h⟩
  · rintro ⟨x, h, h'⟩
    exact .inl ⟨x, .inr h, h'⟩
theorem clash_af {a b : A4} {c k : Int} (hc : c ∈ c4 a) : clashB (.add a c) (.fill b k 0) = sharesB (c4 a) (c4 b) := by
  rw [Bool.eq_iff_iff]
  unfold clashB
  rw [Bool.or_eq_true, hit_iff, hit_iff, fill_w, fill_r, add_w, add_r, shares_iff]
  constructor
  · rintro (⟨x, h, h'⟩ | ⟨x, h, h'⟩)
    · have e : x = c := by simpa using h'
      subst e
      rcases h with h | h
      · cases h
      · exact ⟨x, h, hc⟩
    · rcases h with h | h
      · exact ⟨x, h', h⟩
      · have e : x = c := by simpa using h
        subst e
        exact ⟨x, h', hc⟩
  · rintro ⟨x, h, h'⟩
    exact .inr ⟨x, .inl h', h⟩
theorem clash_aa {a b : A4} {c d : Int} (h1 : c ∉ c4 b) (h2 : d ∉ c4 a) (h3 : c ≠ d) : clashB (.add a c) (.add b d) = false := by
  cases q : clashB (.add a c) (.add b d) with
  | false => rfl
  | true =>
    exfalso
    unfold clashB at q
    rw [Bool.or_eq_true, hit_iff, hit_iff, add_w, add_r, add_w, add_r] at q
    rcases q with ⟨x, h, h'⟩ | ⟨x, h, h'⟩
    · have e : x = c := by simpa using h'
      subst e
      rcases h with h | h
      · exact h1 h
      · exact h3 (by simpa using h)
    · have e : x = d := by simpa using h'
      subst e
      rcases h with h | h
      · exact h2 h
      · have e2 : x = c := by simpa using h
        exact h3 e2.symm
theorem shares_due {l m : List Int} {d : Int} (h : ((l.filter fun x => decide (x ∈ m)).length : Int) = d) : sharesB l m = decide (0 < d) ∧ sharesB m l = decide (0 < d) := by
  have k : (∃ x, x ∈ m ∧ x ∈ l) ↔ 0 < d := by
    rw [← h]
    constructor
    · rintro ⟨x, a, b⟩
      have : 0 < (l.filter fun x => decide (x ∈ m)).length := List.length_pos_iff.mpr (List.ne_nil_of_mem (List.mem_filter.mpr ⟨b, decide_eq_true a⟩))
      omega
    · intro z
      have z : 0 < (l.filter fun x => decide (x ∈ m)).length := by omega
      obtain ⟨x, hx⟩ := List.exists_mem_of_length_pos z
      rw [List.mem_filter, decide_eq_true_eq] at hx
      exact ⟨x, hx.2, hx.1⟩
  constructor
  · rw [Bool.eq_iff_iff, shares_iff, decide_eq_true_eq]
    exact k
  · rw [Bool.eq_iff_iff, shares_iff, decide_eq_true_eq, ← k]
    exact ⟨fun ⟨x, a, b⟩ => ⟨x, b, a⟩, fun ⟨x, a, b⟩ => ⟨x, b, a⟩⟩
theorem rep4 (t : Bool) : ∃ z, reprV (.lst [.bl t, .bl t, .bl t, .bl t]) = some z := ⟨_, reprs (by
  have := (szs_cons (sz_bl (b := t) (d := 0)) (szs_cons (sz_bl (b := t) (d := 0)) (szs_cons (sz_bl (b := t) (d := 0)) (szs_cons (sz_bl (b := t) (d := 0)) (szs_nil (d := 0)))))).lst
  exact this.shows (by omega) (by omega))⟩
end K66
namespace K66
open PySem PySem.Spec PyProof.Rows L2 BV
theorem cells4 (n : Nat) {q : A4} (h : Ok4 q) : (P.den (n + 4)).fn 6 [(0, v4 q)] = some ((0, .tup ((c4 q).map .int)), [none]) := cells_ok n h
theorem meet4 (n : Nat) {q q' : A4} (h : Ok4 q) (h' : Ok4 q') : (P.den (n + 4)).fn 9 [(0, v4 q), (0, v4 q')] = some ((0, .bl (sharesB (c4 q) (c4 q'))), [none, none]) := meet_ok n h h'
theorem flatRep4 (b : Bool) : flatRep 4 [.bl b] = [.bl b, .bl b, .bl b, .bl b] := rfl
/-- behind the draws -/
theorem two_run (n : Nat) {b g p W R F M : Int} {sv : Val} (b0 : 0 ≤ b) (b1 : b ≤ 850) (bg0 : 0 ≤ b + g) (g0 : -20 ≤ g) (g1 : g ≤ 79) (p0 : 1 ≤ p) (p1 : p ≤ 12) (w0 : 1 ≤ W) (w1 : W ≤ p) (f0 : 1 ≤ F) (f1 : F ≤ p) (r0 : 1 ≤ R) (r1 : R ≤ 6) (m0 : 1 ≤ M) (m1 : M ≤ 6) (ss : CSs) (hss : True) :
    ∃ (one other later : A4), Ok4 one ∧ Ok4 other ∧ Ok4 later ∧ v4 one = arV b W R (if 1 < R then p else W) ∧ v4 other = arV (b + g) F M (if 1 < M then p else F) ∧ v4 later = arV (b + p) W R (if 1 < R then p else W) ∧
      (((c4 one).filter fun x => decide (x ∈ c4 other)).length : Int) = sharedI g p W R F M ∧ (((c4 later).filter fun x => decide (x ∈ c4 one)).length : Int) = W * (R - 1) ∧ b ∈ c4 one ∧ (1020 : Int) ∉ c4 other ∧ (1021 : Int) ∉ c4 one ∧ Ok4 one := by
  have rp : 0 ≤ (R - 1) * p ∧ (R - 1) * p ≤ 5 * p := ⟨Int.mul_nonneg (by omega) (by omega), Int.mul_le_mul_of_nonneg_right (by omega) (by omega)⟩
  have mp : 0 ≤ (M - 1) * p ∧ (M - 1) * p ≤ 5 * p := ⟨Int.mul_nonneg (by omega) (by omega), Int.mul_le_mul_of_nonneg_right (by omega) (by omega)⟩
  have rw' : R * W ≤ 6 * 12 := Int.mul_le_mul (by omega) (by omega) (by omega) (by omega)
  have mf : M * F ≤ 6 * 12 := Int.mul_le_mul (by omega) (by omega) (by omega) (by omega)
  have k1 : Ar b W R (if 1 < R then p else W) := comb_ar b0 w0 w1 r0 (by omega) (by omega)
  have k2 : Ar (b + g) F M (if 1 < M then p else F) := comb_ar bg0 f0 f1 m0 (by omega) (by omega)
  have k3 : Ar (b + p) W R (if 1 < R then p else W) := comb_ar (by omega) w0 w1 r0 (by omega) (by omega)
  have c1 : c4 (b, W, R, (if 1 < R then p else W)) = rowsC b W p R.toNat := comb_cells r0
  have c2 : c4 (b + g, F, M, (if 1 < M then p else F)) = rowsC (b + g) F p M.toNat := comb_cells m0
  have c3 : c4 (b + p, W, R, (if 1 < R then p else W)) = rowsC (b + p) W p R.toNat := comb_cells r0
  refine ⟨(b, W, R, (if 1 < R then p else W)), (b + g, F, M, (if 1 < M then p else F)), (b + p, W, R, (if 1 < R then p else W)), k1, k2, k3, rfl, rfl, rfl, ?_, ?_, ?_, ?_, ?_, k1⟩
  · rw [c1, c2]
    exact shared_ok p0 w0 w1 f0 f1 r0 m0
  · rw [c1, c3]
    have := later_ok (b := b) (p := p) (W := W) (k := (R - 1).toNat) p0 w0 w1
    rw [show (R - 1).toNat + 1 = R.toNat by omega] at this
    rw [this, Int.toNat_of_nonneg (by omega)]
  · rw [c1, mem_rows (by omega)]
    exact ⟨0, by omega, by omega, by omega, by omega⟩
  · rw [c2, mem_rows (by omega)]
    rintro ⟨j, j0, j1, h1, h2⟩
    have : j * p ≤ 5 * p := Int.mul_le_mul_of_nonneg_right (by omega) (by omega)
    omega
  · rw [c1, mem_rows (by omega)]
    rintro ⟨j, j0, j1, h1, h2⟩
    have : j * p ≤ 5 * p := Int.mul_le_mul_of_nonneg_right (by omega) (by omega)
    omega
end K66
namespace K66
open PySem PySem.Spec PyProof.Rows L2 BV
theorem two_ok (n : Nat) {c0 : Int} {v : Val} (g : Stm c0 v) (hc : c0 ≤ 900000) : ∃ v' c', Stm c' v' ∧ c' ≤ c0 + 8 ∧ (P.den (n + 8)).fn 28 [(2, v)] = some ((0, .bl true), [some (2, v')]) := by
  obtain ⟨r1, v1, a1, b1, g1, e1⟩ := take_ok (n + 5) (m := 12) g (by omega) (by omega) (by omega)
  obtain ⟨p, hp⟩ : ∃ p, 1 + r1 = p := ⟨_, rfl⟩
  obtain ⟨r2, v2, a2, b2, g2, e2⟩ := take_ok (n + 5) (m := p) g1 (by omega) (by omega) (by omega)
  obtain ⟨r3, v3, a3, b3, g3, e3⟩ := take_ok (n + 5) (m := 6) g2 (by omega) (by omega) (by omega)
  obtain ⟨r4, v4', a4, b4, g4, e4⟩ := take_ok (n + 5) (m := p) g3 (by omega) (by omega) (by omega)
  obtain ⟨r5, v5, a5, b5, g5, e5⟩ := take_ok (n + 5) (m := 6) g4 (by omega) (by omega) (by omega)
  obtain ⟨r6, v6, a6, b6, g6, e6⟩ := take_ok (n + 5) (m := 30) g5 (by omega) (by omega) (by omega)
  obtain ⟨u, v7, hu, g7, e7⟩ := of_ok (n + 4) (xs := [.int 0, .int r6, .int 850]) g6 (by omega) (by simp) (by simp)
  obtain ⟨r8, v8, a8, b8, g8, e8⟩ := take_ok (n + 5) (m := 100) g7 (by omega) (by omega) (by omega)
  obtain ⟨bb, rfl, c1, c2⟩ : ∃ bb : Int, u = .int bb ∧ 0 ≤ bb ∧ bb ≤ 850 := by
    simp only [List.mem_cons, List.mem_nil_iff, or_false] at hu
    rcases hu with rfl | rfl | rfl <;> exact ⟨_, rfl, by omega, by omega⟩
  refine ⟨v8, _, g8, by omega, ?_⟩
  obtain ⟨W, hW⟩ : ∃ W, 1 + r2 = W := ⟨_, rfl⟩
  obtain ⟨R, hR⟩ : ∃ R, 1 + r3 = R := ⟨_, rfl⟩
  obtain ⟨F, hF⟩ : ∃ F, 1 + r4 = F := ⟨_, rfl⟩
  obtain ⟨M, hM⟩ : ∃ M, 1 + r5 = M := ⟨_, rfl⟩
  obtain ⟨gp, hg⟩ : ∃ gp, r8 - 20 = gp := ⟨_, rfl⟩
  obtain ⟨b, hb⟩ : ∃ b, max bb (0 - gp) = b := ⟨_, rfl⟩
  obtain ⟨one, other, later, k1, k2, k3, q1, q2, q3, s1, s2, s3, s4, s5, _⟩ := two_run n (b := b) (g := gp) (p := p) (W := W) (R := R) (F := F) (M := M) (sv := .non) (by omega) (by omega) (by omega) (by omega) (by omega) (by omega) (by omega) (by omega) (by omega) (by omega) (by omega) (by omega) (by omega) (by omega) (by omega) .nil trivial
  have sh := lshared_ok (n + 6) (g := gp) (p := p) (W := W) (R := R) (F := F) (M := M) (by omega) (by omega) (by omega) (by omega) (by omega) (by omega) (by omega) (by omega) (by omega) (by omega) (by omega) (by omega)
  have cb1 := comb_ok (n + 6) b W R p
  have cb2 := comb_ok (n + 6) (b + gp) F M p
  rw [← q1] at cb1
  rw [← q2] at cb2
  obtain ⟨due, hdue⟩ : ∃ d, sharedI gp p W R F M = d := ⟨_, rfl⟩
  rw [hdue] at sh s1
  obtain ⟨t1, t2⟩ := shares_due s1
  obtain ⟨t3, t4⟩ := shares_due s2
  have ok1 : (Stp.fill one 1 0).Ok := ⟨k1, by omega, by omega, by omega, by have := z4_b k1; omega⟩
  have ok2 : (Stp.fill other 2 0).Ok := ⟨k2, by omega, by omega, by omega, by have := z4_b k2; omega⟩
  have ok3 : (Stp.add one b).Ok := ⟨k1, by omega, by omega⟩
  have ok4 : (Stp.add one 1020).Ok := ⟨k1, by omega, by omega⟩
  have ok5 : (Stp.add other 1021).Ok := ⟨k2, by omega, by omega⟩
  have x1 := clash_ok n ok1 ok2
  have x2 := clash_ok n ok3 ok2
  have x3 := clash_ok n ok4 ok5
  rw [clash_ff, t1] at x1
  rw [clash_af s3, t1] at x2
  rw [clash_aa s4 s5 (by omega)] at x3
  simp only [Stp.v] at x1 x2 x3
  have y1 := meet4 (n + 3) k1 k2
  have y2 := meet4 (n + 3) k2 k1
  have y3 := meet4 (n + 3) k1 k3
  rw [t1] at y1
  rw [t2] at y2
  rw [t4] at y3
  have z1 := cells4 (n + 3) k1
  have z2 := cells4 (n + 3) k2
  have z3 := cells4 (n + 3) k3
  obtain ⟨tx, htx⟩ := rep4 (decide (0 < due))
  have l1 := (c4_len k1).2
  have l3 := (c4_len k3).2
  obtain ⟨⟨dd, w⟩, fin, e, q⟩ := Runs.fn (P := P) (n := n + 7) (f := 28) (d := d_law_two_right) (rs := [(2, v)]) (Q := fun z fin => z = (0, .bl true) ∧ fin = [some (2, v8)]) rfl rfl (by
    show Runs (P.den (n + 7)) d_law_two_right_b [some (2, v), none, none, none, none, none, none, none, none, none, none, none, none, none, none] _
    unfold d_law_two_right_b
    refine Runs.step (S' := [some (2, v1), some (0, .int p), none, none, none, none, none, none, none, none, none, none, none, none, none]) (by simp [callV, e1, hp]) ?_
    refine Runs.step (S' := [some (2, v3), some (0, .int p), some (0, .tup [.int W, .int R]), none, none, none, none, none, none, none, none, none, none, none, none]) (by simp [callV, e2, e3, hW, hR]) ?_
    refine Runs.step (S' := [some (2, v5), some (0, .int p), some (0, .tup [.int W, .int R]), some (0, .tup [.int F, .int M]), none, none, none, none, none, none, none, none, none, none, none]) (by simp [callV, e4, e5, hF, hM]) ?_
    refine Runs.step (S' := [some (2, v8), some (0, .int p), some (0, .tup [.int W, .int R]), some (0, .tup [.int F, .int M]), some (0, .int bb), some (0, .int gp), none, none, none, none, none, none, none, none, none]) (by simp [callV, e6, e7, e8, hg, dispD]) ?_
    refine Runs.step (S' := [some (2, v8), some (0, .int p), some (0, .tup [.int W, .int R]), some (0, .tup [.int F, .int M]), some (0, .int b), some (0, .int gp), none, none, none, none, none, none, none, none, none]) (by simp [-q_max, q_mx]; omega) ?_
    refine Runs.step (S' := [some (2, v8), some (0, .int p), some (0, .tup [.int W, .int R]), some (0, .tup [.int F, .int M]), some (0, .int b), some (0, .int gp), some (0, v4 one), none, none, none, none, none, none, none, none]) (by simp [callV, cb1]) ?_
    refine Runs.step (S' := [some (2, v8), some (0, .int p), some (0, .tup [.int W, .int R]), some (0, .tup [.int F, .int M]), some (0, .int b), some (0, .int gp), some (0, v4 one), some (0, v4 other), none, none, none, none, none, none, none]) (by simp [callV, cb2]) ?_
    refine Runs.step (S' := [some (2, v8), some (0, .int p), some (0, .tup [.int W, .int R]), some (0, .tup [.int F, .int M]), some (0, .int b), some (0, .int gp), some (0, v4 one), some (0, v4 other), some (0, .int due), some (0, .tup ((c4 other).map .int)), none, none, none, none, none]) (by simp [callV, sh, z2]) ?_
    refine Runs.if0 (S' := [some (2, v8), some (0, .int p), some (0, .tup [.int W, .int R]), some (0, .tup [.int F, .int M]), some (0, .int b), some (0, .int gp), some (0, v4 one), some (0, v4 other), some (0, .int due), some (0, .tup ((c4 other).map .int)), none, none, none, none, none]) ?_ (Runs.nil ?_)
    · simp [d_law_two_right_c0, callV, z1]
      rw [compL_ofF (p := fun x => decide (x ∈ c4 other))]
      · have f1 : fitsLine ((c4 one).filter fun x => decide (x ∈ c4 other)).length = true := q_fits (by
          have := List.length_filter_le (fun x => decide (x ∈ c4 other)) (c4 one)
          omega)
        simp [f1, s1]
      · intro x hx
        by_cases c : x ∈ c4 other <;> simp [c]
    refine Runs.step (S' := [some (2, v8), some (0, .int p), some (0, .tup [.int W, .int R]), some (0, .tup [.int F, .int M]), some (0, .int b), some (0, .int gp), some (0, v4 one), some (0, v4 other), some (0, .int due), some (0, .tup ((c4 other).map .int)), some (1, .lst [.bl (decide (0 < due)), .bl (decide (0 < due))]), none, none, none, none]) (by simp [callV, y1, y2, dispD]) ?_
    refine Runs.step (S' := [some (2, v8), some (0, .int p), some (0, .tup [.int W, .int R]), some (0, .tup [.int F, .int M]), some (0, .int b), some (0, .int gp), some (0, v4 one), some (0, v4 other), some (0, .int due), some (0, .tup ((c4 other).map .int)), some (1, .lst [.bl (decide (0 < due)), .bl (decide (0 < due)), .bl (decide (0 < due))]), none, none, none, none]) (by simp [callV, x1, show 2 < sizeLine by decide]) ?_
    refine Runs.step (S' := [some (2, v8), some (0, .int p), some (0, .tup [.int W, .int R]), some (0, .tup [.int F, .int M]), some (0, .int b), some (0, .int gp), some (0, v4 one), some (0, v4 other), some (0, .int due), some (0, .tup ((c4 other).map .int)), some (1, .lst [.bl (decide (0 < due)), .bl (decide (0 < due)), .bl (decide (0 < due)), .bl (decide (0 < due))]), none, none, none, none]) (by simp [callV, x2, show 3 < sizeLine by decide]) ?_
    refine Runs.if0 (S' := [some (2, v8), some (0, .int p), some (0, .tup [.int W, .int R]), some (0, .tup [.int F, .int M]), some (0, .int b), some (0, .int gp), some (0, v4 one), some (0, v4 other), some (0, .int due), some (0, .tup ((c4 other).map .int)), some (1, .lst [.bl (decide (0 < due)), .bl (decide (0 < due)), .bl (decide (0 < due)), .bl (decide (0 < due))]), none, none, none, none]) (by
      have fl : decide (4 ≤ sizeLine) = true := by decide
      simp [htx, flatRep4, dispD, fl]) (Runs.nil ?_)
    refine Runs.if0 (S' := [some (2, v8), some (0, .int p), some (0, .tup [.int W, .int R]), some (0, .tup [.int F, .int M]), some (0, .int b), some (0, .int gp), some (0, v4 one), some (0, v4 other), some (0, .int due), some (0, .tup ((c4 other).map .int)), some (1, .lst [.bl (decide (0 < due)), .bl (decide (0 < due)), .bl (decide (0 < due)), .bl (decide (0 < due))]), none, none, none, none]) (by simp [callV, x3]) (Runs.nil ?_)
    obtain ⟨L10, hL10⟩ : ∃ z, some (1, Val.lst [.bl (decide (0 < due)), .bl (decide (0 < due)), .bl (decide (0 < due)), .bl (decide (0 < due))]) = (z : Option BV.R) := ⟨_, rfl⟩
    rw [hL10]
    refine Runs.step (S' := [some (2, v8), some (0, .int p), some (0, .tup [.int W, .int R]), some (0, .tup [.int F, .int M]), some (0, .int b), some (0, .int gp), some (0, v4 one), some (0, v4 other), some (0, .int due), some (0, .tup ((c4 other).map .int)), L10, some (0, v4 later), some (0, .tup ((c4 one).map .int)), none, none]) (by
      have hc : cutL [Val.int b, .int W, .int R, .int (if 1 < R then p else W)] (some 1) none = [.int W, .int R, .int (if 1 < R then p else W)] := by rw [cut_suf (by omega)]; rfl
      simp only [q1, arV] at z1
      simp [callV, q1, q3, arV, z1, hc]) ?_
    refine Runs.asgW (show EvW (P.den (n + 7)) d_law_two_right_c1 _ _ from EvW.of (r := (.own 1, .lst (((c4 later).filter fun x => decide (x ∈ c4 one)).map .int))) (S' := [some (2, v8), some (0, .int p), some (0, .tup [.int W, .int R]), some (0, .tup [.int F, .int M]), some (0, .int b), some (0, .int gp), some (0, v4 one), some (0, v4 other), some (0, .int due), some (0, .tup ((c4 other).map .int)), L10, some (0, v4 later), some (0, .tup ((c4 one).map .int)), none, none]) ?_ ⟨1, rfl, ?_⟩)
    · simp [d_law_two_right_c1, callV, z3]
      rw [compL_ofF (p := fun x => decide (x ∈ c4 one))]
      · have f1 : fitsLine ((c4 later).filter fun x => decide (x ∈ c4 one)).length = true := q_fits (by
          have := List.length_filter_le (fun x => decide (x ∈ c4 one)) (c4 later)
          omega)
        simp [f1]
      · intro x hx
        by_cases c : x ∈ c4 one <;> simp [c]
    refine Runs.if0 (S' := [some (2, v8), some (0, .int p), some (0, .tup [.int W, .int R]), some (0, .tup [.int F, .int M]), some (0, .int b), some (0, .int gp), some (0, v4 one), some (0, v4 other), some (0, .int due), some (0, .tup ((c4 other).map .int)), L10, some (0, v4 later), some (0, .tup ((c4 one).map .int)), some (1, .lst (((c4 later).filter fun x => decide (x ∈ c4 one)).map .int)), none]) (by
      simp (disch := first | omega | (simp; done) | (simp; omega)) [s2]) (Runs.nil ?_)
    have fin : decide (0 < W * (R - 1)) = decide (1 < R) := by
      rw [decide_eq_decide]
      constructor
      · intro h
        by_cases z : 1 < R
        · exact z
        · have : R = 1 := by omega
          subst this
          simp at h
      · intro h
        exact Int.mul_pos (by omega) (by omega)
    refine Runs.ret (r := (0, .bl true)) (S' := _) (by simp [callV, y3, fin]; exact rfl) ⟨rfl, rfl⟩)
  rw [e, q.1, q.2]
end K66
namespace K66
open PySem PySem.Spec PyProof.Rows L2 BV
structure Cp (b w m r : Int) : Prop where
  w0 : 1 ≤ w
  w1 : w ≤ 6
  m0 : 1 ≤ m
  m1 : m ≤ 5
  r0 : 1 ≤ r
  r1 : r ≤ 8
  b0 : 0 ≤ b
  be : b + w * m * r ≤ 1024
def combA (b w m r i : Int) : A4 := (b + w * i, w, r, if 1 < r then w * m else w)
variable {b w m r : Int}
theorem Cp.bds (h : Cp b w m r) : w ≤ w * m ∧ w * m ≤ 30 ∧ w * m ≤ w * m * r ∧ w * m * r ≤ 240 ∧ b ≤ 1023 := by
  have h1 := h.w0; have h2 := h.w1; have h3 := h.m0; have h4 := h.m1; have h5 := h.r0; have h6 := h.r1; have h7 := h.b0; have h8 := h.be
  have a1 : w * 1 ≤ w * m := Int.mul_le_mul_of_nonneg_left h3 (by omega)
  have a2 : w * m ≤ 6 * 5 := Int.mul_le_mul h2 h4 (by omega) (by omega)
  have a3 : w * m * 1 ≤ w * m * r := Int.mul_le_mul_of_nonneg_left h5 (by omega)
  have a4 : w * m * r ≤ 30 * 8 := Int.mul_le_mul (by omega) h6 (by omega) (by omega)
  omega
theorem comb_k (h : Cp b w m r) {i : Int} (i0 : 0 ≤ i) (i1 : i < m) : Ok4 (combA b w m r i) := by
  have h1 := h.w0; have h2 := h.w1; have h3 := h.m0; have h4 := h.m1; have h5 := h.r0; have h6 := h.r1; have h7 := h.b0; have h8 := h.be
  obtain ⟨q1, q2, q3, q4, q5⟩ := h.bds
  have a1 : 0 ≤ w * i := Int.mul_nonneg (by omega) i0
  have a2 : w * (i + 1) ≤ w * m := Int.mul_le_mul_of_nonneg_left (by omega) (by omega)
  rw [Int.mul_add] at a2
  have a3 : (r - 1) * (w * m) = w * m * r - w * m := by rw [Int.sub_mul, Int.mul_comm r]; omega
  have a4 : r * w ≤ 8 * 6 := Int.mul_le_mul h6 h2 (by omega) (by omega)
  have z : Ar (b + w * i) w r (if 1 < r then w * m else w) := comb_ar (by omega) h1 q1 h5 (by omega) (by omega)
  exact z
theorem comb_c (h : Cp b w m r) {i : Int} : c4 (combA b w m r i) = combC b w m r.toNat i := comb_cells h.r0
theorem comb_apart (h : Cp b w m r) {i j : Int} (i0 : 0 ≤ i) (i1 : i < m) (j0 : 0 ≤ j) (j1 : j < m) (ij : i ≠ j) : sharesB (c4 (combA b w m r i)) (c4 (combA b w m r j)) = false := by
  cases q : sharesB (c4 (combA b w m r i)) (c4 (combA b w m r j)) with
  | false => rfl
  | true =>
    obtain ⟨x, h1, h2⟩ := shares_iff.mp q
    rw [comb_c h, mem_comb h.w0 h.m0 j0 j1] at h1
    rw [comb_c h, mem_comb h.w0 h.m0 i0 i1] at h2
    omega
def wholeA (b w m r : Int) : A4 := (b, w * m * r, 1, w * m * r)
theorem whole_k (h : Cp b w m r) : Ok4 (wholeA b w m r) := by
  obtain ⟨q1, q2, q3, q4, q5⟩ := h.bds
  have h1 := h.w0; have h7 := h.b0; have h8 := h.be
  exact ⟨h7, by show 1 ≤ w * m * r; omega, by show (1 : Int) ≤ 1; omega, by show w * m * r ≤ w * m * r; omega, fun _ => rfl, by show b + (1 - 1) * (w * m * r) + w * m * r ≤ 1024; simp; omega, by show 1 * (w * m * r) ≤ 256; omega⟩
theorem whole_c : c4 (wholeA b w m r) = iota b (w * m * r).toNat := by
  show cellsI b (w * m * r) 1 (w * m * r) = _
  simp [cellsI, rowsC]
theorem comb_whole (h : Cp b w m r) {i : Int} (i0 : 0 ≤ i) (i1 : i < m) : sharesB (c4 (combA b w m r i)) (c4 (wholeA b w m r)) = true ∧ sharesB (c4 (wholeA b w m r)) (c4 (combA b w m r i)) = true := by
  obtain ⟨q1, q2, q3, q4, q5⟩ := h.bds
  have h1 := h.w0; have h5 := h.r0
  have hx : b + w * i ∈ c4 (combA b w m r i) := by
    rw [comb_c h]
    unfold combC
    rw [mem_rows (by omega)]
    exact ⟨0, by omega, by omega, by omega, by omega⟩
  have hy : b + w * i ∈ c4 (wholeA b w m r) := by
    have z := hx
    rw [comb_c h, mem_comb h.w0 h.m0 i0 i1] at z
    have e : w * m * (r.toNat : Int) = w * m * r := by rw [Int.toNat_of_nonneg (by omega)]
    rw [e] at z
    rw [whole_c, mem_iota]
    omega
  exact ⟨shares_iff.mpr ⟨_, hy, hx⟩, shares_iff.mpr ⟨_, hx, hy⟩⟩
theorem comb_str (h : Cp b w m r) (i : Int) : ((strI (b + w * i) w r (if 1 < r then w * m else w)).length : Int) = if m = 1 then 1 else r := by
  have h1 := h.w0; have h3 := h.m0; have h5 := h.r0
  unfold strI
  by_cases c : 1 < r
  · rw [if_pos c]
    by_cases d : m = 1
    · subst d
      simp
    · have e : ¬ w * m = w := by
        have : w * 2 ≤ w * m := Int.mul_le_mul_of_nonneg_left (by omega) (by omega)
        omega
      simp only [e, d, if_false, List.length_map, iota_len]
      omega
  · have : r = 1 := by omega
    subst this
    simp
theorem iota_take {k n : Nat} (a : Int) (h : k ≤ n) : (iota a n).take k = iota a k ∧ (iota a n).drop k = iota (a + k) (n - k) := by
  obtain ⟨d, rfl⟩ : ∃ d, n = k + d := ⟨n - k, by omega⟩
  rw [iota_split d k a]
  constructor
  · exact List.take_left' (iota_len ..)
  · rw [List.drop_left' (iota_len ..)]
    congr 1
    omega
/-! ### the turns -/
def cV (b w m r : Int) (l : List Int) : List Val := l.map fun i => v4 (combA b w m r i)
theorem in_turn (n : Nat) (h : Cp b w m r) {i j : Int} (i0 : 0 ≤ i) (i1 : i < m) (j0 : 0 ≤ j) (j1 : j < m) (ij : i ≠ j) {a0 a1 a2 a3 a4 a5 a6 a7 a8 a9 a12 a13 a14 : Option R} :
    exs (P.den (n + 7)) d_law_combs_right_l1 [a0, a1, a2, a3, a4, a5, a6, a7, a8, a9, some (0, v4 (combA b w m r i)), some (0, v4 (combA b w m r j)), a12, a13, a14] =
    some (.nx [a0, a1, a2, a3, a4, a5, a6, a7, a8, a9, some (0, v4 (combA b w m r i)), some (0, v4 (combA b w m r j)), a12, a13, a14]) := by
  have y1 := meet4 (n + 3) (comb_k h i0 i1) (comb_k h j0 j1)
  have y2 := meet4 (n + 3) (comb_k h j0 j1) (comb_k h i0 i1)
  rw [comb_apart h i0 i1 j0 j1 ij] at y1
  rw [comb_apart h j0 j1 i0 i1 (Ne.symm ij)] at y2
  simp [d_law_combs_right_l1, callV, y1, y2]
theorem fills_c (n : Nat) {l : List Int} (hl : l.length ≤ 100) {a0 a1 a2 a3 a4 a5 a8 a9 a10 a11 a12 a14 : Option R} {k : Nat} {M : List Int} (hM : M.length ≤ 100) (hl2 : l = M.take k ++ M.drop (k + 1)) :
    ev (P.den n) d_law_combs_right_c0 [a0, a1, a2, a3, a4, a5, some (0, .lst (cV b w m r M)), some (0, .int (k : Int)), a8, a9, a10, a11, a12, none, a14] =
    some ((.own 1, .lst (l.map fun i => (Stp.fill (combA b w m r i) 7 0).v)), [a0, a1, a2, a3, a4, a5, some (0, .lst (cV b w m r M)), some (0, .int (k : Int)), a8, a9, a10, a11, a12, none, a14]) := by
  have c1 : cutL (cV b w m r M) none (some (k : Int)) = cV b w m r (M.take k) := by rw [cut_pre (by omega)]; simp [cV, List.map_take]
  have c2 : cutL (cV b w m r M) (some ((k : Int) + 1)) none = cV b w m r (M.drop (k + 1)) := by
    rw [cut_suf (by omega), show ((k : Int) + 1).toNat = k + 1 by omega]; simp [cV, List.map_drop]
  have c3 : cV b w m r (M.take k) ++ cV b w m r (M.drop (k + 1)) = cV b w m r l := by rw [hl2]; simp [cV]
  have f1 : fitsLine ((cV b w m r (M.take k)).length + (cV b w m r (M.drop (k + 1))).length) = true := q_fits (by simp [cV]; omega)
  simp [d_law_combs_right_c0, c1, c2, f1, c3]
  unfold cV
  rw [compL_of1 (g := fun i => (Stp.fill (combA b w m r i) 7 0).v)]
  · have f2 : fitsLine l.length = true := q_fits (by omega)
    simp [f2]
  · intro i hi
    simp [Stp.v]
theorem none_c (n : Nat) (h : Cp b w m r) {i : Int} (i0 : 0 ≤ i) (i1 : i < m) {l : List Int} (hl : ∀ j ∈ l, 0 ≤ j ∧ j < m ∧ i ≠ j) {a0 a1 a2 a3 a4 a5 a6 a7 a8 a9 a11 a13 : Option R} {d : Nat} :
    ev (P.den (n + 7)) d_law_combs_right_c1 [a0, a1, a2, a3, a4, a5, a6, a7, a8, a9, some (0, v4 (combA b w m r i)), a11, some (d, .lst (l.map fun i => (Stp.fill (combA b w m r i) 7 0).v)), a13, none] =
    some ((.own 1, .lst []), [a0, a1, a2, a3, a4, a5, a6, a7, a8, a9, some (0, v4 (combA b w m r i)), a11, some (0, .lst (l.map fun i => (Stp.fill (combA b w m r i) 7 0).v)), a13, none]) := by
  simp [d_law_combs_right_c1]
  rw [compL_nils]
  · simp
  · intro v hv
    obtain ⟨j, hj, rfl⟩ := List.mem_map.mp hv
    obtain ⟨j0, j1, ij⟩ := hl j hj
    have k1 := comb_k h i0 i1
    have k2 := comb_k h j0 j1
    have ok1 : (Stp.fill (combA b w m r i) 8 0).Ok := ⟨k1, by omega, by omega, by omega, by have := z4_b k1; omega⟩
    have ok2 : (Stp.fill (combA b w m r j) 7 0).Ok := ⟨k2, by omega, by omega, by omega, by have := z4_b k2; omega⟩
    have x := clash_ok n ok1 ok2
    rw [clash_ff, comb_apart h i0 i1 j0 j1 ij] at x
    have e1 : (Stp.fill (combA b w m r i) 8 0).v = .tup [.str "fill", v4 (combA b w m r i), .int 8, .int 0] := rfl
    rw [e1] at x
    simp [callV, x]
end K66
namespace K66
open PySem PySem.Spec PyProof.Rows L2 BV
variable {b w m r : Int}
theorem all_len (b w m : Int) (w0 : 0 ≤ w) (r : Nat) : ∀ k : Nat, (allC b w m r k).length = k * (r * w.toNat)
  | 0 => by simp [allC]
  | k + 1 => by
    rw [allC, List.length_append, all_len b w m w0 r k, Nat.succ_mul]
    unfold combC
    rw [rows_len _ _ _ w0]
theorem out_turn (n : Nat) (h : Cp b w m r) {k : Nat} (hk : (k : Int) < m) {sv a11 a12 : Option R} :
    Runs (P.den (n + 7)) d_law_combs_right_l2 [sv, some (0, .int w), some (0, .int m), some (0, .int r), some (0, .int (w * m)), some (0, .int b), some (0, .lst (cV b w m r (iota 0 m.toNat))), some (0, .int (k : Int)), some (0, v4 (wholeA b w m r)), some (1, .lst ((allC b w m r.toNat k).map .int)), some (0, v4 (combA b w m r k)), a11, a12, none, none] fun o => match o with
      | .nx S => ∃ b11 b12, S = [sv, some (0, .int w), some (0, .int m), some (0, .int r), some (0, .int (w * m)), some (0, .int b), some (0, .lst (cV b w m r (iota 0 m.toNat))), some (0, .int (k : Int)), some (0, v4 (wholeA b w m r)), some (1, .lst ((allC b w m r.toNat (k + 1)).map .int)), some (0, v4 (combA b w m r k)), b11, b12, none, none]
      | _ => False := by
  have h1 := h.w0; have h2 := h.w1; have h3 := h.m0; have h4 := h.m1; have h5 := h.r0; have h6 := h.r1
  obtain ⟨q1, q2, q3, q4, q5⟩ := h.bds
  have k1 := comb_k h (i := k) (by omega) hk
  have z1 := cells4 (n + 3) k1
  have l1 := (c4_len k1).2
  have la := all_len b w m (by omega) r.toNat k
  have lb : k * (r.toNat * w.toNat) ≤ 5 * (8 * 6) := Nat.mul_le_mul (by omega) (Nat.mul_le_mul (by omega) (by omega))
  unfold d_law_combs_right_l2
  refine Runs.step (S' := [sv, some (0, .int w), some (0, .int m), some (0, .int r), some (0, .int (w * m)), some (0, .int b), some (0, .lst (cV b w m r (iota 0 m.toNat))), some (0, .int (k : Int)), some (0, v4 (wholeA b w m r)), some (1, .lst ((allC b w m r.toNat (k + 1)).map .int)), some (0, v4 (combA b w m r k)), a11, a12, none, none]) (by
    have f1 : fitsLine ((allC b w m r.toNat k).length + (c4 (combA b w m r k)).length) = true := q_fits (by omega)
    rw [comb_c h] at f1
    simp [callV, z1, allC, comb_c h, f1]) ?_
  refine Runs.loop (I := fun i S => ∃ c11, S = [sv, some (0, .int w), some (0, .int m), some (0, .int r), some (0, .int (w * m)), some (0, .int b), some (0, .lst (cV b w m r (iota 0 m.toNat))), some (0, .int (k : Int)), some (0, v4 (wholeA b w m r)), some (1, .lst ((allC b w m r.toNat (k + 1)).map .int)), some (0, v4 (combA b w m r k)), c11, a12, none, none]) (vs := cV b w m r (iota 0 k)) (S1 := [sv, some (0, .int w), some (0, .int m), some (0, .int r), some (0, .int (w * m)), some (0, .int b), some (0, .lst (cV b w m r (iota 0 m.toNat))), some (0, .int (k : Int)), some (0, v4 (wholeA b w m r)), some (1, .lst ((allC b w m r.toNat (k + 1)).map .int)), some (0, v4 (combA b w m r k)), a11, a12, none, none]) (by
    have c1 : cutL (cV b w m r (iota 0 m.toNat)) none (some (k : Int)) = cV b w m r (iota 0 k) := by
      rw [cut_pre (by omega), Int.toNat_natCast, ← (iota_take (k := k) (n := m.toNat) 0 (by omega)).1]; simp [cV, List.map_take]
    simp [c1]) ⟨_, rfl⟩ ?_ ?_
  · rintro i v S hv ⟨c11, rfl⟩
    have hv' := List.mem_of_getElem? hv
    obtain ⟨j, hj, rfl⟩ := List.mem_map.mp hv'
    rw [mem_iota] at hj
    refine ⟨_, rfl, _, in_turn n h (i := k) (j := j) (by omega) hk (by omega) (by omega) (by omega), ?_⟩
    exact ⟨_, rfl⟩
  · rintro S ⟨c11, rfl⟩
    obtain ⟨J, hJ⟩ : ∃ J, (iota 0 m.toNat).take k ++ (iota 0 m.toNat).drop (k + 1) = J := ⟨_, rfl⟩
    have hJm : ∀ j ∈ J, 0 ≤ j ∧ j < m ∧ (k : Int) ≠ j := by
      intro j hj
      rw [← hJ, (iota_take 0 (by omega)).1, (iota_take 0 (by omega)).2, List.mem_append, mem_iota, mem_iota] at hj
      omega
    have hJl : J.length ≤ 100 := by
      rw [← hJ, List.length_append, List.length_take, List.length_drop, iota_len]
      omega
    refine Runs.asgW (show EvW (P.den (n + 7)) d_law_combs_right_c0 _ _ from EvW.of (fills_c (n + 7) hJl (by rw [iota_len]; omega) hJ.symm) ⟨1, rfl, ?_⟩)
    refine Runs.if0 (S' := [sv, some (0, .int w), some (0, .int m), some (0, .int r), some (0, .int (w * m)), some (0, .int b), some (0, .lst (cV b w m r (iota 0 m.toNat))), some (0, .int (k : Int)), some (0, v4 (wholeA b w m r)), some (1, .lst ((allC b w m r.toNat (k + 1)).map .int)), some (0, v4 (combA b w m r k)), c11, some (0, .lst (J.map fun i => (Stp.fill (combA b w m r i) 7 0).v)), none, none]) (by
      have e := none_c n h (i := k) (by omega) hk hJm (d := 1) (a0 := sv) (a1 := some (0, .int w)) (a2 := some (0, .int m)) (a3 := some (0, .int r)) (a4 := some (0, .int (w * m))) (a5 := some (0, .int b)) (a6 := some (0, .lst (cV b w m r (iota 0 m.toNat)))) (a7 := some (0, .int (k : Int))) (a8 := some (0, v4 (wholeA b w m r))) (a9 := some (1, .lst ((allC b w m r.toNat (k + 1)).map .int))) (a11 := c11) (a13 := none)
      simp [e, dispD]) (Runs.nil ?_)
    obtain ⟨F, hF⟩ : ∃ F, some (0, Val.lst (J.map fun i => (Stp.fill (combA b w m r i) 7 0).v)) = (F : Option R) := ⟨_, rfl⟩
    rw [hF]
    have wk := whole_k h
    obtain ⟨y1, y2⟩ := comb_whole h (i := k) (by omega) hk
    have x1 := meet4 (n + 3) k1 wk
    rw [y1] at x1
    have x2 : (P.den (n + 7)).fn 8 [(0, v4 (combA b w m r k))] = some ((0, .int (w * r)), [none]) := size_ok (n + 3) k1
    have ok1 : (Stp.fill (wholeA b w m r) 0 0).Ok := ⟨wk, by omega, by omega, by omega, by have := z4_b wk; omega⟩
    have ok2 : (Stp.fill (combA b w m r k) 8 0).Ok := ⟨k1, by omega, by omega, by omega, by have := z4_b k1; omega⟩
    have x3 := clash_ok n ok1 ok2
    rw [clash_ff, y2] at x3
    simp only [Stp.v] at x3
    have x4 : (P.den (n + 7)).fn 11 [(0, v4 (combA b w m r k))] = some ((0, .tup ((strI (b + w * k) w r (if 1 < r then w * m else w)).map pairI)), [none]) := str_ok (n + 3) k1
    have x5 := comb_str h k
    refine Runs.if0 (S' := [sv, some (0, .int w), some (0, .int m), some (0, .int r), some (0, .int (w * m)), some (0, .int b), some (0, .lst (cV b w m r (iota 0 m.toNat))), some (0, .int (k : Int)), some (0, v4 (wholeA b w m r)), some (1, .lst ((allC b w m r.toNat (k + 1)).map .int)), some (0, v4 (combA b w m r k)), c11, F, none, none]) (by
      simp (disch := first | omega | (simp; done) | (simp; omega)) [callV, x1, x2]) (Runs.nil ?_)
    refine Runs.if0 (S' := [sv, some (0, .int w), some (0, .int m), some (0, .int r), some (0, .int (w * m)), some (0, .int b), some (0, .lst (cV b w m r (iota 0 m.toNat))), some (0, .int (k : Int)), some (0, v4 (wholeA b w m r)), some (1, .lst ((allC b w m r.toNat (k + 1)).map .int)), some (0, v4 (combA b w m r k)), c11, F, none, none]) (by
      simp [callV, x3]) (Runs.nil ?_)
    refine Runs.if0 (S' := [sv, some (0, .int w), some (0, .int m), some (0, .int r), some (0, .int (w * m)), some (0, .int b), some (0, .lst (cV b w m r (iota 0 m.toNat))), some (0, .int (k : Int)), some (0, v4 (wholeA b w m r)), some (1, .lst ((allC b w m r.toNat (k + 1)).map .int)), some (0, v4 (combA b w m r k)), c11, F, none, none]) (by
      generalize strI (b + w * k) w r (if 1 < r then w * m else w) = L at x4 x5
      by_cases e : m = 1
      · subst e
        simp only [if_true] at x5
        simp [callV, x4, x5]
      · simp only [e, if_false] at x5
        simp [callV, x4, x5, e]) (Runs.nil (Runs.nil ?_))
    exact ⟨_, _, rfl⟩
theorem combs_run (n : Nat) (h : Cp b w m r) {sv : Option R} {ss : CSs} : True := trivial
end K66
namespace K66
open PySem PySem.Spec PyProof.Rows L2 BV
theorem combs_ok (n : Nat) {c0 : Int} {v : Val} (g : Stm c0 v) (hc : c0 ≤ 900000) : ∃ v' c', Stm c' v' ∧ c' ≤ c0 + 8 ∧ (P.den (n + 8)).fn 29 [(2, v)] = some ((0, .bl true), [some (2, v')]) := by
  obtain ⟨r1, v1, a1, b1, g1, e1⟩ := take_ok (n + 5) (m := 6) g (by omega) (by omega) (by omega)
  obtain ⟨r2, v2, a2, b2, g2, e2⟩ := take_ok (n + 5) (m := 5) g1 (by omega) (by omega) (by omega)
  obtain ⟨r3, v3, a3, b3, g3, e3⟩ := take_ok (n + 5) (m := 8) g2 (by omega) (by omega) (by omega)
  obtain ⟨r4, v4', a4, b4, g4, e4⟩ := take_ok (n + 5) (m := 40) g3 (by omega) (by omega) (by omega)
  obtain ⟨w, hw⟩ : ∃ w, 1 + r1 = w := ⟨_, rfl⟩
  obtain ⟨m, hm⟩ : ∃ m, 1 + r2 = m := ⟨_, rfl⟩
  obtain ⟨r, hr⟩ : ∃ r, 1 + r3 = r := ⟨_, rfl⟩
  obtain ⟨u, v5, hu, g5, e5⟩ := of_ok (n + 4) (xs := [.int 0, .int r4, .int (1024 - w * m * r)]) g4 (by omega) (by simp) (by simp)
  have p1 : w * m ≤ 6 * 5 := Int.mul_le_mul (by omega) (by omega) (by omega) (by omega)
  have p0 : 1 * 1 ≤ w * m := Int.mul_le_mul (by omega) (by omega) (by omega) (by omega)
  have p2 : w * m * r ≤ 30 * 8 := Int.mul_le_mul (by omega) (by omega) (by omega) (by omega)
  have p3 : 1 * 1 ≤ w * m * r := Int.mul_le_mul (by omega) (by omega) (by omega) (by omega)
  obtain ⟨b, rfl, c1, c2⟩ : ∃ b : Int, u = .int b ∧ 0 ≤ b ∧ b ≤ 1024 - w * m * r := by
    simp only [List.mem_cons, List.mem_nil_iff, or_false] at hu
    rcases hu with rfl | rfl | rfl <;> exact ⟨_, rfl, by omega, by omega⟩
  refine ⟨v5, _, g5, by omega, ?_⟩
  have h : Cp b w m r := ⟨by omega, by omega, by omega, by omega, by omega, by omega, c1, by omega⟩
  have wk := whole_k h
  have z1 := cells4 (n + 3) wk
  have pl : (P.den (n + 7)).fn 12 [(0, .int b), (0, .int (w * m * r))] = some ((0, v4 (wholeA b w m r)), [none, none]) := plain_ok (n + 3) wk
  have st : (P.den (n + 7)).fn 11 [(0, v4 (wholeA b w m r))] = some ((0, .tup ((strI b (w * m * r) 1 (w * m * r)).map pairI)), [none]) := str_ok (n + 3) wk
  have st2 : strI b (w * m * r) 1 (w * m * r) = [(b, w * m * r)] := by simp [strI]
  rw [st2] at st
  have hf : (-18446744073709551616 < w ∧ w < 18446744073709551616) := by omega
  have hf2 : (-18446744073709551616 < r ∧ r < 18446744073709551616) := by omega
  obtain ⟨⟨dd, wv⟩, fin, e, q⟩ := Runs.fn (P := P) (n := n + 7) (f := 29) (d := d_law_combs_right) (rs := [(2, v)]) (Q := fun z fin => z = (0, .bl true) ∧ fin = [some (2, v5)]) rfl rfl (by
    show Runs (P.den (n + 7)) d_law_combs_right_b [some (2, v), none, none, none, none, none, none, none, none, none, none, none, none, none, none] _
    unfold d_law_combs_right_b
    refine Runs.step (S' := [some (2, v2), some (0, .int w), some (0, .int m), none, none, none, none, none, none, none, none, none, none, none, none]) (by simp [callV, e1, e2, hw, hm]) ?_
    refine Runs.step (S' := [some (2, v3), some (0, .int w), some (0, .int m), some (0, .int r), some (0, .int (w * m)), none, none, none, none, none, none, none, none, none, none]) (by simp (disch := first | omega | (simp; done) | (simp; omega)) [callV, e3, hr]) ?_
    refine Runs.step (S' := [some (2, v5), some (0, .int w), some (0, .int m), some (0, .int r), some (0, .int (w * m)), some (0, .int b), none, none, none, none, none, none, none, none, none]) (by simp (disch := first | omega | (simp; done) | (simp; omega)) [callV, e4, e5, dispD]) ?_
    refine Runs.step (S' := [some (2, v5), some (0, .int w), some (0, .int m), some (0, .int r), some (0, .int (w * m)), some (0, .int b), some (1, .lst []), none, none, none, none, none, none, none, none]) (by simp [dispD]) ?_
    refine Runs.loop (I := fun i S => ∃ a7, S = [some (2, v5), some (0, .int w), some (0, .int m), some (0, .int r), some (0, .int (w * m)), some (0, .int b), some (1, .lst (cV b w m r (iota 0 i))), a7, none, none, none, none, none, none, none]) (vs := intsFrom 0 m.toNat) (S1 := [some (2, v5), some (0, .int w), some (0, .int m), some (0, .int r), some (0, .int (w * m)), some (0, .int b), some (1, .lst []), none, none, none, none, none, none, none, none]) (by
      have i1 : inRange m = true := decide_eq_true (by omega)
      simp [i1]) ⟨_, rfl⟩ ?_ ?_
    · rintro i x S hv ⟨a7, rfl⟩
      obtain ⟨rfl, hi⟩ := ints_get hv
      refine ⟨_, rfl, ?_⟩
      have cb := comb_ok (n + 6) (b + w * (i : Int)) w r (w * m)
      have hz : (cV b w m r (iota 0 i)).length < sizeLine := by
        have : 100000 ≤ sizeLine := by decide
        simp [cV]
        omega
      refine ⟨.nx [some (2, v5), some (0, .int w), some (0, .int m), some (0, .int r), some (0, .int (w * m)), some (0, .int b), some (1, .lst (cV b w m r (iota 0 (i + 1)))), some (0, .int (i : Int)), none, none, none, none, none, none, none], ?_, _, rfl⟩
      have ei : cV b w m r (iota 0 (i + 1)) = cV b w m r (iota 0 i) ++ [v4 (combA b w m r i)] := by
        rw [iota_split 1 i 0]
        simp [cV, iota]
      rw [ei, show (0 : Int) + (i : Int) = i by omega]
      show exs _ _ [some (2, v5), some (0, .int w), some (0, .int m), some (0, .int r), some (0, .int (w * m)), some (0, .int b), some (1, .lst (cV b w m r (iota 0 i))), some (0, .int (i : Int)), none, none, none, none, none, none, none] = _
      simp (disch := first | omega | (simp; done) | (simp; omega)) [d_law_combs_right_l0, callV, cb, hz]
      rfl
    rintro S ⟨a7, rfl⟩
    rw [intsFrom_len]
    refine Runs.step (S' := [some (2, v5), some (0, .int w), some (0, .int m), some (0, .int r), some (0, .int (w * m)), some (0, .int b), some (1, .lst (cV b w m r (iota 0 m.toNat))), a7, some (0, v4 (wholeA b w m r)), some (1, .lst []), none, none, none, none, none]) (by simp (disch := first | omega | (simp; done) | (simp; omega)) [callV, pl, dispD]) ?_
    refine Runs.loop (I := fun i S => ∃ b7 b10 b11 b12, S = [some (2, v5), some (0, .int w), some (0, .int m), some (0, .int r), some (0, .int (w * m)), some (0, .int b), some (0, .lst (cV b w m r (iota 0 m.toNat))), b7, some (0, v4 (wholeA b w m r)), some (1, .lst ((allC b w m r.toNat i).map .int)), b10, b11, b12, none, none]) (vs := ((iota 0 m.toNat).zipIdx 0).map fun q => .tup [.int (q.2 : Int), v4 (combA b w m r q.1)]) (S1 := [some (2, v5), some (0, .int w), some (0, .int m), some (0, .int r), some (0, .int (w * m)), some (0, .int b), some (0, .lst (cV b w m r (iota 0 m.toNat))), a7, some (0, v4 (wholeA b w m r)), some (1, .lst []), none, none, none, none, none]) (by
      simp [cV, numbered_map]) ⟨_, _, _, _, rfl⟩ ?_ ?_
    · rintro i x S hv ⟨b7, b10, b11, b12, rfl⟩
      rw [List.getElem?_map, Option.map_eq_some_iff] at hv
      obtain ⟨⟨j, k⟩, hq, rfl⟩ := hv
      rw [List.getElem?_zipIdx, Option.map_eq_some_iff] at hq
      obtain ⟨j', hj, hq⟩ := hq
      have ek : k = i := by
        have := congrArg Prod.snd hq
        simp at this
        omega
      have ej : j = (i : Int) ∧ i < m.toNat := by
        have e1 := congrArg Prod.fst hq
        have e1 : j' = j := e1
        subst e1
        have hl : i < (iota 0 m.toNat).length := lt_of_get hj
        rw [iota_len] at hl
        have := (iota_take (k := i) (n := m.toNat) 0 (by omega)).2
        have h0 : ((iota 0 m.toNat).drop i)[0]? = some j' := by rw [List.getElem?_drop]; simpa using hj
        rw [this] at h0
        obtain ⟨d, hd⟩ : ∃ d, m.toNat - i = d + 1 := ⟨m.toNat - i - 1, by omega⟩
        rw [hd] at h0
        simp [iota] at h0
        exact ⟨by omega, hl⟩
      obtain ⟨rfl, hi⟩ := ej
      subst ek
      refine ⟨[some (2, v5), some (0, .int w), some (0, .int m), some (0, .int r), some (0, .int (w * m)), some (0, .int b), some (0, .lst (cV b w m r (iota 0 m.toNat))), some (0, .int (k : Int)), some (0, v4 (wholeA b w m r)), some (1, .lst ((allC b w m r.toNat k).map .int)), some (0, v4 (combA b w m r k)), b11, b12, none, none], rfl, ?_⟩
      obtain ⟨o, e, z⟩ := out_turn n h (k := k) (by omega) (sv := some (2, v5)) (a11 := b11) (a12 := b12)
      refine ⟨o, e, ?_⟩
      cases o with
      | nx S => obtain ⟨c11, c12, rfl⟩ := z; exact ⟨_, _, _, _, rfl⟩
      | _ => exact z.elim
    rintro S ⟨b7, b10, b11, b12, rfl⟩
    rw [List.length_map, List.length_zipIdx, iota_len]
    have so : sortI (allC b w m r.toNat m.toNat) = c4 (wholeA b w m r) := by
      rw [whole_c]
      have e : w * m * (r.toNat : Int) = w * m * r := by rw [Int.toNat_of_nonneg (by omega)]
      have := all_perm (b := b) (w := w) (m := m) (r := r.toNat) (by omega) (by omega)
      rw [e] at this
      exact (sortI_uniq this.symm (iota_up _ _)).symm
    refine Runs.if0 (S' := [some (2, v5), some (0, .int w), some (0, .int m), some (0, .int r), some (0, .int (w * m)), some (0, .int b), some (0, .lst (cV b w m r (iota 0 m.toNat))), b7, some (0, v4 (wholeA b w m r)), some (1, .lst ((allC b w m r.toNat m.toNat).map .int)), b10, b11, b12, none, none]) (by
      have q : eqS (.tup [.tup [.int b, .int (w * m * r)]]) (.tup [.tup [.int b, .int (w * m * r)]]) = some true := eqS_same (by simp [Val.nb, nbs]) (by simp [Val.toD, toDs, PyData.depth, PyData.depthAll])
      simp (disch := first | omega | (simp; done) | (simp; omega)) [callV, st, pairI, q]) (Runs.nil ?_)
    refine Runs.ret (r := (0, .bl true)) (S' := [some (2, v5), some (0, .int w), some (0, .int m), some (0, .int r), some (0, .int (w * m)), some (0, .int b), some (0, .lst (cV b w m r (iota 0 m.toNat))), b7, some (0, v4 (wholeA b w m r)), some (1, .lst ((allC b w m r.toNat m.toNat).map .int)), b10, b11, b12, none, none]) (by simp [callV, z1, ints_of, so, eq_tints]) ⟨rfl, rfl⟩)
  rw [e, q.1, q.2]
theorem law_ok (n : Nat) (ns : List Int) (hl : ns.length ≤ 63) : ∃ dd fin, (P.den (n + 9)).fn 30 [(0, .lst (ns.map Val.int))] = some ((dd, .bl true), fin) := by
  obtain ⟨⟨dd, r⟩, fin, e, q⟩ := Runs.fn (P := P) (n := n + 8) (f := 30) (d := d_law) (rs := [(0, .lst (ns.map Val.int))]) (Q := fun r _ => r.2 = .bl true) rfl rfl (by
    show Runs (P.den (n + 8)) d_law_b [some (0, .lst (ns.map Val.int)), none, none, none] _
    unfold d_law_b
    have hcut : cutL (ns.map Val.int ++ [.int 0]) none (some 63) = ((ns ++ [0]).take 63).map Val.int := by
      rw [cut_pre (by omega), List.map_take, List.map_append]
      rfl
    refine Runs.step (S' := [some (0, .lst (ns.map Val.int)), some (2, .lst [.lst (((ns ++ [0]).take 63).map Val.int), .int 0, .int 0, .int 7, .int 0]), none, none]) ?_ ?_
    · simp (disch := first | omega | (simp; done) | (simp; omega)) [hcut, dispD]
    generalize hv0 : Val.lst [.lst (((ns ++ [0]).take 63).map Val.int), .int 0, .int 0, .int 7, .int 0] = v0
    have g0 : Stm 0 v0 := ⟨by omega, _, 0, 7, 0, hv0.symm⟩
    have hmin : ∃ k : Int, (if (ns.length : Int) < 6 then (ns.length : Int) else 6) = k ∧ 0 ≤ k ∧ k ≤ 6 := ⟨_, rfl, by split <;> omega, by split <;> omega⟩
    obtain ⟨k, hk, k0, k1⟩ := hmin
    refine Runs.loop (I := fun i S => ∃ v c b2 b3, S = [some (0, .lst (ns.map Val.int)), some (2, v), b2, b3] ∧ Stm c v ∧ c ≤ 32 * i) (vs := intsFrom 0 (4 + k).toNat) (S1 := [some (0, .lst (ns.map Val.int)), some (2, v0), none, none]) ?_ ⟨v0, 0, _, _, rfl, g0, by omega⟩ ?_ ?_
    · have hr : inRange (4 + k) = true := decide_eq_true (by omega)
      simp [hk, hr]
    · rintro i it S hv ⟨v, c, b2, b3, rfl, g, hc⟩
      obtain ⟨rfl, hi⟩ := ints_get hv
      refine ⟨_, rfl, ?_⟩
      show Runs (P.den (n + 8)) d_law_l1 [some (0, .lst (ns.map Val.int)), some (2, v), some (0, .int (0 + i)), b3] _
      unfold d_law_l1
      refine Runs.loop (I := fun j S => ∃ v' c' b3, S = [some (0, .lst (ns.map Val.int)), some (2, v'), some (0, .int (0 + i)), b3] ∧ Stm c' v' ∧ c' ≤ c + 8 * j) (vs := intsFrom 0 3) (S1 := [some (0, .lst (ns.map Val.int)), some (2, v), some (0, .int (0 + i)), b3]) (by
        have hr : inRange 3 = true := by decide
        simp [hr]) ⟨v, c, _, rfl, g, by omega⟩ ?_ ?_
      · rintro j it S hv ⟨v', c', b3', rfl, g', hc'⟩
        obtain ⟨rfl, hj⟩ := ints_get hv
        refine ⟨_, rfl, ?_⟩
        obtain ⟨v2, c2, g2, h2, e2⟩ := two_ok n g' (by omega)
        refine ⟨.nx [some (0, .lst (ns.map Val.int)), some (2, v2), some (0, .int (0 + i)), some (0, .int (0 + j))], ?_, v2, c2, _, rfl, g2, by omega⟩
        show exs _ _ [some (0, .lst (ns.map Val.int)), some (2, v'), some (0, .int (0 + i)), some (0, .int (0 + j))] = _
        simp [d_law_l0, callV, e2]
      · rintro S ⟨v', c', b3', rfl, g', hc'⟩
        rw [intsFrom_len] at hc'
        obtain ⟨v2, c2, g2, h2, e2⟩ := combs_ok n g' (by omega)
        refine Runs.if0 (S' := [some (0, .lst (ns.map Val.int)), some (2, v2), some (0, .int (0 + i)), b3']) (by simp [callV, e2]) (Runs.nil (Runs.nil ?_))
        exact ⟨v2, c2, _, _, rfl, g2, by omega⟩
    · rintro S ⟨v, c, b2, b3, rfl, g, hc⟩
      exact Runs.ret (r := (0, .bl true)) (S' := [some (0, .lst (ns.map Val.int)), some (2, v), b2, b3]) (by simp) rfl)
  have q : r = .bl true := q
  subst q
  exact ⟨dd, fin, e⟩
end K66
open PySem PySem.W PySem.Calls PyProof.Rows in
theorem PySem.Challenge.cw_haulring_k66_whole_combs_by_rests_holds : PySem.Challenge.rw_haulring_k66_whole_combs_by_rests.Holds := by
  w_on; o_law
  refine HandSHeadRun.head_any (r := K66.Rr) (q := view K66.Rr.prog [57]) (H := K66.hk) (ob := K66.ob) (M := 6000) (loose := K66.loose) (d := HandSHeadRun.topDef K66.Rr.prog 57) (kwd := []) K66.ob_eq
    (by kernel_rfl) (fun s => by kernel_rfl) K66.run (by kernel_rfl) (by kernel_rfl) (by kernel_rfl) (by rfl) (by first | assumption | decide +kernel) (by decide +kernel) ⟨rfl, rfl, rfl, rfl, rfl, by decide +kernel⟩ ?hw ?hc
  case hw => w_witness2
  case hc => exact K66.holds_by 20 ⟨rfl, by decide, by decide⟩ fun ns h _ => K66.law_ok 11 ns h
