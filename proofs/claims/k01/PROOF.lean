import PyProof.Rows.All
import Wide.All
import OpenK.AllK
import Wide.FinOn
import HandS.ForMost
import HandS.Walk
import HandS.IsInst
import HandS.Defaults
import HandS.TupLe
import HandS.TupMul
import HandS.TupAny
import HandS.Wide
import HandS.HeadEnd
import HandS.Flow
import HandS.Codes
import HandS.Head0
import HandS.Head1
import HandS.Head2
import HandS.HeadHook1
import HandS.HeadHook2
import HandS.HeadHook3
import HandS.HeadHook4
import HandS.EndBits
import PySem.Challenge.RW_haulring_k01_words_of_all_kinds
set_option Elab.async false
set_option linter.all false
set_option maxRecDepth 100000
set_option maxHeartbeats 4000000
/-! By-value Python: values as trees, who owns what, and what it means over the abstract heap of the hand layer. -/
namespace BV
open PySem PySem.Spec PyProof.Rows L2

inductive Val where
  | non | bl (b : Bool) | int (i : Int) | str (s : Str)
  | tup (xs : List Val) | lst (xs : List Val) | dic (kvs : List (Key × Val))

/-- no container that can be changed -/
def Val.flat : Val → Bool
  | .lst _ => false
  | .dic _ => false
  | _ => true

abbrev Frag := PySem.W.Frag
/-- a result: how deep it is its holder's own (0: shared for good), the value -/
abbrev R := Nat × Val
abbrev Slots := List (Option R)

/-- a list that may be read: one of the heap, or the module's own -/
def RdL (K : Frag) (H : Hp) (a : Addr) (ys : List V) : Prop := Rd H a (.lst ys) ∨
  ∃ (its : List Value) (n : Nat), K.lookup a = some { cls := .type "list", data := .seq its.toArray n } ∧ ys.length ≤ sizeLine ∧ Vals ys its
mutual
inductive Rep (K : Frag) (Hf : Hp) : Val → V → Prop
  | non : Rep K Hf .non .non
  | bl (b : Bool) : Rep K Hf (.bl b) (.bl b)
  | int (i : Int) : Rep K Hf (.int i) (.int i)
  | str (s : Str) : Rep K Hf (.str s) (.str s)
  | tup {a : Addr} {xs : List Val} {ys : List V} : SqT K Hf a ys → RepL K Hf xs ys → Rep K Hf (.tup xs) (.ref a)
  | lst {a : Addr} {xs : List Val} {ys : List V} : RdL K Hf a ys → RepL K Hf xs ys → Rep K Hf (.lst xs) (.ref a)
  | dic {a : Addr} {kvs : List (Key × Val)} {ks : List (Key × V)} : Hf a = some (.dK ks) → RepK K Hf kvs ks → Rep K Hf (.dic kvs) (.ref a)
inductive RepL (K : Frag) (Hf : Hp) : List Val → List V → Prop
  | nil : RepL K Hf [] []
  | cons {v : Val} {x : V} {vs : List Val} {xs : List V} : Rep K Hf v x → RepL K Hf vs xs → RepL K Hf (v :: vs) (x :: xs)
inductive RepK (K : Frag) (Hf : Hp) : List (Key × Val) → List (Key × V) → Prop
  | nil : RepK K Hf [] []
  | cons {k : Key} {v : Val} {x : V} {vs : List (Key × Val)} {xs : List (Key × V)} : Rep K Hf v x → RepK K Hf vs xs → RepK K Hf ((k, v) :: vs) ((k, x) :: xs)
end

def HSub (H H' : Hp) : Prop := ∀ a o, H a = some o → H' a = some o
theorem HSub.refl (H : Hp) : HSub H H := fun _ _ e => e
theorem HSub.trans {H H1 H2 : Hp} (a : HSub H H1) (b : HSub H1 H2) : HSub H H2 := fun x o e => b x o (a x o e)
theorem HSub.upd {H : Hp} {p : Addr} {o : HO} (h : H p = none) : HSub H (upd H p o) := fun b u e => by
  rw [upd_ne (ne_of_none e h)]; exact e
theorem rd_mono {H H' : Hp} (s : HSub H H') {a : Addr} {u : HO} (h : Rd H a u) : Rd H' a u := by
  rcases h with h | ⟨o, h⟩
  · exact .inl (s _ _ h)
  · exact .inr ⟨o, s _ _ h⟩
theorem sqT_mono {K : Frag} {H H' : Hp} (s : HSub H H') {a : Addr} {xs : List V} (h : SqT K H a xs) : SqT K H' a xs := by
  rcases h with h | h
  · exact .inl (rd_mono s h)
  · exact .inr h
theorem sqL_mono {K : Frag} {H H' : Hp} (s : HSub H H') {a : Addr} {xs : List V} (h : SqL K H a xs) : SqL K H' a xs := by
  rcases h with h | h
  · exact .inl (rd_mono s h)
  · exact .inr h
theorem rdL_mono {K : Frag} {H H' : Hp} (s : HSub H H') {a : Addr} {xs : List V} (h : RdL K H a xs) : RdL K H' a xs := by
  rcases h with h | h
  · exact .inl (rd_mono s h)
  · exact .inr h
theorem RdL.sq {K : Frag} {H : Hp} {a : Addr} {xs : List V} (h : RdL K H a xs) : SqL K H a xs := by
  rcases h with h | ⟨its, n, h1, h2, h3⟩
  · exact .inl h
  · exact .inr ⟨_, its.toArray, n, h1, rfl, rfl, rfl, by rw [List.size_toArray, ← h3.length]; exact h2, by simpa using h3⟩
theorem RdL.obj {X : Cx} {pins : List (Addr × Obj)} {σ : L2.St} {H : Hp} {s : Shared} {a : Addr} {xs : List V} (I : Inv X pins σ H s) (h : RdL X.K H a xs) :
    xs.length ≤ sizeLine ∧ ∃ (its : List Value) (n : Nat), Vals xs its ∧ s.heap.get? a = some { cls := .type "list", data := .seq its.toArray n } := by
  rcases h with h | ⟨its, n, h1, h2, h3⟩
  · obtain ⟨z, its, n, r, e⟩ := h.ok I.hok
    exact ⟨z, its, n, r, e⟩
  · exact ⟨h2, its, n, h3, I.kIn a _ h1⟩
mutual
theorem Rep.mono {K : Frag} {H H' : Hp} (s : HSub H H') : ∀ {v : Val} {x : V}, Rep K H v x → Rep K H' v x
  | _, _, .non => .non
  | _, _, .bl b => .bl b
  | _, _, .int i => .int i
  | _, _, .str x => .str x
  | _, _, .tup h r => .tup (sqT_mono s h) (RepL.mono s r)
  | _, _, .lst h r => .lst (rdL_mono s h) (RepL.mono s r)
  | _, _, .dic h r => .dic (s _ _ h) (RepK.mono s r)
theorem RepL.mono {K : Frag} {H H' : Hp} (s : HSub H H') : ∀ {v : List Val} {x : List V}, RepL K H v x → RepL K H' v x
  | _, _, .nil => .nil
  | _, _, .cons h r => .cons (Rep.mono s h) (RepL.mono s r)
theorem RepK.mono {K : Frag} {H H' : Hp} (s : HSub H H') : ∀ {v : List (Key × Val)} {x : List (Key × V)}, RepK K H v x → RepK K H' v x
  | _, _, .nil => .nil
  | _, _, .cons h r => .cons (Rep.mono s h) (RepK.mono s r)
end
section
variable {K : Frag} {H : Hp}
theorem RepL.length : ∀ {vs : List Val} {xs : List V}, RepL K H vs xs → xs.length = vs.length
  | _, _, .nil => rfl
  | _, _, .cons _ r => congrArg Nat.succ (RepL.length r)
theorem RepL.append : ∀ {vs ws : List Val} {xs ys : List V}, RepL K H vs xs → RepL K H ws ys → RepL K H (vs ++ ws) (xs ++ ys)
  | _, _, _, _, .nil, s => s
  | _, _, _, _, .cons h r, s => .cons h (RepL.append r s)
theorem RepL.get : ∀ {vs : List Val} {xs : List V} {i : Nat} {v : Val}, RepL K H vs xs → vs[i]? = some v → ∃ x, xs[i]? = some x ∧ Rep K H v x
  | _, _, _, _, .nil, e => by simp at e
  | _, _, 0, _, .cons h _, e => by simp at e; subst e; exact ⟨_, rfl, h⟩
  | _, _, i + 1, v, .cons _ t, e => by
    obtain ⟨u, h1, h2⟩ := RepL.get (i := i) (v := v) t (by simpa using e)
    exact ⟨u, by simpa using h1, h2⟩
theorem RepL.take : ∀ {vs : List Val} {xs : List V} (n : Nat), RepL K H vs xs → RepL K H (vs.take n) (xs.take n)
  | _, _, 0, _ => .nil
  | _, _, _ + 1, .nil => .nil
  | _, _, n + 1, .cons r t => .cons r (RepL.take n t)
theorem RepL.drop : ∀ {vs : List Val} {xs : List V} (n : Nat), RepL K H vs xs → RepL K H (vs.drop n) (xs.drop n)
  | _, _, 0, r => r
  | _, _, _ + 1, .nil => .nil
  | _, _, n + 1, .cons _ t => RepL.drop n t
theorem RepL.set {v : Val} {x : V} (r : Rep K H v x) : ∀ {vs : List Val} {xs : List V} (i : Nat), RepL K H vs xs → RepL K H (vs.set i v) (xs.set i x)
  | _, _, _, .nil => .nil
  | _, _, 0, .cons _ t => .cons r t
  | _, _, i + 1, .cons q t => .cons q (RepL.set r i t)
theorem RepL.rep {v : Val} {x : V} (r : Rep K H v x) : ∀ n, RepL K H (List.replicate n v) (List.replicate n x)
  | 0 => .nil
  | n + 1 => .cons r (RepL.rep r n)
theorem RepL.reverse : ∀ {vs : List Val} {xs : List V}, RepL K H vs xs → RepL K H vs.reverse xs.reverse
  | _, _, .nil => .nil
  | _, _, .cons h r => by
    rw [List.reverse_cons, List.reverse_cons]
    exact (RepL.reverse r).append (.cons h .nil)
end

/-! ### who owns what -/
mutual
inductive Own (K : Frag) (Hf H : Hp) : Nat → Val → V → List Addr → Prop
  | frz {d : Nat} {v : Val} {x : V} : (d = 0 ∨ v.flat = true) → Rep K Hf v x → Own K Hf H d v x []
  | lst {d : Nat} {a : Addr} {xs : List Val} {ys : List V} {F : List Addr} : H a = some (.lst ys) → OwnL K Hf H d xs ys F → Own K Hf H (d + 1) (.lst xs) (.ref a) (a :: F)
  | dic {d : Nat} {a : Addr} {kvs : List (Key × Val)} {ks : List (Key × V)} {F : List Addr} : H a = some (.dK ks) → OwnK K Hf H d kvs ks F → Own K Hf H (d + 1) (.dic kvs) (.ref a) (a :: F)
inductive OwnL (K : Frag) (Hf H : Hp) : Nat → List Val → List V → List Addr → Prop
  | nil {d : Nat} : OwnL K Hf H d [] [] []
  | cons {d : Nat} {v : Val} {x : V} {vs : List Val} {xs : List V} {F G : List Addr} : Own K Hf H d v x F → OwnL K Hf H d vs xs G → OwnL K Hf H d (v :: vs) (x :: xs) (F ++ G)
inductive OwnK (K : Frag) (Hf H : Hp) : Nat → List (Key × Val) → List (Key × V) → List Addr → Prop
  | nil {d : Nat} : OwnK K Hf H d [] [] []
  | cons {d : Nat} {k : Key} {v : Val} {x : V} {vs : List (Key × Val)} {xs : List (Key × V)} {F G : List Addr} : Own K Hf H d v x F → OwnK K Hf H d vs xs G → OwnK K Hf H d ((k, v) :: vs) ((k, x) :: xs) (F ++ G)
end
section
variable {K : Frag} {Hf Hf' H H' : Hp}
mutual
theorem Own.mono (s : HSub Hf Hf') : ∀ {d : Nat} {v : Val} {x : V} {F : List Addr}, Own K Hf H d v x F → (∀ a ∈ F, ∀ o, H a = some o → H' a = some o) → Own K Hf' H' d v x F
  | _, _, _, _, .frz h r, _ => .frz h (r.mono s)
  | _, _, _, _, .lst h r, k => .lst (k _ (List.mem_cons_self ..) _ h) (OwnL.mono s r fun a ha => k a (List.mem_cons_of_mem _ ha))
  | _, _, _, _, .dic h r, k => .dic (k _ (List.mem_cons_self ..) _ h) (OwnK.mono s r fun a ha => k a (List.mem_cons_of_mem _ ha))
theorem OwnL.mono (s : HSub Hf Hf') : ∀ {d : Nat} {v : List Val} {x : List V} {F : List Addr}, OwnL K Hf H d v x F → (∀ a ∈ F, ∀ o, H a = some o → H' a = some o) → OwnL K Hf' H' d v x F
  | _, _, _, _, .nil, _ => .nil
  | _, _, _, _, .cons h r, k => .cons (Own.mono s h fun a ha => k a (List.mem_append_left _ ha)) (OwnL.mono s r fun a ha => k a (List.mem_append_right _ ha))
theorem OwnK.mono (s : HSub Hf Hf') : ∀ {d : Nat} {v : List (Key × Val)} {x : List (Key × V)} {F : List Addr}, OwnK K Hf H d v x F → (∀ a ∈ F, ∀ o, H a = some o → H' a = some o) → OwnK K Hf' H' d v x F
  | _, _, _, _, .nil, _ => .nil
  | _, _, _, _, .cons h r, k => .cons (Own.mono s h fun a ha => k a (List.mem_append_left _ ha)) (OwnK.mono s r fun a ha => k a (List.mem_append_right _ ha))
end
mutual
/-- what is owned stands in the heap -/
theorem Own.dom : ∀ {d : Nat} {v : Val} {x : V} {F : List Addr}, Own K Hf H d v x F → ∀ a ∈ F, ∃ o, H a = some o
  | _, _, _, _, .frz _ _, a, h => by cases h
  | _, _, _, _, .lst e r, a, h => (List.mem_cons.mp h).elim (fun z => by rw [z]; exact ⟨_, e⟩) fun z => OwnL.dom r a z
  | _, _, _, _, .dic e r, a, h => (List.mem_cons.mp h).elim (fun z => by rw [z]; exact ⟨_, e⟩) fun z => OwnK.dom r a z
theorem OwnL.dom : ∀ {d : Nat} {v : List Val} {x : List V} {F : List Addr}, OwnL K Hf H d v x F → ∀ a ∈ F, ∃ o, H a = some o
  | _, _, _, _, .nil, a, h => by cases h
  | _, _, _, _, .cons e r, a, h => (List.mem_append.mp h).elim (fun z => Own.dom e a z) fun z => OwnL.dom r a z
theorem OwnK.dom : ∀ {d : Nat} {v : List (Key × Val)} {x : List (Key × V)} {F : List Addr}, OwnK K Hf H d v x F → ∀ a ∈ F, ∃ o, H a = some o
  | _, _, _, _, .nil, a, h => by cases h
  | _, _, _, _, .cons e r, a, h => (List.mem_append.mp h).elim (fun z => Own.dom e a z) fun z => OwnK.dom r a z
end
mutual
/-- readable in any heap that has the shared part and what is owned -/
theorem Own.rep (s : HSub Hf H') : ∀ {d : Nat} {v : Val} {x : V} {F : List Addr}, Own K Hf H d v x F → (∀ a ∈ F, ∀ o, H a = some o → H' a = some o) → Rep K H' v x
  | _, _, _, _, .frz _ r, _ => r.mono s
  | _, _, _, _, .lst h r, k => .lst (.inl (.inl (k _ (List.mem_cons_self ..) _ h))) (OwnL.rep s r fun a ha => k a (List.mem_cons_of_mem _ ha))
  | _, _, _, _, .dic h r, k => .dic (k _ (List.mem_cons_self ..) _ h) (OwnK.rep s r fun a ha => k a (List.mem_cons_of_mem _ ha))
theorem OwnL.rep (s : HSub Hf H') : ∀ {d : Nat} {v : List Val} {x : List V} {F : List Addr}, OwnL K Hf H d v x F → (∀ a ∈ F, ∀ o, H a = some o → H' a = some o) → RepL K H' v x
  | _, _, _, _, .nil, _ => .nil
  | _, _, _, _, .cons h r, k => .cons (Own.rep s h fun a ha => k a (List.mem_append_left _ ha)) (OwnL.rep s r fun a ha => k a (List.mem_append_right _ ha))
theorem OwnK.rep (s : HSub Hf H') : ∀ {d : Nat} {v : List (Key × Val)} {x : List (Key × V)} {F : List Addr}, OwnK K Hf H d v x F → (∀ a ∈ F, ∀ o, H a = some o → H' a = some o) → RepK K H' v x
  | _, _, _, _, .nil, _ => .nil
  | _, _, _, _, .cons h r, k => .cons (Own.rep s h fun a ha => k a (List.mem_append_left _ ha)) (OwnK.rep s r fun a ha => k a (List.mem_append_right _ ha))
end
end

/-- a slot -/
inductive Plc (K : Frag) (Hf H : Hp) : Option R → Option V → List Addr → Prop
  | no {y : Option V} : Plc K Hf H none y []
  | is {d : Nat} {v : Val} {x : V} {F : List Addr} : Own K Hf H d v x F → Plc K Hf H (some (d, v)) (some x) F
inductive Plcs (K : Frag) (Hf H : Hp) : Slots → L2.St → List Addr → Prop
  | nil : Plcs K Hf H [] [] []
  | cons {p : Option R} {y : Option V} {P : Slots} {ys : L2.St} {F G : List Addr} : Plc K Hf H p y F → Plcs K Hf H P ys G → Plcs K Hf H (p :: P) (y :: ys) (F ++ G)
section
variable {K : Frag} {Hf Hf' H H' : Hp}
theorem Plc.mono (s : HSub Hf Hf') {p : Option R} {y : Option V} {F : List Addr} (h : Plc K Hf H p y F) (k : ∀ a ∈ F, ∀ o, H a = some o → H' a = some o) : Plc K Hf' H' p y F := by
  cases h with
  | no => exact .no
  | is h => exact .is (h.mono s k)
theorem Plc.dom {p : Option R} {y : Option V} {F : List Addr} (h : Plc K Hf H p y F) : ∀ a ∈ F, ∃ o, H a = some o := by
  cases h with
  | no => intro a h; cases h
  | is h => exact h.dom
theorem Plcs.mono (s : HSub Hf Hf') : ∀ {P : Slots} {ys : L2.St} {F : List Addr}, Plcs K Hf H P ys F → (∀ a ∈ F, ∀ o, H a = some o → H' a = some o) → Plcs K Hf' H' P ys F
  | _, _, _, .nil, _ => .nil
  | _, _, _, .cons h r, k => .cons (h.mono s fun a ha => k a (List.mem_append_left _ ha)) (Plcs.mono s r fun a ha => k a (List.mem_append_right _ ha))
theorem Plcs.dom : ∀ {P : Slots} {ys : L2.St} {F : List Addr}, Plcs K Hf H P ys F → ∀ a ∈ F, ∃ o, H a = some o
  | _, _, _, .nil, a, h => by cases h
  | _, _, _, .cons e r, a, h => (List.mem_append.mp h).elim (fun z => e.dom a z) fun z => Plcs.dom r a z
theorem Plcs.length : ∀ {P : Slots} {ys : L2.St} {F : List Addr}, Plcs K Hf H P ys F → ys.length = P.length
  | _, _, _, .nil => rfl
  | _, _, _, .cons _ r => congrArg Nat.succ (Plcs.length r)
/-- slot i apart from the others -/
theorem Plcs.split : ∀ {P : Slots} {ys : L2.St} {F : List Addr} {i : Nat} {p : Option R}, Plcs K Hf H P ys F → P[i]? = some p →
    ∃ y F1 F2 F3, ys[i]? = some y ∧ F = F1 ++ F2 ++ F3 ∧ Plc K Hf H p y F2 ∧
      ∀ {Hf' H' : Hp} {q : Option R} {z : Option V} {G : List Addr}, HSub Hf Hf' → (∀ a, (a ∈ F1 ∨ a ∈ F3) → ∀ o, H a = some o → H' a = some o) → Plc K Hf' H' q z G → Plcs K Hf' H' (P.set i q) (ys.set i z) (F1 ++ G ++ F3)
  | _, _, _, _, _, .nil, e => by simp at e
  | _, _, _, 0, p, .cons (y := y) (F := F) (G := G) h r, e => by
    simp at e; subst e
    refine ⟨y, [], F, G, rfl, rfl, h, fun s k q => ?_⟩
    exact .cons q (r.mono s fun a ha => k a (.inr ha))
  | _, _, _, i + 1, p, .cons (y := y) (F := F) (G := G) h r, e => by
    obtain ⟨z, F1, F2, F3, e1, e2, e3, e4⟩ := Plcs.split (i := i) (p := p) r (by simpa using e)
    refine ⟨z, F ++ F1, F2, F3, by simpa using e1, by rw [e2]; simp, e3, fun s k q => ?_⟩
    have := Plcs.cons (h.mono s fun a ha => k a (.inl (List.mem_append_left _ ha))) (e4 s (fun a ha => k a (ha.elim (fun z => .inl (List.mem_append_right _ z)) .inr)) q)
    simpa using this
theorem Plcs.append : ∀ {P Q : Slots} {ys zs : L2.St} {F G : List Addr}, Plcs K Hf H P ys F → Plcs K Hf H Q zs G → Plcs K Hf H (P ++ Q) (ys ++ zs) (F ++ G)
  | _, _, _, _, _, _, .nil, q => q
  | _, _, _, _, _, _, .cons h r, q => by simpa using Plcs.cons h (Plcs.append r q)
end

/-- slots, heap, the shared part Hf, what is owned F -/
structure Rel (K : Frag) (Hf : Hp) (F : List Addr) (P : Slots) (ys : L2.St) (H : Hp) : Prop where
  sub : HSub Hf H
  nd : F.Nodup
  off : ∀ a ∈ F, Hf a = none
  plc : Plcs K Hf H P ys F
/-- from one moment to a later one -/
structure Step (Hf : Hp) (F : List Addr) (H Hf' : Hp) (F' : List Addr) (H' : Hp) : Prop where
  hf : HSub Hf Hf'
  fr : ∀ a o, H a = some o → a ∉ F → H' a = some o
  new : ∀ a o, H a = some o → a ∉ F → Hf' a = Hf a
  own : ∀ a ∈ F', a ∈ F ∨ H a = none
theorem Step.refl (Hf : Hp) (F : List Addr) (H : Hp) : Step Hf F H Hf F H := ⟨fun _ _ e => e, fun _ _ e _ => e, fun _ _ _ _ => rfl, fun _ h => .inl h⟩
theorem Step.trans {Hf Hf1 Hf2 : Hp} {F F1 F2 : List Addr} {H H1 H2 : Hp} (a : Step Hf F H Hf1 F1 H1) (b : Step Hf1 F1 H1 Hf2 F2 H2) : Step Hf F H Hf2 F2 H2 := by
  have nin : ∀ x o, H x = some o → x ∉ F → x ∉ F1 := fun x o e n h => by
    rcases a.own x h with z | z
    · exact n z
    · rw [z] at e; cases e
  refine ⟨a.hf.trans b.hf, fun x o e n => b.fr x o (a.fr x o e n) (nin x o e n), fun x o e n => ?_, fun x h => ?_⟩
  · rw [b.new x o (a.fr x o e n) (nin x o e n), a.new x o e n]
  · rcases b.own x h with z | z
    · exact a.own x z
    · by_cases hx : x ∈ F
      · exact .inl hx
      · cases q : H x with
        | none => exact .inr rfl
        | some o => rw [a.fr x o q hx] at z; cases z
section
variable {K : Frag} {Hf Hf' H H' : Hp} {F F' : List Addr} {P : Slots} {ys : L2.St}
/-- an own thing that is held beside -/
theorem Own.held {d : Nat} {v : Val} {x : V} {G : List Addr} (h : Own K Hf H d v x G) (s : Step Hf F H Hf' F' H') (n : ∀ a ∈ G, a ∉ F) (off : ∀ a ∈ G, Hf a = none) :
    Own K Hf' H' d v x G ∧ (∀ a ∈ G, a ∉ F') ∧ ∀ a ∈ G, Hf' a = none := by
  refine ⟨h.mono s.hf fun a ha o e => s.fr a o e (n a ha), fun a ha h' => ?_, fun a ha => ?_⟩
  · rcases s.own a h' with z | z
    · exact n a ha z
    · obtain ⟨o, e⟩ := h.dom a ha
      rw [e] at z; cases z
  · obtain ⟨o, e⟩ := h.dom a ha
    rw [s.new a o e (n a ha)]
    exact off a ha
/-- the shared part takes G in -/
def frzH (Hf H : Hp) (G : List Addr) : Hp := fun a => if a ∈ G then H a else Hf a
theorem frzH_sub {G : List Addr} (off : ∀ a ∈ G, Hf a = none) : HSub Hf (frzH Hf H G) := fun a o e => by
  unfold frzH
  split
  · rename_i h; rw [off a h] at e; cases e
  · exact e
theorem frzH_le {G : List Addr} (s : HSub Hf H) : HSub (frzH Hf H G) H := fun a o e => by
  unfold frzH at e
  split at e
  · exact e
  · exact s a o e
theorem frzH_in {G : List Addr} {a : Addr} (h : a ∈ G) : frzH Hf H G a = H a := by unfold frzH; rw [if_pos h]
theorem frzH_out {G : List Addr} {a : Addr} (h : a ∉ G) : frzH Hf H G a = Hf a := by unfold frzH; rw [if_neg h]
theorem Own.freeze {d : Nat} {v : Val} {x : V} {G : List Addr} (h : Own K Hf H d v x G) (off : ∀ a ∈ G, Hf a = none) : Rep K (frzH Hf H G) v x :=
  h.rep (frzH_sub off) fun a ha o e => by rw [frzH_in ha]; exact e
end
end BV
/-! The annotated syntax and its plain meaning. -/
namespace BV
open PySem PySem.Spec PyProof.Rows L2

inductive BF where
  | len | repr | all | any | tuple | list | sum | min2 | max2 | sorted | str | int | abs
def BF.name : BF → Str
  | .len => "len" | .repr => "repr" | .all => "all" | .any => "any" | .tuple => "tuple" | .list => "list" | .sum => "sum"
  | .min2 => "min" | .max2 => "max" | .sorted => "sorted" | .str => "str" | .int => "int" | .abs => "abs"
/-- the built-in types that are asked for -/
inductive TN where
  | int | bool | str | tuple | list | dict
def TN.name : TN → String
  | .int => "int" | .bool => "bool" | .str => "str" | .tuple => "tuple" | .list => "list" | .dict => "dict"
/-- where a parameter's value comes from: a written value, a keyword's, a default -/
inductive Src where
  | pos (i : Nat) | kw (i : Nat) | dfl (i : Nat)
mutual
inductive CT where
  | name (i : Nat) (x : Str) (p : Pos)
  | tup (ts : CTs) (k : Nat) (p : Pos)
inductive CTs where
  | nil | cons (t : CT) (ts : CTs)
end
mutual
inductive CE where
  | cst (c : Const) (k : Nat) (p : Pos)
  | var (i : Nat) (x : Str) (p : Pos)
  | brw (i : Nat) (x : Str) (p : Pos)
  | mov (i : Nat) (x : Str) (p : Pos)
  | ref (i : Nat) (x : Str) (p : Pos)
  | pth (i : Nat) (x : Str) (px : Pos) (k : CE) (p : Pos)
  | glb (x : Str) (p : Pos)
  | tup (es : CEs) (k : Nat) (p : Pos)
  | lst (es : CEs) (p : Pos)
  | dic0 (p : Pos)
  | bin (op : Operator) (a b : CE) (p : Pos)
  | neg (a : CE) (p : Pos)
  | nt (a : CE) (p : Pos)
  | bop (o : BoolOp) (es : CEs) (p : Pos)
  | cmp (op : CmpOp) (a b : CE) (p : Pos)
  | chn (op op' : CmpOp) (a b c : CE) (p : Pos)
  | ifx (c a b : CE) (p : Pos)
  | isi (a : CE) (T : TN) (np tp p : Pos)
  | blt (f : BF) (np : Pos) (es : CEs) (p : Pos)
  | call (c : Nat) (x : Str) (np : Pos) (es : CEs) (ks : CKs) (p : Pos)
  | idx (a i : CE) (p : Pos)
  | slc (a : CE) (lo hi : CO) (sp p : Pos)
  | lc (elt : CE) (t : CT) (it : CI) (ifs : CEs) (sc : Scope) (own : List (Str × Nat)) (p : Pos)
  | lc2 (elt : CE) (t : CT) (it : CI) (ifs : CEs) (t1 : CT) (it1 : CI) (ifs1 : CEs) (sc : Scope) (own : List (Str × Nat)) (vs1 : List Nat) (p : Pos)
  | popAt (i : Nat) (x : Str) (px : Pos) (k : CE) (pk : Pos) (j : CE) (pa p : Pos)
inductive CEs where
  | nil | cons (e : CE) (es : CEs)
inductive CKs where
  | nil | cons (x : Str) (e : CE) (p : Pos) (ks : CKs)
inductive CO where
  | no | is (e : CE)
inductive CI where
  | seq (e : CE)
  | rng1 (np : Pos) (a : CE) (p : Pos)
  | rng2 (np : Pos) (a b : CE) (p : Pos)
  | enum (np : Pos) (a : CE) (p : Pos)
  | zip (np : Pos) (a b : CE) (p : Pos)
end
mutual
inductive CS where
  | asg (t : CT) (e : CE) (p : Pos)
  | par (i j : Nat) (x y : Str) (px py : Pos) (kt : Nat) (pt : Pos) (a b : CE) (k2 : Nat) (p2 p : Pos)
  | setI (i : Nat) (x : Str) (px : Pos) (k e : CE) (tp p : Pos)
  | expr (e : CE) (p : Pos)
  | app (i : Nat) (x : Str) (px pa : Pos) (e : CE) (pc p : Pos)
  | aug (i : Nat) (x : Str) (px : Pos) (op : Operator) (e : CE) (p : Pos)
  | ife (c : CE) (a b : CSs) (p : Pos)
  | forr (t : CT) (it : CI) (body : CSs) (p : Pos)
  | ret (e : CE) (p : Pos)
  | retN (p : Pos)
  | pass (p : Pos)
  | brk (p : Pos)
  | cnt (p : Pos)
  | nvr (st : Stmt)
inductive CSs where
  | nil | cons (s : CS) (ss : CSs)
end

/-! ### the syntax that it stands for -/
mutual
def CT.py : CT → Expr
  | .name _ x p => .Name x p
  | .tup ts k p => .Tuple ts.py k p
def CTs.py : CTs → List Expr
  | .nil => []
  | .cons t ts => t.py :: ts.py
end
mutual
def CE.py : CE → Expr
  | .cst c k p => .Constant c k p
  | .var _ x p => .Name x p
  | .brw _ x p => .Name x p
  | .mov _ x p => .Name x p
  | .ref _ x p => .Name x p
  | .pth _ x px k p => .Subscript (.Name x px) k.py p
  | .glb x p => .Name x p
  | .tup es k p => .Tuple es.py k p
  | .lst es p => .List es.py p
  | .dic0 p => .Dict [] [] p
  | .bin op a b p => .BinOp a.py op b.py p
  | .neg a p => .UnaryOp .USub a.py p
  | .nt a p => .UnaryOp .Not a.py p
  | .bop o es p => .BoolOp o es.py p
  | .cmp op a b p => .Compare a.py [op] [b.py] p
  | .chn op op' a b c p => .Compare a.py [op, op'] [b.py, c.py] p
  | .ifx c a b p => .IfExp c.py a.py b.py p
  | .isi a T np tp p => .Call (.Name "isinstance" np) [a.py, .Name (Str.ofString T.name) tp] [] p
  | .blt f np es p => .Call (.Name f.name np) es.py [] p
  | .call _ x np es ks p => .Call (.Name x np) es.py ks.py p
  | .idx a i p => .Subscript a.py i.py p
  | .slc a lo hi sp p => .Subscript a.py (.Slice lo.py hi.py none sp) p
  | .lc elt t it ifs sc _ p => .ListComp elt.py [⟨t.py, it.py, ifs.py, 0⟩] sc p
  | .lc2 elt t it ifs t1 it1 ifs1 sc _ _ p => .ListComp elt.py [⟨t.py, it.py, ifs.py, 0⟩, ⟨t1.py, it1.py, ifs1.py, 0⟩] sc p
  | .popAt _ x px k pk j pa p => .Call (.Attribute (.Subscript (.Name x px) k.py pk) "pop" pa) [j.py] [] p
def CEs.py : CEs → List Expr
  | .nil => []
  | .cons e es => e.py :: es.py
def CKs.py : CKs → List Keyword
  | .nil => []
  | .cons x e p ks => ⟨some x, e.py, p⟩ :: ks.py
def CO.py : CO → Option Expr
  | .no => none
  | .is e => some e.py
def CI.py : CI → Expr
  | .seq e => e.py
  | .rng1 np a p => .Call (.Name "range" np) [a.py] [] p
  | .rng2 np a b p => .Call (.Name "range" np) [a.py, b.py] [] p
  | .enum np a p => .Call (.Name "enumerate" np) [a.py] [] p
  | .zip np a b p => .Call (.Name "zip" np) [a.py, b.py] [] p
end
mutual
def CS.py : CS → Stmt
  | .asg t e p => .Assign [t.py] e.py p
  | .par _ _ x y px py kt pt a b k2 p2 p => .Assign [.Tuple [.Name x px, .Name y py] kt pt] (.Tuple [a.py, b.py] k2 p2) p
  | .setI _ x px k e tp p => .Assign [.Subscript (.Name x px) k.py tp] e.py p
  | .expr e p => .Expr e.py p
  | .app _ x px pa e pc p => .Expr (.Call (.Attribute (.Name x px) "append" pa) [e.py] [] pc) p
  | .aug _ x px op e p => .AugAssign (.Name x px) op e.py p
  | .ife c a b p => .If c.py a.py b.py p
  | .forr t it body p => .For t.py it.py body.py [] p
  | .ret e p => .Return (some e.py) p
  | .retN p => .Return none p
  | .pass p => .Pass p
  | .brk p => .Break p
  | .cnt p => .Continue p
  | .nvr st => st
def CSs.py : CSs → List Stmt
  | .nil => []
  | .cons s ss => s.py :: ss.py
end

/-! ### what changes nothing that is owned -/
mutual
def CE.pure : CE → Bool
  | .cst .. => true | .var .. => true | .brw .. => true | .mov .. => true | .ref .. => false | .glb .. => true | .dic0 .. => true
  | .pth _ _ _ k _ => k.pure
  | .tup es _ _ => es.pure | .lst es _ => es.pure
  | .bin _ a b _ => a.pure && b.pure
  | .neg a _ => a.pure | .nt a _ => a.pure
  | .bop _ es _ => es.pure
  | .cmp _ a b _ => a.pure && b.pure
  | .chn _ _ a b c _ => a.pure && b.pure && c.pure
  | .ifx c a b _ => c.pure && a.pure && b.pure
  | .isi a _ _ _ _ => a.pure
  | .blt _ _ es _ => es.pure
  | .call _ _ _ es ks _ => es.pure && ks.pure
  | .idx a i _ => a.pure && i.pure
  | .slc a lo hi _ _ => a.pure && lo.pure && hi.pure
  | .lc elt _ it ifs _ _ _ => elt.pure && it.pure && ifs.pure
  | .lc2 elt _ it ifs _ it1 ifs1 _ _ _ _ => elt.pure && it.pure && ifs.pure && it1.pure && ifs1.pure
  | .popAt .. => false
def CEs.pure : CEs → Bool
  | .nil => true | .cons e es => e.pure && es.pure
def CKs.pure : CKs → Bool
  | .nil => true | .cons _ e _ ks => e.pure && ks.pure
def CO.pure : CO → Bool
  | .no => true | .is e => e.pure
def CI.pure : CI → Bool
  | .seq e => e.pure | .rng1 _ a _ => a.pure | .rng2 _ a b _ => a.pure && b.pure | .enum _ a _ => a.pure | .zip _ a b _ => a.pure && b.pure
end

/-! ### values -/
mutual
def Val.toD : Val → PyData
  | .non => .none
  | .bl b => .bool b
  | .int i => .int i
  | .str s => .str s
  | .tup xs => .tuple (toDs xs)
  | .lst xs => .list (toDs xs)
  | .dic kvs => .dict (toDk kvs)
def toDs : List Val → List PyData
  | [] => []
  | x :: xs => x.toD :: toDs xs
def toDk : List (Key × Val) → List (PyData × PyData)
  | [] => []
  | (k, v) :: r => ((match k with | .inl i => .int i | .inr s => .str s), v.toD) :: toDk r
end
/-- all things within are no containers -/
def Val.inner : Val → Bool
  | .lst xs => xs.all Val.flat
  | .dic kvs => kvs.all fun q => q.2.flat
  | _ => true
inductive Mode where
  | own (d : Nat) | bor
def Mode.lets (m : Mode) (b : Bool) : Bool := match m with
  | .own _ => true
  | .bor => b
abbrev Res := Mode × Val
def cstV : Const → Option Val
  | .none => some .non
  | .bool b => some (.bl b)
  | .int i => some (.int i)
  | .str s => some (.str s)
  | _ => none
def gd (b : Bool) (o : Option α) : Option α := bif b then o else none
def fitsLine (n : Nat) : Bool := decide (n ≤ sizeLine)
def flatRep (k : Int) (xs : List Val) : List Val := (List.replicate k.toNat xs).flatten
def binV : Operator → Val → Val → Option R
  | .Add, .int i, .int j => some (0, .int (i + j))
  | .Add, .str a, .str b => gd (fitsLine (a.length + b.length)) (some (0, .str (a ++ b)))
  | .Add, .lst xs, .lst ys => gd (fitsLine (xs.length + ys.length)) (some (1, .lst (xs ++ ys)))
  | .Add, .tup xs, .tup ys => gd (fitsLine (xs.length + ys.length)) (some (0, .tup (xs ++ ys)))
  | .Sub, .int i, .int j => some (0, .int (i - j))
  | .Mult, .int i, .int j => gd (decide ((-(2 ^ 64) < i ∧ i < 2 ^ 64) ∨ (-(2 ^ 64) < j ∧ j < 2 ^ 64))) (some (0, .int (i * j)))
  | .Mult, .lst xs, .int k => gd (decide (-(2 ^ 63) ≤ k ∧ k < 2 ^ 63 ∧ xs.length * k.toNat ≤ sizeLine)) (some (1, .lst (flatRep k xs)))
  | .Mult, .tup xs, .int k => gd (decide (k ≤ 100000 ∧ -100000 ≤ k ∧ xs.length ≤ 100)) (some (0, .tup (flatRep k xs)))
  | .Mod, .int i, .int j => gd (decide (0 < j)) (some (0, .int (i % j)))
  | .FloorDiv, .int i, .int j => gd (decide (0 < j ∧ j < 1073741824)) (some (0, .int (i / j)))
  | .Pow, .int i, .int j => gd (decide (0 ≤ j ∧ j ≤ 1000000 ∧ i.natAbs < 2 ^ 64)) (some (0, .int (i ^ j.toNat)))
  | _, _, _ => none
def eqV (a b : Val) : Option Bool := gd (SeqAt.shaped a.toD && SeqAt.shaped b.toD) (some (PyData.eqv a.toD b.toD))
def scalar : Val → Val → Option Bool
  | .int i, .int j => some (decide (i = j))
  | .str i, .str j => some (decide (i = j))
  | .bl i, .bl j => some (decide (i = j))
  | .lst xs, .lst ys => bif xs.length != ys.length then some false else none
  | _, _ => none
def eqS (a b : Val) : Option Bool := (scalar a b).orElse fun _ => eqV a b
def cmpV : CmpOp → Val → Val → Option Bool
  | .Eq, a, b => eqS a b
  | .NotEq, a, b => (eqS a b).map (!·)
  | .Lt, .int i, .int j => some (decide (i < j))
  | .LtE, .int i, .int j => some (decide (i ≤ j))
  | .Gt, .int i, .int j => some (decide (j < i))
  | .GtE, .int i, .int j => some (decide (j ≤ i))
  | .Is, .non, .non => some true
  | .Is, .bl a, .bl b => some (decide (a = b))
  | .IsNot, .non, .non => some false
  | .IsNot, .bl a, .bl b => some (!decide (a = b))
  | _, _, _ => none
def truV : Val → Option Bool
  | .non => some false
  | .bl b => some b
  | .int i => some (i != 0)
  | .str s => gd (fitsLine s.length) (some ((s.length : Int) != 0))
  | .lst xs => some (!xs.isEmpty)
  | .tup xs => some (!xs.isEmpty)
  | .dic kvs => some (!kvs.isEmpty)
def tyV : Val → String
  | .non => "NoneType" | .bl _ => "bool" | .int _ => "int" | .str _ => "str" | .tup _ => "tuple" | .lst _ => "list" | .dic _ => "dict"
def isiV : Val → TN → Bool
  | .int _, .int => true
  | .bl _, .int => true
  | .bl _, .bool => true
  | .str _, .str => true
  | .tup _, .tuple => true
  | .lst _, .list => true
  | .dic _, .dict => true
  | _, _ => false
def boolsOf : List Val → Option (List Bool)
  | [] => some []
  | .bl b :: r => (boolsOf r).map (b :: ·)
  | _ :: _ => none
def intsOf : List Val → Option (List Int)
  | [] => some []
  | .int b :: r => (intsOf r).map (b :: ·)
  | _ :: _ => none
mutual
/-- no list in it, no dict but empty ones -/
def Val.plainD : Val → Bool
  | .tup xs => plainDs xs
  | .lst _ => false
  | .dic kvs => kvs.isEmpty
  | _ => true
def plainDs : List Val → Bool
  | [] => true
  | x :: xs => x.plainD && plainDs xs
end
def reprV (v : Val) : Option Str := gd (PyData.showable v.toD && fitsLine (PyData.shown v.toD).length && decide (v.toD.depth ≤ 64) && (!v.toD.hasDict || v.plainD)) (some (PyData.shown v.toD))
def bltV : BF → List Val → Option R
  | .len, [.lst xs] => some (0, .int xs.length)
  | .len, [.tup xs] => some (0, .int xs.length)
  | .len, [.str s] => gd (fitsLine s.length) (some (0, .int s.length))
  | .repr, [v] => (reprV v).map fun s => (0, .str s)
  | .all, [.lst xs] => (boolsOf xs).map fun bs => (0, .bl (bs.all id))
  | .any, [.lst xs] => (boolsOf xs).map fun bs => (0, .bl (bs.any id))
  | .sum, [.lst xs] => (intsOf xs).map fun bs => (0, .int bs.sum)
  | .tuple, [.lst xs] => some (0, .tup xs)
  | .tuple, [.tup xs] => some (0, .tup xs)
  | .list, [.lst xs] => some (1, .lst xs)
  | .list, [.tup xs] => some (1, .lst xs)
  | .min2, [.int i, .int j] => some (0, .int (if j < i then j else i))
  | .max2, [.int i, .int j] => some (0, .int (if j > i then j else i))
  | .int, [.int i] => some (0, .int i)
  | .int, [.bl b] => some (0, .int (if b then 1 else 0))
  | .abs, [.int i] => some (0, .int (if i < 0 then -i else i))
  | _, _ => none
def getV : Val → Val → Option Val
  | .lst xs, .int i => atI' xs i
  | .tup xs, .int i => atI' xs i
  | _, _ => none
where atI' (xs : List Val) (i : Int) : Option Val := (ixN xs.length i).bind fun j => xs[j]?
def cutL (xs : List Val) (lo hi : Option Int) : List Val := (xs.drop (HT.sIx xs.length 0 lo)).take (HT.sIx xs.length xs.length hi - HT.sIx xs.length 0 lo)
def slcV : Val → Option Int → Option Int → Option R
  | .lst xs, lo, hi => some (1, .lst (cutL xs lo hi))
  | .tup xs, lo, hi => some (0, .tup (cutL xs lo hi))
  | _, _, _ => none
/-- what a for walks -/
def itemsV : Val → Option (List Val)
  | .lst xs => some xs
  | .tup xs => some xs
  | _ => none
def pairUp : List Val → List Val → List Val
  | x :: xs, y :: ys => .tup [x, y] :: pairUp xs ys
  | _, _ => []
def intsFrom (lo : Int) : Nat → List Val
  | 0 => []
  | n + 1 => .int lo :: intsFrom (lo + 1) n
def numbered (i : Nat) : List Val → List Val
  | [] => []
  | x :: xs => .tup [.int i, x] :: numbered (i + 1) xs
def inRange (i : Int) : Bool := decide (-(2 ^ 62) ≤ i ∧ i < 2 ^ 62)

/-! ### meaning -/
/-- a def's call: which def, its name, how many values, which keywords, how they come to the parameters, the defaults -/
structure CallSh where
  f : Nat
  x : Str
  n : Nat
  ks : List Str
  ar : List Src
  dv : List Val
structure Den where
  const : Str → Option Val
  calls : List CallSh
  fn : Nat → List R → Option (R × Slots)
inductive Out where
  | nx (S : Slots) | rt (r : R) (S : Slots) | bk (S : Slots) | ct (S : Slots)
inductive Arg where
  | byRef (i : Nat) | val (v : Val)
/-- the depth of a new list whose things are rs: 1, or one more than the depth of all containers in it -/
def dispD (rs : List R) : Nat := match rs.find? (fun r => !r.2.flat) with
  | none => 1
  | some r => bif rs.all (fun q => q.2.flat || q.1 == r.1) then r.1 + 1 else 1
def wipeS (S : Slots) : List Nat → Slots
  | [] => S
  | v :: vs => (wipeS S vs).set v none
def argR (S : Slots) : Arg → Option R
  | .byRef i => match S[i]? with
    | some (some r) => some r
    | _ => none
  | .val v => some (0, v)
def arrange (as bs ds : List α) : List Src → Option (List α)
  | [] => some []
  | .pos i :: r => as[i]?.bind fun a => (arrange as bs ds r).map (a :: ·)
  | .kw i :: r => bs[i]?.bind fun a => (arrange as bs ds r).map (a :: ·)
  | .dfl i :: r => ds[i]?.bind fun a => (arrange as bs ds r).map (a :: ·)
def argRs (S : Slots) : List Arg → Option (List R)
  | [] => some []
  | a :: r => (argR S a).bind fun x => (argRs S r).map (x :: ·)
/-- what the by-ref parameters became -/
def backS (S : Slots) : List Arg → Slots → Option Slots
  | [], _ => some S
  | .val _ :: r, fin => backS S r (fin.drop 1)
  | .byRef i :: r, fin => match fin[0]? with
    | some (some x) => backS (S.set i (some x)) r (fin.drop 1)
    | _ => none
def refsOf : List Arg → List Nat
  | [] => []
  | .byRef i :: r => i :: refsOf r
  | .val _ :: r => refsOf r
def compL (f : Val → Slots → Option (List Val × Slots)) : List Val → Slots → Option (List Val × Slots)
  | [], S => some ([], S)
  | v :: vs, S => (f v S).bind fun q => (compL f vs q.2).map fun t => (q.1 ++ t.1, t.2)
def forL (f : Val → Slots → Option Out) : List Val → Slots → Option Out
  | [], S => some (.nx S)
  | v :: vs, S => match f v S with
    | some (.nx S1) => forL f vs S1
    | some (.ct S1) => forL f vs S1
    | some (.bk S1) => some (.nx S1)
    | some (.rt r S1) => some (.rt r S1)
    | none => none
mutual
def CT.set : CT → Val → Slots → Option Slots
  | .name i _ _, v, S => some (S.set i (some (0, v)))
  | .tup ts _ _, v, S => match v with
    | .tup xs => ts.set xs S
    | _ => none
def CTs.set : CTs → List Val → Slots → Option Slots
  | .nil, [], S => some S
  | .cons t ts, x :: xs, S => (t.set x S).bind fun S1 => ts.set xs S1
  | _, _, _ => none
end
/-- a test -/
def tst (o : Option (Res × Slots)) : Option (Bool × Slots) := o.bind fun q => (truV q.1.2).map fun b => (b, q.2)
/-- a thing goes into a list that is own to depth d within -/
def fitsIn (d : Nat) (r : R) : Bool := r.2.flat || d == 0 || r.1 == d
mutual
def ev (D : Den) : CE → Slots → Option (Res × Slots)
  | .cst c _ _, S => (cstV c).map fun v => ((.own 0, v), S)
  | .var i _ _, S => match S[i]? with
    | some (some (_, v)) => some ((.own 0, v), S.set i (some (0, v)))
    | _ => none
  | .brw i _ _, S => match S[i]? with
    | some (some (d, v)) => gd (decide (d ≤ 1) || v.inner) (some ((.bor, v), S))
    | _ => none
  | .mov i _ _, S => match S[i]? with
    | some (some (d, v)) => some ((.own d, v), S.set i none)
    | _ => none
  | .ref _ _ _, _ => none
  | .pth i _ _ k _, S => match S[i]? with
    | some (some _) => (ev D k S).bind fun q => match q.2[i]? with
      | some (some (_, v)) => (getV v q.1.2).bind fun u => bif u.flat then some ((.own 0, u), q.2) else gd u.inner (some ((.bor, u), q.2))
      | _ => none
    | _ => none
  | .glb x _, S => (D.const x).map fun v => ((.own 0, v), S)
  | .tup es _ _, S => (evs D es S).bind fun q => gd (fitsLine q.1.length) (some ((.own 0, .tup (q.1.map (·.2))), q.2))
  | .lst es _, S => (evs D es S).bind fun q => gd (fitsLine q.1.length) (some ((.own (dispD q.1), .lst (q.1.map (·.2))), q.2))
  | .dic0 _, S => some ((.own 1, .dic []), S)
  | .bin op a b _, S => (ev D a S).bind fun q => gd (q.1.1.lets b.pure) ((ev D b q.2).bind fun t => (binV op q.1.2 t.1.2).map fun r => ((.own r.1, r.2), t.2))
  | .neg a _, S => (ev D a S).bind fun q => match q.1.2 with
    | .int i => some ((.own 0, .int (-i)), q.2)
    | _ => none
  | .nt a _, S => (tst (ev D a S)).map fun q => ((.own 0, .bl (!q.1)), q.2)
  | .bop o es _, S => evb D o es S
  | .cmp op a b _, S => (ev D a S).bind fun q => gd (q.1.1.lets b.pure) ((ev D b q.2).bind fun t => (cmpV op q.1.2 t.1.2).map fun r => ((.own 0, .bl r), t.2))
  | .chn op op' a b c _, S => (ev D a S).bind fun q => gd (q.1.1.lets b.pure) ((ev D b q.2).bind fun t => (cmpV op q.1.2 t.1.2).bind fun r =>
      bif r then gd (t.1.1.lets c.pure) ((ev D c t.2).bind fun u => (cmpV op' t.1.2 u.1.2).map fun r' => ((.own 0, .bl r'), u.2)) else some ((.own 0, .bl false), t.2))
  | .ifx c a b _, S => (tst (ev D c S)).bind fun q => bif q.1 then ev D a q.2 else ev D b q.2
  | .isi a T _ _ _, S => (ev D a S).map fun q => ((.own 0, .bl (isiV q.1.2 T)), q.2)
  | .blt f _ es _, S => (evo D es S).bind fun q => (bltV f q.1).map fun r => ((.own r.1, r.2), q.2)
  | .call c _ _ es ks _, S => D.calls[c]?.bind fun sh => (eva D es S).bind fun q => (evk D ks q.2).bind fun t => (arrange q.1 t.1 (sh.dv.map .val) sh.ar).bind fun as => (argRs t.2 as).bind fun rs => gd (decide (refsOf as).Nodup) ((D.fn sh.f rs).bind fun w => (backS (wipeS t.2 (refsOf as)) as w.2).map fun S' => ((.own w.1.1, w.1.2), S'))
  | .idx a i _, S => (ev D a S).bind fun q => gd (q.1.1.lets i.pure) ((ev D i q.2).bind fun t => (getV q.1.2 t.1.2).map fun u => ((.own 0, u), t.2))
  | .slc a lo hi _ _, S => (ev D a S).bind fun q => gd (q.1.1.lets (lo.pure && hi.pure)) ((evi D lo q.2).bind fun t => (evi D hi t.2).bind fun u => (slcV q.1.2 t.1 u.1).map fun r => ((.own r.1, r.2), u.2))
  | .lc elt t it ifs _ own _, S => (evI D it S).bind fun q => (compL (fun v S1 => (t.set v S1).bind fun S2 => (evts D ifs S2).bind fun b => bif b.1 then (ev D elt b.2).bind fun r => match r.1.1 with
      | .own _ => some ([r.1.2], wipeS r.2 (own.map (·.2)))
      | .bor => none else some ([], wipeS b.2 (own.map (·.2)))) q.1 (wipeS q.2 (own.map (·.2)))).bind fun u => gd (fitsLine u.1.length) (some ((.own 1, .lst u.1), u.2))
  | .lc2 elt t it ifs t1 it1 ifs1 _ own vs1 _, S => (evI D it S).bind fun q => (compL (fun v S1 => (t.set v S1).bind fun S2 => (evts D ifs S2).bind fun b => bif b.1 then (evI D it1 b.2).bind fun q1 =>
      (compL (fun v1 S3 => (t1.set v1 S3).bind fun S4 => (evts D ifs1 S4).bind fun b1 => bif b1.1 then (ev D elt b1.2).bind fun r => match r.1.1 with
        | .own _ => some ([r.1.2], wipeS r.2 vs1)
        | .bor => none else some ([], wipeS b1.2 vs1)) q1.1 (wipeS q1.2 vs1)).map fun z => (z.1, wipeS z.2 (own.map (·.2))) else some ([], wipeS b.2 (own.map (·.2)))) q.1 (wipeS q.2 (own.map (·.2)))).bind fun u => gd (fitsLine u.1.length) (some ((.own 1, .lst u.1), u.2))
  | .popAt i _ _ k _ j _ _, S => match S[i]?, k, j with
    | some (some (d + 2, .lst xs)), .cst (.int m) _ _, .cst (.int 0) _ _ => (ixN xs.length m).bind fun n => match xs[n]? with
      | some (.lst (w :: ws)) => gd w.flat (some ((.own 0, w), S.set i (some (d + 2, .lst (xs.set n (.lst ws))))))
      | _ => none
    | _, _, _ => none
/-- things of a display -/
def evs (D : Den) : CEs → Slots → Option (List R × Slots)
  | .nil, S => some ([], S)
  | .cons e es, S => (ev D e S).bind fun q => match q.1.1 with
    | .own d => (evs D es q.2).map fun t => ((d, q.1.2) :: t.1, t.2)
    | .bor => none
/-- operands -/
def evo (D : Den) : CEs → Slots → Option (List Val × Slots)
  | .nil, S => some ([], S)
  | .cons e es, S => (ev D e S).bind fun q => gd (q.1.1.lets es.pure) ((evo D es q.2).map fun t => (q.1.2 :: t.1, t.2))
/-- arguments of a def -/
def eva (D : Den) : CEs → Slots → Option (List Arg × Slots)
  | .nil, S => some ([], S)
  | .cons (.ref i _ _) es, S => match S[i]? with
    | some (some _) => (eva D es S).map fun t => (.byRef i :: t.1, t.2)
    | _ => none
  | .cons e es, S => (ev D e S).bind fun q => match q.1.1 with
    | .own _ => (eva D es q.2).map fun t => (.val q.1.2 :: t.1, t.2)
    | .bor => none
def evk (D : Den) : CKs → Slots → Option (List Arg × Slots)
  | .nil, S => some ([], S)
  | .cons _ e _ es, S => (ev D e S).bind fun q => match q.1.1 with
    | .own _ => (evk D es q.2).map fun t => (.val q.1.2 :: t.1, t.2)
    | .bor => none
def evi (D : Den) : CO → Slots → Option (Option Int × Slots)
  | .no, S => some (none, S)
  | .is e, S => (ev D e S).bind fun q => match q.1.2 with
    | .int i => some (some i, q.2)
    | _ => none
/-- and, or -/
def evb (D : Den) (o : BoolOp) : CEs → Slots → Option (Res × Slots)
  | .nil, _ => none
  | .cons e .nil, S => ev D e S
  | .cons e es, S => (ev D e S).bind fun q => (truV q.1.2).bind fun b => match o with
    | .And => bif b then evb D o es q.2 else some q
    | .Or => bif b then some q else evb D o es q.2
/-- the tests of a comprehension: none or one -/
def evts (D : Den) : CEs → Slots → Option (Bool × Slots)
  | .nil, S => some (true, S)
  | .cons e .nil, S => tst (ev D e S)
  | _, _ => none
def evI (D : Den) : CI → Slots → Option (List Val × Slots)
  | .seq e, S => (ev D e S).bind fun q => match q.1.1 with
    | .own _ => (itemsV q.1.2).map fun xs => (xs, q.2)
    | .bor => none
  | .rng1 _ a _, S => (ev D a S).bind fun q => match q.1.2 with
    | .int i => gd (inRange i) (some (intsFrom 0 i.toNat, q.2))
    | _ => none
  | .rng2 _ a b _, S => (ev D a S).bind fun q => (ev D b q.2).bind fun t => match q.1.2, t.1.2 with
    | .int i, .int j => gd (inRange i && inRange j) (some (intsFrom i (j - i).toNat, t.2))
    | _, _ => none
  | .enum _ a _, S => (ev D a S).bind fun q => match q.1.1, q.1.2 with
    | .own _, .lst xs => some (numbered 0 xs, q.2)
    | _, _ => none
  | .zip _ a b _, S => (ev D a S).bind fun q => (ev D b q.2).bind fun t => match q.1, t.1 with
    | (.own _, .lst xs), (.own _, .lst ys) => some (pairUp xs ys, t.2)
    | _, _ => none
end
mutual
def ex (D : Den) : CS → Slots → Option Out
  | .asg t e _, S => (ev D e S).bind fun q => match t, q.1.1 with
    | .name i _ _, .own d => some (.nx (q.2.set i (some (d, q.1.2))))
    | t, .own _ => (t.set q.1.2 q.2).map .nx
    | _, .bor => none
  | .par i j _ _ _ _ _ _ a b _ _ _, S => (evs D (.cons a (.cons b .nil)) S).bind fun q => match q.1 with
    | [r, r'] => some (.nx ((q.2.set i (some r)).set j (some r')))
    | _ => none
  | .setI i _ _ k e _ _, S => (ev D e S).bind fun q => match q.2[i]? with
    | some (some _) => (ev D k q.2).bind fun t => match t.2[i]?, t.1.2, q.1.1 with
      | some (some (d + 1, .lst xs)), .int m, .own d' => gd (fitsIn d (d', q.1.2)) ((ixN xs.length m).map fun n => .nx (t.2.set i (some (d + 1, .lst (xs.set n q.1.2)))))
      | _, _, _ => none
    | _ => none
  | .expr e _, S => (ev D e S).map fun q => .nx q.2
  | .app i _ _ _ e _ _, S => match S[i]? with
    | some (some (_, .lst _)) => (ev D e S).bind fun q => match q.2[i]?, q.1.1 with
      | some (some (d + 1, .lst xs)), .own d' => gd (fitsIn d (d', q.1.2) && decide (xs.length < sizeLine)) (some (.nx (q.2.set i (some (d + 1, .lst (xs ++ [q.1.2]))))))
      | _, _ => none
    | _ => none
  | .aug i _ _ op e _, S => match S[i]? with
    | some (some (_, .int k)) => (ev D e S).bind fun q => match op, q.1.2 with
      | .Add, .int m => some (.nx (q.2.set i (some (0, .int (k + m)))))
      | .Sub, .int m => some (.nx (q.2.set i (some (0, .int (k - m)))))
      | _, _ => none
    | _ => none
  | .ife c a b _, S => (tst (ev D c S)).bind fun q => bif q.1 then exs D a q.2 else exs D b q.2
  | .forr t it body _, S => (evI D it S).bind fun q => forL (fun v S1 => (t.set v S1).bind fun S2 => exs D body S2) q.1 q.2
  | .ret e _, S => (ev D e S).bind fun q => match q.1.1 with
    | .own d => some (.rt (d, q.1.2) q.2)
    | .bor => none
  | .retN _, S => some (.rt (0, .non) S)
  | .pass _, S => some (.nx S)
  | .brk _, S => some (.bk S)
  | .cnt _, S => some (.ct S)
  | .nvr _, _ => none
def exs (D : Den) : CSs → Slots → Option Out
  | .nil, S => some (.nx S)
  | .cons s ss, S => match ex D s S with
    | some (.nx S1) => exs D ss S1
    | o => o
end
end BV
/-! What a by-value step gives over the heap: the kit. -/
namespace BV
open PySem PySem.Spec PyProof.Rows L2
section
variable {K : Frag} {Hf Hf' H H' H1 : Hp} {F F' : List Addr} {S S' : Slots} {σ : L2.St}
theorem Rel.dom (r : Rel K Hf F S σ H) : ∀ a ∈ F, ∃ o, H a = some o := r.plc.dom
theorem Rel.upd (r : Rel K Hf F S σ H) {p : Addr} {o : HO} (hp : H p = none) : Rel K Hf F S σ (upd H p o) :=
  ⟨r.sub.trans (HSub.upd hp), r.nd, r.off, r.plc.mono (HSub.refl _) fun a _ u e => HSub.upd hp a u e⟩
theorem Rel.grow (r : Rel K Hf F S σ H) (s : HSub Hf Hf') (s' : HSub Hf' H) (off : ∀ a ∈ F, Hf' a = none) : Rel K Hf' F S σ H :=
  ⟨s', r.nd, off, r.plc.mono s fun _ _ _ e => e⟩
theorem Step.upd (st : Step Hf F H Hf' F' H1) {p : Addr} {o : HO} (hp : H1 p = none) : Step Hf F H Hf' F' (upd H1 p o) :=
  ⟨st.hf, fun a u e n => HSub.upd hp a u (st.fr a u e n), st.new, st.own⟩
/-- what is new was not there, or owned -/
theorem Step.fresh (st : Step Hf F H Hf' F' H1) {p : Addr} (hp : H1 p = none) : p ∈ F ∨ H p = none := by
  by_cases h : p ∈ F
  · exact .inl h
  · cases q : H p with
    | none => exact .inr rfl
    | some o => rw [st.fr p o q h] at hp; cases hp

theorem RepL.ownL {Hf H : Hp} : ∀ {vs : List Val} {ys : List V}, RepL K Hf vs ys → OwnL K Hf H 0 vs ys []
  | _, _, .nil => .nil
  | _, _, .cons h r => OwnL.cons (F := []) (G := []) (.frz (.inl rfl) h) (RepL.ownL r)
theorem RepK.ownK {Hf H : Hp} : ∀ {vs : List (Key × Val)} {ys : List (Key × V)}, RepK K Hf vs ys → OwnK K Hf H 0 vs ys []
  | _, _, .nil => .nil
  | _, _, .cons h r => OwnK.cons (F := []) (G := []) (.frz (.inl rfl) h) (RepK.ownK r)
inductive RepE (K : Frag) (Hf H : Hp) : Val → V → Prop
  | flat {v : Val} {x : V} : v.flat = true → Rep K Hf v x → RepE K Hf H v x
  | lst {a : Addr} {xs : List Val} {ys : List V} : RdL K H a ys → RepL K Hf xs ys → RepE K Hf H (.lst xs) (.ref a)
  | dic {a : Addr} {kvs : List (Key × Val)} {ks : List (Key × V)} : H a = some (.dK ks) → RepK K Hf kvs ks → RepE K Hf H (.dic kvs) (.ref a)
theorem RepE.of {v : Val} {x : V} (h : Rep K Hf v x) (s : HSub Hf H) : RepE K Hf H v x := by
  cases h with
  | lst h r => exact .lst (rdL_mono s h) r
  | dic h r => exact .dic (s _ _ h) r
  | non => exact .flat rfl .non
  | bl b => exact .flat rfl (.bl b)
  | int b => exact .flat rfl (.int b)
  | str b => exact .flat rfl (.str b)
  | tup h r => exact .flat rfl (.tup h r)
theorem RepE.rep {v : Val} {x : V} (s : HSub Hf H) (h : RepE K Hf H v x) : Rep K H v x := by
  cases h with
  | flat _ h => exact h.mono s
  | lst h r => exact .lst h (r.mono s)
  | dic h r => exact .dic h (r.mono s)
theorem RepE.mono {v : Val} {x : V} (s : HSub Hf Hf') (k : HSub H H') (h : RepE K Hf H v x) : RepE K Hf' H' v x := by
  cases h with
  | flat e h => exact .flat e (h.mono s)
  | lst h r => exact .lst (rdL_mono k h) (r.mono s)
  | dic h r => exact .dic (k _ _ h) (r.mono s)

/-- the result of an expression -/
def ResOk (K : Frag) (F : List Addr) (H Hf' : Hp) (F' : List Addr) (H' : Hp) (r : Res) (x : V) : Prop := match r.1 with
  | .own d => ∃ G, Own K Hf' H' d r.2 x G ∧ (F' ++ G).Nodup ∧ (∀ a ∈ G, Hf' a = none) ∧ ∀ a ∈ G, a ∈ F ∨ H a = none
  | .bor => RepE K Hf' H' r.2 x
structure Gives (K : Frag) (Hf : Hp) (F : List Addr) (H : Hp) (S' : Slots) (σ : L2.St) (r : Res) (x : V) (Hf' : Hp) (F' : List Addr) (H' : Hp) : Prop where
  rel : Rel K Hf' F' S' σ H'
  st : Step Hf F H Hf' F' H'
  res : ResOk K F H Hf' F' H' r x
/-- as an operand -/
theorem Gives.opd {r : Res} {x : V} (g : Gives K Hf F H S' σ r x Hf' F' H') :
    ∃ Hf'', HSub Hf' Hf'' ∧ Rel K Hf'' F' S' σ H' ∧ Step Hf F H Hf'' F' H' ∧ RepE K Hf'' H' r.2 x ∧ ∀ d, r.1 = .own d → Rep K Hf'' r.2 x := by
  obtain ⟨rel, st, res⟩ := g
  obtain ⟨m, v⟩ := r
  cases m with
  | bor => exact ⟨Hf', HSub.refl _, rel, st, res, fun d e => by cases e⟩
  | own d =>
    obtain ⟨G, ow, nd, off, fr⟩ := res
    have s1 := frzH_sub (H := H') off
    have s2 := frzH_le (G := G) rel.sub
    have dis : ∀ a ∈ F', a ∉ G := fun a ha hg => by
      have := (List.nodup_append.mp nd).2.2 a ha a hg
      exact this rfl
    have rep : Rep K (frzH Hf' H' G) v x := ow.freeze off
    refine ⟨frzH Hf' H' G, s1, rel.grow s1 s2 fun a ha => ?_, ⟨st.hf.trans s1, st.fr, fun a o e n => ?_, st.own⟩, .of rep s2, fun _ _ => rep⟩
    · rw [frzH_out (dis a ha)]; exact rel.off a ha
    · have hg : a ∉ G := fun hg => by
        rcases fr a hg with z | z
        · exact n z
        · rw [z] at e; cases e
      rw [frzH_out hg]; exact st.new a o e n
theorem Gives.frz {v : Val} {x : V} {d : Nat} (rel : Rel K Hf' F' S' σ H') (st : Step Hf F H Hf' F' H') (r : Rep K Hf' v x) (hd : d = 0 ∨ v.flat = true) : Gives K Hf F H S' σ (.own d, v) x Hf' F' H' :=
  ⟨rel, st, [], .frz hd r, by simpa using rel.nd, fun a h => (by cases h), fun a h => (by cases h)⟩
theorem Gives.newL {vs : List Val} {ys : List V} {p : Addr} (rel : Rel K Hf' F' S' σ H1) (st : Step Hf F H Hf' F' H1) (hp : H1 p = none) (r : RepL K Hf' vs ys) :
    Gives K Hf F H S' σ (.own 1, .lst vs) (.ref p) Hf' F' (L2.upd H1 p (.lst ys)) := by
  have hpF : p ∉ F' := fun h => by obtain ⟨o, e⟩ := rel.dom p h; rw [e] at hp; cases hp
  have hf : Hf' p = none := by
    cases q : Hf' p with
    | none => rfl
    | some o => rw [rel.sub p o q] at hp; cases hp
  refine ⟨rel.upd hp, st.upd hp, [p], ?_, ?_, ?_, ?_⟩
  · exact .lst upd_same r.ownL
  · rw [List.nodup_append]
    refine ⟨rel.nd, by simp, fun a ha b hb e => ?_⟩
    have : b = p := by simpa using hb
    subst this; subst e; exact hpF ha
  · intro a ha
    have : a = p := by simpa using ha
    subst this; exact hf
  · intro a ha
    have : a = p := by simpa using ha
    subst this; exact st.fresh hp

theorem Gives.newT {vs : List Val} {ys : List V} {p : Addr} (rel : Rel K Hf' F' S' σ H1) (st : Step Hf F H Hf' F' H1) (hp : H1 p = none) (r : RepL K Hf' vs ys) :
    Gives K Hf F H S' σ (.own 0, .tup vs) (.ref p) (L2.upd Hf' p (.tup ys)) F' (L2.upd H1 p (.tup ys)) := by
  have hf : Hf' p = none := by
    cases q : Hf' p with
    | none => rfl
    | some o => rw [rel.sub p o q] at hp; cases hp
  have s1 : HSub Hf' (L2.upd Hf' p (.tup ys)) := HSub.upd hf
  have s2 : HSub (L2.upd Hf' p (.tup ys)) (L2.upd H1 p (.tup ys)) := fun a o e => by
    by_cases h : a = p
    · subst h; rw [upd_same] at e ⊢; exact e
    · rw [upd_ne h] at e ⊢; exact rel.sub a o e
  refine .frz ((rel.upd hp).grow s1 s2 fun a ha => ?_) ⟨st.hf.trans s1, (st.upd hp).fr, fun a o e n => ?_, st.own⟩ (.tup (.inl (.inl upd_same)) (r.mono s1)) (.inl rfl)
  · have : a ≠ p := fun e => by obtain ⟨o, q⟩ := rel.dom a ha; rw [e] at q; rw [q] at hp; cases hp
    rw [upd_ne this]; exact rel.off a ha
  · have : a ≠ p := fun z => by have q := st.fr a o e n; rw [z] at q; rw [q] at hp; cases hp
    rw [upd_ne this]; exact st.new a o e n

/-- a slot's thing is taken out -/
theorem Rel.take {i : Nat} {d : Nat} {v : Val} (r : Rel K Hf F S σ H) (h : S[i]? = some (some (d, v))) :
    ∃ x G F0, σ[i]? = some (some x) ∧ Own K Hf H d v x G ∧ Rel K Hf F0 (S.set i none) σ H ∧ (F0 ++ G).Nodup ∧ (∀ a, a ∈ F ↔ a ∈ F0 ∨ a ∈ G) ∧ ∀ a ∈ G, Hf a = none := by
  obtain ⟨y, F1, F2, F3, e1, e2, e3, e4⟩ := r.plc.split h
  cases e3 with
  | is ow =>
    rename_i x
    have nd := r.nd
    rw [e2] at nd
    have hset : σ.set i (some x) = σ := by
      apply List.ext_getElem?
      intro j
      rw [List.getElem?_set]
      split
      · rename_i hj; subst hj
        split
        · exact e1.symm
        · rename_i hl; rw [List.getElem?_eq_none (by omega)]
      · rfl
    refine ⟨x, F2, F1 ++ F3, e1, ow, ⟨r.sub, ?_, fun a ha => r.off a ?_, ?_⟩, ?_, fun a => ?_, fun a ha => r.off a ?_⟩
    · simp only [List.nodup_append, List.mem_append] at nd ⊢; grind
    · rw [e2]; simp only [List.mem_append] at ha ⊢; grind
    · have := e4 (Hf' := Hf) (H' := H) (HSub.refl _) (fun a _ o e => e) (.no (y := some x))
      rw [hset] at this
      simpa using this
    · simp only [List.nodup_append, List.mem_append] at nd ⊢; grind
    · rw [e2]; simp only [List.mem_append]; grind
    · rw [e2]; simp only [List.mem_append]; grind
/-- a thing is put into a slot -/
theorem Rel.put {i : Nat} {d : Nat} {v : Val} {x : V} {G : List Addr} (r : Rel K Hf F S σ H) (hi : i < S.length) (ow : Own K Hf H d v x G) (nd : (F ++ G).Nodup) (off : ∀ a ∈ G, Hf a = none) :
    ∃ F', Rel K Hf F' (S.set i (some (d, v))) (σ.set i (some x)) H ∧ ∀ a ∈ F', a ∈ F ∨ a ∈ G := by
  obtain ⟨y, F1, F2, F3, e1, e2, e3, e4⟩ := r.plc.split (i := i) (List.getElem?_eq_getElem hi)
  rw [e2] at nd
  refine ⟨F1 ++ G ++ F3, ⟨r.sub, ?_, fun a ha => ?_, e4 (HSub.refl _) (fun a _ o e => e) (.is ow)⟩, fun a ha => ?_⟩
  · simp only [List.nodup_append, List.mem_append] at nd ⊢; grind
  · have : a ∈ G ∨ a ∈ F := by rw [e2]; simp only [List.mem_append] at ha ⊢; grind
    rcases this with z | z
    · exact off a z
    · exact r.off a z
  · rw [e2]; simp only [List.mem_append] at ha ⊢; grind
theorem Rel.none {i : Nat} (r : Rel K Hf F S σ H) : ∃ F', Rel K Hf F' (S.set i Option.none) σ H ∧ ∀ a ∈ F', a ∈ F := by
  by_cases hi : i < S.length
  · obtain ⟨y, F1, F2, F3, e1, e2, e3, e4⟩ := r.plc.split (i := i) (List.getElem?_eq_getElem hi)
    have nd := r.nd
    rw [e2] at nd
    have hset : σ.set i y = σ := by
      apply List.ext_getElem?
      intro j
      rw [List.getElem?_set]
      split
      · rename_i hj; subst hj
        split
        · exact e1.symm
        · rename_i hl; rw [List.getElem?_eq_none (by omega)]
      · rfl
    have := e4 (Hf' := Hf) (H' := H) (HSub.refl _) (fun a _ o e => e) (.no (y := y))
    rw [hset] at this
    refine ⟨F1 ++ [] ++ F3, ⟨r.sub, ?_, fun a ha => r.off a ?_, this⟩, fun a ha => ?_⟩
    · simp only [List.nodup_append, List.mem_append] at nd ⊢; grind
    · rw [e2]; simp only [List.mem_append] at ha ⊢; grind
    · rw [e2]; simp only [List.mem_append] at ha ⊢; grind
  · rw [List.set_eq_of_length_le (by omega)]
    exact ⟨F, r, fun _ h => h⟩
theorem Rel.get {i : Nat} {d : Nat} {v : Val} (r : Rel K Hf F S σ H) (h : S[i]? = some (some (d, v))) : ∃ x G, σ[i]? = some (some x) ∧ Own K Hf H d v x G ∧ (∀ a ∈ G, a ∈ F) := by
  obtain ⟨x, G, F0, e1, e2, e3, e4, e5, e6⟩ := r.take h
  exact ⟨x, G, e1, e2, fun a ha => (e5 a).mpr (.inr ha)⟩
theorem Rel.len (r : Rel K Hf F S σ H) : σ.length = S.length := r.plc.length

/-- several own things, each with its depth -/
inductive OwnRs (K : Frag) (Hf H : Hp) : List R → List V → List Addr → Prop
  | nil : OwnRs K Hf H [] [] []
  | cons {d : Nat} {v : Val} {x : V} {rs : List R} {xs : List V} {F G : List Addr} : Own K Hf H d v x F → OwnRs K Hf H rs xs G → OwnRs K Hf H ((d, v) :: rs) (x :: xs) (F ++ G)
theorem OwnRs.rep (s : HSub Hf H') : ∀ {rs : List R} {xs : List V} {G : List Addr}, OwnRs K Hf H rs xs G → (∀ a ∈ G, ∀ o, H a = some o → H' a = some o) → RepL K H' (rs.map (·.2)) xs
  | _, _, _, .nil, _ => .nil
  | _, _, _, .cons h r, k => .cons (h.rep s fun a ha => k a (List.mem_append_left _ ha)) (OwnRs.rep s r fun a ha => k a (List.mem_append_right _ ha))
theorem OwnRs.mono (s : HSub Hf Hf') : ∀ {rs : List R} {xs : List V} {G : List Addr}, OwnRs K Hf H rs xs G → (∀ a ∈ G, ∀ o, H a = some o → H' a = some o) → OwnRs K Hf' H' rs xs G
  | _, _, _, .nil, _ => .nil
  | _, _, _, .cons h r, k => .cons (h.mono s fun a ha => k a (List.mem_append_left _ ha)) (OwnRs.mono s r fun a ha => k a (List.mem_append_right _ ha))
theorem OwnRs.length : ∀ {rs : List R} {xs : List V} {G : List Addr}, OwnRs K Hf H rs xs G → xs.length = rs.length
  | _, _, _, .nil => rfl
  | _, _, _, .cons _ r => congrArg Nat.succ (OwnRs.length r)
/-- a thing that is no container is everyone's, at whatever depth -/
theorem Own.flat {d d' : Nat} {v : Val} {x : V} {G : List Addr} (h : Own K Hf H d v x G) (f : v.flat = true) : G = [] ∧ Own K Hf H d' v x [] := by
  cases h with
  | frz _ r => exact ⟨rfl, .frz (.inr f) r⟩
  | lst _ _ => cases f
  | dic _ _ => cases f
theorem OwnRs.same {m : Nat} : ∀ {rs : List R} {xs : List V} {G : List Addr}, OwnRs K Hf H rs xs G → (rs.all fun q => q.2.flat || q.1 == m) = true → OwnL K Hf H m (rs.map (·.2)) xs G
  | _, _, _, .nil, _ => .nil
  | _, _, _, .cons (d := d) (v := v) h r, e => by
    simp only [List.all_cons, Bool.and_eq_true, Bool.or_eq_true] at e
    refine .cons ?_ (OwnRs.same r e.2)
    rcases e.1 with z | z
    · obtain ⟨rfl, q⟩ := h.flat (d' := m) z
      exact q
    · have : d = m := by simpa using z
      subst this; exact h
structure GivesL (K : Frag) (Hf : Hp) (F : List Addr) (H : Hp) (S' : Slots) (σ : L2.St) (rs : List R) (xs : List V) (Hf' : Hp) (F' : List Addr) (H' : Hp) : Prop where
  rel : Rel K Hf' F' S' σ H'
  st : Step Hf F H Hf' F' H'
  res : ∃ G, OwnRs K Hf' H' rs xs G ∧ (F' ++ G).Nodup ∧ (∀ a ∈ G, Hf' a = none) ∧ ∀ a ∈ G, a ∈ F ∨ H a = none
/-- all of them shared -/
theorem GivesL.frz {rs : List R} {xs : List V} (g : GivesL K Hf F H S' σ rs xs Hf' F' H') :
    ∃ Hf'', HSub Hf' Hf'' ∧ Rel K Hf'' F' S' σ H' ∧ Step Hf F H Hf'' F' H' ∧ RepL K Hf'' (rs.map (·.2)) xs := by
  obtain ⟨rel, st, G, ow, nd, off, fr⟩ := g
  have s1 := frzH_sub (H := H') off
  have s2 := frzH_le (G := G) rel.sub
  have dis : ∀ a ∈ F', a ∉ G := fun a ha hg => (List.nodup_append.mp nd).2.2 a ha a hg rfl
  refine ⟨frzH Hf' H' G, s1, rel.grow s1 s2 fun a ha => ?_, ⟨st.hf.trans s1, st.fr, fun a o e n => ?_, st.own⟩, ow.rep s1 fun a ha o e => ?_⟩
  · rw [frzH_out (dis a ha)]; exact rel.off a ha
  · have hg : a ∉ G := fun hg => by
      rcases fr a hg with z | z
      · exact n z
      · rw [z] at e; cases e
    rw [frzH_out hg]; exact st.new a o e n
  · rw [frzH_in ha]; exact e
/-- a list of them -/
theorem GivesL.newL {rs : List R} {xs : List V} {p : Addr} (g : GivesL K Hf F H S' σ rs xs Hf' F' H1) (hp : H1 p = none) :
    ∃ Hf'', Gives K Hf F H S' σ (.own (dispD rs), .lst (rs.map (·.2))) (.ref p) Hf'' F' (L2.upd H1 p (.lst xs)) := by
  have plain : ∃ Hf'', Gives K Hf F H S' σ (.own 1, .lst (rs.map (·.2))) (.ref p) Hf'' F' (L2.upd H1 p (.lst xs)) := by
    obtain ⟨Hf'', s, rel, st, r⟩ := g.frz
    exact ⟨Hf'', .newL rel st hp r⟩
  unfold dispD
  split
  · exact plain
  · rename_i r0 _
    cases e : rs.all (fun q => q.2.flat || q.1 == r0.1) with
    | false => exact plain
    | true =>
      obtain ⟨rel, st, G, ow, nd, off, fr⟩ := g
      have hpF : p ∉ F' := fun h => by obtain ⟨o, e⟩ := rel.dom p h; rw [e] at hp; cases hp
      have domG : ∀ {rs : List R} {xs : List V} {G : List Addr}, OwnRs K Hf' H1 rs xs G → ∀ a ∈ G, ∃ o, H1 a = some o := by
        intro rs xs G h
        induction h with
        | nil => intro a h; cases h
        | cons h _ ih => exact fun a ha => (List.mem_append.mp ha).elim (h.dom a) (ih a)
      have hpG : p ∉ G := fun h => by obtain ⟨o, e⟩ := domG ow p h; rw [e] at hp; cases hp
      have hf : Hf' p = none := by
        cases q : Hf' p with
        | none => rfl
        | some o => rw [rel.sub p o q] at hp; cases hp
      refine ⟨Hf', rel.upd hp, st.upd hp, p :: G, .lst upd_same ((ow.same e).mono (HSub.refl _) fun a ha o q => HSub.upd hp a o q), ?_, ?_, ?_⟩
      · simp only [List.nodup_append, List.nodup_cons, List.mem_cons] at nd ⊢; grind
      · intro a ha
        rcases List.mem_cons.mp ha with z | z
        · rw [z]; exact hf
        · exact off a z
      · intro a ha
        rcases List.mem_cons.mp ha with z | z
        · rw [z]; exact st.fresh hp
        · exact fr a z
end
end BV
/-! Defs that are called where no repr runs (guards told), and the operations on values. -/
namespace BV
open PySem PySem.Spec PyProof.Rows L2

/-- a def keeps a promise, called where no repr is under way -/
structure FnG (P : Program) (w : World) (K : Frag) (mg : Str → Option Value) (base : Heap)
    (k : Nat) (f : Addr) (fd : FuncData) (ps : List Str) (sp : Sp) : Prop where
  len : ∀ vs H Q E, sp vs H Q E → vs.length = ps.length
  go : ∀ (A : Around), A.guards = some [] → Room k A →
    ∀ (outer : List Env) (s : Shared) (H : Hp) (args : Args) (us : List Value) (vs : List V) (Q : VK) (E : XK),
      Env0 P w K mg base A outer s H → BindsTo s fd args (ps.zip us) → Vals vs us → sp vs H Q E →
      codeAny (model P w) A (.call (.ref f) args) (CR CX0 outer P w H s Q E) s
theorem FnG.mono {P : Program} {w : World} {K : Frag} {mg : Str → Option Value} {base : Heap} {j k : Nat}
    {f : Addr} {fd : FuncData} {ps : List Str} {sp : Sp} (F : FnG P w K mg base j f fd ps sp) (h : j ≤ k) :
    FnG P w K mg base k f fd ps sp := ⟨F.len, fun A g r => F.go A g (r.mono h)⟩
/-- nothing promised, nothing to keep -/
theorem FnG.idle {P : Program} {w : World} {K : Frag} {mg : Str → Option Value} {base : Heap} {k : Nat}
    {f : Addr} {fd : FuncData} {ps : List Str} {sp : Sp} (h : ∀ vs H Q E, ¬ sp vs H Q E) : FnG P w K mg base k f fd ps sp :=
  ⟨fun vs H Q E q => (h vs H Q E q).elim, fun _ _ _ _ _ H _ _ vs Q E _ _ _ q => (h vs H Q E q).elim⟩
/-- THE RULE of a def, by its body -/
theorem FnG.of {P : Program} {w : World} {K : Frag} {mg : Str → Option Value} {base : Heap} {k : Nat} {x qual : Str}
    {params : Arguments} {body : List Stmt} {scope : Scope} {dvs : List V} {kws : List (Str × V)} {f : Addr} {fd : FuncData}
    {N ps : List Str} {sp : Sp} (F : FunD K x qual params body scope dvs kws f fd) (S : FnScope N ps scope)
    (len : ∀ vs H Q E, sp vs H Q E → vs.length = ps.length)
    (walk : ∀ (X : Cx), X.prog = P → X.w = w → X.K = K → X.mg = mg → X.base = base → X.N = N → X.env.scope = scope → X.calm = true →
      X.xe = (fun _ _ => False) → X.A.guards = some [] → Room k X.A → X.fn = (fun _ => true) →
      ∀ (H : Hp) (vs : List V) (Q : VK) (E : XK), sp vs H Q E → ∃ t, PSs X body t ∧ t { nx := fun _ H' => Q .non H', rt := Q } (L2.start N vs) H) :
    FnG P w K mg base (k + 1) f fd ps sp := by
  obtain ⟨oc, od, dV, kV, doc, pm, an, cdv, ct, osl, rfl, lk, hcd, _, _⟩ := F.ex
  refine ⟨len, fun A hG hr outer s H args us vs Q E e0 hb r hsp => ?_⟩
  have hl := len vs H Q E hsp
  have keep : ∀ b o, base.get? b = some o → s.heap.get? b = some o := fun b o e => (e0.bs b o e).1
  have KX : K.In s.heap := e0.mod.kin.keeps keep
  have hkind : ∀ y ∈ ps.zip us, scope.names.lookup y.1 = some .local ∨
      (scope.names.lookup y.1 = some .cell ∧ ((cellsFrom (s.heap.objs.size + 1) scope.names []).lookup y.1).isSome = true) := by
    rintro ⟨n, v⟩ hy
    rcases S.par n (List.of_mem_zip hy).1 with z | z
    · exact Or.inl z
    · exact Or.inr ⟨z, PySem.W.cellsFrom_some _ _ _ (Or.inl z)⟩
  refine codeAny_call_function hr.depth (KX _ _ lk) rfl S.co S.gen rfl
    (PySem.W.codeRec_of KX hcd) (hb _ _ _ _ (wpAny_newFunctionEnv_cells S.kind hkind ?_))
  intro env he s1 x
  subst he
  refine ⟨(e0.mod.nolimit.keeps keep).keeps x.toInCall.keep, codeAny_func ?_⟩
  have I := inv_start (CX := CX0) (E := E) S hr.hd e0 hl r x
  obtain ⟨t, ht, hq⟩ := walk (cxOf CX0 P w K mg base N qual scope f cdv A outer s H E).nox rfl rfl rfl rfl rfl rfl rfl rfl rfl hG (hr.deeper _) rfl H vs Q E hsp
  refine wpAny_mono ((PSs.nox ht).run [] s1 (L2.start N vs) H _ I hq) ?_ (fun _ _ z => z)
  intro fl s' hs
  cases fl with
  | ret u => obtain ⟨v, σ', H', J, rv, z⟩ := hs; exact ⟨v, H', J.os, J.bare, J.base, J.hok, rv, z⟩
  | next => obtain ⟨σ', H', J, z⟩ := hs; exact ⟨.non, H', J.os, J.bare, J.base, J.hok, rfl, z⟩
  | brk => exact hs.elim fun _ z => z.elim fun _ z => z.2.elim
  | cont => exact hs.elim fun _ z => z.elim fun _ z => z.2.elim
/-- a def is called from a body -/
theorem FnG.call {X : Cx} {k : Nat} {f : Addr} {fd : FuncData} {ps : List Str} {sp : Sp} {pins : List (Addr × Obj)} {σ : L2.St} {H : Hp} {s : Shared}
    {args : Args} {us : List Value} {vs : List V} {Q : VK} {E : XK} (F : FnG X.prog X.w X.K X.mg X.base k f fd ps sp) (hG : X.A.guards = some []) (hr : Room k X.A)
    (I : Inv X pins σ H s) (hb : BindsTo s fd args (ps.zip us)) (r : Vals vs us) (h : sp vs H Q E) :
    wpAny (model X.prog X.w) X.A (call (.ref f) args.pos args.kw) (EP X pins σ Q) X.xe s := by
  refine wpAny_call (codeAny_mono (F.go X.A hG hr X.stack s H args us vs Q E I.env0 hb r h) ?_)
  intro r s' hq
  cases r with
  | error e => exact hq.elim
  | ok fl =>
    cases fl with
    | ret u => exact I.after hq
    | next => exact hq.elim
    | brk => exact hq.elim
    | cont => exact hq.elim
/-- the law's own call, at the heap behind the top -/
theorem law_callG {P : Program} {w : World} {K : Frag} {mg mb : Str → Option Value} {k : Nat} {fa a : Addr} {fd : FuncData} {x : Str} {sp : Sp}
    {s1 : Shared} {vs : List Value} {ns : List Int} (KX : K.In s1.heap) (hns : s1.heap.Ns mainGlobals mg) (hb : s1.heap.Ns builtinsNs mb)
    (hbb : ∀ x : Str, x ≠ "__name__" → mb x = bootBuiltins x) (hlim : s1.heap.NoLimit) (hg : s1.gens = #[])
    (ha : s1.heap.get? a = some { cls := .type "list", data := .seq vs.toArray }) (hi : IntsAre vs ns) (hl : ns.length ≤ sizeLine)
    (hr : Room k callerA) (F : ∀ base : Heap, K.In base → base.Ns mainGlobals mg → FnG P w K mg base k fa fd [x] sp)
    (hbind : ∀ (s : Shared) (u : Value), BindsTo s fd ⟨[u], []⟩ [(x, u)])
    (hsp : ∀ H : Hp, RdL K H a (ns.map V.int) → sp [.ref a] H (fun v _ => v = .bl true) fun _ _ _ => False) :
    codeAny (model P w) callerA (.call (.ref fa) ⟨[.ref a], []⟩)
      (fun r s' => r = .ok (.ret (.bool true)) ∧ OldK s1.heap s'.heap ∧ s'.os = s1.os ∧ AllBare s'.gens) s1 := by
  have rv := vals_ints hi
  let ob : Obj := { cls := .type "list", data := .seq vs.toArray }
  have core : ∀ H : Hp, (∀ b, H b = none ∨ (b = a ∧ H b = some (.frz ob (.lst (ns.map V.int))))) → (H a ≠ none → K.lookup a = none) → RdL K H a (ns.map V.int) →
      codeAny (model P w) callerA (.call (.ref fa) ⟨[.ref a], []⟩) (fun r s' => r = .ok (.ret (.bool true)) ∧ OldK s1.heap s'.heap ∧ s'.os = s1.os ∧ AllBare s'.gens) s1 := by
    intro H only hK hS
    have hok : HOk P w H s1.heap := by
      intro b u z
      rcases only b with e | ⟨rfl, e⟩
      · rw [e] at z; cases z
      · rw [e] at z; cases z
        exact ⟨ha, by rw [List.length_map]; exact hl, vs, _, rv, ha⟩
    have up : ∀ {b : Addr} {o : Obj}, s1.heap.get? b = some o → H b = none → (hidT s1.heap H).get? b = some o := fun e n => hidT_get e n
    have nsUp : ∀ {b : Addr} {m : Str → Option Value}, s1.heap.Ns b m → (hidT s1.heap H).Ns b m := by
      rintro b m ⟨o, es, ep, e, d, r⟩
      refine ⟨o, es, ep, up e ?_, d, r⟩
      rcases only b with z | ⟨rfl, z⟩
      · exact z
      · rw [ha] at e; cases e
        have d' : Data.seq vs.toArray _ = Data.dict es ep := d
        cases d'
    have Kup : K.In (hidT s1.heap H) := fun b o e => up (KX b o e) (by
      rcases only b with z | ⟨rfl, z⟩
      · exact z
      · rw [hK (by rw [z]; simp)] at e; cases e)
    have hM : Mod K mg (hidT s1.heap H) := by
      obtain ⟨mc, h1, h2⟩ := hlim
      exact ⟨Kup, nsUp hns, ⟨mb, nsUp hb, hbb⟩, ⟨mc, nsUp h1, h2⟩⟩
    have e0 : Env0 P w K mg (hidT s1.heap H) callerA [] s1 H := by
      refine ⟨rfl, hM, fun b o e => of_hidT e, Nat.le_of_eq (hidT_size _ _), trivial, fun b hb => ?_, hok, .of_eq hg⟩
      cases (show b ∈ ([] : List Addr) from hb)
    have go := (F _ Kup (nsUp hns)).go callerA rfl hr [] s1 H ⟨[.ref a], []⟩ [.ref a] [.ref a] _ _ e0 (hbind s1 (.ref a)) (.cons rfl .nil) (hsp H hS)
    refine codeAny_mono go ?_
    intro r s' h
    cases r with
    | error e => exact h.elim
    | ok fl =>
      cases fl with
      | next => exact h.elim
      | brk => exact h.elim
      | cont => exact h.elim
      | ret u =>
        obtain ⟨v, H', os, bare, un, hok', r', q⟩ := h
        obtain rfl : v = .bl true := q
        obtain rfl : u = Value.bool true := r'
        refine ⟨rfl, OldK.of_keep fun b o e => ?_, os, bare⟩
        rcases only b with z | ⟨rfl, z⟩
        · exact un.keep b o e z (by intro z; cases (show b ∈ ([] : List Addr) from z)) (by simp)
        · rw [ha] at e; cases e
          exact (hok' b _ (un.frzs b _ _ z)).1
  cases hk : K.lookup a with
  | some o =>
    have e := KX a o hk
    rw [ha] at e
    cases e
    exact core (fun _ => none) (fun _ => Or.inl rfl) (fun z => absurd rfl z) (.inr ⟨vs, _, hk, by rw [List.length_map]; exact hl, rv⟩)
  | none =>
    refine core (fun b => if b = a then some (.frz ob (.lst (ns.map V.int))) else none) (fun b => ?_) (fun _ => hk) (.inl (.inr ⟨ob, if_pos rfl⟩))
    by_cases h : b = a
    · exact .inr ⟨h, if_pos h⟩
    · exact .inl (if_neg h)
end BV
/-! Operations on values. -/
namespace BV
open PySem PySem.Spec PyProof.Rows L2
/-- what an operation hands back: a shared thing, a new list, a new tuple -/
inductive New (K : Frag) (Hf H : Hp) : R → V → Hp → Prop
  | frz {v : Val} {z : V} : Rep K Hf v z → New K Hf H (0, v) z H
  | lst {vs : List Val} {ys : List V} {p : Addr} : H p = none → RepL K Hf vs ys → New K Hf H (1, .lst vs) (.ref p) (upd H p (.lst ys))
  | tup {vs : List Val} {ys : List V} {p : Addr} : H p = none → RepL K Hf vs ys → New K Hf H (0, .tup vs) (.ref p) (upd H p (.tup ys))
section
variable {K : Frag} {Hf Hf0 H H0 H' : Hp} {F F0 : List Addr} {S : Slots} {σ : L2.St}
theorem New.sub {r : R} {z : V} (n : New K Hf H r z H') : HSub H H' := by
  cases n with
  | frz _ => exact HSub.refl _
  | lst h _ => exact HSub.upd h
  | tup h _ => exact HSub.upd h
theorem New.gives {r : R} {z : V} (n : New K Hf H r z H') (rel : Rel K Hf F S σ H) (st : Step Hf0 F0 H0 Hf F H) : ∃ Hf', Gives K Hf0 F0 H0 S σ (.own r.1, r.2) z Hf' F H' := by
  cases n with
  | frz h => exact ⟨Hf, .frz rel st h (.inl rfl)⟩
  | lst h r => exact ⟨Hf, .newL rel st h r⟩
  | tup h r => exact ⟨_, .newT rel st h r⟩
end
def rOp2 (K : Frag) (f : Val → Val → Option R) : R2 := fun x y H Q => ∃ va vb Hf r, HSub Hf H ∧ RepE K Hf H va x ∧ RepE K Hf H vb y ∧ f va vb = some r ∧ ∀ z H', New K Hf H r z H' → Q z H'
theorem gd_some {α : Type} {b : Bool} {o : Option α} {x : α} : gd b o = some x ↔ b = true ∧ o = some x := by
  cases b <;> simp [gd]
section
variable {K : Frag} {Hf H : Hp}
theorem RepE.int_ {i : Int} {x : V} (h : RepE K Hf H (.int i) x) : x = .int i := by
  cases h with | flat _ h => cases h; rfl
theorem RepE.str_ {i : Str} {x : V} (h : RepE K Hf H (.str i) x) : x = .str i := by
  cases h with | flat _ h => cases h; rfl
theorem RepE.bl_ {i : Bool} {x : V} (h : RepE K Hf H (.bl i) x) : x = .bl i := by
  cases h with | flat _ h => cases h; rfl
theorem RepE.non_ {x : V} (h : RepE K Hf H .non x) : x = .non := by
  cases h with | flat _ h => cases h; rfl
theorem RepE.lst_ {xs : List Val} {x : V} (h : RepE K Hf H (.lst xs) x) : ∃ a ys, x = .ref a ∧ RdL K H a ys ∧ RepL K Hf xs ys := by
  cases h with
  | flat e _ => cases e
  | lst h r => exact ⟨_, _, rfl, h, r⟩
theorem RepE.tup_ {xs : List Val} {x : V} (h : RepE K Hf H (.tup xs) x) : ∃ a ys, x = .ref a ∧ SqT K Hf a ys ∧ RepL K Hf xs ys ∧ Rep K Hf (.tup xs) x := by
  cases h with
  | flat _ h =>
    cases h with
    | tup h r => exact ⟨_, _, rfl, h, r, .tup h r⟩
theorem RepE.dic_ {xs : List (Key × Val)} {x : V} (h : RepE K Hf H (.dic xs) x) : ∃ a ys, x = .ref a ∧ H a = some (.dK ys) ∧ RepK K Hf xs ys := by
  cases h with
  | flat e _ => cases e
  | dic h r => exact ⟨_, _, rfl, h, r⟩
theorem RepL.flatRep {vs : List Val} {xs : List V} (h : RepL K H vs xs) : ∀ n : Nat, RepL K H (List.replicate n vs).flatten (List.replicate n xs).flatten
  | 0 => .nil
  | n + 1 => by
    rw [List.replicate_succ, List.replicate_succ, List.flatten_cons, List.flatten_cons]
    exact h.append (RepL.flatRep h n)
end
section
variable {X : Cx}
/-- list + list -/
theorem op_catR {pins : List (Addr × Obj)} {s : Shared} {σ : L2.St} {H : Hp} {a b : Addr} {xs ys : List V} {Q : VK} (I : Inv X pins σ H s) (h1 : RdL X.K H a xs) (h2 : RdL X.K H b ys)
    (hz : xs.length + ys.length ≤ sizeLine) (q : ∀ p, H p = none → Q (.ref p) (upd H p (.lst (xs ++ ys)))) :
    wpAny (model X.prog X.w) X.A (binaryOp .Add (.ref a) (.ref b)) (EP X pins σ Q) X.xe s := by
  obtain ⟨_, its, n, r, e⟩ := h1.obj I
  obtain ⟨_, its2, n2, r2, e2⟩ := h2.obj I
  have l1 := r.length
  have l2 := r2.length
  refine PySem.P.add_list e e2 ?_ (by rw [List.size_toArray, List.size_toArray]; omega)
  rw [show its.toArray ++ its2.toArray = (its ++ its2).toArray by simp]
  exact ⟨.ref _, _, I.lnew (t' := s.toks) (r.append r2) (by rw [List.length_append]; omega), rfl, q _ I.fresh⟩
/-- tuple * int -/
theorem tup_mul0 (l : Addr) (items : Array Value) (n : Nat) (dd : Option Addr) (sl : Array (Option Value)) (x : Int) (u : Tok)
    (c0 : (decide (x < -(2 ^ 63)) || decide (x ≥ 2 ^ 63)) = false) (c1 : (items.isEmpty || x == 1) = true) :
    Meets (Builtin.«tuple.__mul__» ⟨[.ref l, .int x u], []⟩) (fun _ R s => s.heap.get? l = some { cls := .type "tuple", dict := dd, data := .seq items n, slots := sl } ∧ R (.ok (.ret (Value.ref l))) s) :=
  .of_wp fun prog w A R s h => by
    obtain ⟨hp, g, d, tk, os⟩ := s
    obtain ⟨hl, h⟩ := h
    have f1 := AutoSeq1.idx_int
    wp_walk using wpAny_loadPart' hl
    repeat (first
      | (refine wpAny_ite_false (decide_eq_false (by rw [c0]; exact Bool.false_ne_true)) ?_; wp_walk using wpAny_loadPart' hl)
      | (refine wpAny_ite_true (decide_eq_true c1) ?_; wp_walk using wpAny_loadPart' hl))
    exact ⟨_, rfl, h⟩

theorem tup_mulN (l : Addr) (items : Array Value) (n : Nat) (dd : Option Addr) (sl : Array (Option Value)) (x : Int) (u : Tok)
    (c0 : (decide (x < -(2 ^ 63)) || decide (x ≥ 2 ^ 63)) = false) (c1 : (items.isEmpty || x == 1) = false) (c2 : (decide (x ≤ 0) || items.isEmpty) = true) :
    Meets (Builtin.«tuple.__mul__» ⟨[.ref l, .int x u], []⟩) (fun _ R s => s.heap.get? l = some { cls := .type "tuple", dict := dd, data := .seq items n, slots := sl } ∧
      R (.ok (.ret (Value.ref s.heap.objs.size))) { s with heap := s.heap.push { cls := Value.type "tuple", data := Data.seq #[] }, toks := s.toks }) :=
  .of_wp fun prog w A R s h => by
    obtain ⟨hp, g, d, tk, os⟩ := s
    obtain ⟨hl, h⟩ := h
    have f1 := AutoSeq1.idx_int
    wp_walk using wpAny_loadPart' hl
    repeat (first
      | (refine wpAny_ite_false (decide_eq_false (by rw [c0]; exact Bool.false_ne_true)) ?_; wp_walk using wpAny_loadPart' hl)
      | (refine wpAny_ite_false (decide_eq_false (by rw [c1]; exact Bool.false_ne_true)) ?_; wp_walk using wpAny_loadPart' hl)
      | (refine wpAny_ite_true (decide_eq_true c2) ?_; wp_walk using wpAny_loadPart' hl))
    exact ⟨_, rfl, h⟩
theorem op_repTR {pins : List (Addr × Obj)} {s : Shared} {σ : L2.St} {H : Hp} {l : Addr} {k : Int} {t : Tok} {xs : List V} {Q : VK} (I : Inv X pins σ H s) (hT : SqT X.K H l xs)
    (h1 : k ≤ 100000) (h2 : -100000 ≤ k) (hz : xs.length ≤ 100) (q0 : (List.replicate k.toNat xs).flatten = xs → Q (.ref l) H) (q : ∀ p, H p = none → Q (.ref p) (upd H p (.tup (List.replicate k.toNat xs).flatten))) :
    wpAny (model X.prog X.w) X.A (binaryOp .Mult (.ref l) (.int k t)) (EP X pins σ Q) X.xe s := by
  obtain ⟨its, r, ⟨⟨cls, dd, data, sl⟩, ho, hc, n, hd⟩, hs⟩ := I.tuple hT
  simp only at hc hd
  subst hc hd
  have hle : its.length = xs.length := r.length.symm
  have c0 : (decide (k < -(2 ^ 63)) || decide (k ≥ 2 ^ 63)) = false := by
    rw [decide_eq_false (by omega), decide_eq_false (by omega)] <;> rfl
  have road : wpAny (model X.prog X.w) X.A (call (.builtin "tuple.__mul__") [.ref l, .int k t]) (EP X pins σ Q) X.xe s → wpAny (model X.prog X.w) X.A (binaryOp .Mult (.ref l) (.int k t)) (EP X pins σ Q) X.xe s := by
    intro g
    have no := call_meets (prog := X.prog) (w := X.w) (A := X.A) (E := X.xe) (s := s) PySem.F.slot_int_rmul (typeIs_int s k t) PySem.F.entry_int_rmul (PySem.F.args_int_rmul_2 _ _) (int_rmul_tuple k t l its.toArray n dd sl)
      (Q := fun v s' => v = .notImplemented ∧ s'.TypeIs (.ref l) "tuple" ∧ wpAny (model X.prog X.w) X.A (call (.builtin "tuple.__mul__") [.ref l, .int k t]) (EP X pins σ Q) X.xe s') ⟨ho, rfl, ⟨_, ho, rfl⟩, g⟩
    exact wpAny_binaryOp_repeat_ref (T := "tuple") (U := "int") (by decide) ⟨_, ho, rfl⟩ (fun s' => typeIs_int s' k t) noFill_tuple_mul PySem.F.fills_int_mul PySem.F.slot_int_rmul repeat_tuple PySem.F.slot_int_index.lookup no
  have fl : (List.replicate k.toNat its).flatten.length ≤ 100000 * 100 := by
    rw [PyProof.Rows.lm_len_rep_flat, hle]
    exact Nat.mul_le_mul (by omega) hz
  by_cases e1 : (its.toArray.isEmpty || k == 1) = true
  · refine road (call_meets PySem.F.slot_tuple_mul ⟨_, ho, rfl⟩ PySem.F.entry_tuple_mul (PySem.F.args_tuple_mul_2 _ _) (tup_mul0 l its.toArray n dd sl k t c0 e1) ⟨ho, ?_⟩)
    refine ⟨.ref l, H, I, rfl, q0 ?_⟩
    rcases Bool.or_eq_true_iff.mp e1 with z | z
    · have : its = [] := by simpa using z
      rw [this] at hle
      have : xs = [] := List.eq_nil_of_length_eq_zero hle.symm
      rw [this]; simp
    · have : k = 1 := by simpa using z
      rw [this]; simp
  · have e1' : (its.toArray.isEmpty || k == 1) = false := by simpa using e1
    by_cases e2 : (decide (k ≤ 0) || its.toArray.isEmpty) = true
    · refine road (call_meets PySem.F.slot_tuple_mul ⟨_, ho, rfl⟩ PySem.F.entry_tuple_mul (PySem.F.args_tuple_mul_2 _ _) (tup_mulN l its.toArray n dd sl k t c0 e1' e2) ⟨ho, ?_⟩)
      have em : its.toArray.isEmpty = false := by
        cases q : its.toArray.isEmpty with
        | false => rfl
        | true => rw [q] at e1'; cases e1'
      have k0 : k.toNat = 0 := by
        rw [em, Bool.or_false] at e2
        have := of_decide_eq_true e2
        omega
      rw [k0] at q
      refine ⟨.ref s.heap.objs.size, _, I.laid (t' := s.toks) (o := .tup []) (fun b ob q => Heap.get?_push_of_some _ q) (Nat.le_refl _) ?_, rfl, q _ (I.hok.fresh (Nat.le_refl _))⟩
      exact ⟨Nat.zero_le _, [], .nil, IsTup.new _ _⟩
    · have e2' : (decide (k ≤ 0) || its.toArray.isEmpty) = false := by simpa using e2
      have hm : ((its.toArray.size : Nat) : Int) * k ≤ 10000000 := by
        have kp : 0 ≤ k := by
          rcases Bool.or_eq_false_iff.mp e2' with ⟨z, _⟩
          have := of_decide_eq_false z
          omega
        have a1 : ((its.toArray.size : Nat) : Int) * k ≤ 100 * k := Int.mul_le_mul_of_nonneg_right (by rw [List.size_toArray, hle]; omega) kp
        omega
      have c4 : Builtin.Tuple.tupleTooMany (((its.toArray.size : Nat) : Int) * k) = false := by
        unfold Builtin.Tuple.tupleTooMany
        rw [sizeLine_eq]
        exact decide_eq_false (by omega)
      refine road (call_meets PySem.F.slot_tuple_mul ⟨_, ho, rfl⟩ PySem.F.entry_tuple_mul (PySem.F.args_tuple_mul_2 _ _)
        (tuple_mulW l its.toArray n dd sl k t c0 e1' e2' (by omega) c4 (by rw [size_rep, List.size_toArray, sizeLine_eq]; omega)) ⟨ho, ?_⟩)
      rw [size_rep]
      refine ⟨.ref s.heap.objs.size, _, I.laid (t' := s.toks) (o := .tup (List.replicate k.toNat xs).flatten) (fun b ob q => Heap.get?_push_of_some _ q) (Nat.le_refl _) ?_, rfl, q _ (I.hok.fresh (Nat.le_refl _))⟩
      refine ⟨?_, _, r.rep k.toNat, IsTup.new _ _⟩
      rw [PyProof.Rows.lm_len_rep_flat, sizeLine_eq]
      rw [PyProof.Rows.lm_len_rep_flat, hle] at fl
      omega
/-- list * int -/
theorem op_repLR {pins : List (Addr × Obj)} {s : Shared} {σ : L2.St} {H : Hp} {l : Addr} {k : Int} {t : Tok} {xs : List V} {Q : VK} (I : Inv X pins σ H s) (hL : RdL X.K H l xs)
    (h1 : -(2 ^ 63) ≤ k) (h2 : k < 2 ^ 63) (hz : xs.length * k.toNat ≤ sizeLine) (q : ∀ p, H p = none → Q (.ref p) (upd H p (.lst (List.replicate k.toNat xs).flatten))) :
    wpAny (model X.prog X.w) X.A (binaryOp .Mult (.ref l) (.int k t)) (EP X pins σ Q) X.xe s := by
  obtain ⟨_, its, n, r, e⟩ := hL.obj I
  have sz : its.toArray.size * k.toNat ≤ sizeLine := by rw [List.size_toArray, ← r.length]; exact hz
  have a1 : ¬ its.toArray.size * k.toNat > (2 ^ 63 - 1) / 8 := by
    rw [sizeLine_eq] at sz
    omega
  have a2 : ¬ (!Builtin.List.listFitsIndex k) = true := by simp [fitsIndex_both h1 h2]
  have a3 : ¬ Builtin.List.listTooLong (its.toArray.size * k.toNat) = true := by rw [notLongL sz]; exact Bool.false_ne_true
  have a4 : List.foldl (fun x1 x2 => x1 ++ x2) #[] (List.replicate (if its.toArray.isEmpty = true then 0 else k.toNat) its.toArray) = (List.replicate k.toNat its).flatten.toArray := by
    rw [size_rep]
    cases its with
    | nil => simp
    | cons a b => simp
  have g := call_meets (prog := X.prog) (w := X.w) (A := X.A) (E := X.xe) (s := s) PySem.F.slot_list_mul (show s.TypeIs (.ref l) "list" from ⟨_, e, rfl⟩) PySem.F.entry_list_mul (PySem.F.args_list_mul_2 _ _) (AutoListH.list___mul___list_int_3 l its.toArray n k t a2 a1 a3)
    (Q := EP X pins σ Q) ⟨e, by rw [a4]; exact ⟨.ref _, _, I.lnew (t' := s.toks) (r.rep k.toNat) (by rw [PyProof.Rows.lm_len_rep_flat, Nat.mul_comm]; exact hz), rfl, q _ I.fresh⟩⟩
  have no := call_meets (prog := X.prog) (w := X.w) (A := X.A) (E := X.xe) (s := s) PySem.F.slot_int_rmul (typeIs_int s k t) PySem.F.entry_int_rmul (PySem.F.args_int_rmul_2 _ _) (int___rmul___int_list k t l its.toArray n)
      (Q := fun v s' => v = .notImplemented ∧ s'.TypeIs (.ref l) "list" ∧ wpAny (model X.prog X.w) X.A (call (.builtin "list.__mul__") [.ref l, .int k t]) (EP X pins σ Q) X.xe s') ⟨e, rfl, ⟨_, e, rfl⟩, g⟩
  exact wpAny_binaryOp_repeat_ref (T := "list") (U := "int") (by decide) ⟨_, e, rfl⟩ (fun s' => typeIs_int s' k t) noFill_list_mul PySem.F.fills_int_mul PySem.F.slot_int_rmul repeat_list PySem.F.slot_int_index.lookup no
theorem op_bin (op : Operator) : OpR X (binaryOp op) (rOp2 X.K (binV op)) := by
  intro pins s σ H x y v u Q I rx ry h
  obtain ⟨va, vb, Hf, r, hs, ha, hb, e, q⟩ := h
  unfold binV at e
  split at e <;> try (rw [gd_some] at e; obtain ⟨c, e⟩ := e)
  all_goals try (simp only [Option.some.injEq, reduceCtorEq] at e)
  all_goals subst e
  · obtain rfl := ha.int_; obtain rfl := hb.int_
    exact op_add pins s σ H _ _ v u Q I rx ry ⟨_, _, rfl, rfl, q _ _ (.frz (.int _))⟩
  · obtain rfl := ha.str_; obtain rfl := hb.str_
    exact op_add_str pins s σ H _ _ v u Q I rx ry ⟨_, _, rfl, rfl, of_decide_eq_true c, q _ _ (.frz (.str _))⟩
  · obtain ⟨a, ys, rfl, h1, r1⟩ := ha.lst_
    obtain ⟨b, zs, rfl, h2, r2⟩ := hb.lst_
    cases rx; cases ry
    refine op_catR I h1 h2 ?_ fun p hp => q _ _ (.lst hp (r1.append r2))
    rw [r1.length, r2.length]; exact of_decide_eq_true c
  · obtain ⟨a, ys, rfl, h1, r1, t1⟩ := ha.tup_
    obtain ⟨b, zs, rfl, h2, r2, t2⟩ := hb.tup_
    refine op_catA pins s σ H _ _ v u Q I rx ry ⟨a, b, ys, zs, rfl, rfl, sqT_mono hs h1, sqT_mono hs h2, ?_, fun z => ?_, fun _ z => ?_, fun _ _ p hp => q _ _ (.tup hp (r1.append r2))⟩
    · rw [r1.length, r2.length]; exact of_decide_eq_true c
    · subst z
      cases r1
      exact q _ _ (.frz t2)
    · subst z
      cases r2
      rw [List.append_nil] at q
      exact q _ _ (.frz t1)
  · obtain rfl := ha.int_; obtain rfl := hb.int_
    exact op_sub pins s σ H _ _ v u Q I rx ry ⟨_, _, rfl, rfl, q _ _ (.frz (.int _))⟩
  · obtain rfl := ha.int_; obtain rfl := hb.int_
    have c' := of_decide_eq_true c
    exact op_mul pins s σ H _ _ v u Q I rx ry ⟨_, _, rfl, rfl, c', q _ _ (.frz (.int _))⟩
  · obtain ⟨a, ys, rfl, h1, r1⟩ := ha.lst_
    obtain rfl := hb.int_
    cases rx
    obtain ⟨t, rfl⟩ := ry
    obtain ⟨c1, c2, c3⟩ := of_decide_eq_true c
    exact op_repLR I h1 c1 c2 (by rw [r1.length]; exact c3) fun p hp => q _ _ (.lst hp (r1.flatRep _))
  · obtain ⟨a, ys, rfl, h1, r1, t1⟩ := ha.tup_
    obtain rfl := hb.int_
    cases rx
    obtain ⟨t, rfl⟩ := ry
    obtain ⟨c1, c2, c3⟩ := of_decide_eq_true c
    refine op_repTR I (sqT_mono hs h1) c1 c2 (by rw [r1.length]; exact c3) (fun z => ?_) fun p hp => q _ _ (.tup hp (r1.flatRep _))
    refine q _ _ (.frz (.tup h1 ?_))
    have g : ∀ m : Nat, (List.replicate m ys).flatten = ys → RepL X.K Hf (List.replicate m _).flatten ys := fun m z => by
      have := r1.flatRep m
      rw [z] at this
      exact this
    exact g _ z
  · obtain rfl := ha.int_; obtain rfl := hb.int_
    exact op_mod pins s σ H _ _ v u Q I rx ry ⟨_, _, rfl, rfl, of_decide_eq_true c, q _ _ (.frz (.int _))⟩
  · obtain rfl := ha.int_; obtain rfl := hb.int_
    have c' := of_decide_eq_true c
    exact op_fdiv pins s σ H _ _ v u Q I rx ry ⟨_, _, rfl, rfl, c', q _ _ (.frz (.int _))⟩
  · obtain rfl := ha.int_; obtain rfl := hb.int_
    have c' := of_decide_eq_true c
    exact op_pow pins s σ H _ _ v u Q I rx ry ⟨_, _, rfl, rfl, c', q _ _ (.frz (.int _))⟩
/-! ### comparisons -/
mutual
theorem Rep.dp {K : Frag} {H : Hp} : ∀ {v : Val} {x : V}, Rep K H v x → PyData.canLay0 v.toD = true → Dp K H x v.toD
  | _, _, .non, _ => by unfold Val.toD; exact .non
  | _, _, .bl b, _ => by unfold Val.toD; exact .bl b
  | _, _, .int b, _ => by unfold Val.toD; exact .int b
  | _, _, .str b, _ => by unfold Val.toD; exact .str b
  | _, _, .tup h r, e => by
    unfold Val.toD at e ⊢
    unfold PyData.canLay0 at e
    exact .tup h (RepL.dp r e)
  | _, _, .lst h r, e => by
    unfold Val.toD at e ⊢
    unfold PyData.canLay0 at e
    exact .lst h.sq (RepL.dp r e)
  | _, _, .dic h r, e => by
    unfold Val.toD PyData.canLay0 at e
    cases e
theorem RepL.dp {K : Frag} {H : Hp} : ∀ {v : List Val} {x : List V}, RepL K H v x → PyData.canLayAll0 (toDs v) = true → DpAll K H x (toDs v)
  | _, _, .nil, _ => by unfold toDs; exact .nil
  | _, _, .cons h r, e => by
    unfold toDs at e ⊢
    unfold PyData.canLayAll0 at e
    rw [Bool.and_eq_true] at e
    exact .cons (Rep.dp h e.1) (RepL.dp r e.2)
end
def rCmp (K : Frag) (f : Val → Val → Option Bool) : R2 := fun x y H Q => ∃ va vb Hf r, HSub Hf H ∧ RepE K Hf H va x ∧ RepE K Hf H vb y ∧ f va vb = some r ∧ Q (.bl r) H
theorem eqS_cases {a b : Val} {r : Bool} (h : eqS a b = some r) : scalar a b = some r ∨ eqV a b = some r := by
  unfold eqS at h
  cases e : scalar a b with
  | none => rw [e] at h; exact .inr h
  | some c => rw [e] at h; exact .inl h
theorem eq_core {pins : List (Addr × Obj)} {s : Shared} {σ : L2.St} {H Hf : Hp} {x y : V} {v u : Value} {Q : VK} {va vb : Val} {r : Bool} (neg : Bool) (hu : X.A.units + 64 < cLine) (I : Inv X pins σ H s) (rx : RelV x v) (ry : RelV y u)
    (hs : HSub Hf H) (ha : RepE X.K Hf H va x) (hb : RepE X.K Hf H vb y) (e : eqS va vb = some r) (q : Q (.bl (bif neg then !r else r)) H) :
    wpAny (model X.prog X.w) X.A (compareOp (bif neg then .NotEq else .Eq) v u) (EP X pins σ Q) X.xe s := by
  rcases eqS_cases e with e | e
  · have fin : ∀ (sc : scal x y = true), decide (x = y) = r → wpAny (model X.prog X.w) X.A (compareOp (bif neg then .NotEq else .Eq) v u) (EP X pins σ Q) X.xe s := by
      intro sc hd
      cases neg with
      | false => exact op_eq pins s σ H _ _ v u Q I rx ry ⟨sc, by rw [hd]; exact q⟩
      | true => exact op_ne pins s σ H _ _ v u Q I rx ry ⟨sc, by rw [hd]; exact q⟩
    unfold scalar at e
    split at e
    · obtain rfl := ha.int_; obtain rfl := hb.int_
      exact fin rfl (by simpa using e)
    · obtain rfl := ha.str_; obtain rfl := hb.str_
      exact fin rfl (by simpa using e)
    · obtain rfl := ha.bl_; obtain rfl := hb.bl_
      exact fin rfl (by simpa using e)
    · rename_i xs ys _
      cases hne : (xs.length != ys.length) with
      | false => rw [hne] at e; cases e
      | true =>
        rw [hne] at e
        obtain rfl : false = r := Option.some.inj e
        cases ha with
        | flat z _ => cases z
        | lst h1 l1 =>
          cases hb with
          | flat z _ => cases z
          | lst h2 l2 =>
            obtain rfl : v = Value.ref _ := rx
            obtain rfl : u = Value.ref _ := ry
            obtain ⟨i1, r1, ⟨o1, n1, g1, c1, _, d1⟩, _⟩ := I.list h1.sq
            obtain ⟨i2, r2, ⟨o2, n2, g2, c2, _, d2⟩, _⟩ := I.list h2.sq
            have hz : (i1.toArray.size != i2.toArray.size) = true := by
              rw [List.size_toArray, List.size_toArray, ← r1.length, ← r2.length, l1.length, l2.length]
              exact hne
            cases neg with
            | false => exact SeqAt.RcAt.lists_lengths ⟨o1, g1, c1, n1, d1⟩ ⟨o2, g2, c2, n2, d2⟩ hz (by omega) _ _ _ _ ⟨.bl false, H, I, rfl, q⟩
            | true => exact SeqAt.RcNeAt.lists_lengths ⟨o1, g1, c1, n1, d1⟩ ⟨o2, g2, c2, n2, d2⟩ hz (by omega) _ _ _ _ ⟨.bl true, H, I, rfl, q⟩
    · cases e
  · unfold eqV at e
    rw [gd_some, Bool.and_eq_true] at e
    obtain ⟨⟨c1, c2⟩, e⟩ := e
    have d1 := (ha.rep hs).dp (SeqAt.canLay_of_shaped c1)
    have d2 := (hb.rep hs).dp (SeqAt.canLay_of_shaped c2)
    have e' : PyData.eqv va.toD vb.toD = r := by simpa using e
    cases neg with
    | false => exact op_eqD hu pins s σ H _ _ v u Q I rx ry ⟨_, _, d1, d2, c1, c2, by rw [e']; exact q⟩
    | true => exact op_neD hu pins s σ H _ _ v u Q I rx ry ⟨_, _, d1, d2, c1, c2, by rw [e']; exact q⟩
theorem op_cmp (op : CmpOp) (hu : X.A.units + 64 < cLine) : OpR X (compareOp op) (rCmp X.K (cmpV op)) := by
  intro pins s σ H x y v u Q I rx ry h
  obtain ⟨va, vb, Hf, r, hs, ha, hb, e, q⟩ := h
  unfold cmpV at e
  split at e
  · exact eq_core false hu I rx ry hs ha hb e q
  · cases e' : eqS va vb with
    | none => rw [e'] at e; cases e
    | some c =>
      rw [e'] at e
      obtain rfl : (!c) = r := by simpa using e
      exact eq_core true hu I rx ry hs ha hb e' q
  · obtain rfl := ha.int_; obtain rfl := hb.int_
    obtain rfl : _ = r := by simpa using e
    exact op_lt pins s σ H _ _ v u Q I rx ry ⟨_, _, rfl, rfl, q⟩
  · obtain rfl := ha.int_; obtain rfl := hb.int_
    obtain rfl : _ = r := by simpa using e
    exact op_le pins s σ H _ _ v u Q I rx ry ⟨_, _, rfl, rfl, q⟩
  · obtain rfl := ha.int_; obtain rfl := hb.int_
    obtain rfl : _ = r := by simpa using e
    exact op_gt pins s σ H _ _ v u Q I rx ry ⟨_, _, rfl, rfl, q⟩
  · obtain rfl := ha.int_; obtain rfl := hb.int_
    obtain rfl : _ = r := by simpa using e
    exact op_ge pins s σ H _ _ v u Q I rx ry ⟨_, _, rfl, rfl, q⟩
  · obtain rfl := ha.non_; obtain rfl := hb.non_
    cases e
    exact op_isN pins s σ H _ _ v u Q I rx ry ⟨rfl, q⟩
  · obtain rfl := ha.bl_; obtain rfl := hb.bl_
    cases e
    exact op_is_bl pins s σ H _ _ v u Q I rx ry ⟨_, _, rfl, rfl, q⟩
  · obtain rfl := ha.non_; obtain rfl := hb.non_
    cases e
    exact op_notN pins s σ H _ _ v u Q I rx ry ⟨rfl, q⟩
  · obtain rfl := ha.bl_; obtain rfl := hb.bl_
    cases e
    exact op_isnot_bl pins s σ H _ _ v u Q I rx ry ⟨_, _, rfl, rfl, q⟩
  · cases e
end
end BV
/-! Built-ins, subscripts, truth. -/
namespace BV
open PySem PySem.Spec PyProof.Rows L2
inductive RepEs (K : Frag) (Hf H : Hp) : List Val → List V → Prop
  | nil : RepEs K Hf H [] []
  | cons {v : Val} {x : V} {vs : List Val} {xs : List V} : RepE K Hf H v x → RepEs K Hf H vs xs → RepEs K Hf H (v :: vs) (x :: xs)
def BF.val : BF → Value
  | .len => .builtin "len" | .repr => .builtin "repr" | .all => .builtin "all" | .any => .builtin "any" | .tuple => .type "tuple" | .list => .type "list" | .sum => .builtin "sum"
  | .min2 => .builtin "min" | .max2 => .builtin "max" | .sorted => .builtin "sorted" | .str => .type "str" | .int => .type "int" | .abs => .builtin "abs"
def rB (K : Frag) (f : List Val → Option R) : List V → Hp → VK → Prop := fun xs H Q => ∃ vs Hf r, HSub Hf H ∧ RepEs K Hf H vs xs ∧ f vs = some r ∧ ∀ z H', New K Hf H r z H' → Q z H'
section
variable {X : Cx}
mutual
theorem Rep.dpn {K : Frag} {H : Hp} : ∀ {v : Val} {x : V}, Rep K H v x → PyData.hasDict v.toD = false → Dp K H x v.toD
  | _, _, .non, _ => by unfold Val.toD; exact .non
  | _, _, .bl b, _ => by unfold Val.toD; exact .bl b
  | _, _, .int b, _ => by unfold Val.toD; exact .int b
  | _, _, .str b, _ => by unfold Val.toD; exact .str b
  | _, _, .tup h r, e => by
    unfold Val.toD at e ⊢
    unfold PyData.hasDict at e
    exact .tup h (RepL.dpn r e)
  | _, _, .lst h r, e => by
    unfold Val.toD at e ⊢
    unfold PyData.hasDict at e
    exact .lst h.sq (RepL.dpn r e)
  | _, _, .dic h r, e => by
    unfold Val.toD PyData.hasDict at e
    cases e
theorem RepL.dpn {K : Frag} {H : Hp} : ∀ {v : List Val} {x : List V}, RepL K H v x → PyData.hasDictAll (toDs v) = false → DpAll K H x (toDs v)
  | _, _, .nil, _ => by unfold toDs; exact .nil
  | _, _, .cons h r, e => by
    unfold toDs at e ⊢
    unfold PyData.hasDictAll at e
    rw [Bool.or_eq_false_iff] at e
    exact .cons (Rep.dpn h e.1) (RepL.dpn r e.2)
end
mutual
theorem Rep.readsP {pins : List (Addr × Obj)} {s : Shared} {σ : L2.St} {H : Hp} (I : Inv X pins σ H s) : ∀ {v : Val} {x : V} {u : Value}, Rep X.K H v x → RelV x u → v.plainD = true → ∃ as, Reads s.heap u v.toD as ∧ sysModules ∉ as
  | _, _, _, .non, r, _ => by unfold Val.toD; cases r; exact ⟨[], .none, by simp⟩
  | _, _, _, .bl b, r, _ => by unfold Val.toD; cases r; exact ⟨[], .bool b, by simp⟩
  | _, _, _, .int b, r, _ => by unfold Val.toD; obtain ⟨t, rfl⟩ := r; exact ⟨[], .int b t, by simp⟩
  | _, _, _, .str b, r, _ => by unfold Val.toD; obtain ⟨t, rfl⟩ := r; exact ⟨[], .str b t, by simp⟩
  | _, _, _, .tup h rl, r, e => by
    unfold Val.toD
    unfold Val.plainD at e
    cases r
    obtain ⟨its, rv, ⟨o, ho, hc, n, hd⟩, _⟩ := I.tuple h
    obtain ⟨as, h1, h2⟩ := RepL.readsP I rl rv e
    exact ⟨as, .tuple ho hc hd (by simpa using h1), h2⟩
  | _, _, _, .lst h rl, r, e => by unfold Val.plainD at e; cases e
  | _, _, _, .dic h rl, r, e => by
    unfold Val.plainD at e
    cases rl with
    | cons _ _ => cases e
    | nil =>
      unfold Val.toD
      cases r
      obtain ⟨_, ns, vs, kv, o, es, ep, ho, hx, hd, _, hp, _⟩ := I.hok _ _ h
      cases kv
      refine ⟨[_], .dict (as := []) (bs := []) ho ?_ hd ?_ ?_, ?_⟩
      · exact hx.1
      · have : es.toList = [] := by
          cases q : es.toList with
          | nil => rfl
          | cons a b => rw [q] at hp; cases hp
        rw [this]; unfold toDk; exact .nil
      · have : es.toList = [] := by
          cases q : es.toList with
          | nil => rfl
          | cons a b => rw [q] at hp; cases hp
        rw [this]; unfold toDk; exact .nil
      · intro z
        have z' := List.mem_singleton.mp z
        rw [← z'] at ns
        simp at ns
theorem RepL.readsP {pins : List (Addr × Obj)} {s : Shared} {σ : L2.St} {H : Hp} (I : Inv X pins σ H s) : ∀ {v : List Val} {x : List V} {u : List Value}, RepL X.K H v x → Vals x u → plainDs v = true → ∃ as, ReadsAll s.heap u (toDs v) as ∧ sysModules ∉ as
  | _, _, _, .nil, .nil, _ => by unfold toDs; exact ⟨[], .nil, by simp⟩
  | _, _, _, .cons h rl, .cons r rr, e => by
    unfold toDs
    unfold plainDs at e
    rw [Bool.and_eq_true] at e
    obtain ⟨as, h1, h2⟩ := Rep.readsP I h r e.1
    obtain ⟨bs, h3, h4⟩ := RepL.readsP I rl rr e.2
    exact ⟨as ++ bs, .cons h1 h3, by simp [h2, h4]⟩
end
theorem call_repr {pins : List (Addr × Obj)} {s : Shared} {σ : L2.St} {H : Hp} {v : Val} {x : V} {u : Value} {Q : VK} {z : Str} (hg : X.A.guards = some []) (hu : X.A.units + 80 < cLine) (I : Inv X pins σ H s) (h : Rep X.K H v x) (rx : RelV x u)
    (e : reprV v = some z) (q : Q (.str z) H) : wpAny (model X.prog X.w) X.A (call (.builtin "repr") [u]) (EP X pins σ Q) X.xe s := by
  unfold reprV at e
  rw [gd_some] at e
  simp only [Bool.and_eq_true, Bool.or_eq_true, Option.some.injEq] at e
  obtain ⟨⟨⟨⟨c1, c2⟩, c3⟩, c4⟩, rfl⟩ := e
  have c2 := of_decide_eq_true c2
  have c3 := of_decide_eq_true c3
  have fin : ∀ {a : Addr}, u = .ref a → wpAny (model X.prog X.w) X.A (call (.builtin "repr") [u]) (EP X pins σ Q) X.xe s := by
    rintro a rfl
    have rd : ∃ as, Reads s.heap (.ref a) v.toD as ∧ (v.toD.hasDict = true → sysModules ∉ as) := by
      rcases c4 with c4 | c4
      · have nd : v.toD.hasDict = false := by simpa using c4
        obtain ⟨as, r⟩ := Dp.reads I _ _ _ (h.dpn nd) rx
        exact ⟨as, r, fun z => by rw [nd] at z; cases z⟩
      · obtain ⟨as, r, n⟩ := Rep.readsP I h rx c4
        exact ⟨as, r, fun _ => n⟩
    obtain ⟨as, r, n⟩ := rd
    refine repr_of_reads' r c1 n hg (by omega) (fun _ _ e => e) (fun h' t tk k => ?_) c2
    exact ⟨.str _, H, I.kept k, ⟨_, rfl⟩, q⟩
  cases h with
  | non => cases rx; exact PySem.P.repr_of_none ⟨.str _, H, I.tok _, ⟨_, rfl⟩, q⟩
  | bl b => cases rx; exact PySem.P.repr_of_bool ⟨.str _, H, I.tok _, ⟨_, rfl⟩, q⟩
  | int i =>
    obtain ⟨t, rfl⟩ := rx
    refine PySem.P.repr_of_int ?_ ⟨.str _, H, I.tok _, ⟨_, rfl⟩, q⟩
    unfold Val.toD PyData.showable at c1
    exact of_decide_eq_true c1
  | str i =>
    obtain ⟨t, rfl⟩ := rx
    exact PySem.P.repr_of_str ⟨.str _, H, I.tok _, ⟨_, rfl⟩, q⟩ c2
  | tup _ _ => exact fin rx
  | lst _ _ => exact fin rx
  | dic _ _ => exact fin rx
theorem boolsOf_ok {K : Frag} {H : Hp} : ∀ {xs : List Val} {ys : List V} {bs : List Bool}, RepL K H xs ys → boolsOf xs = some bs → ys = bs.map V.bl
  | _, _, _, .nil, e => by cases e; rfl
  | _, _, bs, .cons h r, e => by
    cases h with
    | bl b =>
      unfold boolsOf at e
      rw [Option.map_eq_some_iff] at e
      obtain ⟨cs, e1, rfl⟩ := e
      rw [boolsOf_ok r e1]; rfl
    | _ => cases e
theorem intsOf_ok {K : Frag} {H : Hp} : ∀ {xs : List Val} {ys : List V} {bs : List Int}, RepL K H xs ys → intsOf xs = some bs → ys = bs.map V.int
  | _, _, _, .nil, e => by cases e; rfl
  | _, _, bs, .cons h r, e => by
    cases h with
    | int b =>
      unfold intsOf at e
      rw [Option.map_eq_some_iff] at e
      obtain ⟨cs, e1, rfl⟩ := e
      rw [intsOf_ok r e1]; rfl
    | _ => cases e
theorem call_blt (f : BF) (hc : X.calm = true) (hg : X.A.guards = some []) (hu : X.A.units + 80 < cLine) : CallR X f.val (rB X.K (bltV f)) := by
  intro pins s σ H xs us Q I r h
  obtain ⟨vs, Hf, o, hs, rs, e, q⟩ := h
  unfold bltV at e
  split at e
  · cases rs with | cons h1 t => cases t; obtain ⟨a, ys, rfl, d, l⟩ := h1.lst_; cases e; exact call_len_seq pins s σ H _ us Q I r ⟨a, ys, rfl, .inl d.sq, by rw [l.length]; exact q _ _ (.frz (.int _))⟩
  · cases rs with | cons h1 t => cases t; obtain ⟨a, ys, rfl, d, l, _⟩ := h1.tup_; cases e; exact call_len_seq pins s σ H _ us Q I r ⟨a, ys, rfl, .inr (sqT_mono hs d), by rw [l.length]; exact q _ _ (.frz (.int _))⟩
  · rw [gd_some] at e; obtain ⟨c, e⟩ := e
    cases rs with | cons h1 t => cases t; obtain rfl := h1.str_; cases e; exact call_len_str pins s σ H _ us Q I r ⟨_, rfl, of_decide_eq_true c, q _ _ (.frz (.int _))⟩
  · rw [Option.map_eq_some_iff] at e
    obtain ⟨z, e, rfl⟩ := e
    cases rs with
    | cons h1 t =>
      cases t
      obtain ⟨u, rfl, ru⟩ := vals1 r
      exact call_repr hg hu I (h1.rep hs) ru e (q _ _ (.frz (.str _)))
  · rw [Option.map_eq_some_iff] at e
    obtain ⟨z, e, rfl⟩ := e
    cases rs with | cons h1 t => cases t; obtain ⟨a, ys, rfl, d, l⟩ := h1.lst_; obtain rfl := boolsOf_ok l e; exact cr_all hc pins s σ H _ us Q I r ⟨a, z, rfl, d.sq, q _ _ (.frz (.bl _))⟩
  · rw [Option.map_eq_some_iff] at e
    obtain ⟨z, e, rfl⟩ := e
    cases rs with | cons h1 t => cases t; obtain ⟨a, ys, rfl, d, l⟩ := h1.lst_; obtain rfl := boolsOf_ok l e; exact cr_any hc pins s σ H _ us Q I r ⟨a, z, rfl, d.sq, q _ _ (.frz (.bl _))⟩
  · rw [Option.map_eq_some_iff] at e
    obtain ⟨z, e, rfl⟩ := e
    cases rs with | cons h1 t => cases t; obtain ⟨a, ys, rfl, d, l⟩ := h1.lst_; obtain rfl := intsOf_ok l e; exact cr_sum hc pins s σ H _ us Q I r ⟨a, z, rfl, d.sq, q _ _ (.frz (.int _))⟩
  · cases rs with | cons h1 t => cases t; obtain ⟨a, ys, rfl, d, l⟩ := h1.lst_; cases e; exact call_tuple_of pins s σ H _ us Q I r ⟨a, ys, rfl, .inl ⟨d.sq, fun p hp => q _ _ (.tup hp l)⟩⟩
  · cases rs with | cons h1 t => cases t; obtain ⟨a, ys, rfl, d, l, t1⟩ := h1.tup_; cases e; exact call_tuple_of pins s σ H _ us Q I r ⟨a, ys, rfl, .inr ⟨sqT_mono hs d, q _ _ (.frz t1)⟩⟩
  · cases rs with | cons h1 t => cases t; obtain ⟨a, ys, rfl, d, l⟩ := h1.lst_; cases e; exact call_list_of pins s σ H _ us Q I r ⟨a, ys, rfl, .inl d.sq, fun p hp => q _ _ (.lst hp l)⟩
  · cases rs with | cons h1 t => cases t; obtain ⟨a, ys, rfl, d, l, _⟩ := h1.tup_; cases e; exact call_list_of pins s σ H _ us Q I r ⟨a, ys, rfl, .inr (sqT_mono hs d), fun p hp => q _ _ (.lst hp l)⟩
  · cases rs with
    | cons h1 t =>
      cases t with
      | cons h2 t => cases t; obtain rfl := h1.int_; obtain rfl := h2.int_; cases e; exact call_min2 hc pins s σ H _ us Q I r ⟨_, _, rfl, q _ _ (.frz (.int _))⟩
  · cases rs with
    | cons h1 t =>
      cases t with
      | cons h2 t => cases t; obtain rfl := h1.int_; obtain rfl := h2.int_; cases e; exact call_max2 hc pins s σ H _ us Q I r ⟨_, _, rfl, q _ _ (.frz (.int _))⟩
  · cases rs with | cons h1 t => cases t; obtain rfl := h1.int_; cases e; exact call_int1 pins s σ H _ us Q I r (.inl ⟨_, rfl, q _ _ (.frz (.int _))⟩)
  · cases rs with | cons h1 t => cases t; obtain rfl := h1.bl_; cases e; exact call_int1 pins s σ H _ us Q I r (.inr ⟨_, rfl, q _ _ (.frz (.int _))⟩)
  · cases rs with | cons h1 t => cases t; obtain rfl := h1.int_; cases e; exact call_abs pins s σ H _ us Q I r ⟨_, rfl, q _ _ (.frz (.int _))⟩
  · cases e
/-! ### isinstance -/
theorem kit_isi (v : Val) (T : TN) : kitB (tyV v) T.name = some (isiV v T) := by
  cases v <;> cases T <;> (simp only [tyV, TN.name, isiV]; decide +kernel)
theorem RepE.ty {K : Frag} {Hf H : Hp} {v : Val} {x : V} (hs : HSub Hf H) (h : RepE K Hf H v x) : TyX K H x (.type (tyV v)) := by
  cases h with
  | flat f h =>
    cases h with
    | non => exact .base .non
    | bl b => exact .base (.bl b)
    | int b => exact .base (.int b)
    | str b => exact .base (.str b)
    | tup h r =>
      rcases h with h | ⟨o, its, n, hk, hc, _⟩
      · rcases h with h | ⟨o, h⟩
        · exact .base (.tup (hs _ _ h))
        · exact .fTuple (hs _ _ h)
      · exact .kTuple hk hc
    | lst _ _ => cases f
    | dic _ _ => cases f
  | lst h r =>
    rcases h with h | ⟨its, n, hk, _⟩
    · rcases h with h | ⟨o, h⟩
      · exact .base (.lst h)
      · exact .base (.frz h)
    · exact .kList hk rfl
  | dic h r => exact .base (.dK h)
/-! ### truth -/
theorem truV_ok {K : Frag} {Hf H : Hp} {v : Val} {x : V} {b : Bool} (hs : HSub Hf H) (h : RepE K Hf H v x) (e : truV v = some b) : TruV K x H b := by
  cases v with
  | non => obtain rfl := h.non_; cases e; rfl
  | bl c => obtain rfl := h.bl_; cases e; rfl
  | int c => obtain rfl := h.int_; cases e; rfl
  | str c =>
    obtain rfl := h.str_
    unfold truV at e
    rw [gd_some] at e
    obtain ⟨c, e⟩ := e
    cases e
    exact ⟨of_decide_eq_true c, rfl⟩
  | tup c => obtain ⟨a, ys, rfl, d, l, _⟩ := h.tup_; cases e; exact .inr (.inl ⟨ys, sqT_mono hs d, by cases l <;> rfl⟩)
  | lst c => obtain ⟨a, ys, rfl, d, l⟩ := h.lst_; cases e; exact .inl ⟨ys, d.sq, by cases l <;> rfl⟩
  | dic c => obtain ⟨a, ys, rfl, d, l⟩ := h.dic_; cases e; exact .inr (.inr ⟨ys, d, by cases l <;> rfl⟩)
/-! ### subscripts, slices -/
theorem RepL.at {K : Frag} {H : Hp} {xs : List Val} {ys : List V} {i : Int} {v : Val} (h : RepL K H xs ys) (e : getV.atI' xs i = some v) : ∃ y, atI ys i = some y ∧ Rep K H v y := by
  unfold getV.atI' at e
  unfold atI
  rw [h.length]
  cases q : ixN xs.length i with
  | none => rw [q] at e; cases e
  | some j =>
    rw [q] at e
    exact h.get e
def rIx (K : Frag) : R2 := fun x y H Q => ∃ va vb Hf u, HSub Hf H ∧ RepE K Hf H va x ∧ RepE K Hf H vb y ∧ getV va vb = some u ∧ ∀ z, Rep K Hf u z → Q z H
theorem ix_val : IxR X (rIx X.K) := by
  intro value slice pins s σ H x y v u Q I rx ry h hs
  obtain ⟨va, vb, Hf, w, hf, ha, hb, e, q⟩ := h
  unfold getV at e
  split at e
  · obtain ⟨a, ys, rfl, d, l⟩ := ha.lst_; obtain rfl := hb.int_
    obtain ⟨z, e1, e2⟩ := l.at e
    exact ix_list value slice pins s σ H _ _ v u Q I rx ry ⟨a, ys, _, z, rfl, rfl, d.sq, e1, q z e2⟩ hs
  · obtain ⟨a, ys, rfl, d, l, _⟩ := ha.tup_; obtain rfl := hb.int_
    obtain ⟨z, e1, e2⟩ := l.at e
    exact ix_tup value slice pins s σ H _ _ v u Q I rx ry ⟨a, ys, _, z, rfl, rfl, sqT_mono hf d, e1, q z e2⟩ hs
  · cases e
theorem RepL.cut {K : Frag} {H : Hp} {xs : List Val} {ys : List V} (h : RepL K H xs ys) (lo hi : Option Int) : RepL K H (cutL xs lo hi) (cutV ys lo hi) := by
  unfold cutL cutV
  rw [h.length]
  exact (h.drop _).take _
def rSl (K : Frag) : V → Option Int → Option Int → Hp → VK → Prop := fun x lo hi H Q => ∃ va Hf r, HSub Hf H ∧ RepE K Hf H va x ∧ slcV va lo hi = some r ∧ ∀ z H', New K Hf H r z H' → Q z H'
theorem sl_val : SlR X (rSl X.K) := by
  intro pins s σ H x v vl vu lo hi sl Q I rx hs pl pu h
  obtain ⟨va, Hf, r, hf, ha, e, q⟩ := h
  unfold slcV at e
  split at e
  · obtain ⟨a, ys, rfl, d, l⟩ := ha.lst_; cases e
    exact sl_list pins s σ H _ v vl vu lo hi sl Q I rx hs pl pu ⟨a, ys, rfl, d.sq, fun p hp => q _ _ (.lst hp (l.cut lo hi))⟩
  · obtain ⟨a, ys, rfl, d, l, t⟩ := ha.tup_; cases e
    refine sl_tupA pins s σ H _ v vl vu lo hi sl Q I rx hs pl pu ⟨a, ys, rfl, sqT_mono hf d, fun z => ?_, fun _ p hp => q _ _ (.tup hp (l.cut lo hi))⟩
    have : cutV ys lo hi = ys := by
      unfold cutV
      rw [z.1, z.2]
      simp
    refine q _ _ (.frz (.tup d ?_))
    have := l.cut lo hi
    rw [‹cutV ys lo hi = ys›] at this
    exact this
  · cases e
end
end BV
/-! Expressions: the parts. -/
namespace BV
open PySem PySem.Spec PyProof.Rows L2
def spOf (K : Frag) (fn : List R → Option (R × Slots)) : Sp := fun xs H Q _ => ∃ Hf F rs r fin, Rel K Hf F (rs.map some) (xs.map some) H ∧ fn rs = some (r, fin) ∧
  ∀ x H' Hf' F', Gives K Hf F H fin (xs.map some) (.own r.1, r.2) x Hf' F' H' → Q x H'
structure CallFact (D : Den) (n : Nat) (X : Cx) (sh : CallSh) : Prop where
  ex : ∃ (fa : Addr) (fd : FuncData) (ps : List Str) (ds : List Value) (dvs : List V), X.mg sh.x = some (.ref fa) ∧ PySem.W.keepIn X.K (.ref fa) = true ∧
    FnG X.prog X.w X.K X.mg X.base n fa fd ps (spOf X.K (D.fn sh.f)) ∧ Vals dvs ds ∧ RepL X.K (fun _ => none) sh.dv dvs ∧
    ∀ (s : Shared) (us ws : List Value), X.K.In s.heap → us.length = sh.n → ws.length = sh.ks.length → ∃ zs, arrange us ws ds sh.ar = some zs ∧ BindsTo s fd ⟨us, sh.ks.zip ws⟩ (ps.zip zs)
/-- what is known where a def's body, or a comprehension's block, runs -/
structure Ctx (free : List Str) (D : Den) (n : Nat) (N : List Str) (sc : Scope) (X : Cx) : Prop where
  hN : X.N = N
  nd : N.Nodup
  sc : X.env.scope = sc
  calm : X.calm = true
  xe : X.xe = fun _ _ => False
  gu : X.A.guards = some []
  room : Room n X.A
  con : ∀ x v, D.const x = some v → ∃ u y, X.mg x = some u ∧ RelV y u ∧ Rep X.K (fun _ => none) v y
  fre : ∀ x ∈ free, X.mg x = none
  cal : ∀ (c : Nat) (sh : CallSh), D.calls[c]? = some sh → CallFact D n X sh
def visB (sc : Scope) (x : Str) : Bool := match sc.names.lookup x with
  | some .local => true | some .cell => true | some .free => true | _ => false
theorem visB_ok {sc : Scope} {x : Str} (h : visB sc x = true) : Vis sc x := by
  unfold visB at h
  split at h
  · exact .inl (by assumption)
  · exact .inr (.inl (by assumption))
  · exact .inr (.inr (by assumption))
  · cases h
def locB (sc : Scope) (x : Str) : Bool := match sc.names.lookup x with
  | some .local => true | some .cell => true | _ => false
theorem locB_ok {sc : Scope} {x : Str} (h : locB sc x = true) : Loc sc x := by
  unfold locB at h
  split at h
  · exact .inl (by assumption)
  · exact .inr (by assumption)
  · cases h
def glB (sc : Scope) (x : Str) : Bool := match sc.names.lookup x with
  | some .globalImplicit => true | _ => false
theorem glB_ok {sc : Scope} {x : Str} (h : glB sc x = true) : sc.names.lookup x = some .globalImplicit := by
  unfold glB at h
  split at h
  · assumption
  · cases h
/-- no name that Python treats apart -/
def okName (x : Str) : Bool := !(x == ("__debug__" : Str)) && !(x == ("__classdict__" : Str)) && !(x == ("__name__" : Str))
theorem okName_ok {x : Str} (h : okName x = true) : (x == ("__debug__" : Str)) = false ∧ (x == ("__classdict__" : Str)) = false ∧ x ≠ "__name__" := by
  unfold okName at h
  simp only [Bool.and_eq_true, Bool.not_eq_true'] at h
  exact ⟨h.1.1, h.1.2, fun e => by rw [e] at h; simp at h⟩

theorem peBy {X : Cx} {e : Expr} {t t' : TE} (h : PE X e t) (w : ∀ σ H Q, t' σ H Q → t σ H Q) : PE X e t' := ⟨fun pins s σ H Q I q => h.run pins s σ H Q I (w σ H Q q)⟩
theorem paBy {X : Cx} {e : List Expr} {t t' : TA} (h : PA X e t) (w : ∀ σ H Q, t' σ H Q → t σ H Q) : PA X e t' := ⟨fun pos pins s σ H Q I q => h.run pos pins s σ H Q I (w σ H Q q)⟩
theorem pkBy {X : Cx} {e : List Keyword} {t t' : TA} (h : PK X e t) (w : ∀ σ H Q, t' σ H Q → t σ H Q) : PK X e t' := ⟨fun pos pins s σ H Q I q => h.run pos pins s σ H Q I (w σ H Q q)⟩

def tEv (K : Frag) (D : Den) (e : CE) : TE := fun σ H Q => ∃ S Hf F r S', Rel K Hf F S σ H ∧ ev D e S = some (r, S') ∧ ∀ x H' Hf' F', Gives K Hf F H S' σ r x Hf' F' H' → (e.pure = true → HSub H H') → Q x H'
def tEvs (K : Frag) (D : Den) (es : CEs) : TA := fun σ H Q => ∃ S Hf F rs S', Rel K Hf F S σ H ∧ evs D es S = some (rs, S') ∧ ∀ xs H' Hf' F', GivesL K Hf F H S' σ rs xs Hf' F' H' → (es.pure = true → HSub H H') → Q xs H'
structure GivesO (K : Frag) (Hf : Hp) (F : List Addr) (H : Hp) (S' : Slots) (σ : L2.St) (vs : List Val) (xs : List V) (Hf' : Hp) (F' : List Addr) (H' : Hp) : Prop where
  rel : Rel K Hf' F' S' σ H'
  st : Step Hf F H Hf' F' H'
  res : RepEs K Hf' H' vs xs
def tEvo (K : Frag) (D : Den) (es : CEs) : TA := fun σ H Q => ∃ S Hf F vs S', Rel K Hf F S σ H ∧ evo D es S = some (vs, S') ∧ ∀ xs H' Hf' F', GivesO K Hf F H S' σ vs xs Hf' F' H' → (es.pure = true → HSub H H') → Q xs H'
/-- arguments: shared values, or slots -/
inductive ArgsOk (K : Frag) (Hf : Hp) (σ : L2.St) : List Arg → List V → Prop
  | nil : ArgsOk K Hf σ [] []
  | val {v : Val} {x : V} {as : List Arg} {xs : List V} : Rep K Hf v x → ArgsOk K Hf σ as xs → ArgsOk K Hf σ (.val v :: as) (x :: xs)
  | byRef {i : Nat} {x : V} {as : List Arg} {xs : List V} : σ[i]? = some (some x) → ArgsOk K Hf σ as xs → ArgsOk K Hf σ (.byRef i :: as) (x :: xs)
structure GivesA (K : Frag) (Hf : Hp) (F : List Addr) (H : Hp) (S' : Slots) (σ : L2.St) (as : List Arg) (xs : List V) (Hf' : Hp) (F' : List Addr) (H' : Hp) : Prop where
  rel : Rel K Hf' F' S' σ H'
  st : Step Hf F H Hf' F' H'
  res : ArgsOk K Hf' σ as xs
def tEva (K : Frag) (D : Den) (es : CEs) : TA := fun σ H Q => ∃ S Hf F as S', Rel K Hf F S σ H ∧ eva D es S = some (as, S') ∧ ∀ xs H' Hf' F', GivesA K Hf F H S' σ as xs Hf' F' H' → (es.pure = true → HSub H H') → Q xs H'
def tEvk (K : Frag) (D : Den) (es : CKs) : TA := fun σ H Q => ∃ S Hf F as S', Rel K Hf F S σ H ∧ evk D es S = some (as, S') ∧ ∀ xs H' Hf' F', GivesA K Hf F H S' σ as xs Hf' F' H' → (es.pure = true → HSub H H') → Q xs H'
section
variable {K : Frag} {Hf Hf1 Hf2 H H1 H2 : Hp} {F : List Addr} {S : Slots} {σ : L2.St}
theorem carry {m : Mode} {v : Val} {x : V} {b : Bool} (h : RepE K Hf1 H1 v x) (hf : ∀ d, m = .own d → Rep K Hf1 v x) (l : m.lets b = true) (p : b = true → HSub H1 H2) (s : HSub Hf1 Hf2) (s2 : HSub Hf2 H2) : RepE K Hf2 H2 v x := by
  cases m with
  | own d => exact .of ((hf d rfl).mono s) s2
  | bor => exact h.mono s (p l)
theorem set_same {i : Nat} {x : Option V} (h : σ[i]? = some x) : σ.set i x = σ := by
  apply List.ext_getElem?
  intro j
  rw [List.getElem?_set]
  split
  · rename_i e; subst e
    split
    · exact h.symm
    · rename_i hl; rw [List.getElem?_eq_none (by omega)]
  · rfl
theorem lt_of_get {α : Type} {l : List α} {i : Nat} {x : α} (h : l[i]? = some x) : i < l.length := (List.getElem?_eq_some_iff.mp h).1
/-- a slot's thing becomes everyone's -/
theorem Rel.share {i d : Nat} {v : Val} (r : Rel K Hf F S σ H) (h : S[i]? = some (some (d, v))) :
    ∃ x Hf' F', σ[i]? = some (some x) ∧ Rel K Hf' F' (S.set i (some (0, v))) σ H ∧ Step Hf F H Hf' F' H ∧ Rep K Hf' v x := by
  obtain ⟨x, G, F0, e1, ow, rel, nd, iff, off⟩ := r.take h
  have s1 := frzH_sub (H := H) off
  have s2 := frzH_le (G := G) rel.sub
  have dis : ∀ a ∈ F0, a ∉ G := fun a ha hg => (List.nodup_append.mp nd).2.2 a ha a hg rfl
  have rep := ow.freeze off
  have rel' : Rel K (frzH Hf H G) F0 (S.set i Option.none) σ H := rel.grow s1 s2 fun a ha => by rw [frzH_out (dis a ha)]; exact rel.off a ha
  obtain ⟨F', rel2, sub⟩ := rel'.put (i := i) (d := 0) (v := v) (x := x) (G := []) (by rw [List.length_set]; exact lt_of_get h) (.frz (.inl rfl) rep) (by simpa using rel'.nd) (fun a ha => by cases ha)
  rw [List.set_set, set_same e1] at rel2
  refine ⟨x, frzH Hf H G, F', e1, rel2, ⟨s1, fun a o e _ => e, fun a o e n => ?_, fun a ha => ?_⟩, rep⟩
  · rw [frzH_out fun hg => n ((iff a).mpr (.inr hg))]
  · rcases sub a ha with z | z
    · exact .inl ((iff a).mpr (.inl z))
    · cases z
theorem OwnL.inner {d : Nat} : ∀ {xs : List Val} {ys : List V} {G : List Addr}, OwnL K Hf H d xs ys G → (d = 0 ∨ xs.all Val.flat = true) → RepL K Hf xs ys
  | _, _, _, .nil, _ => .nil
  | _, _, _, .cons h r, e => by
    have e1 : d = 0 ∨ _ := e
    have hd : ∀ {v : Val} {x : V} {G : List Addr}, Own K Hf H d v x G → (d = 0 ∨ v.flat = true) → Rep K Hf v x := by
      intro v x G h e
      cases h with
      | frz _ r => exact r
      | lst _ _ => rcases e with e | e <;> cases e
      | dic _ _ => rcases e with e | e <;> cases e
    rw [List.all_cons, Bool.and_eq_true] at e
    exact .cons (hd h (e.imp id And.left)) (OwnL.inner r (e.imp id And.right))
theorem OwnK.inner {d : Nat} : ∀ {xs : List (Key × Val)} {ys : List (Key × V)} {G : List Addr}, OwnK K Hf H d xs ys G → (d = 0 ∨ (xs.all fun q => q.2.flat) = true) → RepK K Hf xs ys
  | _, _, _, .nil, _ => .nil
  | _, _, _, .cons h r, e => by
    have hd : ∀ {v : Val} {x : V} {G : List Addr}, Own K Hf H d v x G → (d = 0 ∨ v.flat = true) → Rep K Hf v x := by
      intro v x G h e
      cases h with
      | frz _ r => exact r
      | lst _ _ => rcases e with e | e <;> cases e
      | dic _ _ => rcases e with e | e <;> cases e
    rw [List.all_cons, Bool.and_eq_true] at e
    exact .cons (hd h (e.imp id And.left)) (OwnK.inner r (e.imp id And.right))
theorem Own.repE {d : Nat} {v : Val} {x : V} {G : List Addr} (h : Own K Hf H d v x G) (hs : HSub Hf H) (e : (decide (d ≤ 1) || v.inner) = true) : RepE K Hf H v x := by
  cases h with
  | frz _ r => exact .of r hs
  | lst h r =>
    rw [Bool.or_eq_true] at e
    exact .lst (.inl (.inl h)) (r.inner (e.imp (fun z => by have := of_decide_eq_true z; omega) id))
  | dic h r =>
    rw [Bool.or_eq_true] at e
    exact .dic h (r.inner (e.imp (fun z => by have := of_decide_eq_true z; omega) id))
theorem OwnL.get {d : Nat} : ∀ {xs : List Val} {ys : List V} {G : List Addr} {i : Nat} {v : Val}, OwnL K Hf H d xs ys G → xs[i]? = some v → ∃ y G', ys[i]? = some y ∧ Own K Hf H d v y G' ∧ ∀ a ∈ G', a ∈ G
  | _, _, _, _, _, .nil, e => by simp at e
  | _, _, _, 0, _, .cons h _, e => by simp at e; subst e; exact ⟨_, _, rfl, h, fun a ha => List.mem_append_left _ ha⟩
  | _, _, _, i + 1, v, .cons _ t, e => by
    obtain ⟨u, G', h1, h2, h3⟩ := OwnL.get (i := i) (v := v) t (by simpa using e)
    exact ⟨u, G', by simpa using h1, h2, fun a ha => List.mem_append_right _ (h3 a ha)⟩
theorem OwnL.length {d : Nat} : ∀ {xs : List Val} {ys : List V} {G : List Addr}, OwnL K Hf H d xs ys G → ys.length = xs.length
  | _, _, _, .nil => rfl
  | _, _, _, .cons _ r => congrArg Nat.succ (OwnL.length r)
end
section
variable {free : List Str} {D : Den} {n : Nat} {N : List Str} {sc : Scope} {X : Cx}
theorem Ctx.units (c : Ctx free D n N sc X) : X.A.units + 80 < cLine := by have := c.room.un; omega
theorem s_cst {c : Const} {k : Nat} {p : Pos} : PE X (CE.cst c k p).py (tEv X.K D (.cst c k p)) := by
  have go : ∀ {v : Val} {x : V}, (∀ Hf, Rep X.K Hf v x) → cstV c = some v → PE X (.Constant c k p) (tC x) → PE X (CE.cst c k p).py (tEv X.K D (.cst c k p)) := by
    intro v x hr e h
    refine peBy h fun σ H Q ⟨S, Hf, F, r, S', rel, he, q⟩ => ?_
    unfold ev at he
    rw [e] at he
    obtain ⟨rfl, rfl⟩ := Prod.mk.inj (Option.some.inj he)
    exact q x H Hf F (.frz rel (Step.refl _ _ _) (hr Hf) (.inl rfl)) fun _ => HSub.refl _
  cases c with
  | none => exact go (fun _ => .non) rfl pe_non
  | bool b => exact go (fun _ => .bl b) rfl pe_bl
  | int b => exact go (fun _ => .int b) rfl pe_int
  | str b => exact go (fun _ => .str b) rfl pe_str
  | _ =>
    refine ⟨fun pins s σ H Q I h => ?_⟩
    obtain ⟨S, Hf, F, r, S', rel, he, q⟩ := h
    cases he
theorem s_var (c : Ctx free D n N sc X) {i : Nat} {x : Str} {p : Pos} (hi : N[i]? = some x) (hv : visB sc x = true) (ok : okName x = true) : PE X (CE.var i x p).py (tEv X.K D (.var i x p)) := by
  refine peBy (pe_var (i := i) (by rw [c.hN]; exact hi) (by rw [c.sc]; exact visB_ok hv) (okName_ok ok).1 (okName_ok ok).2.1) fun σ H Q ⟨S, Hf, F, r, S', rel, he, q⟩ => ?_
  unfold ev at he
  split at he
  · rename_i d v e
    obtain ⟨rfl, rfl⟩ := Prod.mk.inj (Option.some.inj he)
    obtain ⟨y, Hf', F', e1, rel', st, rep⟩ := rel.share e
    exact ⟨y, e1, q y H Hf' F' (.frz rel' st rep (.inl rfl)) fun _ => HSub.refl _⟩
  · cases he
theorem s_brw (c : Ctx free D n N sc X) {i : Nat} {x : Str} {p : Pos} (hi : N[i]? = some x) (hv : visB sc x = true) (ok : okName x = true) : PE X (CE.brw i x p).py (tEv X.K D (.brw i x p)) := by
  refine peBy (pe_var (i := i) (by rw [c.hN]; exact hi) (by rw [c.sc]; exact visB_ok hv) (okName_ok ok).1 (okName_ok ok).2.1) fun σ H Q ⟨S, Hf, F, r, S', rel, he, q⟩ => ?_
  unfold ev at he
  split at he
  · rename_i d v e
    rw [gd_some] at he
    obtain ⟨g, he⟩ := he
    obtain ⟨rfl, rfl⟩ := Prod.mk.inj (Option.some.inj he)
    obtain ⟨y, G, e1, ow, sub⟩ := rel.get e
    exact ⟨y, e1, q y H Hf F ⟨rel, Step.refl _ _ _, ow.repE rel.sub g⟩ fun _ => HSub.refl _⟩
  · cases he
theorem s_mov (c : Ctx free D n N sc X) {i : Nat} {x : Str} {p : Pos} (hi : N[i]? = some x) (hv : visB sc x = true) (ok : okName x = true) : PE X (CE.mov i x p).py (tEv X.K D (.mov i x p)) := by
  refine peBy (pe_var (i := i) (by rw [c.hN]; exact hi) (by rw [c.sc]; exact visB_ok hv) (okName_ok ok).1 (okName_ok ok).2.1) fun σ H Q ⟨S, Hf, F, r, S', rel, he, q⟩ => ?_
  unfold ev at he
  split at he
  · rename_i d v e
    obtain ⟨rfl, rfl⟩ := Prod.mk.inj (Option.some.inj he)
    obtain ⟨y, G, F0, e1, ow, rel', nd, iff, off⟩ := rel.take e
    refine ⟨y, e1, q y H Hf F0 ⟨rel', ⟨HSub.refl _, fun _ _ e _ => e, fun _ _ _ _ => rfl, fun a ha => .inl ((iff a).mpr (.inl ha))⟩, G, ow, nd, off, fun a ha => .inl ((iff a).mpr (.inr ha))⟩ fun _ => HSub.refl _⟩
  · cases he
theorem s_glb (c : Ctx free D n N sc X) {x : Str} {p : Pos} (hg : glB sc x = true) (ok : okName x = true) : PE X (CE.glb x p).py (tEv X.K D (.glb x p)) := by
  refine ⟨fun pins s σ H Q I h => ?_⟩
  obtain ⟨S, Hf, F, r, S', rel, he, q⟩ := h
  unfold ev at he
  rw [Option.map_eq_some_iff] at he
  obtain ⟨v, e, he⟩ := he
  obtain ⟨rfl, rfl⟩ := Prod.mk.inj he
  obtain ⟨u, y, hm, ry, rep⟩ := c.con x v e
  refine (pe_glob (v := y) (show X.env.scope.names.lookup x = _ by rw [c.sc]; exact glB_ok hg) hm ry (okName_ok ok).1).run pins s σ H Q I ?_
  exact q y H Hf F (.frz rel (Step.refl _ _ _) (rep.mono fun a o e => by cases e) (.inl rfl)) fun _ => HSub.refl _
/-! ### lists of expressions -/
theorem pa_nilT : PA X [] (tEvs X.K D .nil) := by
  refine paBy pa_nil fun σ H Q ⟨S, Hf, F, rs, S', rel, he, q⟩ => ?_
  unfold evs at he
  obtain ⟨rfl, rfl⟩ := Prod.mk.inj (Option.some.inj he)
  exact q [] H Hf F ⟨rel, Step.refl _ _ _, [], .nil, by simpa using rel.nd, fun a h => (by cases h), fun a h => (by cases h)⟩ fun _ => HSub.refl _
theorem GivesL.cons {K : Frag} {Hf Hf1 Hf2 H H1 H2 : Hp} {F F1 F2 : List Addr} {S1 S2 : Slots} {σ : L2.St} {d : Nat} {v : Val} {x : V} {rs : List R} {xs : List V}
    (a : Gives K Hf F H S1 σ (.own d, v) x Hf1 F1 H1) (b : GivesL K Hf1 F1 H1 S2 σ rs xs Hf2 F2 H2) : GivesL K Hf F H S2 σ ((d, v) :: rs) (x :: xs) Hf2 F2 H2 := by
  obtain ⟨rel1, st1, G, ow, nd, off, fr⟩ := a
  obtain ⟨rel2, st2, G2, ow2, nd2, off2, fr2⟩ := b
  have dis : ∀ a ∈ G, a ∉ F1 := fun a ha hf => (List.nodup_append.mp nd).2.2 a hf a ha rfl
  obtain ⟨ow', dis', off'⟩ := ow.held st2 dis off
  refine ⟨rel2, st1.trans st2, G ++ G2, .cons ow' ow2, ?_, fun a ha => ?_, fun a ha => ?_⟩
  · have g2 : ∀ a ∈ G, a ∉ G2 := fun a ha h2 => by
      rcases fr2 a h2 with z | z
      · exact dis a ha z
      · obtain ⟨o, e⟩ := ow.dom a ha
        rw [e] at z; cases z
    simp only [List.nodup_append, List.mem_append] at nd nd2 ⊢
    grind
  · rcases List.mem_append.mp ha with z | z
    · exact off' a z
    · exact off2 a z
  · rcases List.mem_append.mp ha with z | z
    · exact fr a z
    · rcases fr2 a z with y | y
      · exact st1.own a y
      · exact st1.fresh y
theorem star_cons (e : CE) (es : List Expr) (env : Env) : starEach (e.py :: es) env = (false, eval e.py env) :: starEach es env := by cases e <;> rfl
theorem pa_consT {e : CE} {es : CEs} (h1 : PE X e.py (tEv X.K D e)) (h2 : PA X es.py (tEvs X.K D es)) : PA X (CEs.cons e es).py (tEvs X.K D (.cons e es)) := by
  refine paBy (pa_cons h1 h2 (star_cons e _ _)) fun σ H Q ⟨S, Hf, F, rs, S', rel, he, q⟩ => ?_
  unfold evs at he
  rw [Option.bind_eq_some_iff] at he
  obtain ⟨⟨⟨m, v⟩, S1⟩, e1, he⟩ := he
  cases m with
  | bor => cases he
  | own d =>
    simp only [Option.map_eq_some_iff] at he
    obtain ⟨⟨rs', S2⟩, e2, he⟩ := he
    obtain ⟨rfl, rfl⟩ := Prod.mk.inj he
    refine ⟨S, Hf, F, _, S1, rel, e1, fun x H1 Hf1 F1 g1 p1 => ?_⟩
    refine ⟨S1, Hf1, F1, rs', S2, g1.rel, e2, fun xs H2 Hf2 F2 g2 p2 => q _ _ _ _ (GivesL.cons g1 g2) fun hp => ?_⟩
    unfold CEs.pure at hp
    rw [Bool.and_eq_true] at hp
    exact (p1 hp.1).trans (p2 hp.2)
theorem pa_nilO : PA X [] (tEvo X.K D .nil) := by
  refine paBy pa_nil fun σ H Q ⟨S, Hf, F, rs, S', rel, he, q⟩ => ?_
  unfold evo at he
  obtain ⟨rfl, rfl⟩ := Prod.mk.inj (Option.some.inj he)
  exact q [] H Hf F ⟨rel, Step.refl _ _ _, .nil⟩ fun _ => HSub.refl _
theorem pa_consO {e : CE} {es : CEs} (h1 : PE X e.py (tEv X.K D e)) (h2 : PA X es.py (tEvo X.K D es)) : PA X (CEs.cons e es).py (tEvo X.K D (.cons e es)) := by
  refine paBy (pa_cons h1 h2 (star_cons e _ _)) fun σ H Q ⟨S, Hf, F, rs, S', rel, he, q⟩ => ?_
  unfold evo at he
  rw [Option.bind_eq_some_iff] at he
  obtain ⟨⟨⟨m, v⟩, S1⟩, e1, he⟩ := he
  rw [gd_some] at he
  obtain ⟨l, he⟩ := he
  rw [Option.map_eq_some_iff] at he
  obtain ⟨⟨vs', S2⟩, e2, he⟩ := he
  obtain ⟨rfl, rfl⟩ := Prod.mk.inj he
  refine ⟨S, Hf, F, _, S1, rel, e1, fun x H1 Hf1 F1 g1 p1 => ?_⟩
  obtain ⟨Hf1', s1, rel1, st1, re1, rf1⟩ := g1.opd
  refine ⟨S1, Hf1', F1, vs', S2, rel1, e2, fun xs H2 Hf2 F2 g2 p2 => q _ _ Hf2 F2 ⟨g2.rel, st1.trans g2.st, .cons (carry re1 rf1 l p2 g2.st.hf g2.rel.sub) g2.res⟩ fun hp => ?_⟩
  unfold CEs.pure at hp
  rw [Bool.and_eq_true] at hp
  exact (p1 hp.1).trans (p2 hp.2)

theorem ArgsOk.mono {K : Frag} {Hf Hf' : Hp} {σ : L2.St} (s : HSub Hf Hf') : ∀ {as : List Arg} {xs : List V}, ArgsOk K Hf σ as xs → ArgsOk K Hf' σ as xs
  | _, _, .nil => .nil
  | _, _, .val h r => .val (h.mono s) (ArgsOk.mono s r)
  | _, _, .byRef h r => .byRef h (ArgsOk.mono s r)
theorem pa_nilA : PA X [] (tEva X.K D .nil) := by
  refine paBy pa_nil fun σ H Q ⟨S, Hf, F, rs, S', rel, he, q⟩ => ?_
  unfold eva at he
  obtain ⟨rfl, rfl⟩ := Prod.mk.inj (Option.some.inj he)
  exact q [] H Hf F ⟨rel, Step.refl _ _ _, .nil⟩ fun _ => HSub.refl _
theorem pa_consA {e : CE} {es : CEs} (hne : ∀ i x p, e ≠ .ref i x p) (h1 : PE X e.py (tEv X.K D e)) (h2 : PA X es.py (tEva X.K D es)) : PA X (CEs.cons e es).py (tEva X.K D (.cons e es)) := by
  refine paBy (pa_cons h1 h2 (star_cons e _ _)) fun σ H Q ⟨S, Hf, F, rs, S', rel, he, q⟩ => ?_
  have he' : ((ev D e S).bind fun q => match q.1.1 with
    | .own _ => (eva D es q.2).map fun t => (Arg.val q.1.2 :: t.1, t.2)
    | .bor => none) = some (rs, S') := by
    cases e <;> first | exact he | exact absurd rfl (hne _ _ _)
  rw [Option.bind_eq_some_iff] at he'
  obtain ⟨⟨⟨m, v⟩, S1⟩, e1, he'⟩ := he'
  cases m with
  | bor => cases he'
  | own d =>
    simp only [Option.map_eq_some_iff] at he'
    obtain ⟨⟨vs', S2⟩, e2, he'⟩ := he'
    obtain ⟨rfl, rfl⟩ := Prod.mk.inj he'
    refine ⟨S, Hf, F, _, S1, rel, e1, fun x H1 Hf1 F1 g1 p1 => ?_⟩
    obtain ⟨Hf1', s1, rel1, st1, re1, rf1⟩ := g1.opd
    refine ⟨S1, Hf1', F1, vs', S2, rel1, e2, fun xs H2 Hf2 F2 g2 p2 => q _ _ Hf2 F2 ⟨g2.rel, st1.trans g2.st, .val ((rf1 d rfl).mono g2.st.hf) g2.res⟩ fun hp => ?_⟩
    unfold CEs.pure at hp
    rw [Bool.and_eq_true] at hp
    exact (p1 hp.1).trans (p2 hp.2)
theorem pa_refA (c : Ctx free D n N sc X) {i : Nat} {x : Str} {p : Pos} {es : CEs} (hi : N[i]? = some x) (hv : visB sc x = true) (ok : okName x = true) (h2 : PA X es.py (tEva X.K D es)) : PA X (CEs.cons (.ref i x p) es).py (tEva X.K D (.cons (.ref i x p) es)) := by
  have h1 : PE X (CE.ref i x p).py (tVar i) := pe_var (i := i) (by rw [c.hN]; exact hi) (by rw [c.sc]; exact visB_ok hv) (okName_ok ok).1 (okName_ok ok).2.1
  refine paBy (pa_cons h1 h2 (star_cons (.ref i x p) _ _)) fun σ H Q ⟨S, Hf, F, rs, S', rel, he, q⟩ => ?_
  unfold eva at he
  split at he
  · rename_i r e
    rw [Option.map_eq_some_iff] at he
    obtain ⟨⟨vs', S2⟩, e2, he⟩ := he
    obtain ⟨rfl, rfl⟩ := Prod.mk.inj he
    obtain ⟨y, G, hy, _⟩ := rel.get (d := r.1) (v := r.2) e
    refine ⟨y, hy, S, Hf, F, vs', S2, rel, e2, fun xs H2 Hf2 F2 g2 p2 => q _ _ Hf2 F2 ⟨g2.rel, g2.st, .byRef hy g2.res⟩ fun hp => ?_⟩
    unfold CEs.pure CE.pure at hp
    cases hp
  · cases he
theorem pk_nilA : PK X [] (tEvk X.K D .nil) := by
  refine pkBy pk_nil fun σ H Q ⟨S, Hf, F, rs, S', rel, he, q⟩ => ?_
  unfold evk at he
  obtain ⟨rfl, rfl⟩ := Prod.mk.inj (Option.some.inj he)
  exact q [] H Hf F ⟨rel, Step.refl _ _ _, .nil⟩ fun _ => HSub.refl _
theorem pk_consA {x : Str} {p : Pos} {e : CE} {es : CKs} (h1 : PE X e.py (tEv X.K D e)) (h2 : PK X es.py (tEvk X.K D es)) : PK X (CKs.cons x e p es).py (tEvk X.K D (.cons x e p es)) := by
  refine pkBy (pk_cons (nm := some x) (kpos := p) h1 h2) fun σ H Q ⟨S, Hf, F, rs, S', rel, he, q⟩ => ?_
  unfold evk at he
  rw [Option.bind_eq_some_iff] at he
  obtain ⟨⟨⟨m, v⟩, S1⟩, e1, he⟩ := he
  cases m with
  | bor => cases he
  | own d =>
    simp only [Option.map_eq_some_iff] at he
    obtain ⟨⟨vs', S2⟩, e2, he⟩ := he
    obtain ⟨rfl, rfl⟩ := Prod.mk.inj he
    refine ⟨S, Hf, F, _, S1, rel, e1, fun x H1 Hf1 F1 g1 p1 => ?_⟩
    obtain ⟨Hf1', s1, rel1, st1, re1, rf1⟩ := g1.opd
    refine ⟨S1, Hf1', F1, vs', S2, rel1, e2, fun xs H2 Hf2 F2 g2 p2 => q _ _ Hf2 F2 ⟨g2.rel, st1.trans g2.st, .val ((rf1 d rfl).mono g2.st.hf) g2.res⟩ fun hp => ?_⟩
    unfold CKs.pure at hp
    rw [Bool.and_eq_true] at hp
    exact (p1 hp.1).trans (p2 hp.2)
/-! ### displays, operators -/
theorem s_tup {es : CEs} {k : Nat} {p : Pos} (h : PA X es.py (tEvs X.K D es)) : PE X (CE.tup es k p).py (tEv X.K D (.tup es k p)) := by
  refine peBy (pe_tup h) fun σ H Q ⟨S, Hf, F, r, S', rel, he, q⟩ => ?_
  unfold ev at he
  rw [Option.bind_eq_some_iff] at he
  obtain ⟨⟨rs, S1⟩, e1, he⟩ := he
  rw [gd_some] at he
  obtain ⟨l, he⟩ := he
  obtain ⟨rfl, rfl⟩ := Prod.mk.inj (Option.some.inj he)
  refine ⟨S, Hf, F, rs, S1, rel, e1, fun xs H1 Hf1 F1 g p1 => ?_⟩
  obtain ⟨Hf1', s1, rel1, st1, rl⟩ := g.frz
  refine ⟨by rw [rl.length, List.length_map]; exact of_decide_eq_true l, fun a ha => q _ _ _ _ (.newT rel1 st1 ha rl) fun hp => ?_⟩
  unfold CE.pure at hp
  exact (p1 hp).trans (HSub.upd ha)
theorem s_lst {es : CEs} {p : Pos} (h : PA X es.py (tEvs X.K D es)) : PE X (CE.lst es p).py (tEv X.K D (.lst es p)) := by
  refine peBy (pe_lst h) fun σ H Q ⟨S, Hf, F, r, S', rel, he, q⟩ => ?_
  unfold ev at he
  rw [Option.bind_eq_some_iff] at he
  obtain ⟨⟨rs, S1⟩, e1, he⟩ := he
  rw [gd_some] at he
  obtain ⟨l, he⟩ := he
  obtain ⟨rfl, rfl⟩ := Prod.mk.inj (Option.some.inj he)
  refine ⟨S, Hf, F, rs, S1, rel, e1, fun xs H1 Hf1 F1 g p1 => ?_⟩
  have hl : xs.length = rs.length := by obtain ⟨_, _, G, ow, _⟩ := g; exact ow.length
  refine ⟨by rw [hl]; exact of_decide_eq_true l, fun a ha => ?_⟩
  obtain ⟨Hf2, g2⟩ := g.newL ha
  refine q _ _ _ _ g2 fun hp => ?_
  unfold CE.pure at hp
  exact (p1 hp).trans (HSub.upd ha)
/-- two operands, then what is done with them -/
theorem two {a b : CE} {K : Frag} {σ : L2.St} {H : Hp} {S S1 S2 : Slots} {Hf : Hp} {F : List Addr} {q : Res} {t : Res} (rel : Rel K Hf F S σ H) (e1 : ev D a S = some (q, S1)) (l : q.1.lets b.pure = true) (e2 : ev D b S1 = some (t, S2))
    {Rr : V → V → Hp → Prop} (h : ∀ x y H2 Hf2 F2, Rel K Hf2 F2 S2 σ H2 → Step Hf F H Hf2 F2 H2 → RepE K Hf2 H2 q.2 x → RepE K Hf2 H2 t.2 y → (∀ d, t.1 = .own d → Rep K Hf2 t.2 y) → ((a.pure && b.pure) = true → HSub H H2) → Rr x y H2) :
    tEv K D a σ H fun x H1 => tEv K D b σ H1 fun y H2 => Rr x y H2 := by
  refine ⟨S, Hf, F, q, S1, rel, e1, fun x H1 Hf1 F1 g1 p1 => ?_⟩
  obtain ⟨Hf1', s1, rel1, st1, re1, rf1⟩ := g1.opd
  refine ⟨S1, Hf1', F1, t, S2, rel1, e2, fun y H2 Hf2 F2 g2 p2 => ?_⟩
  obtain ⟨Hf2', s2, rel2, st2, re2, rf2⟩ := g2.opd
  refine h x y H2 Hf2' F2 rel2 (st1.trans st2) (carry re1 rf1 l p2 st2.hf rel2.sub) re2 rf2 fun hp => ?_
  rw [Bool.and_eq_true] at hp
  exact (p1 hp.1).trans (p2 hp.2)
theorem s_bin {op : Operator} {a b : CE} {p : Pos} (ha : PE X a.py (tEv X.K D a)) (hb : PE X b.py (tEv X.K D b)) : PE X (CE.bin op a b p).py (tEv X.K D (.bin op a b p)) := by
  refine peBy (pe_op (op_bin op) ha hb) fun σ H Q ⟨S, Hf, F, r, S', rel, he, q⟩ => ?_
  unfold ev at he
  rw [Option.bind_eq_some_iff] at he
  obtain ⟨⟨w, S1⟩, e1, he⟩ := he
  rw [gd_some] at he
  obtain ⟨l, he⟩ := he
  rw [Option.bind_eq_some_iff] at he
  obtain ⟨⟨t, S2⟩, e2, he⟩ := he
  rw [Option.map_eq_some_iff] at he
  obtain ⟨z, e3, he⟩ := he
  obtain ⟨rfl, rfl⟩ := Prod.mk.inj he
  refine two rel e1 l e2 fun x y H2 Hf2 F2 rel2 st2 rx ry _ p2 => ?_
  refine ⟨_, _, Hf2, z, rel2.sub, rx, ry, e3, fun v H3 nw => ?_⟩
  obtain ⟨Hf3, g⟩ := nw.gives rel2 st2
  exact q v H3 Hf3 F2 g fun hp => (p2 (by unfold CE.pure at hp; exact hp)).trans nw.sub
theorem s_cmp (c : Ctx free D n N sc X) {op : CmpOp} {a b : CE} {p : Pos} (hm : behindInMarks op b.py = false) (ha : PE X a.py (tEv X.K D a)) (hb : PE X b.py (tEv X.K D b)) : PE X (CE.cmp op a b p).py (tEv X.K D (.cmp op a b p)) := by
  refine peBy (pe_cmpR (op_cmp op (by have := c.units; omega)) ha hb hm) fun σ H Q ⟨S, Hf, F, r, S', rel, he, q⟩ => ?_
  unfold ev at he
  rw [Option.bind_eq_some_iff] at he
  obtain ⟨⟨w, S1⟩, e1, he⟩ := he
  rw [gd_some] at he
  obtain ⟨l, he⟩ := he
  rw [Option.bind_eq_some_iff] at he
  obtain ⟨⟨t, S2⟩, e2, he⟩ := he
  rw [Option.map_eq_some_iff] at he
  obtain ⟨z, e3, he⟩ := he
  obtain ⟨rfl, rfl⟩ := Prod.mk.inj he
  refine two rel e1 l e2 fun x y H2 Hf2 F2 rel2 st2 rx ry _ p2 => ?_
  exact ⟨_, _, Hf2, z, rel2.sub, rx, ry, e3, q _ H2 Hf2 F2 (.frz rel2 st2 (.bl z) (.inl rfl)) fun hp => p2 (by unfold CE.pure at hp; exact hp)⟩
theorem s_chn (c : Ctx free D n N sc X) {op op' : CmpOp} {a b c' : CE} {p : Pos} (hm : lastMarks [op, op'] [b.py, c'.py] = false) (ha : PE X a.py (tEv X.K D a)) (hb : PE X b.py (tEv X.K D b)) (hc : PE X c'.py (tEv X.K D c')) :
    PE X (CE.chn op op' a b c' p).py (tEv X.K D (.chn op op' a b c' p)) := by
  have hu : X.A.units + 64 < cLine := by have := c.units; omega
  refine peBy (pe_chain (op_cmp op hu) (op_cmp op' hu) ha hb hc hm) fun σ H Q ⟨S, Hf, F, r, S', rel, he, q⟩ => ?_
  unfold ev at he
  rw [Option.bind_eq_some_iff] at he
  obtain ⟨⟨w, S1⟩, e1, he⟩ := he
  rw [gd_some] at he
  obtain ⟨l, he⟩ := he
  rw [Option.bind_eq_some_iff] at he
  obtain ⟨⟨t, S2⟩, e2, he⟩ := he
  rw [Option.bind_eq_some_iff] at he
  obtain ⟨z, e3, he⟩ := he
  refine two rel e1 l e2 fun x y H2 Hf2 F2 rel2 st2 rx ry rf p2 => ?_
  refine ⟨_, _, Hf2, z, rel2.sub, rx, ry, e3, z, rfl, ?_⟩
  cases z with
  | false =>
    rw [if_neg (by decide)]
    obtain ⟨rfl, rfl⟩ := Prod.mk.inj (Option.some.inj he)
    refine q _ H2 Hf2 F2 (.frz rel2 st2 (.bl false) (.inl rfl)) fun hp => p2 ?_
    unfold CE.pure at hp
    rw [Bool.and_eq_true] at hp
    exact hp.1
  | true =>
    rw [if_pos rfl]
    have he : gd (t.1.lets c'.pure) ((ev D c' S2).bind fun u => (cmpV op' t.2 u.1.2).map fun r' => (((.own 0, .bl r') : Res), u.2)) = some (r, S') := he
    rw [gd_some] at he
    obtain ⟨l2, he⟩ := he
    rw [Option.bind_eq_some_iff] at he
    obtain ⟨⟨u, S3⟩, e4, he⟩ := he
    rw [Option.map_eq_some_iff] at he
    obtain ⟨z', e5, he⟩ := he
    obtain ⟨rfl, rfl⟩ := Prod.mk.inj he
    refine ⟨S2, Hf2, F2, u, S3, rel2, e4, fun y3 H3 Hf3 F3 g3 p3 => ?_⟩
    obtain ⟨Hf3', s3, rel3, st3, re3, rf3⟩ := g3.opd
    refine ⟨_, _, Hf3', z', rel3.sub, carry ry rf l2 p3 st3.hf rel3.sub, re3, e5, q _ H3 Hf3' F3 (.frz rel3 (st2.trans st3) (.bl z') (.inl rfl)) fun hp => ?_⟩
    unfold CE.pure at hp
    rw [Bool.and_eq_true] at hp
    exact (p2 hp.1).trans (p3 hp.2)
theorem s_neg {a : CE} {p : Pos} (ha : PE X a.py (tEv X.K D a)) : PE X (CE.neg a p).py (tEv X.K D (.neg a p)) := by
  refine peBy (pe_un un_neg ha) fun σ H Q ⟨S, Hf, F, r, S', rel, he, q⟩ => ?_
  unfold ev at he
  rw [Option.bind_eq_some_iff] at he
  obtain ⟨⟨⟨m, v⟩, S1⟩, e1, he⟩ := he
  refine ⟨S, Hf, F, _, S1, rel, e1, fun x H1 Hf1 F1 g1 p1 => ?_⟩
  obtain ⟨Hf1', s1, rel1, st1, re1, rf1⟩ := g1.opd
  cases v with
  | int i =>
    obtain ⟨rfl, rfl⟩ := Prod.mk.inj (Option.some.inj he)
    obtain rfl := re1.int_
    exact ⟨i, rfl, q _ H1 Hf1' F1 (.frz rel1 st1 (.int _) (.inl rfl)) fun hp => p1 (by unfold CE.pure at hp; exact hp)⟩
  | _ => cases he
theorem s_nt {a : CE} {p : Pos} (ha : PE X a.py (tEv X.K D a)) : PE X (CE.nt a p).py (tEv X.K D (.nt a p)) := by
  refine peBy (pe_notT ha) fun σ H Q ⟨S, Hf, F, r, S', rel, he, q⟩ => ?_
  unfold ev tst at he
  rw [Option.map_eq_some_iff] at he
  obtain ⟨⟨b, S1⟩, e1, he⟩ := he
  rw [Option.bind_eq_some_iff] at e1
  obtain ⟨⟨w, S2⟩, e1, e2⟩ := e1
  rw [Option.map_eq_some_iff] at e2
  obtain ⟨b', e2, e3⟩ := e2
  obtain ⟨rfl, rfl⟩ := Prod.mk.inj e3
  obtain ⟨rfl, rfl⟩ := Prod.mk.inj he
  refine ⟨S, Hf, F, _, S2, rel, e1, fun x H1 Hf1 F1 g1 p1 => ?_⟩
  obtain ⟨Hf1', s1, rel1, st1, re1, rf1⟩ := g1.opd
  exact ⟨b', truV_ok rel1.sub re1 e2, q _ H1 Hf1' F1 (.frz rel1 st1 (.bl _) (.inl rfl)) fun hp => p1 (by unfold CE.pure at hp; exact hp)⟩
end
end BV
/-! Expressions: tests, calls, subscripts. -/
namespace BV
open PySem PySem.Spec PyProof.Rows L2
section
variable {free : List Str} {D : Den} {n : Nat} {N : List Str} {sc : Scope} {X : Cx}
/-! ### tests -/
def tEt (K : Frag) (D : Den) (o : Slots → Option (Bool × Slots)) (pu : Bool) : TT := fun σ H Q => ∃ S Hf F b S', Rel K Hf F S σ H ∧ o S = some (b, S') ∧ ∀ H' Hf' F', Rel K Hf' F' S' σ H' → Step Hf F H Hf' F' H' → (pu = true → HSub H H') → Q b H'
abbrev tTs (K : Frag) (D : Den) (e : CE) : TT := tEt K D (fun S => tst (ev D e S)) e.pure
theorem ptBy {X : Cx} {e : Expr} {t t' : TT} (h : PT X e t) (w : ∀ σ H Q, t' σ H Q → t σ H Q) : PT X e t' := ⟨fun pins s σ H Q I q => h.run pins s σ H Q I (w σ H Q q)⟩
theorem pwBy {X : Cx} {e : Expr} {t t' : TT} (h : PW X e t) (w : ∀ σ H Q, t' σ H Q → t σ H Q) : PW X e t' := ⟨fun wh pins s σ H Q I q => h.run wh pins s σ H Q I (w σ H Q q)⟩
theorem tst_some {o : Option (Res × Slots)} {b : Bool} {S : Slots} (h : tst o = some (b, S)) : ∃ r, o = some (r, S) ∧ truV r.2 = some b := by
  unfold tst at h
  rw [Option.bind_eq_some_iff] at h
  obtain ⟨⟨r, S1⟩, e1, h⟩ := h
  rw [Option.map_eq_some_iff] at h
  obtain ⟨b', e2, h⟩ := h
  obtain ⟨rfl, rfl⟩ := Prod.mk.inj h
  exact ⟨r, e1, e2⟩
/-- a test by its value's truth -/
theorem t_val {e : CE} (h : PE X e.py (tEv X.K D e)) (he : ∀ whole, isTrue e.py X.env whole = (do let v ← whole; standAt e.py.pos; holding [v] (truthy v))) : PT X e.py (tTs X.K D e) := by
  refine ptBy (pt_truth h he) fun σ H Q ⟨S, Hf, F, b, S', rel, ht, q⟩ => ?_
  obtain ⟨r, e1, e2⟩ := tst_some ht
  refine ⟨S, Hf, F, r, S', rel, e1, fun x H1 Hf1 F1 g1 p1 => ?_⟩
  obtain ⟨Hf1', s1, rel1, st1, re1, rf1⟩ := g1.opd
  exact ⟨b, truV_ok rel1.sub re1 e2, q H1 Hf1' F1 rel1 st1 p1⟩
theorem t_nt {a : CE} {p : Pos} (h : PT X a.py (tTs X.K D a)) : PT X (CE.nt a p).py (tTs X.K D (.nt a p)) := by
  refine ptBy (pt_not h) fun σ H Q ⟨S, Hf, F, b, S', rel, ht, q⟩ => ?_
  obtain ⟨r, e1, e2⟩ := tst_some ht
  unfold ev at e1
  rw [Option.map_eq_some_iff] at e1
  obtain ⟨⟨b', S1⟩, e1, e3⟩ := e1
  obtain ⟨rfl, rfl⟩ := Prod.mk.inj e3
  obtain rfl : (!b') = b := by simpa [truV] using e2
  exact ⟨S, Hf, F, b', S1, rel, e1, fun H1 Hf1 F1 rel1 st1 p1 => q H1 Hf1 F1 rel1 st1 fun hp => p1 (by unfold CE.pure at hp; exact hp)⟩
theorem t_cmp (c : Ctx free D n N sc X) {op : CmpOp} {a b : CE} {p : Pos} (hm : behindInMarks op b.py = false) (ha : PE X a.py (tEv X.K D a)) (hb : PE X b.py (tEv X.K D b)) : PT X (CE.cmp op a b p).py (tTs X.K D (.cmp op a b p)) := by
  refine ptBy (pt_cmpR (op_cmp op (by have := c.units; omega)) ha hb hm) fun σ H Q ⟨S, Hf, F, bb, S', rel, ht, q⟩ => ?_
  obtain ⟨r, he, et⟩ := tst_some ht
  unfold ev at he
  rw [Option.bind_eq_some_iff] at he
  obtain ⟨⟨w, S1⟩, e1, he⟩ := he
  rw [gd_some] at he
  obtain ⟨l, he⟩ := he
  rw [Option.bind_eq_some_iff] at he
  obtain ⟨⟨t, S2⟩, e2, he⟩ := he
  rw [Option.map_eq_some_iff] at he
  obtain ⟨z, e3, he⟩ := he
  obtain ⟨rfl, rfl⟩ := Prod.mk.inj he
  obtain rfl : z = bb := by simpa [truV] using et
  refine two rel e1 l e2 fun x y H2 Hf2 F2 rel2 st2 rx ry _ p2 => ?_
  exact ⟨_, _, Hf2, z, rel2.sub, rx, ry, e3, z, rfl, q H2 Hf2 F2 rel2 st2 fun hp => p2 (by unfold CE.pure at hp; exact hp)⟩
theorem t_chn (c : Ctx free D n N sc X) {op op' : CmpOp} {a b c' : CE} {p : Pos} (hm : lastMarks [op, op'] [b.py, c'.py] = false) (ha : PE X a.py (tEv X.K D a)) (hb : PE X b.py (tEv X.K D b)) (hc : PE X c'.py (tEv X.K D c')) :
    PT X (CE.chn op op' a b c' p).py (tTs X.K D (.chn op op' a b c' p)) := by
  have hu : X.A.units + 64 < cLine := by have := c.units; omega
  refine ptBy (pt_chain (op_cmp op hu) (op_cmp op' hu) ha hb hc hm) fun σ H Q ⟨S, Hf, F, bb, S', rel, ht, q⟩ => ?_
  obtain ⟨r, he, et⟩ := tst_some ht
  unfold ev at he
  rw [Option.bind_eq_some_iff] at he
  obtain ⟨⟨w, S1⟩, e1, he⟩ := he
  rw [gd_some] at he
  obtain ⟨l, he⟩ := he
  rw [Option.bind_eq_some_iff] at he
  obtain ⟨⟨t, S2⟩, e2, he⟩ := he
  rw [Option.bind_eq_some_iff] at he
  obtain ⟨z, e3, he⟩ := he
  refine two rel e1 l e2 fun x y H2 Hf2 F2 rel2 st2 rx ry rf p2 => ?_
  refine ⟨_, _, Hf2, z, rel2.sub, rx, ry, e3, z, rfl, ?_⟩
  cases z with
  | false =>
    rw [if_neg (by decide)]
    obtain ⟨rfl, rfl⟩ := Prod.mk.inj (Option.some.inj he)
    obtain rfl : false = bb := by simpa [truV] using et
    refine ⟨false, rfl, q H2 Hf2 F2 rel2 st2 fun hp => p2 ?_⟩
    unfold CE.pure at hp
    rw [Bool.and_eq_true] at hp
    exact hp.1
  | true =>
    rw [if_pos rfl]
    have he : gd (t.1.lets c'.pure) ((ev D c' S2).bind fun u => (cmpV op' t.2 u.1.2).map fun r' => (((.own 0, .bl r') : Res), u.2)) = some (r, S') := he
    rw [gd_some] at he
    obtain ⟨l2, he⟩ := he
    rw [Option.bind_eq_some_iff] at he
    obtain ⟨⟨u, S3⟩, e4, he⟩ := he
    rw [Option.map_eq_some_iff] at he
    obtain ⟨z', e5, he⟩ := he
    obtain ⟨rfl, rfl⟩ := Prod.mk.inj he
    obtain rfl : z' = bb := by simpa [truV] using et
    refine ⟨S2, Hf2, F2, u, S3, rel2, e4, fun y3 H3 Hf3 F3 g3 p3 => ?_⟩
    obtain ⟨Hf3', s3, rel3, st3, re3, rf3⟩ := g3.opd
    refine ⟨_, _, Hf3', z', rel3.sub, carry ry rf l2 p3 st3.hf rel3.sub, re3, e5, z', rfl, q H3 Hf3' F3 rel3 (st2.trans st3) fun hp => ?_⟩
    unfold CE.pure at hp
    rw [Bool.and_eq_true] at hp
    exact (p2 hp.1).trans (p3 hp.2)
/-- and, or as tests -/
theorem t_bop1 {o : BoolOp} {e : CE} {p : Pos} (h : PT X e.py (tTs X.K D e)) : PW X (.BoolOp o [e.py] p) (tEt X.K D (fun S => tst (evb D o (.cons e .nil) S)) (CEs.cons e .nil).pure) := by
  have w : ∀ σ H Q, tEt X.K D (fun S => tst (evb D o (.cons e .nil) S)) (CEs.cons e .nil).pure σ H Q → tTs X.K D e σ H Q := by
    rintro σ H Q ⟨S, Hf, F, b, S', rel, ht, q⟩
    refine ⟨S, Hf, F, b, S', rel, by unfold evb at ht; exact ht, fun H1 Hf1 F1 rel1 st1 p1 => q H1 Hf1 F1 rel1 st1 fun hp => p1 ?_⟩
    simpa [CEs.pure] using hp
  cases o with
  | And => exact pwBy (pw_and1 h) w
  | Or => exact pwBy (pw_or1 h) w
theorem t_bop2 {o : BoolOp} {e e2 : CE} {es : CEs} {p : Pos} (h : PT X e.py (tTs X.K D e)) (h2 : PW X (.BoolOp o (CEs.cons e2 es).py p) (tEt X.K D (fun S => tst (evb D o (.cons e2 es) S)) (CEs.cons e2 es).pure)) :
    PW X (.BoolOp o (CEs.cons e (.cons e2 es)).py p) (tEt X.K D (fun S => tst (evb D o (.cons e (.cons e2 es)) S)) (CEs.cons e (.cons e2 es)).pure) := by
  have st : ∀ S b S', tst (evb D o (.cons e (.cons e2 es)) S) = some (b, S') → ∃ b1 S1, tst (ev D e S) = some (b1, S1) ∧ ((match o with | .And => b1 | .Or => !b1) = true → tst (evb D o (.cons e2 es) S1) = some (b, S')) ∧ ((match o with | .And => b1 | .Or => !b1) = false → b = b1 ∧ S' = S1) := by
    intro S b S' ht
    obtain ⟨r, he, et⟩ := tst_some ht
    unfold evb at he
    rw [Option.bind_eq_some_iff] at he
    obtain ⟨⟨w, S1⟩, e1, he⟩ := he
    rw [Option.bind_eq_some_iff] at he
    obtain ⟨b1, e2', he⟩ := he
    refine ⟨b1, S1, by unfold tst; rw [e1]; simp [e2'], ?_, ?_⟩
    · intro hb
      cases o with
      | And =>
        have hb : b1 = true := hb
        subst hb
        have he : evb D .And (.cons e2 es) S1 = some (r, S') := he
        unfold tst; rw [he]; simp [et]
      | Or =>
        have hb : b1 = false := by simpa using hb
        subst hb
        have he : evb D .Or (.cons e2 es) S1 = some (r, S') := he
        unfold tst; rw [he]; simp [et]
    · intro hb
      cases o with
      | And =>
        have hb : b1 = false := hb
        subst hb
        have he : some (w, S1) = some (r, S') := he
        obtain ⟨rfl, rfl⟩ := Prod.mk.inj (Option.some.inj he)
        rw [e2'] at et
        exact ⟨(Option.some.inj et).symm, rfl⟩
      | Or =>
        have hb : b1 = true := by simpa using hb
        subst hb
        have he : some (w, S1) = some (r, S') := he
        obtain ⟨rfl, rfl⟩ := Prod.mk.inj (Option.some.inj he)
        rw [e2'] at et
        exact ⟨(Option.some.inj et).symm, rfl⟩
  cases o with
  | And =>
    refine pwBy (pw_and h h2) fun σ H Q ⟨S, Hf, F, b, S', rel, ht, q⟩ => ?_
    obtain ⟨b1, S1, e1, g1, g2⟩ := st S b S' ht
    refine ⟨S, Hf, F, b1, S1, rel, e1, fun H1 Hf1 F1 rel1 st1 p1 => ?_⟩
    cases b1 with
    | true =>
      rw [if_pos rfl]
      refine ⟨S1, Hf1, F1, b, S', rel1, g1 rfl, fun H2 Hf2 F2 rel2 st2 p2 => q H2 Hf2 F2 rel2 (st1.trans st2) fun hp => ?_⟩
      have hp : (e.pure && (CEs.cons e2 es).pure) = true := hp
      rw [Bool.and_eq_true] at hp
      exact (p1 hp.1).trans (p2 hp.2)
    | false =>
      rw [if_neg (by decide)]
      obtain ⟨rfl, rfl⟩ := g2 rfl
      refine q H1 Hf1 F1 rel1 st1 fun hp => ?_
      have hp : (e.pure && (CEs.cons e2 es).pure) = true := hp
      rw [Bool.and_eq_true] at hp
      exact p1 hp.1
  | Or =>
    refine pwBy (pw_or h h2) fun σ H Q ⟨S, Hf, F, b, S', rel, ht, q⟩ => ?_
    obtain ⟨b1, S1, e1, g1, g2⟩ := st S b S' ht
    refine ⟨S, Hf, F, b1, S1, rel, e1, fun H1 Hf1 F1 rel1 st1 p1 => ?_⟩
    cases b1 with
    | false =>
      rw [if_neg (by decide)]
      refine ⟨S1, Hf1, F1, b, S', rel1, g1 rfl, fun H2 Hf2 F2 rel2 st2 p2 => q H2 Hf2 F2 rel2 (st1.trans st2) fun hp => ?_⟩
      have hp : (e.pure && (CEs.cons e2 es).pure) = true := hp
      rw [Bool.and_eq_true] at hp
      exact (p1 hp.1).trans (p2 hp.2)
    | true =>
      rw [if_pos rfl]
      obtain ⟨rfl, rfl⟩ := g2 rfl
      refine q H1 Hf1 F1 rel1 st1 fun hp => ?_
      have hp : (e.pure && (CEs.cons e2 es).pure) = true := hp
      rw [Bool.and_eq_true] at hp
      exact p1 hp.1
/-! ### and, or as values -/
def tEb (K : Frag) (D : Den) (o : BoolOp) (es : CEs) : TE := fun σ H Q => ∃ S Hf F r S', Rel K Hf F S σ H ∧ evb D o es S = some (r, S') ∧ ∀ x H' Hf' F', Gives K Hf F H S' σ r x Hf' F' H' → (es.pure = true → HSub H H') → Q x H'
theorem b_one {o : BoolOp} {e : CE} {p : Pos} (h : PE X e.py (tEv X.K D e)) : PE X (.BoolOp o [e.py] p) (tEb X.K D o (.cons e .nil)) := by
  refine peBy (pe_one h) fun σ H Q ⟨S, Hf, F, r, S', rel, he, q⟩ => ?_
  refine ⟨S, Hf, F, r, S', rel, by unfold evb at he; exact he, fun x H1 Hf1 F1 g p1 => q x H1 Hf1 F1 g fun hp => p1 ?_⟩
  simpa [CEs.pure] using hp
theorem b_more {o : BoolOp} {e e2 : CE} {es : CEs} {p : Pos} (h : PE X e.py (tEv X.K D e)) (h2 : PE X (.BoolOp o (CEs.cons e2 es).py p) (tEb X.K D o (.cons e2 es))) : PE X (.BoolOp o (CEs.cons e (.cons e2 es)).py p) (tEb X.K D o (.cons e (.cons e2 es))) := by
  have go : ∀ {t : TE}, PE X (.BoolOp o (CEs.cons e (.cons e2 es)).py p) t → (∀ σ H Q, (∃ S Hf F w S1 b1, Rel X.K Hf F S σ H ∧ ev D e S = some (w, S1) ∧ truV w.2 = some b1 ∧
      ∀ x H1 Hf1 F1, Gives X.K Hf F H S1 σ w x Hf1 F1 H1 → (e.pure = true → HSub H H1) → TruV X.K x H1 b1 ∧ if (match o with | .And => b1 | .Or => !b1) = true then tEb X.K D o (.cons e2 es) σ H1 Q else Q x H1) → t σ H Q) →
      PE X (.BoolOp o (CEs.cons e (.cons e2 es)).py p) (tEb X.K D o (.cons e (.cons e2 es))) := by
    intro t hp ht
    refine peBy hp fun σ H Q ⟨S, Hf, F, r, S', rel, he, q⟩ => ht σ H Q ?_
    unfold evb at he
    rw [Option.bind_eq_some_iff] at he
    obtain ⟨⟨w, S1⟩, e1, he⟩ := he
    rw [Option.bind_eq_some_iff] at he
    obtain ⟨b1, e2', he⟩ := he
    refine ⟨S, Hf, F, w, S1, b1, rel, e1, e2', fun x H1 Hf1 F1 g1 p1 => ?_⟩
    obtain ⟨Hf1', s1, rel1, st1, re1, rf1⟩ := g1.opd
    refine ⟨truV_ok rel1.sub re1 e2', ?_⟩
    have cont : evb D o (.cons e2 es) S1 = some (r, S') → tEb X.K D o (.cons e2 es) σ H1 Q := fun he => by
      refine ⟨S1, Hf1, F1, r, S', g1.rel, he, fun y H2 Hf2 F2 g2 p2 => q y H2 Hf2 F2 ⟨g2.rel, g1.st.trans g2.st, ?_⟩ fun hp => ?_⟩
      · have res := g2.res
        unfold ResOk at res ⊢
        cases q1 : r.1 with
        | bor => rw [q1] at res; exact res
        | own d =>
          rw [q1] at res
          obtain ⟨G, a1, a2, a3, a4⟩ := res
          exact ⟨G, a1, a2, a3, fun a ha => (a4 a ha).elim (g1.st.own a) g1.st.fresh⟩
      · have hp : (e.pure && (CEs.cons e2 es).pure) = true := hp
        rw [Bool.and_eq_true] at hp
        exact (p1 hp.1).trans (p2 hp.2)
    have stop : some (w, S1) = some (r, S') → Q x H1 := fun he => by
      obtain ⟨rfl, rfl⟩ := Prod.mk.inj (Option.some.inj he)
      refine q x H1 Hf1 F1 g1 fun hp => ?_
      have hp : (e.pure && (CEs.cons e2 es).pure) = true := hp
      rw [Bool.and_eq_true] at hp
      exact p1 hp.1
    cases o with
    | And =>
      cases b1 with
      | true => exact cont he
      | false => exact stop he
    | Or =>
      cases b1 with
      | false => exact cont he
      | true => exact stop he
  cases o with
  | And =>
    refine go (pe_andT h h2) fun σ H Q ⟨S, Hf, F, w, S1, b1, rel, e1, _, k⟩ => ?_
    refine ⟨S, Hf, F, w, S1, rel, e1, fun x H1 Hf1 F1 g1 p1 => ?_⟩
    obtain ⟨tr, r⟩ := k x H1 Hf1 F1 g1 p1
    exact ⟨b1, tr, r⟩
  | Or =>
    refine go (pe_orT h h2) fun σ H Q ⟨S, Hf, F, w, S1, b1, rel, e1, _, k⟩ => ?_
    refine ⟨S, Hf, F, w, S1, rel, e1, fun x H1 Hf1 F1 g1 p1 => ?_⟩
    obtain ⟨tr, r⟩ := k x H1 Hf1 F1 g1 p1
    refine ⟨b1, tr, ?_⟩
    cases b1 with
    | true => exact r
    | false => exact r
theorem s_bop {o : BoolOp} {es : CEs} {p : Pos} (h : PE X (.BoolOp o es.py p) (tEb X.K D o es)) : PE X (CE.bop o es p).py (tEv X.K D (.bop o es p)) := by
  refine peBy h fun σ H Q ⟨S, Hf, F, r, S', rel, he, q⟩ => ⟨S, Hf, F, r, S', rel, by unfold ev at he; exact he, fun x H1 Hf1 F1 g p1 => q x H1 Hf1 F1 g fun hp => p1 (by unfold CE.pure at hp; exact hp)⟩
theorem t_bop {o : BoolOp} {es : CEs} {p : Pos} (h : PW X (.BoolOp o es.py p) (tEt X.K D (fun S => tst (evb D o es S)) es.pure)) : PT X (CE.bop o es p).py (tTs X.K D (.bop o es p)) := by
  refine ptBy h.pt fun σ H Q ⟨S, Hf, F, b, S', rel, ht, q⟩ => ⟨S, Hf, F, b, S', rel, ?_, fun H1 Hf1 F1 rel1 st1 p1 => q H1 Hf1 F1 rel1 st1 fun hp => p1 (by unfold CE.pure at hp; exact hp)⟩
  have ht : tst (ev D (.bop o es p) S) = some (b, S') := ht
  unfold ev at ht
  exact ht
theorem resTrans {K : Frag} {Hf Hf1 Hf2 H H1 H2 : Hp} {F F1 F2 : List Addr} {S2 : Slots} {σ : L2.St} {r : Res} {x : V} (st : Step Hf F H Hf1 F1 H1) (g : Gives K Hf1 F1 H1 S2 σ r x Hf2 F2 H2) : Gives K Hf F H S2 σ r x Hf2 F2 H2 := by
  refine ⟨g.rel, st.trans g.st, ?_⟩
  have res := g.res
  unfold ResOk at res ⊢
  cases q1 : r.1 with
  | bor => rw [q1] at res; exact res
  | own d =>
    rw [q1] at res
    obtain ⟨G, a1, a2, a3, a4⟩ := res
    exact ⟨G, a1, a2, a3, fun a ha => (a4 a ha).elim (st.own a) st.fresh⟩
theorem s_ifx {c a b : CE} {p : Pos} (hc : PT X c.py (tTs X.K D c)) (ha : PE X a.py (tEv X.K D a)) (hb : PE X b.py (tEv X.K D b)) : PE X (CE.ifx c a b p).py (tEv X.K D (.ifx c a b p)) := by
  refine peBy (pe_ifExp hc ha hb) fun σ H Q ⟨S, Hf, F, r, S', rel, he, q⟩ => ?_
  unfold ev at he
  rw [Option.bind_eq_some_iff] at he
  obtain ⟨⟨t, S1⟩, e1, he⟩ := he
  refine ⟨S, Hf, F, t, S1, rel, e1, fun H1 Hf1 F1 rel1 st1 p1 => ?_⟩
  cases t with
  | true =>
    rw [if_pos rfl]
    refine ⟨S1, Hf1, F1, r, S', rel1, he, fun x H2 Hf2 F2 g p2 => q x H2 Hf2 F2 (resTrans st1 g) fun hp => ?_⟩
    unfold CE.pure at hp
    simp only [Bool.and_eq_true] at hp
    exact (p1 hp.1.1).trans (p2 hp.1.2)
  | false =>
    rw [if_neg (by decide)]
    refine ⟨S1, Hf1, F1, r, S', rel1, he, fun x H2 Hf2 F2 g p2 => q x H2 Hf2 F2 (resTrans st1 g) fun hp => ?_⟩
    unfold CE.pure at hp
    simp only [Bool.and_eq_true] at hp
    exact (p1 hp.1.1).trans (p2 hp.2)
end
end BV
/-! Expressions: calls, subscripts. -/
namespace BV
open PySem PySem.Spec PyProof.Rows L2
section
variable {free : List Str} {D : Den} {n : Nat} {N : List Str} {sc : Scope} {X : Cx}
theorem OwnL.split {K : Frag} {Hf H : Hp} {d : Nat} : ∀ {xs : List Val} {ys : List V} {G : List Addr} {j : Nat} {v : Val}, OwnL K Hf H d xs ys G → xs[j]? = some v →
    ∃ y G1 G2 G3, ys[j]? = some y ∧ G = G1 ++ G2 ++ G3 ∧ Own K Hf H d v y G2 ∧
      ∀ {H' : Hp} {u : Val} {z : V} {G' : List Addr}, (∀ a, (a ∈ G1 ∨ a ∈ G3) → ∀ o, H a = some o → H' a = some o) → Own K Hf H' d u z G' → OwnL K Hf H' d (xs.set j u) (ys.set j z) (G1 ++ G' ++ G3)
  | _, _, _, _, _, .nil, e => by simp at e
  | _, _, _, 0, _, .cons (x := x) (F := F) (G := G) h r, e => by
    simp at e; subst e
    refine ⟨x, [], F, G, rfl, rfl, h, fun k q => ?_⟩
    exact .cons q (r.mono (HSub.refl _) fun a ha => k a (.inr ha))
  | _, _, _, j + 1, v, .cons (x := x) (F := F) (G := G) h r, e => by
    obtain ⟨z, F1, F2, F3, e1, e2, e3, e4⟩ := OwnL.split (j := j) (v := v) r (by simpa using e)
    refine ⟨z, F ++ F1, F2, F3, by simpa using e1, by rw [e2]; simp, e3, fun k q => ?_⟩
    have := OwnL.cons (h.mono (HSub.refl _) fun a ha => k a (.inl (List.mem_append_left _ ha))) (e4 (fun a ha => k a (ha.elim (fun z => .inl (List.mem_append_right _ z)) .inr)) q)
    simpa using this
/-- something owned by nobody here is changed -/
theorem Rel.mut {K : Frag} {Hf H : Hp} {F : List Addr} {S : Slots} {σ : L2.St} (r : Rel K Hf F S σ H) {p : Addr} {o : HO} (hp : p ∉ F) (hf : Hf p = Option.none) : Rel K Hf F S σ (L2.upd H p o) := by
  refine ⟨fun a u e => ?_, r.nd, r.off, r.plc.mono (HSub.refl _) fun a ha u e => ?_⟩
  · rw [upd_ne (fun z => by rw [z, hf] at e; cases e)]; exact r.sub a u e
  · rw [upd_ne (fun z => hp (by rw [← z]; exact ha))]; exact e
theorem no_marks (op : CmpOp) (b : CE) : behindInMarks op b.py = false := by cases b <;> rfl
theorem no_star : ∀ (es : CEs) (p : Pos) (env : Env), (backTo p (starEach es.py env)).any (·.1) = false
  | .nil, _, _ => rfl
  | .cons e es, p, env => by
    show (backTo p (starEach (e.py :: es.py) env)).any (·.1) = false
    rw [star_cons]
    exact no_star es p env
def CKs.names : CKs → List Str
  | .nil => []
  | .cons x _ _ ks => x :: ks.names
theorem kw_all : ∀ (ks : CKs) (p : Pos) (env : Env), (backToKw p (keywordEach ks.py env)).all (·.1.isSome) = true ∧ (backToKw p (keywordEach ks.py env)).any (·.1.isNone) = false ∧ (backToKw p (keywordEach ks.py env)).filterMap (·.1) = ks.names
  | .nil, _, _ => ⟨rfl, rfl, rfl⟩
  | .cons x e q ks, p, env => ⟨(kw_all ks p env).1, (kw_all ks p env).2.1, congrArg (x :: ·) (kw_all ks p env).2.2⟩
theorem boot_bf (f : BF) : bootBuiltins f.name = some f.val := by cases f <;> decide +kernel
theorem bf_ok (f : BF) : okName f.name = true := by cases f <;> decide +kernel
theorem boot_tn (T : TN) : bootBuiltins (Str.ofString T.name) = some (.type T.name) := by cases T <;> decide +kernel
theorem tn_ok (T : TN) : okName (Str.ofString T.name) = true := by cases T <;> decide +kernel
theorem Ctx.gl (c : Ctx free D n N sc X) {x : Str} (h : glB sc x = true) : Gl X x := by
  show X.env.scope.names.lookup x = _
  rw [c.sc]; exact glB_ok h
theorem s_isi (c : Ctx free D n N sc X) {a : CE} {T : TN} {np tp p : Pos} (g1 : glB sc "isinstance" = true) (g2 : glB sc (Str.ofString T.name) = true) (m1 : ("isinstance" : Str) ∈ free) (m2 : Str.ofString T.name ∈ free)
    (ha : PE X a.py (tEv X.K D a)) : PE X (CE.isi a T np tp p).py (tEv X.K D (.isi a T np tp p)) := by
  have ht : PE X (.Name (Str.ofString T.name) tp) (tC (.ty T.name)) := pe_bltn (c.gl g2) (c.fre _ m2) (boot_tn T) rfl (okName_ok (tn_ok T)).2.2 (okName_ok (tn_ok T)).1
  refine peBy (pe_callB call_isi (c.gl g1) (c.fre _ m1) PyProof.Rows.boot_isinstance (pa_cons ha (pa_cons ht pa_nil rfl) (star_cons a _ _)) (by decide) (by decide) (star_cons a _ _) rfl) fun σ H Q ⟨S, Hf, F, r, S', rel, he, q⟩ => ?_
  unfold ev at he
  rw [Option.map_eq_some_iff] at he
  obtain ⟨⟨w, S1⟩, e1, he⟩ := he
  obtain ⟨rfl, rfl⟩ := Prod.mk.inj he
  refine ⟨S, Hf, F, w, S1, rel, e1, fun x H1 Hf1 F1 g1 p1 => ?_⟩
  obtain ⟨Hf1', s1, rel1, st1, re1, rf1⟩ := g1.opd
  exact ⟨x, .ty T.name, .type (tyV w.2), .type T.name, isiV w.2 T, rfl, .ty _, re1.ty rel1.sub, kit_ty (kit_isi w.2 T), q _ H1 Hf1' F1 (.frz rel1 st1 (.bl _) (.inl rfl)) fun hp => p1 (by unfold CE.pure at hp; exact hp)⟩
theorem s_blt (c : Ctx free D n N sc X) {f : BF} {np p : Pos} {e : CE} {es : CEs} (g : glB sc f.name = true) (m : f.name ∈ free) (ha : PA X (CEs.cons e es).py (tEvo X.K D (.cons e es))) : PE X (CE.blt f np (.cons e es) p).py (tEv X.K D (.blt f np (.cons e es) p)) := by
  have rule := call_blt (X := X) f c.calm c.gu c.units
  have ok := okName_ok (bf_ok f)
  have pe : PE X (CE.blt f np (.cons e es) p).py (tCB (rB X.K (bltV f)) (tEvo X.K D (.cons e es))) := by
    have hb := boot_bf f
    have viaB : ∀ {id : String}, f.val = .builtin id → PE X (CE.blt f np (.cons e es) p).py (tCB (rB X.K (bltV f)) (tEvo X.K D (.cons e es))) := by
      intro id hv
      rw [hv] at hb rule
      exact pe_callB rule (c.gl g) (c.fre _ m) hb ha ok.2.2 ok.1 (star_cons e _ _) (no_star es p _)
    have viaT : ∀ {id : String}, f.val = .type id → PE X (CE.blt f np (.cons e es) p).py (tCB (rB X.K (bltV f)) (tEvo X.K D (.cons e es))) := by
      intro id hv
      rw [hv] at hb rule
      exact pe_callTy rule (c.gl g) (c.fre _ m) hb ha ok.2.2 ok.1 (star_cons e _ _) (no_star es p _)
    cases f <;> first | exact viaB rfl | exact viaT rfl
  refine peBy pe fun σ H Q ⟨S, Hf, F, r, S', rel, he, q⟩ => ?_
  unfold ev at he
  rw [Option.bind_eq_some_iff] at he
  obtain ⟨⟨vs, S1⟩, e1, he⟩ := he
  rw [Option.map_eq_some_iff] at he
  obtain ⟨z, e2, he⟩ := he
  obtain ⟨rfl, rfl⟩ := Prod.mk.inj he
  refine ⟨S, Hf, F, vs, S1, rel, e1, fun xs H1 Hf1 F1 g1 p1 => ?_⟩
  refine ⟨vs, Hf1, z, g1.rel.sub, g1.res, e2, fun v H2 nw => ?_⟩
  obtain ⟨Hf2, g2⟩ := nw.gives g1.rel g1.st
  exact q v H2 Hf2 F1 g2 fun hp => (p1 (by unfold CE.pure at hp; exact hp)).trans nw.sub
theorem plain_ix (i : CE) : PlainIx i.py := by intro o k; cases i <;> rfl
theorem s_idx {a i : CE} {p : Pos} (ha : PE X a.py (tEv X.K D a)) (hi : PE X i.py (tEv X.K D i)) : PE X (CE.idx a i p).py (tEv X.K D (.idx a i p)) := by
  refine peBy (pe_ix ix_val ha hi (plain_ix i)) fun σ H Q ⟨S, Hf, F, r, S', rel, he, q⟩ => ?_
  unfold ev at he
  rw [Option.bind_eq_some_iff] at he
  obtain ⟨⟨w, S1⟩, e1, he⟩ := he
  rw [gd_some] at he
  obtain ⟨l, he⟩ := he
  rw [Option.bind_eq_some_iff] at he
  obtain ⟨⟨t, S2⟩, e2, he⟩ := he
  rw [Option.map_eq_some_iff] at he
  obtain ⟨z, e3, he⟩ := he
  obtain ⟨rfl, rfl⟩ := Prod.mk.inj he
  refine two rel e1 l e2 fun x y H2 Hf2 F2 rel2 st2 rx ry _ p2 => ?_
  exact ⟨_, _, Hf2, z, rel2.sub, rx, ry, e3, fun v rv => q v H2 Hf2 F2 (.frz rel2 st2 rv (.inl rfl)) fun hp => p2 (by unfold CE.pure at hp; exact hp)⟩
theorem s_pth (c : Ctx free D n N sc X) {i : Nat} {x : Str} {px p : Pos} {k : CE} (hi : N[i]? = some x) (hv : visB sc x = true) (ok : okName x = true) (hk : PE X k.py (tEv X.K D k)) : PE X (CE.pth i x px k p).py (tEv X.K D (.pth i x px k p)) := by
  have h1 : PE X (.Name x px) (tVar i) := pe_var (i := i) (by rw [c.hN]; exact hi) (by rw [c.sc]; exact visB_ok hv) (okName_ok ok).1 (okName_ok ok).2.1
  refine peBy (pe_ix (IxR.or ix_list ix_tup) h1 hk (plain_ix k)) fun σ H Q ⟨S, Hf, F, r, S', rel, he, q⟩ => ?_
  unfold ev at he
  split at he
  · rename_i r0 e0
    obtain ⟨y, _, hy, _⟩ := rel.get (d := r0.1) (v := r0.2) e0
    rw [Option.bind_eq_some_iff] at he
    obtain ⟨⟨w, S1⟩, e1, he⟩ := he
    dsimp only at he
    split at he
    · rename_i d v e2
      rw [Option.bind_eq_some_iff] at he
      obtain ⟨u, e3, he⟩ := he
      refine ⟨y, hy, S, Hf, F, w, S1, rel, e1, fun z H1 Hf1 F1 g1 p1 => ?_⟩
      obtain ⟨Hf1', s1, rel1, st1, re1, rf1⟩ := g1.opd
      obtain ⟨y', G, hy', ow, sub⟩ := rel1.get e2
      rw [hy] at hy'
      cases hy'
      have fin : ∀ {b : V} {G' : List Addr} {d' : Nat}, Own X.K Hf1' H1 d' u b G' → Q b H1 := by
        intro b G' d' ow
        cases fl : u.flat with
        | true =>
          rw [fl] at he
          obtain ⟨rfl, rfl⟩ := Prod.mk.inj (Option.some.inj he)
          obtain ⟨rfl, ow0⟩ := ow.flat (d' := 0) fl
          have rep : Rep X.K Hf1' u b := by cases ow0 with | frz _ r => exact r
          exact q b H1 Hf1' F1 (.frz rel1 st1 rep (.inl rfl)) fun hp => p1 (by unfold CE.pure at hp; exact hp)
        | false =>
          rw [fl] at he
          have he : gd u.inner (some (((.bor, u) : Res), S1)) = some (r, S') := he
          rw [gd_some] at he
          obtain ⟨inn, he⟩ := he
          obtain ⟨rfl, rfl⟩ := Prod.mk.inj (Option.some.inj he)
          exact q b H1 Hf1' F1 ⟨rel1, st1, ow.repE rel1.sub (by rw [inn, Bool.or_true])⟩ fun hp => p1 (by unfold CE.pure at hp; exact hp)
      have frz : ∀ {b : V}, Rep X.K Hf1' u b → Q b H1 := fun rb => fin (.frz (d := 0) (.inl rfl) rb)
      obtain ⟨wm, wv⟩ := w
      dsimp only at re1
      cases v with
      | lst xs =>
        cases wv with
        | int m =>
          obtain rfl := re1.int_
          have e3 : getV.atI' xs m = some u := e3
          cases ow with
          | frz _ rp =>
            cases rp with
            | lst dd l =>
              obtain ⟨b, e5, e6⟩ := l.at e3
              exact .inl ⟨_, _, m, b, rfl, rfl, (rdL_mono rel1.sub dd).sq, e5, frz e6⟩
          | lst dd l =>
            unfold getV.atI' at e3
            cases hx : ixN xs.length m with
            | none => rw [hx] at e3; cases e3
            | some j =>
              rw [hx] at e3
              obtain ⟨b, G', e5, e6, _⟩ := l.get e3
              exact .inl ⟨_, _, m, b, rfl, rfl, .inl (.inl dd), by unfold atI; rw [l.length, hx]; exact e5, fin e6⟩
        | _ => cases e3
      | tup xs =>
        cases wv with
        | int m =>
          obtain rfl := re1.int_
          have e3 : getV.atI' xs m = some u := e3
          cases ow with
          | frz _ rp =>
            cases rp with
            | tup dd l =>
              obtain ⟨b, e5, e6⟩ := l.at e3
              exact .inr ⟨_, _, m, b, rfl, rfl, sqT_mono rel1.sub dd, e5, frz e6⟩
        | _ => cases e3
      | _ => cases e3
    · cases he
  · cases he
theorem s_slc {a : CE} {lo hi : CO} {sp p : Pos} (ha : PE X a.py (tEv X.K D a)) (hl : ∀ e, lo = .is e → PE X e.py (tEv X.K D e)) (hh : ∀ e, hi = .is e → PE X e.py (tEv X.K D e)) : PE X (CE.slc a lo hi sp p).py (tEv X.K D (.slc a lo hi sp p)) := by
  have part : ∀ (o : CO), (∀ e, o = .is e → PE X e.py (tEv X.K D e)) → PO X o.py (fun σ H Q => ∃ S Hf F i S', Rel X.K Hf F S σ H ∧ evi D o S = some (i, S') ∧ ∀ H' Hf' F', Rel X.K Hf' F' S' σ H' → Step Hf F H Hf' F' H' → (o.pure = true → HSub H H') → Q i H') := by
    intro o ho
    cases o with
    | no =>
      refine ⟨fun pins s σ H Q I h => po_none.run pins s σ H Q I ?_⟩
      obtain ⟨S, Hf, F, i, S', rel, he, q⟩ := h
      obtain ⟨rfl, rfl⟩ := Prod.mk.inj (Option.some.inj (show some (none, S) = some (i, S') from he))
      exact q H Hf F rel (Step.refl _ _ _) fun _ => HSub.refl _
    | is e =>
      refine ⟨fun pins s σ H Q I h => (po_some (ho e rfl)).run pins s σ H Q I ?_⟩
      obtain ⟨S, Hf, F, i, S', rel, he, q⟩ := h
      unfold evi at he
      rw [Option.bind_eq_some_iff] at he
      obtain ⟨⟨⟨m, v⟩, S1⟩, e1, he⟩ := he
      refine ⟨S, Hf, F, _, S1, rel, e1, fun x H1 Hf1 F1 g1 p1 => ?_⟩
      obtain ⟨Hf1', s1, rel1, st1, re1, rf1⟩ := g1.opd
      cases v with
      | int k =>
        obtain ⟨rfl, rfl⟩ := Prod.mk.inj (Option.some.inj he)
        obtain rfl := re1.int_
        exact ⟨k, rfl, q H1 Hf1' F1 rel1 st1 fun hp => p1 (by unfold CO.pure at hp; exact hp)⟩
      | _ => cases he
  refine peBy (pe_slice (p2 := sp) sl_val ha (part lo hl) (part hi hh)) fun σ H Q ⟨S, Hf, F, r, S', rel, he, q⟩ => ?_
  unfold ev at he
  rw [Option.bind_eq_some_iff] at he
  obtain ⟨⟨w, S1⟩, e1, he⟩ := he
  rw [gd_some] at he
  obtain ⟨l, he⟩ := he
  rw [Option.bind_eq_some_iff] at he
  obtain ⟨⟨t, S2⟩, e2, he⟩ := he
  rw [Option.bind_eq_some_iff] at he
  obtain ⟨⟨u, S3⟩, e3, he⟩ := he
  rw [Option.map_eq_some_iff] at he
  obtain ⟨z, e4, he⟩ := he
  obtain ⟨rfl, rfl⟩ := Prod.mk.inj he
  refine ⟨S, Hf, F, w, S1, rel, e1, fun x H1 Hf1 F1 g1 p1 => ?_⟩
  obtain ⟨Hf1', s1, rel1, st1, re1, rf1⟩ := g1.opd
  refine ⟨S1, Hf1', F1, t, S2, rel1, e2, fun H2 Hf2 F2 rel2 st2 p2 => ?_⟩
  refine ⟨S2, Hf2, F2, u, S3, rel2, e3, fun H3 Hf3 F3 rel3 st3 p3 => ?_⟩
  refine ⟨_, Hf3, z, rel3.sub, carry re1 rf1 l (fun hp => ?_) (st2.hf.trans st3.hf) rel3.sub, e4, fun v H4 nw => ?_⟩
  · rw [Bool.and_eq_true] at hp
    exact (p2 hp.1).trans (p3 hp.2)
  · obtain ⟨Hf4, g⟩ := nw.gives rel3 (st1.trans (st2.trans st3))
    refine q v H4 Hf4 F3 g fun hp => ?_
    unfold CE.pure at hp
    simp only [Bool.and_eq_true] at hp
    exact (p1 hp.1.1).trans ((p2 hp.1.2).trans ((p3 hp.2).trans nw.sub))
/-- x[m].pop(0) -/
theorem s_popAt (c : Ctx free D n N sc X) {i : Nat} {x : Str} {px pk pa p : Pos} {k j : CE} (hi : N[i]? = some x) (hv : visB sc x = true) (ok : okName x = true) (hl : (pa.endLine == p.line) = true) :
    PE X (CE.popAt i x px k pk j pa p).py (tEv X.K D (.popAt i x px k pk j pa p)) := by
  refine ⟨fun pins s σ H Q I h => ?_⟩
  obtain ⟨S, Hf, F, r, S', rel, he, q⟩ := h
  unfold ev at he
  split at he
  · rename_i d xs m k1 k2 k3 k4 hS
    rw [Option.bind_eq_some_iff] at he
    obtain ⟨jj, e1, he⟩ := he
    split at he
    · rename_i w ws e2
      rw [gd_some] at he
      obtain ⟨fl, he⟩ := he
      obtain ⟨rfl, rfl⟩ := Prod.mk.inj (Option.some.inj he)
      have h1 : PE X (.Name x px) (tVar i) := pe_var (i := i) (by rw [c.hN]; exact hi) (by rw [c.sc]; exact visB_ok hv) (okName_ok ok).1 (okName_ok ok).2.1
      have pe := pe_bm (cpos := p) (apos := pa) PySem.F.plainAttrs_list PySem.F.slot_list_pop PySem.F.type_list_pop (mt_popAt (X := X)) (pe_ix (pos := pk) ix_list h1 (pe_int (i := m) (j := k1) (pos := k2)) (fun _ _ => rfl)) (pa_cons (pe_int (i := 0) (j := k3) (pos := k4)) pa_nil rfl) rfl rfl hl rfl rfl
      refine pe.run pins s σ H Q I ?_
      obtain ⟨y, G, F0, hy, ow, rel0, nd, iff, off⟩ := rel.take hS
      cases ow with
      | frz hd _ => rcases hd with z | z <;> cases z
      | lst ha l =>
        rename_i a ys G0
        obtain ⟨b, G1, G2, G3, eb, eG, owb, put⟩ := l.split e2
        cases owb with
        | frz hd _ => rcases hd with z | z <;> cases z
        | lst hb lb =>
          rename_i ab zs Gc
          cases lb with
          | cons ow1 lt =>
            rename_i z1 zt Ga Gt
            obtain ⟨rfl, ow1'⟩ := ow1.flat (d' := 0) fl
            have rep : Rep X.K Hf w z1 := by cases ow1' with | frz _ r => exact r
            rw [List.nil_append] at eG
            subst eG
            have inG : ab ∈ a :: (G1 ++ ab :: Gt ++ G3) := by simp
            have offb : Hf ab = none := off ab inG
            have nd2 := nd
            simp only [List.nodup_append, List.nodup_cons, List.mem_append, List.mem_cons] at nd2
            have ab0 : ab ∉ F0 := fun z => by have := nd2.2.2 ab z ab (by simp); exact this rfl
            have aab : a ≠ ab := fun z => by
              have := nd2.2.1.1
              rw [z] at this
              exact this (by simp)
            have s1 : ab ∉ G1 := by grind
            have s3 : ab ∉ G3 := by grind
            have st : ab ∉ Gt := by grind
            let H' := upd H ab (.lst zt)
            have keep : ∀ c, c ≠ ab → ∀ o, H c = some o → H' c = some o := fun c n o e => by
              show upd H ab (.lst zt) c = some o
              rw [upd_ne n]; exact e
            have own' : Own X.K Hf H' (d + 2) (.lst (xs.set jj (.lst ws))) (.ref a) (a :: (G1 ++ ab :: Gt ++ G3)) := by
              have inner : Own X.K Hf H' (d + 1) (.lst ws) (.ref ab) (ab :: Gt) := .lst upd_same (lt.mono (HSub.refl _) fun c hc o e => keep c (fun z => st (z ▸ hc)) o e)
              have outer := put (H' := H') (fun c hc o e => keep c (fun z => by subst z; exact hc.elim s1 s3) o e) inner
              rw [show ys.set jj (.ref ab) = ys by
                apply List.ext_getElem?
                intro t
                rw [List.getElem?_set]
                split
                · rename_i e; subst e
                  split
                  · exact eb.symm
                  · rename_i hl; rw [List.getElem?_eq_none (by omega)]
                · rfl] at outer
              exact .lst (keep a aab _ ha) outer
            obtain ⟨F', relN, subN⟩ := (rel0.mut (p := ab) (o := .lst zt) ab0 offb).put (i := i) (by rw [List.length_set]; exact lt_of_get hS) own' nd off
            rw [List.set_set, set_same hy] at relN
            refine ⟨_, hy, a, ys, m, .ref ab, rfl, rfl, .inl (.inl ha), by unfold atI; rw [l.length, e1]; exact eb, .inl ⟨rfl, _, .inl (.inl hb)⟩, ab, _, 0, 0, z1, rfl, rfl, hb, by decide, by decide, by simp [seqIndex?], rfl, ?_⟩
            refine q z1 H' Hf F' (.frz relN ⟨HSub.refl _, fun c o e nF => keep c (fun z => nF ((iff c).mpr (.inr (z ▸ inG)))) o e, fun _ _ _ _ => rfl, fun c hc => .inl ((iff c).mpr (subN c hc))⟩ rep (.inl rfl)) fun hp => ?_
            unfold CE.pure at hp
            cases hp
    · cases he
  · cases he
end
end BV
/-! A def's call. -/
namespace BV
open PySem PySem.Spec PyProof.Rows L2
def CEs.len : CEs → Nat
  | .nil => 0
  | .cons _ es => es.len + 1
theorem CEs.py_len : ∀ es : CEs, es.py.length = es.len
  | .nil => rfl
  | .cons _ es => congrArg Nat.succ (CEs.py_len es)
theorem CKs.names_len : ∀ ks : CKs, ks.py.length = ks.names.length
  | .nil => rfl
  | .cons _ _ _ ks => congrArg Nat.succ (CKs.names_len ks)
section
variable {K : Frag} {Hf Hf' H H' : Hp} {F F' : List Addr} {S : Slots} {σ : L2.St}
theorem arrange_vals {xs zs dvs : List V} {us ws ds : List Value} (h1 : Vals xs us) (h2 : Vals zs ws) (h3 : Vals dvs ds) : ∀ {ar : List Src} {vs : List Value}, arrange us ws ds ar = some vs → ∃ ys, arrange xs zs dvs ar = some ys ∧ Vals ys vs
  | [], vs, e => by cases e; exact ⟨[], rfl, .nil⟩
  | s :: r, vs, e => by
    have pick : ∀ {l : List V} {m : List Value} {i : Nat}, Vals l m → (m[i]?.bind fun a => (arrange us ws ds r).map (a :: ·)) = some vs → ∃ ys, (l[i]?.bind fun a => (arrange xs zs dvs r).map (a :: ·)) = some ys ∧ Vals ys vs := by
      intro l m i hv e
      rw [Option.bind_eq_some_iff] at e
      obtain ⟨a, e1, e⟩ := e
      rw [Option.map_eq_some_iff] at e
      obtain ⟨vs', e2, rfl⟩ := e
      obtain ⟨ys', e3, r'⟩ := arrange_vals h1 h2 h3 e2
      cases q : l[i]? with
      | none => rw [Vals.none_of hv q] at e1; cases e1
      | some y =>
        obtain ⟨u, e4, ru⟩ := hv.get q
        rw [e4] at e1; cases e1
        exact ⟨y :: ys', by simp [e3], .cons ru r'⟩
    cases s with
    | pos i => exact pick h1 e
    | kw i => exact pick h2 e
    | dfl i => exact pick h3 e
theorem ArgsOk.get : ∀ {as : List Arg} {xs : List V} {i : Nat} {a : Arg} {x : V}, ArgsOk K Hf σ as xs → as[i]? = some a → xs[i]? = some x → ArgsOk K Hf σ [a] [x]
  | _, _, _, _, _, .nil, e, _ => by simp at e
  | _, _, 0, _, _, .val h _, e, e2 => by simp at e e2; subst e; subst e2; exact .val h .nil
  | _, _, 0, _, _, .byRef h _, e, e2 => by simp at e e2; subst e; subst e2; exact .byRef h .nil
  | _, _, i + 1, _, _, .val _ r, e, e2 => ArgsOk.get (i := i) r (by simpa using e) (by simpa using e2)
  | _, _, i + 1, _, _, .byRef _ r, e, e2 => ArgsOk.get (i := i) r (by simpa using e) (by simpa using e2)
theorem ArgsOk.put {a : Arg} {x : V} {as : List Arg} {xs : List V} (h : ArgsOk K Hf σ [a] [x]) (r : ArgsOk K Hf σ as xs) : ArgsOk K Hf σ (a :: as) (x :: xs) := by
  cases h with
  | val h _ => exact .val h r
  | byRef h _ => exact .byRef h r
theorem arrange_args {as bs ds : List Arg} {xs zs dvs : List V} (h1 : ArgsOk K Hf σ as xs) (h2 : ArgsOk K Hf σ bs zs) (h3 : ArgsOk K Hf σ ds dvs) : ∀ {ar : List Src} {as' : List Arg} {ys : List V}, arrange as bs ds ar = some as' → arrange xs zs dvs ar = some ys → ArgsOk K Hf σ as' ys
  | [], _, _, e, e2 => by cases e; cases e2; exact .nil
  | s :: r, as', ys, e, e2 => by
    have pick : ∀ {l : List Arg} {m : List V} {i : Nat}, ArgsOk K Hf σ l m → (l[i]?.bind fun a => (arrange as bs ds r).map (a :: ·)) = some as' → (m[i]?.bind fun a => (arrange xs zs dvs r).map (a :: ·)) = some ys → ArgsOk K Hf σ as' ys := by
      intro l m i hv e e2
      rw [Option.bind_eq_some_iff] at e e2
      obtain ⟨a, e1, e⟩ := e
      obtain ⟨y, e4, e2⟩ := e2
      rw [Option.map_eq_some_iff] at e e2
      obtain ⟨vs', e5, rfl⟩ := e
      obtain ⟨ys', e6, rfl⟩ := e2
      exact (hv.get e1 e4).put (arrange_args h1 h2 h3 e5 e6)
    cases s with
    | pos i => exact pick h1 e e2
    | kw i => exact pick h2 e e2
    | dfl i => exact pick h3 e e2
theorem arrange_vals_only {as bs ds : List Arg} (h1 : refsOf as = []) (h2 : refsOf bs = []) (h3 : refsOf ds = []) : ∀ {ar : List Src} {as' : List Arg}, arrange as bs ds ar = some as' → refsOf as' = []
  | [], _, e => by cases e; rfl
  | s :: r, as', e => by
    have mem : ∀ {l : List Arg} {i : Nat} {a : Arg}, refsOf l = [] → l[i]? = some a → ∃ v, a = .val v := by
      intro l
      induction l with
      | nil => intro i a _ e; simp at e
      | cons b l ih =>
        intro i a h e
        cases b with
        | byRef j => cases h
        | val v =>
          cases i with
          | zero => simp at e; exact ⟨v, e.symm⟩
          | succ i => exact ih (i := i) h (by simpa using e)
    have pick : ∀ {l : List Arg} {i : Nat}, refsOf l = [] → (l[i]?.bind fun a => (arrange as bs ds r).map (a :: ·)) = some as' → refsOf as' = [] := by
      intro l i hl e
      rw [Option.bind_eq_some_iff] at e
      obtain ⟨a, e1, e⟩ := e
      rw [Option.map_eq_some_iff] at e
      obtain ⟨vs', e5, rfl⟩ := e
      obtain ⟨v, rfl⟩ := mem hl e1
      show refsOf vs' = []
      exact arrange_vals_only h1 h2 h3 e5
    cases s with
    | pos i => exact pick h1 e
    | kw i => exact pick h2 e
    | dfl i => exact pick h3 e
theorem ArgsOk.ofRepL : ∀ {vs : List Val} {xs : List V}, RepL K Hf vs xs → ArgsOk K Hf σ (vs.map .val) xs
  | _, _, .nil => .nil
  | _, _, .cons h r => .val h (ArgsOk.ofRepL r)
theorem argRs_set {i : Nat} : ∀ {as : List Arg}, i ∉ refsOf as → argRs (S.set i none) as = argRs S as
  | [], _ => rfl
  | .val v :: r, h => by
    unfold argRs
    rw [argRs_set (as := r) h]
    rfl
  | .byRef j :: r, h => by
    have h' : i ≠ j ∧ i ∉ refsOf r := by simpa [refsOf] using h
    unfold argRs
    rw [argRs_set (as := r) h'.2]
    have : argR (S.set i none) (.byRef j) = argR S (.byRef j) := by
      show (match (S.set i none)[j]? with
        | some (some r) => some r
        | _ => none) = match S[j]? with
        | some (some r) => some r
        | _ => none
      rw [List.getElem?_set_ne h'.1]
    rw [this]
theorem argR_ref {i : Nat} {x : R} (h : argR S (.byRef i) = some x) : S[i]? = some (some x) := by
  have h : (match S[i]? with
    | some (some r) => some r
    | _ => none) = some x := h
  split at h
  · rename_i e; cases h; exact e
  · cases h
theorem wipeS_set {i : Nat} : ∀ {l : List Nat}, (wipeS S l).set i none = wipeS (S.set i none) l
  | [] => rfl
  | j :: l => by
    unfold wipeS
    rw [← wipeS_set (i := i) (l := l)]
    by_cases h : j = i
    · subst h; rfl
    · rw [List.set_comm _ _ h]
/-- the slots that are handed on are taken out -/
theorem callRel : ∀ {as : List Arg} {ys : List V} {rs : List R} {S : Slots} {F : List Addr}, Rel K Hf F S σ H → ArgsOk K Hf σ as ys → argRs S as = some rs → (refsOf as).Nodup →
    ∃ Fc Fr, Rel K Hf Fc (rs.map some) (ys.map some) H ∧ Rel K Hf Fr (wipeS S (refsOf as)) σ H ∧ (Fr ++ Fc).Nodup ∧ (∀ a, a ∈ F ↔ a ∈ Fr ∨ a ∈ Fc) ∧ (refsOf as = [] → Fc = [])
  | [], _, _, S, F, rel, .nil, e, _ => by
    cases e
    exact ⟨[], F, ⟨rel.sub, List.nodup_nil, fun a h => (by cases h), .nil⟩, rel, by simpa using rel.nd, fun a => by simp, fun _ => rfl⟩
  | .val v :: as, _, rs, S, F, rel, .val h r, e, nd => by
    unfold argRs at e
    rw [Option.bind_eq_some_iff] at e
    obtain ⟨x, e1, e⟩ := e
    cases e1
    rw [Option.map_eq_some_iff] at e
    obtain ⟨rs', e2, rfl⟩ := e
    obtain ⟨Fc, Fr, a1, a2, a3, a4, a5⟩ := callRel rel r e2 nd
    refine ⟨Fc, Fr, ⟨a1.sub, a1.nd, a1.off, ?_⟩, a2, a3, a4, a5⟩
    have := Plcs.cons (.is (.frz (H := H) (d := 0) (.inl rfl) h)) a1.plc
    simpa using this
  | .byRef i :: as, _, rs, S, F, rel, .byRef h r, e, nd => by
    unfold argRs at e
    rw [Option.bind_eq_some_iff] at e
    obtain ⟨x, e1, e⟩ := e
    rw [Option.map_eq_some_iff] at e
    obtain ⟨rs', e2, rfl⟩ := e
    have hS := argR_ref e1
    · have nd' : i ∉ refsOf as ∧ (refsOf as).Nodup := by simpa [refsOf] using nd
      obtain ⟨y, G, F0, hy, ow, rel0, nd0, iff, off⟩ := rel.take (d := x.1) (v := x.2) hS
      rw [h] at hy
      cases hy
      obtain ⟨Fc, Fr, a1, a2, a3, a4, a5⟩ := callRel rel0 r (by rw [argRs_set nd'.1]; exact e2) nd'.2
      have g0 : ∀ a ∈ G, a ∉ F0 := fun a ha hf => (List.nodup_append.mp nd0).2.2 a hf a ha rfl
      refine ⟨G ++ Fc, Fr, ⟨a1.sub, ?_, fun a ha => ?_, ?_⟩, ?_, ?_, fun a => ?_, fun z => by cases z⟩
      · have := a1.nd
        rw [List.nodup_append] at nd0 ⊢
        refine ⟨nd0.2.1, this, fun a ha b hb e => ?_⟩
        subst e
        exact g0 a ha ((a4 a).mpr (.inr hb))
      · rcases List.mem_append.mp ha with z | z
        · exact off a z
        · exact a1.off a z
      · have := Plcs.cons (.is ow) a1.plc
        simpa using this
      · show Rel K Hf Fr ((wipeS S (refsOf as)).set i none) σ H
        rw [wipeS_set]; exact a2
      · rw [List.nodup_append] at nd0 a3 ⊢
        refine ⟨a3.1, ?_, fun a ha b hb e => ?_⟩
        · rw [List.nodup_append]
          refine ⟨nd0.2.1, a3.2.1, fun a ha b hb e => ?_⟩
          subst e
          exact g0 a ha ((a4 a).mpr (.inr hb))
        · subst e
          rcases List.mem_append.mp hb with z | z
          · exact g0 a z ((a4 a).mpr (.inl ha))
          · exact a3.2.2 a ha a z rfl
      · rw [iff a, a4 a, List.mem_append]
        grind
/-- the others stand as they stood -/
theorem Rel.frame {Fr Fc F2 : List Addr} (r : Rel K Hf Fr S σ H) (st : Step Hf Fc H Hf' F2 H') (dis : ∀ a ∈ Fr, a ∉ Fc) (s : HSub Hf' H') : Rel K Hf' Fr S σ H' ∧ ∀ a ∈ Fr, a ∉ F2 := by
  refine ⟨⟨s, r.nd, fun a ha => ?_, r.plc.mono st.hf fun a ha o e => st.fr a o e (dis a ha)⟩, fun a ha h => ?_⟩
  · obtain ⟨o, e⟩ := r.dom a ha
    rw [st.new a o e (dis a ha)]; exact r.off a ha
  · rcases st.own a h with z | z
    · exact dis a ha z
    · obtain ⟨o, e⟩ := r.dom a ha
      rw [e] at z; cases z
theorem Rel.uncons {p : Option R} {y : Option V} {P : Slots} {ys : L2.St} (r : Rel K Hf F (p :: P) (y :: ys) H) : ∃ F1 F2, F = F1 ++ F2 ∧ Plc K Hf H p y F1 ∧ Rel K Hf F2 P ys H := by
  obtain ⟨a, b, c, d⟩ := r
  cases d with
  | cons h t =>
    rename_i F1 F2
    exact ⟨F1, F2, rfl, h, a, (List.nodup_append.mp b).2.1, fun x hx => c x (List.mem_append_right _ hx), t⟩
/-- what was handed on comes back -/
theorem backRel : ∀ {as : List Arg} {ys : List V} {fin S S' : Slots} {Fr F2 : List Addr}, Rel K Hf Fr S σ H → Rel K Hf F2 fin (ys.map some) H → (Fr ++ F2).Nodup → ArgsOk K Hf' σ as ys → (∀ i ∈ refsOf as, i < S.length) → backS S as fin = some S' →
    ∃ F3, Rel K Hf F3 S' σ H ∧ ∀ a ∈ F3, a ∈ Fr ∨ a ∈ F2
  | [], _, _, S, S', Fr, F2, rel, _, _, _, _, e => by
    cases e
    exact ⟨Fr, rel, fun a h => .inl h⟩
  | .val v :: as, _, fin, S, S', Fr, F2, rel, rf, nd, .val _ r, hl, e => by
    unfold backS at e
    cases fin with
    | nil => have := rf.len; simp at this
    | cons p fin =>
      obtain ⟨G1, G2, rfl, _, rf'⟩ := Rel.uncons (by simpa using rf)
      obtain ⟨F3, a1, a2⟩ := backRel rel rf' (by simp only [List.nodup_append, List.mem_append] at nd ⊢; grind) r hl (by simpa using e)
      exact ⟨F3, a1, fun a h => (a2 a h).imp id fun z => List.mem_append_right _ z⟩
  | .byRef i :: as, _, fin, S, S', Fr, F2, rel, rf, nd, .byRef hy r, hl, e => by
    unfold backS at e
    cases fin with
    | nil => have := rf.len; simp at this
    | cons p fin =>
      obtain ⟨G1, G2, rfl, hp, rf'⟩ := Rel.uncons (by simpa using rf)
      split at e
      · rename_i x0 ex
        have : p = some x0 := by simpa using ex
        subst this
        cases hp with
        | is ow =>
          have n1 : (Fr ++ G1).Nodup := by simp only [List.nodup_append, List.mem_append] at nd ⊢; grind
          obtain ⟨F3, b1, b2⟩ := rel.put (i := i) (hl i (by simp [refsOf])) ow n1 (fun a ha => rf.off a (List.mem_append_left _ ha))
          rw [set_same hy] at b1
          have n2 : (F3 ++ G2).Nodup := by
            have k1 := b1.nd
            rw [List.nodup_append]
            refine ⟨k1, rf'.nd, fun a ha b hb e => ?_⟩
            subst e
            simp only [List.nodup_append, List.mem_append] at nd
            rcases b2 a ha with z | z <;> grind
          obtain ⟨F4, c1, c2⟩ := backRel b1 rf' n2 r (fun j hj => by rw [List.length_set]; exact hl j (by simp [refsOf, hj])) (by simpa using e)
          refine ⟨F4, c1, fun a h => ?_⟩
          rcases c2 a h with z | z
          · exact (b2 a z).imp id fun z => List.mem_append_left _ z
          · exact .inr (List.mem_append_right _ z)
      · cases e
end
section
variable {free : List Str} {D : Den} {n : Nat} {N : List Str} {sc : Scope} {X : Cx}
theorem eva_pure : ∀ {es : CEs} {S S' : Slots} {as : List Arg}, es.pure = true → eva D es S = some (as, S') → refsOf as = []
  | .nil, _, _, _, _, e => by unfold eva at e; cases e; rfl
  | .cons e es, S, S', as, hp, h => by
    have hp : (e.pure && es.pure) = true := hp
    rw [Bool.and_eq_true] at hp
    have h' : ((ev D e S).bind fun q => match q.1.1 with
      | .own _ => (eva D es q.2).map fun t => (Arg.val q.1.2 :: t.1, t.2)
      | .bor => none) = some (as, S') := by
      cases e <;> first | exact h | cases hp.1
    rw [Option.bind_eq_some_iff] at h'
    obtain ⟨⟨⟨m, v⟩, S1⟩, e1, h'⟩ := h'
    cases m with
    | bor => cases h'
    | own d =>
      simp only [Option.map_eq_some_iff] at h'
      obtain ⟨⟨vs', S2⟩, e2, h'⟩ := h'
      obtain ⟨rfl, rfl⟩ := Prod.mk.inj h'
      exact (eva_pure hp.2 e2 : refsOf vs' = [])
theorem evk_refs : ∀ {es : CKs} {S S' : Slots} {as : List Arg}, evk D es S = some (as, S') → refsOf as = []
  | .nil, _, _, _, e => by unfold evk at e; cases e; rfl
  | .cons x e p es, S, S', as, h => by
    unfold evk at h
    rw [Option.bind_eq_some_iff] at h
    obtain ⟨⟨⟨m, v⟩, S1⟩, e1, h⟩ := h
    cases m with
    | bor => cases h
    | own d =>
      simp only [Option.map_eq_some_iff] at h
      obtain ⟨⟨vs', S2⟩, e2, h⟩ := h
      obtain ⟨rfl, rfl⟩ := Prod.mk.inj h
      exact (evk_refs e2 : refsOf vs' = [])
theorem evk_len : ∀ {ks : CKs} {S S' : Slots} {bs : List Arg}, evk D ks S = some (bs, S') → bs.length = ks.names.length
  | .nil, _, _, _, e => by unfold evk at e; cases e; rfl
  | .cons x e p es, S, S', as, h => by
    unfold evk at h
    rw [Option.bind_eq_some_iff] at h
    obtain ⟨⟨⟨m, v⟩, S1⟩, e1, h⟩ := h
    cases m with
    | bor => cases h
    | own d =>
      simp only [Option.map_eq_some_iff] at h
      obtain ⟨⟨vs', S2⟩, e2, h⟩ := h
      obtain ⟨rfl, rfl⟩ := Prod.mk.inj h
      exact congrArg Nat.succ (evk_len e2)
theorem eva_len : ∀ {es : CEs} {S S' : Slots} {as : List Arg}, eva D es S = some (as, S') → as.length = es.len
  | .nil, _, _, _, e => by unfold eva at e; cases e; rfl
  | .cons e es, S, S', as, h => by
    by_cases hr : ∃ i x p, e = .ref i x p
    · obtain ⟨i, x, p, rfl⟩ := hr
      unfold eva at h
      split at h
      · rw [Option.map_eq_some_iff] at h
        obtain ⟨⟨vs', S2⟩, e2, h⟩ := h
        obtain ⟨rfl, rfl⟩ := Prod.mk.inj h
        exact congrArg Nat.succ (eva_len e2)
      · cases h
    · have h' : ((ev D e S).bind fun q => match q.1.1 with
        | .own _ => (eva D es q.2).map fun t => (Arg.val q.1.2 :: t.1, t.2)
        | .bor => none) = some (as, S') := by
        cases e <;> first | exact h | exact absurd ⟨_, _, _, rfl⟩ hr
      rw [Option.bind_eq_some_iff] at h'
      obtain ⟨⟨⟨m, v⟩, S1⟩, e1, h'⟩ := h'
      cases m with
      | bor => cases h'
      | own d =>
        simp only [Option.map_eq_some_iff] at h'
        obtain ⟨⟨vs', S2⟩, e2, h'⟩ := h'
        obtain ⟨rfl, rfl⟩ := Prod.mk.inj h'
        exact congrArg Nat.succ (eva_len e2)
theorem ArgsOk.length {K : Frag} {Hf : Hp} {σ : L2.St} : ∀ {as : List Arg} {xs : List V}, ArgsOk K Hf σ as xs → xs.length = as.length
  | _, _, .nil => rfl
  | _, _, .val _ r => congrArg Nat.succ (ArgsOk.length r)
  | _, _, .byRef _ r => congrArg Nat.succ (ArgsOk.length r)
theorem refs_vals : ∀ (vs : List Val), refsOf (vs.map Arg.val) = []
  | [] => rfl
  | _ :: vs => refs_vals vs
theorem s_call (c : Ctx free D n N sc X) {ci : Nat} {x : Str} {np p : Pos} {es : CEs} {ks : CKs} {sh : CallSh} (hsh : D.calls[ci]? = some sh) (hx : sh.x = x) (hn : es.len = sh.n) (hk : ks.names = sh.ks) (g : glB sc x = true) (ok : okName x = true)
    (ha : PA X es.py (tEva X.K D es)) (hkw : PK X ks.py (tEvk X.K D ks)) : PE X (CE.call ci x np es ks p).py (tEv X.K D (.call ci x np es ks p)) := by
  refine ⟨fun pins s σ H Q I h => ?_⟩
  obtain ⟨S, Hf, F, r, S', rel, he, q⟩ := h
  unfold ev at he
  rw [hsh] at he
  simp only [Option.bind_some] at he
  rw [Option.bind_eq_some_iff] at he
  obtain ⟨⟨as, S1⟩, e1, he⟩ := he
  rw [Option.bind_eq_some_iff] at he
  obtain ⟨⟨bs, S2⟩, e2, he⟩ := he
  rw [Option.bind_eq_some_iff] at he
  obtain ⟨as', e3, he⟩ := he
  rw [Option.bind_eq_some_iff] at he
  obtain ⟨rs, e4, he⟩ := he
  rw [gd_some] at he
  obtain ⟨nd, he⟩ := he
  have nd := of_decide_eq_true nd
  rw [Option.bind_eq_some_iff] at he
  obtain ⟨⟨w, fin⟩, e5, he⟩ := he
  rw [Option.map_eq_some_iff] at he
  obtain ⟨S3, e6, he⟩ := he
  obtain ⟨rfl, rfl⟩ := Prod.mk.inj he
  obtain ⟨fa, fd, ps, ds, dvs, hm, hkp, G, rd, rdv, hb⟩ := (c.cal ci sh hsh).ex
  rw [hx] at hm
  -- behind the arguments
  have core : ∀ (s2 : Shared) (us ws : List Value) (xs zs : List V) (H2 Hf2 : Hp) (F2 : List Addr), Inv X pins σ H2 s2 → Vals xs us → Vals zs ws → us.length = sh.n → ws.length = sh.ks.length → Rel X.K Hf2 F2 S2 σ H2 → Step Hf F H Hf2 F2 H2 →
      ArgsOk X.K Hf2 σ as xs → ArgsOk X.K Hf2 σ bs zs → ((es.pure && ks.pure) = true → HSub H H2) → wpAny (model X.prog X.w) X.A (call (.ref fa) us (sh.ks.zip ws)) (EP X pins σ Q) X.xe s2 := by
    intro s2 us ws xs zs H2 Hf2 F2 I2 r1 r2 l1 l2 rel2 st2 o1 o2 p2
    obtain ⟨vs, ev', bt⟩ := hb s2 us ws I2.kIn l1 l2
    obtain ⟨ys, ey, ry⟩ := arrange_vals r1 r2 rd ev'
    have o3 : ArgsOk X.K Hf2 σ (sh.dv.map .val) dvs := .ofRepL (rdv.mono fun a o e => by cases e)
    have oy := arrange_args o1 o2 o3 e3 ey
    obtain ⟨Fc, Fr, a1, a2, a3, a4, a5⟩ := callRel rel2 oy e4 nd
    refine G.call (E := fun _ _ _ => False) (args := ⟨us, sh.ks.zip ws⟩) c.gu c.room I2 bt ry ⟨Hf2, Fc, rs, w, fin, a1, e5, fun y H3 Hf3 F3 gv => ?_⟩
    obtain ⟨rel3, st3, Gr, ow, nd3, off3, fr3⟩ := gv
    have dis : ∀ a ∈ Fr, a ∉ Fc := fun a ha hf => (List.nodup_append.mp a3).2.2 a ha a hf rfl
    obtain ⟨relR, disR⟩ := a2.frame st3 dis rel3.sub
    have n4 : (Fr ++ F3).Nodup := by
      rw [List.nodup_append]
      exact ⟨relR.nd, rel3.nd, fun a ha b hb e => disR a ha (e ▸ hb)⟩
    have lens : ∀ i ∈ refsOf as', i < (wipeS S2 (refsOf as')).length := by
      intro i hi
      have lw : ∀ l : List Nat, (wipeS S2 l).length = S2.length := by
        intro l
        induction l with
        | nil => rfl
        | cons a b ih => unfold wipeS; rw [List.length_set, ih]
      rw [lw]
      have mem : ∀ {l : List Arg} {rs : List R}, argRs S2 l = some rs → i ∈ refsOf l → i < S2.length := by
        intro l
        induction l with
        | nil => intro rs _ h; cases h
        | cons a l ih =>
          intro rs e h
          unfold argRs at e
          rw [Option.bind_eq_some_iff] at e
          obtain ⟨x, e7, e⟩ := e
          rw [Option.map_eq_some_iff] at e
          obtain ⟨rs', e8, _⟩ := e
          cases a with
          | val v => exact ih e8 h
          | byRef j =>
            rcases List.mem_cons.mp h with z | z
            · subst z
              exact lt_of_get (argR_ref e7)
            · exact ih e8 z
      exact mem e4 hi
    obtain ⟨F4, b1, b2⟩ := backRel relR rel3 n4 oy lens e6
    have grF : ∀ a ∈ Gr, a ∉ Fr := fun a ha hf => by
      rcases fr3 a ha with z | z
      · exact dis a hf z
      · obtain ⟨o, e⟩ := a2.dom a hf
        rw [e] at z; cases z
    refine q y H3 Hf3 F4 ⟨b1, st2.trans ⟨st3.hf, fun a o e nF => st3.fr a o e fun z => nF ((a4 a).mpr (.inr z)), fun a o e nF => st3.new a o e fun z => nF ((a4 a).mpr (.inr z)), fun a ha => ?_⟩, Gr, ow, ?_, off3, fun a ha => ?_⟩ fun hp => ?_
    · rcases b2 a ha with z | z
      · exact .inl ((a4 a).mpr (.inl z))
      · exact (st3.own a z).imp (fun z => (a4 a).mpr (.inr z)) id
    · rw [List.nodup_append] at nd3 ⊢
      refine ⟨b1.nd, nd3.2.1, fun a ha b hb e => ?_⟩
      subst e
      rcases b2 a ha with z | z
      · exact grF a hb z
      · exact nd3.2.2 a z a hb rfl
    · rcases fr3 a ha with z | z
      · exact st2.own a ((a4 a).mpr (.inr z))
      · exact st2.fresh z
    · unfold CE.pure at hp
      have hp' := hp
      rw [Bool.and_eq_true] at hp'
      have : Fc = [] := a5 (arrange_vals_only (eva_pure hp'.1 e1) (evk_refs e2) (refs_vals _) e3)
      subst this
      exact (p2 hp).trans fun a o e => st3.fr a o e (by simp)
  obtain ⟨ka1, ka2, ka3⟩ := kw_all ks p X.env
  rw [hk] at ka3
  show wpAny (model X.prog X.w) X.A (eval (.Call (.Name x np) es.py ks.py p) X.env) (EP X pins σ Q) X.xe s
  refine wpAny_Call_Name_kw (ld_glob I (c.gl g) hm ?_ (okName_ok ok).1)
  -- lengths of what comes
  have kwRun : ∀ (s1 : Shared) (H1 Hf1 : Hp) (F1 : List Addr) (us : List Value) (xs : List V), Inv X pins σ H1 s1 → Vals xs us → us.length = sh.n → Rel X.K Hf1 F1 S1 σ H1 → Step Hf F H Hf1 F1 H1 → ArgsOk X.K Hf1 σ as xs → (es.pure = true → HSub H H1) →
      wpAny (model X.prog X.w) X.A (evalAll ((backToKw p (keywordEach ks.py X.env)).map (·.2))) (fun ws s2 => X.K.In s2.heap ∧ wpAny (model X.prog X.w) X.A (call (.ref fa) us (((backToKw p (keywordEach ks.py X.env)).filterMap (·.1)).zip ws)) (EP X pins σ Q) X.xe s2) X.xe s1 := by
    intro s1 H1 Hf1 F1 us xs I1 r1 l1 rel1 st1 o1 p1
    refine thn (hkw.run p pins s1 σ H1 _ I1 ⟨S1, Hf1, F1, bs, S2, rel1, e2, fun zs H2 Hf2 F2 g2 p2 => (⟨Hf2, F2, g2, p2⟩ : ∃ Hf2 F2, GivesA X.K Hf1 F1 H1 S2 σ bs zs Hf2 F2 H2 ∧ (ks.pure = true → HSub H1 H2))⟩) ?_
    rintro ws s2 ⟨zs, H2, I2, r2, Hf2, F2, g2, p2⟩
    refine ⟨I2.kIn, ?_⟩
    rw [ka3]
    have lw : ws.length = sh.ks.length := by rw [← r2.length, g2.res.length, evk_len e2, hk]
    refine core s2 us ws xs zs H2 Hf2 F2 I2 r1 r2 l1 lw g2.rel (st1.trans g2.st) (o1.mono g2.st.hf) g2.res fun hp => ?_
    rw [Bool.and_eq_true] at hp
    exact (p1 hp.1).trans (p2 hp.2)
  have posRun : wpAny (model X.prog X.w) X.A (spliced (backTo p (starEach es.py X.env))) (fun us s1 => ∃ xs H1 Hf1 F1, Inv X pins σ H1 s1 ∧ Vals xs us ∧ us.length = sh.n ∧ Rel X.K Hf1 F1 S1 σ H1 ∧ Step Hf F H Hf1 F1 H1 ∧ ArgsOk X.K Hf1 σ as xs ∧ (es.pure = true → HSub H H1)) X.xe s := by
    refine thn (ha.run p pins s σ H _ I ⟨S, Hf, F, as, S1, rel, e1, fun xs H1 Hf1 F1 g1 p1 => (⟨Hf1, F1, g1, p1⟩ : ∃ Hf1 F1, GivesA X.K Hf F H S1 σ as xs Hf1 F1 H1 ∧ (es.pure = true → HSub H H1))⟩) ?_
    rintro us s1 ⟨xs, H1, I1, r1, Hf1, F1, g1, p1⟩
    exact ⟨xs, H1, Hf1, F1, I1, r1, by rw [← r1.length, g1.res.length, eva_len e1, hn], g1.rel, g1.st, g1.res, p1⟩
  cases es with
  | nil =>
    have e1' : some (([] : List Arg), S) = some (as, S1) := by have := e1; unfold eva at this; exact this
    obtain ⟨rfl, rfl⟩ := Prod.mk.inj (Option.some.inj e1')
    have hn0 : ([] : List Value).length = sh.n := hn
    have kw := kwRun s H Hf F [] [] I .nil hn0 rel (Step.refl _ _ _) .nil (fun _ => HSub.refl _)
    cases ks with
    | nil =>
      have e2' : some (([] : List Arg), S) = some (bs, S2) := by have := e2; unfold evk at this; exact this
      obtain ⟨rfl, rfl⟩ := Prod.mk.inj (Option.some.inj e2')
      have hk0 : sh.ks = [] := hk.symm
      have := core s [] [] [] [] H Hf F I .nil .nil hn0 (by rw [hk0]; rfl) rel (Step.refl _ _ _) .nil .nil (fun _ => HSub.refl _)
      rw [hk0] at this
      exact PySem.W.callWith_K0 (first := []) I.kIn hkp this
    | cons y e qq ks =>
      exact PySem.W.callWith_KW0 (first := []) I.ok.mod.kin hkp ka1 kw ka2
  | cons e es =>
    have kwAfter := thn posRun (Q' := fun us s1 => wpAny (model X.prog X.w) X.A (evalAll ((backToKw p (keywordEach ks.py X.env)).map (·.2))) (fun ws s2 => X.K.In s2.heap ∧ wpAny (model X.prog X.w) X.A (call (.ref fa) us (((backToKw p (keywordEach ks.py X.env)).filterMap (·.1)).zip ws)) (EP X pins σ Q) X.xe s2) X.xe s1) (by
      rintro us s1 ⟨xs, H1, Hf1, F1, I1, r1, l1, rel1, st1, o1, p1⟩
      exact kwRun s1 H1 Hf1 F1 us xs I1 r1 l1 rel1 st1 o1 p1)
    cases ks with
    | nil =>
      have e2' : some (([] : List Arg), S1) = some (bs, S2) := by have := e2; unfold evk at this; exact this
      obtain ⟨rfl, rfl⟩ := Prod.mk.inj (Option.some.inj e2')
      have hk0 : sh.ks = [] := hk.symm
      refine PySem.W.callWith_K (first := []) (h₀ := X.base) I.ok.mod.kin hkp (thn posRun ?_) (star_cons e _ _) (no_star es p _)
      rintro us s1 ⟨xs, H1, Hf1, F1, I1, r1, l1, rel1, st1, o1, p1⟩
      have := core s1 us [] xs [] H1 Hf1 F1 I1 r1 .nil l1 (by rw [hk0]; rfl) rel1 st1 o1 .nil (fun hp => by rw [Bool.and_eq_true] at hp; exact p1 hp.1)
      rw [hk0] at this
      exact ⟨I1.kIn, this⟩
    | cons y e' qq ks =>
      refine PySem.W.callWith_KW (first := []) (h₀ := X.base) I.ok.mod.kin hkp ka1 kwAfter ?_ (star_cons e _ _)
      rw [ka2, Bool.or_false]
      exact no_star (.cons e es) p _
end
end BV
/-! What is walked, targets, comprehensions. -/
namespace BV
open PySem PySem.Spec PyProof.Rows L2
/-- the i-th thing comes: it stands, or is a new pair -/
def YItem (K : Frag) (Hf : Hp) (vs : List Val) : Nat → Hp → V → Hp → Prop := fun i H x H' => ∃ v, vs[i]? = some v ∧
  ((H' = H ∧ Rep K Hf v x) ∨ ∃ T a b y z, v = .tup [a, b] ∧ x = .ref T ∧ H T = none ∧ H' = upd H T (.tup [y, z]) ∧ Rep K Hf a y ∧ Rep K Hf b z)
def tI (K : Frag) (D : Den) (it : CI) : TI := fun σ H Rr => ∃ S Hf F vs S', Rel K Hf F S σ H ∧ evI D it S = some (vs, S') ∧
  ∀ J H' Hf' F', Rel K Hf' F' S' σ H' → Step Hf F H Hf' F' H' → (it.pure = true → HSub H H') → Walk J vs.length (fun H => HSub Hf' H) (YItem K Hf' vs) → Rr J H'
section
variable {K : Frag} {Hf H : Hp}
theorem RepL.get' : ∀ {vs : List Val} {xs : List V} {i : Nat} {x : V}, RepL K H vs xs → xs[i]? = some x → ∃ v, vs[i]? = some v ∧ Rep K H v x
  | _, _, _, _, .nil, e => by simp at e
  | _, _, 0, _, .cons h _, e => by simp at e; subst e; exact ⟨_, rfl, h⟩
  | _, _, i + 1, x, .cons _ t, e => by
    obtain ⟨u, h1, h2⟩ := RepL.get' (i := i) (x := x) t (by simpa using e)
    exact ⟨u, by simpa using h1, h2⟩
theorem intsFrom_len (lo : Int) : ∀ n, (intsFrom lo n).length = n
  | 0 => rfl
  | n + 1 => congrArg Nat.succ (intsFrom_len (lo + 1) n)
theorem intsFrom_get : ∀ {n : Nat} {lo : Int} {i : Nat}, i < n → (intsFrom lo n)[i]? = some (.int (lo + i))
  | 0, _, _, h => by omega
  | n + 1, lo, 0, _ => by simp [intsFrom]
  | n + 1, lo, i + 1, h => by
    show (intsFrom (lo + 1) n)[i]? = _
    rw [intsFrom_get (by omega)]
    congr 2
    omega
theorem numbered_len : ∀ (xs : List Val) (k : Nat), (numbered k xs).length = xs.length
  | [], _ => rfl
  | _ :: xs, k => congrArg Nat.succ (numbered_len xs (k + 1))
theorem numbered_get : ∀ {xs : List Val} {k i : Nat} {v : Val}, xs[i]? = some v → (numbered k xs)[i]? = some (.tup [.int ((k + i : Nat) : Int), v])
  | [], _, _, _, e => by simp at e
  | x :: xs, k, 0, v, e => by simp at e; subst e; simp [numbered]
  | x :: xs, k, i + 1, v, e => by
    show (numbered (k + 1) xs)[i]? = _
    rw [numbered_get (by simpa using e)]
    congr 5
    omega
theorem pairUp_len : ∀ (xs ys : List Val), (pairUp xs ys).length = min xs.length ys.length
  | [], _ => by simp [pairUp]
  | _ :: _, [] => by simp [pairUp]
  | x :: xs, y :: ys => by simp only [pairUp, List.length_cons, pairUp_len xs ys]; omega
theorem pairUp_get : ∀ {xs ys : List Val} {i : Nat} {v w : Val}, xs[i]? = some v → ys[i]? = some w → (pairUp xs ys)[i]? = some (.tup [v, w])
  | [], _, _, _, _, e, _ => by simp at e
  | _ :: _, [], _, _, _, _, e => by simp at e
  | x :: xs, y :: ys, 0, v, w, e, e2 => by simp at e e2; subst e; subst e2; simp [pairUp]
  | x :: xs, y :: ys, i + 1, v, w, e, e2 => by
    show (pairUp xs ys)[i]? = _
    exact pairUp_get (by simpa using e) (by simpa using e2)
theorem walk_rl {a : Addr} {vs : List Val} {ys : List V} (h : RdL K Hf a ys) (l : RepL K Hf vs ys) : Walk (Itl K a) vs.length (fun H => HSub Hf H) (YItem K Hf vs) := by
  rw [← l.length]
  exact walk_list.mono (fun H s => (rdL_mono s h).sq) fun i H x H' hi s y => by
    obtain ⟨rfl, e⟩ := y
    obtain ⟨v, e1, e2⟩ := l.get' e
    exact ⟨v, e1, .inl ⟨rfl, e2⟩⟩
theorem walk_rt {a : Addr} {vs : List Val} {ys : List V} (h : SqT K Hf a ys) (l : RepL K Hf vs ys) : Walk (Itt K a) vs.length (fun H => HSub Hf H) (YItem K Hf vs) := by
  rw [← l.length]
  exact walk_tup.mono (fun H s => sqT_mono s h) fun i H x H' hi s y => by
    obtain ⟨rfl, e⟩ := y
    obtain ⟨v, e1, e2⟩ := l.get' e
    exact ⟨v, e1, .inl ⟨rfl, e2⟩⟩
theorem walk_rr {lo : Int} {n : Nat} : Walk (Itr lo n) (intsFrom lo n).length (fun H => HSub Hf H) (YItem K Hf (intsFrom lo n)) := by
  rw [intsFrom_len]
  exact walk_range.mono (fun H s => trivial) fun i H x H' hi s y => by
    obtain ⟨rfl, rfl⟩ := y
    exact ⟨_, intsFrom_get hi, .inl ⟨rfl, .int _⟩⟩
theorem walk_re {a : Addr} {vs : List Val} {ys : List V} (h : RdL K Hf a ys) (l : RepL K Hf vs ys) : Walk (Ite K a) (numbered 0 vs).length (fun H => HSub Hf H) (YItem K Hf (numbered 0 vs)) := by
  rw [numbered_len, ← l.length]
  exact walk_enum.mono (fun H s => (rdL_mono s h).sq) fun i H x H' hi s y => by
    obtain ⟨T, y1, y2, rfl, e1, e2, e3, e4⟩ := y
    obtain ⟨v, e5, e6⟩ := l.get' e4
    cases e3
    refine ⟨_, numbered_get e5, .inr ⟨T, _, _, _, _, rfl, rfl, e1, e2, ?_, e6⟩⟩
    rw [Nat.zero_add]
    exact .int _
theorem walk_rz {a b : Addr} {vs ws : List Val} {ys zs : List V} (h : RdL K Hf a ys) (l : RepL K Hf vs ys) (h2 : RdL K Hf b zs) (l2 : RepL K Hf ws zs) : Walk (Itz K a b) (pairUp vs ws).length (fun H => HSub Hf H) (YItem K Hf (pairUp vs ws)) := by
  rw [pairUp_len, ← l.length, ← l2.length]
  exact (walk_zip rfl).mono (fun H s => ⟨(rdL_mono s h).sq, (rdL_mono s h2).sq⟩) fun i H x H' hi s y => by
    obtain ⟨T, y1, y2, rfl, e1, e2, e3, e4⟩ := y
    obtain ⟨v, e5, e6⟩ := l.get' e3
    obtain ⟨w, e7, e8⟩ := l2.get' e4
    exact ⟨_, pairUp_get e5 e7, .inr ⟨T, _, _, _, _, rfl, rfl, e1, e2, e6, e8⟩⟩
end
section
variable {free : List Str} {D : Den} {n : Nat} {N : List Str} {sc : Scope} {X : Cx}
theorem i_seq {tg : Expr} {e : CE} (h : PE X e.py (tEv X.K D e)) : PI X tg (CI.seq e).py (tI X.K D (.seq e)) := by
  refine ⟨fun pins s σ H Rr I hw => ?_⟩
  obtain ⟨S, Hf, F, vs, S', rel, he, q⟩ := hw
  unfold evI at he
  rw [Option.bind_eq_some_iff] at he
  obtain ⟨⟨⟨m, v⟩, S1⟩, e1, he⟩ := he
  cases m with
  | bor => cases he
  | own d =>
    simp only [Option.map_eq_some_iff] at he
    obtain ⟨xs, e2, he⟩ := he
    obtain ⟨rfl, rfl⟩ := Prod.mk.inj he
    cases v with
    | lst ys =>
      cases e2
      refine (pi_list h).run pins s σ H Rr I ⟨S, Hf, F, _, S1, rel, e1, fun x H1 Hf1 F1 g1 p1 => ?_⟩
      obtain ⟨Hf1', s1, rel1, st1, re1, rf1⟩ := g1.opd
      cases rf1 d rfl with
      | lst hd l => exact ⟨_, rfl, ⟨_, (rdL_mono rel1.sub hd).sq⟩, q _ H1 Hf1' F1 rel1 st1 (fun hp => p1 (by unfold CI.pure at hp; exact hp)) (walk_rl hd l)⟩
    | tup ys =>
      cases e2
      refine (pi_tup h).run pins s σ H Rr I ⟨S, Hf, F, _, S1, rel, e1, fun x H1 Hf1 F1 g1 p1 => ?_⟩
      obtain ⟨Hf1', s1, rel1, st1, re1, rf1⟩ := g1.opd
      cases rf1 d rfl with
      | tup hd l => exact ⟨_, rfl, ⟨_, sqT_mono rel1.sub hd⟩, q _ H1 Hf1' F1 rel1 st1 (fun hp => p1 (by unfold CI.pure at hp; exact hp)) (walk_rt hd l)⟩
    | _ => cases e2
theorem i_rng1 (c : Ctx free D n N sc X) {tg : Expr} {e : CE} {np p : Pos} (g : glB sc "range" = true) (m : ("range" : Str) ∈ free) (h : PE X e.py (tEv X.K D e)) : PI X tg (CI.rng1 np e p).py (tI X.K D (.rng1 np e p)) := by
  refine ⟨fun pins s σ H Rr I hw => ?_⟩
  obtain ⟨S, Hf, F, vs, S', rel, he, q⟩ := hw
  unfold evI at he
  rw [Option.bind_eq_some_iff] at he
  obtain ⟨⟨⟨m', v⟩, S1⟩, e1, he⟩ := he
  refine (pi_range1 (c.gl g) (c.fre _ m) (pa_cons h pa_nil (star_cons e _ _)) (star_cons e _ _)).run pins s σ H Rr I ⟨S, Hf, F, _, S1, rel, e1, fun x H1 Hf1 F1 g1 p1 => ?_⟩
  obtain ⟨Hf1', s1, rel1, st1, re1, rf1⟩ := g1.opd
  cases v with
  | int i =>
    have he : gd (inRange i) (some (intsFrom 0 i.toNat, S1)) = some (vs, S') := he
    rw [gd_some] at he
    obtain ⟨ir, he⟩ := he
    obtain ⟨rfl, rfl⟩ := Prod.mk.inj (Option.some.inj he)
    obtain rfl := re1.int_
    have ir := of_decide_eq_true ir
    exact ⟨i, rfl, ir.1, ir.2, q _ H1 Hf1' F1 rel1 st1 (fun hp => p1 (by unfold CI.pure at hp; exact hp)) walk_rr⟩
  | _ => cases he
theorem i_rng2 (c : Ctx free D n N sc X) {tg : Expr} {a b : CE} {np p : Pos} (g : glB sc "range" = true) (m : ("range" : Str) ∈ free) (ha : PE X a.py (tEv X.K D a)) (hb : PE X b.py (tEv X.K D b)) : PI X tg (CI.rng2 np a b p).py (tI X.K D (.rng2 np a b p)) := by
  refine ⟨fun pins s σ H Rr I hw => ?_⟩
  obtain ⟨S, Hf, F, vs, S', rel, he, q⟩ := hw
  unfold evI at he
  rw [Option.bind_eq_some_iff] at he
  obtain ⟨⟨⟨m1, v1⟩, S1⟩, e1, he⟩ := he
  rw [Option.bind_eq_some_iff] at he
  obtain ⟨⟨⟨m2, v2⟩, S2⟩, e2, he⟩ := he
  refine (pi_range2 (c.gl g) (c.fre _ m) (pa_cons ha (pa_cons hb pa_nil (star_cons b _ _)) (star_cons a _ _)) (by rw [star_cons, star_cons]; rfl) (star_cons b _ _)).run pins s σ H Rr I ⟨S, Hf, F, _, S1, rel, e1, fun x H1 Hf1 F1 g1 p1 => ?_⟩
  obtain ⟨Hf1', s1, rel1, st1, re1, rf1⟩ := g1.opd
  refine ⟨S1, Hf1', F1, _, S2, rel1, e2, fun y H2 Hf2 F2 g2 p2 => ?_⟩
  obtain ⟨Hf2', s2, rel2, st2, re2, rf2⟩ := g2.opd
  cases v1 with
  | int i =>
    cases v2 with
    | int j =>
      have he : gd (inRange i && inRange j) (some (intsFrom i (j - i).toNat, S2)) = some (vs, S') := he
      rw [gd_some, Bool.and_eq_true] at he
      obtain ⟨⟨i1, i2⟩, he⟩ := he
      obtain ⟨rfl, rfl⟩ := Prod.mk.inj (Option.some.inj he)
      obtain rfl := re1.int_
      obtain rfl := re2.int_
      have i1 := of_decide_eq_true i1
      have i2 := of_decide_eq_true i2
      refine ⟨i, j, rfl, ⟨i1.1, i1.2, i2.1, i2.2⟩, q _ H2 Hf2' F2 rel2 (st1.trans st2) (fun hp => ?_) walk_rr⟩
      unfold CI.pure at hp
      rw [Bool.and_eq_true] at hp
      exact (p1 hp.1).trans (p2 hp.2)
    | _ => cases he
  | _ => cases he
theorem i_enum (c : Ctx free D n N sc X) {es : List Expr} {kk : Nat} {tp : Pos} {e : CE} {np p : Pos} (g : glB sc "enumerate" = true) (m : ("enumerate" : Str) ∈ free) (h : PE X e.py (tEv X.K D e)) : PI X (.Tuple es kk tp) (CI.enum np e p).py (tI X.K D (.enum np e p)) := by
  refine ⟨fun pins s σ H Rr I hw => ?_⟩
  obtain ⟨S, Hf, F, vs, S', rel, he, q⟩ := hw
  unfold evI at he
  rw [Option.bind_eq_some_iff] at he
  obtain ⟨⟨⟨m', v⟩, S1⟩, e1, he⟩ := he
  refine (pi_enum (c.gl g) (c.fre _ m) (pa_cons h pa_nil (star_cons e _ _)) (star_cons e _ _)).run pins s σ H Rr I ⟨S, Hf, F, _, S1, rel, e1, fun x H1 Hf1 F1 g1 p1 => ?_⟩
  obtain ⟨Hf1', s1, rel1, st1, re1, rf1⟩ := g1.opd
  cases m' with
  | bor => cases he
  | own d =>
    cases v with
    | lst xs =>
      obtain ⟨rfl, rfl⟩ := Prod.mk.inj (Option.some.inj he)
      cases rf1 d rfl with
      | lst hd l => exact ⟨_, _, rfl, (rdL_mono rel1.sub hd).sq, q _ H1 Hf1' F1 rel1 st1 (fun hp => p1 (by unfold CI.pure at hp; exact hp)) (walk_re hd l)⟩
    | _ => cases he
theorem i_zip (c : Ctx free D n N sc X) {es : List Expr} {kk : Nat} {tp : Pos} {a b : CE} {np p : Pos} (g : glB sc "zip" = true) (m : ("zip" : Str) ∈ free) (ha : PE X a.py (tEv X.K D a)) (hb : PE X b.py (tEv X.K D b)) : PI X (.Tuple es kk tp) (CI.zip np a b p).py (tI X.K D (.zip np a b p)) := by
  refine ⟨fun pins s σ H Rr I hw => ?_⟩
  obtain ⟨S, Hf, F, vs, S', rel, he, q⟩ := hw
  unfold evI at he
  rw [Option.bind_eq_some_iff] at he
  obtain ⟨⟨⟨m1, v1⟩, S1⟩, e1, he⟩ := he
  rw [Option.bind_eq_some_iff] at he
  obtain ⟨⟨⟨m2, v2⟩, S2⟩, e2, he⟩ := he
  refine (pi_zip (c.gl g) (c.fre _ m) (pa_cons ha (pa_cons hb pa_nil (star_cons b _ _)) (star_cons a _ _)) (star_cons a _ _) (no_star (.cons b .nil) p _)).run pins s σ H Rr I ⟨S, Hf, F, _, S1, rel, e1, fun x H1 Hf1 F1 g1 p1 => ?_⟩
  obtain ⟨Hf1', s1, rel1, st1, re1, rf1⟩ := g1.opd
  refine ⟨S1, Hf1', F1, _, S2, rel1, e2, fun y H2 Hf2 F2 g2 p2 => ?_⟩
  obtain ⟨Hf2', s2, rel2, st2, re2, rf2⟩ := g2.opd
  cases m1 with
  | bor => cases he
  | own d1 =>
    cases m2 with
    | bor => cases v1 <;> cases he
    | own d2 =>
      cases v1 with
      | lst xs =>
        cases v2 with
        | lst zs =>
          obtain ⟨rfl, rfl⟩ := Prod.mk.inj (Option.some.inj he)
          cases (rf1 d1 rfl).mono st2.hf with
          | lst hd l =>
            cases rf2 d2 rfl with
            | lst hd2 l2 =>
              refine ⟨_, _, _, _, rfl, (rdL_mono rel2.sub hd).sq, (rdL_mono rel2.sub hd2).sq, q _ H2 Hf2' F2 rel2 (st1.trans st2) (fun hp => ?_) (walk_rz hd l hd2 l2)⟩
              unfold CI.pure at hp
              rw [Bool.and_eq_true] at hp
              exact (p1 hp.1).trans (p2 hp.2)
        | _ => cases he
      | _ => cases he
/-! ### targets -/
mutual
def CT.slots : CT → List Nat
  | .name i _ _ => [i]
  | .tup ts _ _ => ts.slots
def CTs.slots : CTs → List Nat
  | .nil => []
  | .cons t ts => t.slots ++ ts.slots
end
def tT (K : Frag) (t : CT) : TG := fun x σ H Q => ∃ S Hf F v S', Rel K Hf F S σ H ∧ Rep K Hf v x ∧ t.set v S = some S' ∧
  ∀ σ' F', Rel K Hf F' S' σ' H → (∀ a ∈ F', a ∈ F) → (∀ l : List Nat, (∀ i ∈ t.slots, i ∈ l) → wipe σ' l = wipe σ l) → Q σ' H
def tTs' (K : Frag) (ts : CTs) : TGs := fun xs σ H Q => ∃ S Hf F vs S', Rel K Hf F S σ H ∧ RepL K Hf vs xs ∧ ts.set vs S = some S' ∧
  ∀ σ' F', Rel K Hf F' S' σ' H → (∀ a ∈ F', a ∈ F) → (∀ l : List Nat, (∀ i ∈ ts.slots, i ∈ l) → wipe σ' l = wipe σ l) → Q σ' H
theorem wipe_set {σ : L2.St} {i : Nat} {y : Option V} : ∀ {l : List Nat}, i ∈ l → wipe (σ.set i y) l = wipe σ l
  | [], h => by cases h
  | j :: l, h => by
    unfold wipe
    by_cases hj : i = j
    · subst hj
      have g : ∀ {l : List Nat} {σ : L2.St}, (wipe (σ.set i y) l).set i none = (wipe σ l).set i none := by
        intro l
        induction l with
        | nil => intro σ; unfold wipe; rw [List.set_set]
        | cons k l ih =>
          intro σ
          unfold wipe
          by_cases hk : k = i
          · subst hk; rw [List.set_set, List.set_set]; exact ih
          · rw [List.set_comm _ _ hk, List.set_comm _ _ hk, ih]
      exact g
    · rcases List.mem_cons.mp h with z | z
      · exact absurd z hj
      · rw [wipe_set z]
mutual
/-- a target that may be stored -/
def CT.wf (N : List Str) (sc : Scope) (fb : Str → Bool) : CT → Bool
  | .name i x _ => decide (N[i]? = some x) && locB sc x && fb x
  | .tup ts _ _ => ts.wf N sc fb
def CTs.wf (N : List Str) (sc : Scope) (fb : Str → Bool) : CTs → Bool
  | .nil => true
  | .cons t ts => t.wf N sc fb && ts.wf N sc fb
end
theorem CT.each (t : CT) (es : List Expr) (env : Env) : assignEach (t.py :: es) env = (false, assign t.py env) :: assignEach es env := by cases t <;> rfl
def CTs.len : CTs → Nat
  | .nil => 0
  | .cons _ ts => ts.len + 1
theorem CTs.each_len : ∀ (ts : CTs) (env : Env), (assignEach ts.py env).length = ts.len ∧ (assignEach ts.py env).findIdx? (·.1) = none
  | .nil, _ => ⟨rfl, rfl⟩
  | .cons t ts, env => by
    have ih := CTs.each_len ts env
    show (assignEach (t.py :: ts.py) env).length = _ ∧ (assignEach (t.py :: ts.py) env).findIdx? (·.1) = none
    rw [CT.each]
    refine ⟨congrArg Nat.succ ih.1, ?_⟩
    rw [List.findIdx?_cons, ih.2]
    rfl
theorem CTs.set_len : ∀ {ts : CTs} {vs : List Val} {S S' : Slots}, ts.set vs S = some S' → vs.length = ts.len
  | .nil, [], _, _, _ => rfl
  | .nil, _ :: _, _, _, e => by unfold CTs.set at e; cases e
  | .cons t ts, [], _, _, e => by unfold CTs.set at e; cases e
  | .cons t ts, v :: vs, S, S', e => by
    unfold CTs.set at e
    rw [Option.bind_eq_some_iff] at e
    obtain ⟨S1, _, e⟩ := e
    exact congrArg Nat.succ (CTs.set_len e)
mutual
theorem g_ct (c : Ctx free D n N sc X) {fb : Str → Bool} (hfn : ∀ x, fb x = true → X.fn x = true ∨ X.env.scope.names.lookup x = some .local) : ∀ (t : CT), t.wf N sc fb = true → PG X t.py (tT X.K t)
  | .name i x p, w => by
    unfold CT.wf at w
    simp only [Bool.and_eq_true] at w
    obtain ⟨⟨w1, w2⟩, w3⟩ := w
    have w1 := of_decide_eq_true w1
    have pg := pg_name (X := X) (pos := p) (i := i) (x := x) (by rw [c.hN]; exact c.nd) (by rw [c.hN]; exact w1) (by rw [c.sc]; exact locB_ok w2) (hfn x w3)
    refine ⟨fun pins s σ H v u Q I r h => pg.run pins s σ H v u Q I r ?_⟩
    obtain ⟨S, Hf, F, vv, S', rel, rep, e, q⟩ := h
    unfold CT.set at e
    cases e
    have hl : i < S.length := by
      have e1 := I.len
      have e2 := rel.len
      have := lt_of_get w1
      rw [c.hN] at e1
      omega
    obtain ⟨F', rel', sub⟩ := rel.put (i := i) (d := 0) (v := vv) (x := v) (G := []) hl (.frz (.inl rfl) rep) (by simpa using rel.nd) (fun a h => by cases h)
    refine q _ F' rel' (fun a ha => (sub a ha).elim id fun z => by cases z) fun l hl => wipe_set (hl i (by simp [CT.slots]))
  | .tup ts k p, w => by
    unfold CT.wf at w
    have pgs := g_cts c hfn ts w
    have el := CTs.each_len ts X.env
    have pg := pg_tup (X := X) (pos := p) (k := k) c.calm pgs el.1 el.2
    refine ⟨fun pins s σ H v u Q I r h => pg.run pins s σ H v u Q I r ?_⟩
    obtain ⟨S, Hf, F, vv, S', rel, rep, e, q⟩ := h
    unfold CT.set at e
    cases vv with
    | tup xs =>
      have e : ts.set xs S = some S' := e
      cases rep with
      | tup hd l => exact ⟨_, _, rfl, sqT_mono rel.sub hd, by rw [l.length]; exact CTs.set_len e, S, Hf, F, xs, S', rel, l, e, q⟩
    | _ => cases e
theorem g_cts (c : Ctx free D n N sc X) {fb : Str → Bool} (hfn : ∀ x, fb x = true → X.fn x = true ∨ X.env.scope.names.lookup x = some .local) : ∀ (ts : CTs), ts.wf N sc fb = true → PGs X ts.py (tTs' X.K ts)
  | .nil, _ => by
    refine ⟨fun pins s σ H vs us Q I r h => pgs_nil.run pins s σ H vs us Q I r ?_⟩
    obtain ⟨S, Hf, F, vv, S', rel, rep, e, q⟩ := h
    cases rep with
    | nil =>
      unfold CTs.set at e
      cases e
      exact ⟨rfl, q σ F rel (fun a h => h) fun l _ => rfl⟩
    | cons _ _ => unfold CTs.set at e; cases e
  | .cons t ts, w => by
    unfold CTs.wf at w
    rw [Bool.and_eq_true] at w
    have pg := pgs_cons (g_ct c hfn t w.1) (g_cts c hfn ts w.2) (by rw [CT.each]; rfl)
    refine ⟨fun pins s σ H vs us Q I r h => pg.run pins s σ H vs us Q I r ?_⟩
    obtain ⟨S, Hf, F, vv, S', rel, rep, e, q⟩ := h
    cases rep with
    | nil => unfold CTs.set at e; cases e
    | cons h1 h2 =>
      unfold CTs.set at e
      rw [Option.bind_eq_some_iff] at e
      obtain ⟨S1, e1, e2⟩ := e
      refine ⟨_, _, rfl, S, Hf, F, _, S1, rel, h1, e1, fun σ1 F1 rel1 sub1 wp1 => ?_⟩
      refine ⟨S1, Hf, F1, _, S', rel1, h2, e2, fun σ2 F2 rel2 sub2 wp2 => q σ2 F2 rel2 (fun a h => sub1 a (sub2 a h)) fun l hl => ?_⟩
      rw [wp2 l fun i hi => hl i (List.mem_append_right _ hi), wp1 l fun i hi => hl i (List.mem_append_left _ hi)]
end
end
end BV
/-! Comprehensions. -/
namespace BV
open PySem PySem.Spec PyProof.Rows L2
/-- a list at D0 that is being made, beside the slots -/
structure Acc (K : Frag) (Hf0 : Hp) (F0 : List Addr) (H0 : Hp) (D0 : Addr) (pu : Bool) (τ : L2.St) (done : List Val) (S : Slots) (Hf : Hp) (F : List Addr) (ys : List V) (H : Hp) : Prop where
  rel : Rel K Hf F S τ H
  st : Step Hf0 F0 H0 Hf F H
  at_ : H D0 = some (.lst ys)
  out : D0 ∉ F
  off : Hf D0 = none
  rep : RepL K Hf done ys
  new : H0 D0 = none
  pu : pu = true → HSub H0 H
section
variable {K : Frag} {Hf0 Hf Hf2 H0 H H2 : Hp} {F0 F F2 : List Addr} {D0 : Addr} {pu : Bool} {τ τ2 : L2.St} {done : List Val} {S S2 : Slots} {ys : List V}
theorem wipe_wipe {σ : L2.St} {vl : List Nat} : L2.wipe (L2.wipe σ vl) vl = L2.wipe σ vl := by
  apply List.ext_getElem?
  intro j
  by_cases hj : j ∈ vl
  · have z : ∀ {τ : L2.St}, j < τ.length → (L2.wipe τ vl)[j]? = some none := by
      intro τ hl
      have go : ∀ {l : List Nat}, j ∈ l → (L2.wipe τ l)[j]? = some none := by
        intro l
        induction l with
        | nil => intro h; cases h
        | cons k l ih =>
          intro h
          unfold L2.wipe
          by_cases hk : k = j
          · subst hk; rw [List.getElem?_set_self (by rw [wipe_length]; exact hl)]
          · rw [List.getElem?_set_ne hk]
            exact ih ((List.mem_cons.mp h).elim (fun z => absurd z.symm hk) id)
      exact go hj
    by_cases hl : j < σ.length
    · rw [z (by rw [wipe_length]; exact hl), z hl]
    · rw [List.getElem?_eq_none (by rw [wipe_length, wipe_length]; omega), List.getElem?_eq_none (by rw [wipe_length]; omega)]
  · rw [wipe_out hj]
theorem Acc.start (rel : Rel K Hf0 F0 S τ H0) (hn : H0 D0 = none) : Acc K Hf0 F0 H0 D0 pu τ [] S Hf0 F0 [] (upd H0 D0 (.lst [])) := by
  refine ⟨rel.upd hn, (Step.refl _ _ _).upd hn, upd_same, fun h => ?_, ?_, .nil, hn, fun _ => HSub.upd hn⟩
  · obtain ⟨o, e⟩ := rel.dom D0 h
    rw [e] at hn; cases hn
  · cases q : Hf0 D0 with
    | none => rfl
    | some o => rw [rel.sub D0 o q] at hn; cases hn
theorem Acc.step {b : Bool} (a : Acc K Hf0 F0 H0 D0 pu τ done S Hf F ys H) (rel : Rel K Hf2 F2 S2 τ2 H2) (st : Step Hf F H Hf2 F2 H2) (p : b = true → HSub H H2) (hb : pu = true → b = true) : Acc K Hf0 F0 H0 D0 pu τ2 done S2 Hf2 F2 ys H2 := by
  refine ⟨rel, a.st.trans st, st.fr D0 _ a.at_ a.out, fun h => ?_, ?_, a.rep.mono st.hf, a.new, fun hp => (a.pu hp).trans (p (hb hp))⟩
  · rcases st.own D0 h with z | z
    · exact a.out z
    · rw [a.at_] at z; cases z
  · rw [st.new D0 _ a.at_ a.out]; exact a.off
theorem Acc.push (a : Acc K Hf0 F0 H0 D0 pu τ done S Hf F ys H) {v : Val} {y : V} (r : Rep K Hf v y) : Acc K Hf0 F0 H0 D0 pu τ (done ++ [v]) S Hf F (ys ++ [y]) (upd H D0 (.lst (ys ++ [y]))) := by
  refine ⟨a.rel.mut a.out a.off, ⟨a.st.hf, fun b o e n => ?_, a.st.new, a.st.own⟩, upd_same, a.out, a.off, a.rep.append (.cons r .nil), a.new, fun hp b o e => ?_⟩
  · rw [upd_ne fun z => by rw [z, a.new] at e; cases e]
    exact a.st.fr b o e n
  · rw [upd_ne fun z => by rw [z, a.new] at e; cases e]
    exact a.pu hp b o e
theorem Rel.none_any {i : Nat} {y : Option V} (r : Rel K Hf F S τ H) (h : S[i]? = some Option.none) : Rel K Hf F S (τ.set i y) H := by
  obtain ⟨z, F1, G2, F3, e1, e2, e3, e4⟩ := r.plc.split h
  cases e3
  have := e4 (Hf' := Hf) (H' := H) (HSub.refl _) (fun a _ o e => e) (.no (y := y))
  refine ⟨r.sub, r.nd, r.off, ?_⟩
  rw [e2]
  have hs : S.set i Option.none = S := by
    apply List.ext_getElem?
    intro j
    rw [List.getElem?_set]
    split
    · rename_i hj; subst hj
      split
      · exact h.symm
      · rename_i hl; rw [List.getElem?_eq_none (by omega)]
    · rfl
  rw [hs] at this
  exact this
theorem wipeS_len : ∀ (l : List Nat), (wipeS S l).length = S.length
  | [] => rfl
  | v :: l => by unfold wipeS; rw [List.length_set, wipeS_len l]
theorem wipeS_at {i : Nat} : ∀ {l : List Nat}, i ∈ l → i < S.length → (wipeS S l)[i]? = some Option.none
  | [], h, _ => by cases h
  | j :: l, h, hl => by
    unfold wipeS
    by_cases hj : j = i
    · subst hj; rw [List.getElem?_set_self (by rw [wipeS_len]; exact hl)]
    · rw [List.getElem?_set_ne hj]
      exact wipeS_at ((List.mem_cons.mp h).elim (fun z => absurd z.symm hj) id) hl
/-- names are forgotten -/
theorem Rel.wipe : ∀ (l : List Nat), Rel K Hf F S τ H → ∃ F', Rel K Hf F' (wipeS S l) τ H ∧ ∀ a ∈ F', a ∈ F
  | [], r => ⟨F, r, fun _ h => h⟩
  | i :: l, r => by
    obtain ⟨F1, r1, s1⟩ := Rel.wipe l r
    obtain ⟨G2, r2, s2⟩ := r1.none (i := i)
    exact ⟨G2, r2, fun a h => s1 a (s2 a h)⟩
/-- what stands in a forgotten slot does not matter -/
theorem Rel.anyAt {T : Slots} (r : Rel K Hf F T τ H) : ∀ (l : List Nat), (∀ i ∈ l, i < T.length → T[i]? = some Option.none) → Rel K Hf F T (L2.wipe τ l) H
  | [], _ => r
  | i :: l, h => by
    unfold L2.wipe
    have r1 := Rel.anyAt r l fun j hj => h j (List.mem_cons_of_mem _ hj)
    by_cases hi : i < T.length
    · exact r1.none_any (h i (List.mem_cons_self ..) hi)
    · rw [List.set_eq_of_length_le (by rw [r1.len]; omega)]
      exact r1
theorem Rel.ofWipe {T : Slots} : ∀ (l : List Nat) {τ : L2.St}, (∀ i ∈ l, i < T.length → T[i]? = some Option.none) → Rel K Hf F T (L2.wipe τ l) H → Rel K Hf F T τ H
  | [], _, _, r => r
  | i :: l, τ, h, r => by
    unfold L2.wipe at r
    refine Rel.ofWipe l (fun j hj => h j (List.mem_cons_of_mem _ hj)) ?_
    by_cases hi : i < T.length
    · have hl : i < (L2.wipe τ l).length := by have := r.len; rw [List.length_set] at this; omega
      have := r.none_any (y := (L2.wipe τ l)[i]) (h i (List.mem_cons_self ..) hi)
      rw [List.set_set] at this
      rw [show (L2.wipe τ l).set i (L2.wipe τ l)[i] = L2.wipe τ l from set_same (by rw [List.getElem?_eq_getElem hl])] at this
      exact this
    · rw [List.set_eq_of_length_le (by have := r.len; rw [List.length_set] at this; omega)] at r
      exact r
theorem Acc.wipe (a : Acc K Hf0 F0 H0 D0 pu τ done S Hf F ys H) (l : List Nat) : ∃ F', Acc K Hf0 F0 H0 D0 pu (L2.wipe τ l) done (wipeS S l) Hf F' ys H := by
  obtain ⟨F', r, sub⟩ := a.rel.wipe l
  have r2 := r.anyAt l fun i hi hl => wipeS_at hi (by rw [wipeS_len] at hl; exact hl)
  exact ⟨F', r2, ⟨a.st.hf, a.st.fr, a.st.new, fun b h => a.st.own b (sub b h)⟩, a.at_, fun h => a.out (sub _ h), a.off, a.rep, a.new, a.pu⟩
/-- the next thing comes -/
theorem Acc.item {vs : List Val} {i : Nat} {x : V} {H' Hfi : Hp} (a : Acc K Hf0 F0 H0 D0 pu τ done S Hf F ys H) (s : HSub Hfi Hf) (y : YItem K Hfi vs i H x H') :
    ∃ v Hf', vs[i]? = some v ∧ HSub Hf Hf' ∧ Acc K Hf0 F0 H0 D0 pu τ done S Hf' F ys H' ∧ Rep K Hf' v x := by
  obtain ⟨v, e, y⟩ := y
  rcases y with ⟨rfl, r⟩ | ⟨T, p, q, y1, y2, rfl, rfl, hT, rfl, r1, r2⟩
  · exact ⟨v, Hf, e, HSub.refl _, a, r.mono s⟩
  · have g := Gives.newT (Hf := Hf) (F := F) (H := H) a.rel (Step.refl _ _ _) hT (.cons (r1.mono s) (.cons (r2.mono s) .nil))
    obtain ⟨Hf', s1, rel', st', re, rf⟩ := g.opd
    refine ⟨_, Hf', e, st'.hf, a.step (b := true) rel' st' (fun _ => HSub.upd hT) (fun _ => rfl), rf 0 rfl⟩
end
section
variable {free : List Str} {D : Den} {n : Nat} {N : List Str} {sc : Scope} {X : Cx}
theorem compL_step {f : Val → Slots → Option (List Val × Slots)} {vs ws : List Val} {i : Nat} {v : Val} {S S' : Slots} (hv : vs[i]? = some v) (h : compL f (vs.drop i) S = some (ws, S')) :
    ∃ o S1 rest, f v S = some (o, S1) ∧ compL f (vs.drop (i + 1)) S1 = some (rest, S') ∧ ws = o ++ rest := by
  have hl := lt_of_get hv
  have e : vs.drop i = v :: vs.drop (i + 1) := by
    rw [List.drop_eq_getElem_cons hl]
    congr 1
    rw [List.getElem?_eq_getElem hl] at hv
    exact Option.some.inj hv
  rw [e] at h
  unfold compL at h
  rw [Option.bind_eq_some_iff] at h
  obtain ⟨⟨o, S1⟩, e1, h⟩ := h
  rw [Option.map_eq_some_iff] at h
  obtain ⟨⟨rest, S2⟩, e2, h⟩ := h
  obtain ⟨rfl, rfl⟩ := Prod.mk.inj h
  exact ⟨o, S1, rest, e1, e2, rfl⟩
theorem compL_end {f : Val → Slots → Option (List Val × Slots)} {vs ws : List Val} {S S' : Slots} (h : compL f (vs.drop vs.length) S = some (ws, S')) : ws = [] ∧ S' = S := by
  rw [List.drop_length] at h
  unfold compL at h
  obtain ⟨rfl, rfl⟩ := Prod.mk.inj (Option.some.inj h)
  exact ⟨rfl, rfl⟩
/-- the tests of a comprehension -/
abbrev tTests (K : Frag) (D : Den) (ifs : CEs) : TT := tEt K D (fun S => evts D ifs S) ifs.pure
theorem pts_ce {ifs : CEs} (h : ∀ e, ifs = .cons e .nil → PT X e.py (tTs X.K D e)) (hl : ifs.len ≤ 1) : PTs X ifs.py (tTests X.K D ifs) := by
  cases ifs with
  | nil =>
    refine ⟨fun pins s σ H Q I hw => pts_nil.run pins s σ H Q I ?_⟩
    obtain ⟨S, Hf, F, b, S', rel, e, q⟩ := hw
    have e : some (true, S) = some (b, S') := e
    obtain ⟨rfl, rfl⟩ := Prod.mk.inj (Option.some.inj e)
    exact q H Hf F rel (Step.refl _ _ _) fun _ => HSub.refl _
  | cons e es =>
    cases es with
    | nil =>
      refine ⟨fun pins s σ H Q I hw => (pts_one (h e rfl)).run pins s σ H Q I ?_⟩
      obtain ⟨S, Hf, F, b, S', rel, ht, q⟩ := hw
      refine ⟨S, Hf, F, b, S', rel, ht, fun H1 Hf1 F1 rel1 st1 p1 => q H1 Hf1 F1 rel1 st1 fun hp => p1 ?_⟩
      have hp : (e.pure && true) = true := hp
      simpa using hp
    | cons a b => unfold CEs.len CEs.len at hl; omega
theorem folded_not (it : CI) (env : Env) (x : Value) : foldedSetIterable it.py env x = pure x := by
  cases it with
  | seq e => cases e <;> rfl
  | _ => rfl
/-- one turn behind the target: tests, then the thing or not -/
def lcTurn (D : Den) (elt : CE) (t : CT) (ifs : CEs) (vs : List Nat) : Val → Slots → Option (List Val × Slots) := fun v S1 => (t.set v S1).bind fun S2 => (evts D ifs S2).bind fun b => bif b.1 then (ev D elt b.2).bind fun r => match r.1.1 with
      | .own _ => some ([r.1.2], wipeS r.2 vs)
      | .bor => none else some ([], wipeS b.2 vs)
theorem lcTurn_wiped {elt : CE} {t : CT} {ifs : CEs} {vs : List Nat} {v : Val} {S S1 : Slots} {o : List Val} (e : lcTurn D elt t ifs vs v S = some (o, S1)) : ∃ R, S1 = wipeS R vs := by
  unfold lcTurn at e
  rw [Option.bind_eq_some_iff] at e
  obtain ⟨S2, e1, e⟩ := e
  rw [Option.bind_eq_some_iff] at e
  obtain ⟨⟨b, S3⟩, e2, e⟩ := e
  cases b with
  | false => exact ⟨S3, (Prod.mk.inj (Option.some.inj (show some (([] : List Val), wipeS S3 vs) = some (o, S1) from e))).2.symm⟩
  | true =>
    have e : ((ev D elt S3).bind fun r => match r.1.1 with
      | .own _ => some ([r.1.2], wipeS r.2 vs)
      | .bor => none) = some (o, S1) := e
    rw [Option.bind_eq_some_iff] at e
    obtain ⟨⟨⟨m, w⟩, S4⟩, e3, e⟩ := e
    cases m with
    | bor => cases e
    | own d => exact ⟨S4, (Prod.mk.inj (Option.some.inj e)).2.symm⟩
theorem lc_turn {K : Frag} {Hf0 Hf H0 H Hfi H' : Hp} {F0 F : List Addr} {D0 : Addr} {pu : Bool} {τ : L2.St} {done o vs' : List Val} {S S1 : Slots} {ys : List V} {elt : CE} {t : CT} {ifs : CEs} {vs : List Nat} {i : Nat} {v : Val} {x : V} {tot : Nat}
    (a : Acc K Hf0 F0 H0 D0 pu τ done S Hf F ys H) (s : HSub Hfi Hf) (y : YItem K Hfi vs' i H x H') (hv : vs'[i]? = some v) (e : lcTurn D elt t ifs vs v S = some (o, S1)) (hsl : ∀ j ∈ t.slots, j ∈ vs) (hp : pu = true → (elt.pure && ifs.pure) = true)
    (hz : (done ++ o).length ≤ tot) (hz2 : tot ≤ sizeLine) {τw : L2.St} (hw : wipe τ vs = τw)
    {Nx : Hp → Prop} (nx : ∀ Hf2 F2 ys2 H2 τ2, wipe τ2 vs = τw → Acc K Hf0 F0 H0 D0 pu τw (done ++ o) S1 Hf2 F2 ys2 H2 → HSub Hf Hf2 → Nx H2) :
    tT K t x τ H' fun σ2 H2 => wipe σ2 vs = τw ∧ tTests K D ifs σ2 H2 fun b H3 => if b = true then tEv K D elt σ2 H3 fun y H4 => ∃ acc, H4 D0 = some (.lst acc) ∧ acc.length < sizeLine ∧ Nx (upd H4 D0 (.lst (acc ++ [y]))) else Nx H3 := by
  obtain ⟨v', Hf', ev', s', a', rv⟩ := a.item s y
  rw [hv] at ev'
  cases ev'
  unfold lcTurn at e
  rw [Option.bind_eq_some_iff] at e
  obtain ⟨S2, e1, e⟩ := e
  rw [Option.bind_eq_some_iff] at e
  obtain ⟨⟨b, S3⟩, e2, e⟩ := e
  refine ⟨S, Hf', F, v, S2, a'.rel, rv, e1, fun σ2 F2 rel2 sub2 wp => ⟨(wp vs hsl).trans hw, ?_⟩⟩
  have st2 : Step Hf' F H' Hf' F2 H' := ⟨HSub.refl _, fun _ _ e _ => e, fun _ _ _ _ => rfl, fun a h => .inl (sub2 a h)⟩
  have a2 := a'.step (b := true) rel2 st2 (fun _ => HSub.refl _) (fun _ => rfl)
  refine ⟨S2, Hf', F2, b, S3, rel2, e2, fun H3 Hf3 F3 rel3 st3 p3 => ?_⟩
  have a3 := a2.step (b := ifs.pure) rel3 st3 p3 (fun h => by have := hp h; rw [Bool.and_eq_true] at this; exact this.2)
  dsimp only
  cases b with
  | false =>
    rw [if_neg (by decide)]
    obtain ⟨rfl, rfl⟩ := Prod.mk.inj (Option.some.inj (show some (([] : List Val), wipeS S3 vs) = some (o, S1) from e))
    rw [List.append_nil] at nx
    obtain ⟨F4, a4⟩ := a3.wipe vs
    rw [(wp vs hsl).trans hw] at a4
    exact nx _ _ _ _ σ2 ((wp vs hsl).trans hw) a4 (s'.trans st3.hf)
  | true =>
    rw [if_pos rfl]
    have e : ((ev D elt S3).bind fun r => match r.1.1 with
      | .own _ => some ([r.1.2], wipeS r.2 vs)
      | .bor => none) = some (o, S1) := e
    rw [Option.bind_eq_some_iff] at e
    obtain ⟨⟨⟨m, w⟩, S4⟩, e3, e⟩ := e
    cases m with
    | bor => cases e
    | own d =>
      obtain ⟨rfl, rfl⟩ := Prod.mk.inj (Option.some.inj e)
      refine ⟨S3, Hf3, F3, _, S4, rel3, e3, fun y H4 Hf4 F4 g4 p4 => ?_⟩
      obtain ⟨Hf4', s4, rel4, st4, re4, rf4⟩ := g4.opd
      have a4 := a3.step (b := elt.pure) rel4 st4 p4 (fun h => by have := hp h; rw [Bool.and_eq_true] at this; exact this.1)
      refine ⟨ys, a4.at_, ?_, ?_⟩
      · rw [a4.rep.length]
        rw [List.length_append, List.length_singleton] at hz
        omega
      · obtain ⟨F5, a5⟩ := (a4.push (rf4 d rfl)).wipe vs
        rw [(wp vs hsl).trans hw] at a5
        exact nx _ _ _ _ σ2 ((wp vs hsl).trans hw) a5 (s'.trans (st3.hf.trans st4.hf))
theorem s_lc (c : Ctx free D n N sc X) {elt : CE} {t : CT} {it : CI} {ifs : CEs} {scp : Scope} {own : List (Str × Nat)} {p : Pos} (ok : blkC N sc scp own = true) (hsl : ∀ j ∈ t.slots, j ∈ own.map (·.2))
    (hi : PI X t.py it.py (tI X.K D it))
    (hg : ∀ (s : Shared) (H : Hp) (C : Addr) (cl : List (Str × Addr)) (fp : List Addr), PG (X.blk s H scp (compEnvC scp cl C X.env) fp) t.py (tT X.K t)) (ht : ∀ (s : Shared) (H : Hp) (C : Addr) (cl : List (Str × Addr)) (fp : List Addr), PTs (X.blk s H scp (compEnvC scp cl C X.env) fp) ifs.py (tTests X.K D ifs))
    (he : ∀ (s : Shared) (H : Hp) (C : Addr) (cl : List (Str × Addr)) (fp : List Addr), PE (X.blk s H scp (compEnvC scp cl C X.env) fp) elt.py (tEv X.K D elt)) :
    ∃ tl, (∀ σ H Q, tEv X.K D (.lc elt t it ifs scp own p) σ H Q → tl σ H Q) ∧ PE X (CE.lc elt t it ifs scp own p).py tl ∧
      (∀ {i : Nat} {y : Str} {py spos : Pos}, N[i]? = some y → sc.names.lookup y = some .local → swapsWith (CE.lc elt t it ifs scp own p).py (some (.Name y py)) spos.line X.env = pure true → PS X (.Assign [.Name y py] (CE.lc elt t it ifs scp own p).py spos) (tAsg tl (gName i))) := by
  have blk : BlkOk X.N X.env.scope scp own := by rw [c.hN, c.sc]; exact blkOk_by ok
  refine ⟨tLc (tI X.K D it) (tT X.K t) (tTests X.K D ifs) (tEv X.K D elt) (own.map fun z : Str × Nat => z.2), ?_, pe_lc (pos := p) c.calm (by rw [c.hN]; exact c.nd) hi blk hg ht he (fun x => folded_not it _ x), fun hy hyl hsw => ?_⟩
  · rintro σ H Q ⟨S, Hf, F, r, S', rel, hev, q⟩
    unfold ev at hev
    rw [Option.bind_eq_some_iff] at hev
    obtain ⟨⟨vs, S1⟩, e1, hev⟩ := hev
    rw [Option.bind_eq_some_iff] at hev
    obtain ⟨⟨ws, S2⟩, e2, hev⟩ := hev
    rw [gd_some] at hev
    obtain ⟨fl, hev⟩ := hev
    obtain ⟨rfl, rfl⟩ := Prod.mk.inj (Option.some.inj hev)
    have fl := of_decide_eq_true fl
    have e2 : compL (lcTurn D elt t ifs (own.map (·.2))) vs (wipeS S1 (own.map (·.2))) = some (ws, S2) := e2
    refine ⟨S, Hf, F, vs, S1, rel, e1, fun J H1 Hf1 F1 rel1 st1 p1 w => fun D0 hD => ?_⟩
    obtain ⟨F1', relw, subw⟩ := rel1.wipe (own.map (·.2))
    have relw2 := relw.anyAt (own.map (·.2)) fun i hi hl => wipeS_at hi (by rw [wipeS_len] at hl; exact hl)
    let vl := own.map (·.2)
    let pu := elt.pure && ifs.pure
    have a0 : Acc X.K Hf1 F1' H1 D0 pu (wipe σ vl) [] (wipeS S1 vl) Hf1 F1' [] (upd H1 D0 (.lst [])) := Acc.start relw2 hD
    refine lc_it w (fun i H' => ∃ Si Hfi Fi ys done rest, Acc X.K Hf1 F1' H1 D0 pu (wipe σ vl) done Si Hfi Fi ys H' ∧ compL (lcTurn D elt t ifs vl) (vs.drop i) Si = some (rest, S2) ∧ done ++ rest = ws ∧ ∃ R, Si = wipeS R vl) ?_ ?_ ?_ ?_
    · exact ⟨_, _, _, _, [], ws, a0, by rw [List.drop_zero]; exact e2, rfl, _, rfl⟩
    · rintro i H' _ ⟨Si, Hfi, Fi, ys, done, rest, a, _⟩
      exact a.st.hf.trans a.rel.sub
    · rintro i x H2 H3 hi ⟨Si, Hfi, Fi, ys, done, rest, a, ec, ew, _⟩ yi
      obtain ⟨v, hv⟩ : ∃ v, vs[i]? = some v := ⟨vs[i], List.getElem?_eq_getElem hi⟩
      obtain ⟨o, S3, rest', f1, f2, rfl⟩ := compL_step hv ec
      refine lc_turn (tot := ws.length) a a.st.hf yi hv f1 hsl (fun h => h) ?_ fl wipe_wipe fun Hf4 F4 ys4 H4 τ4 wp a4 _ => ?_
      · have := congrArg List.length ew
        simp only [List.length_append] at this ⊢
        omega
      · exact ⟨S3, Hf4, F4, ys4, done ++ o, rest', a4, f2, by rw [List.append_assoc]; exact ew, lcTurn_wiped f1⟩
    · rintro H2 ⟨Si, Hfi, Fi, ys, done, rest, a, ec, ew, R, eR⟩
      obtain ⟨rfl, rfl⟩ := compL_end ec
      rw [List.append_nil] at ew
      subst ew
      have hw0 : ∀ i ∈ vl, i < S2.length → S2[i]? = some none := by
        intro i hi hl
        rw [eR] at hl ⊢
        exact wipeS_at hi (by rw [wipeS_len] at hl; exact hl)
      have relF := Rel.ofWipe vl hw0 a.rel
      have ow : Own X.K Hfi H2 1 (.lst done) (.ref D0) [D0] := .lst a.at_ a.rep.ownL
      refine q _ H2 Hfi Fi ⟨relF, st1.trans ⟨a.st.hf, fun b o e n => a.st.fr b o e fun z => n (subw b z), fun b o e n => a.st.new b o e fun z => n (subw b z), fun b h => (a.st.own b h).imp (subw b) id⟩, [D0], ow, ?_, ?_, ?_⟩ fun hp => ?_
      · rw [List.nodup_append]
        refine ⟨a.rel.nd, by simp, fun b hb d hd e => ?_⟩
        have : d = D0 := by simpa using hd
        rw [e, this] at hb
        exact a.out hb
      · intro b hb
        have : b = D0 := by simpa using hb
        rw [this]; exact a.off
      · intro b hb
        have : b = D0 := by simpa using hb
        rw [this]; exact st1.fresh hD
      · unfold CE.pure at hp
        simp only [Bool.and_eq_true] at hp
        exact (p1 hp.1.2).trans (a.pu (by show (elt.pure && ifs.pure) = true; rw [hp.1.1, hp.2]; rfl))
  · exact ps_setLc c.calm (by rw [c.hN]; exact c.nd) (by rw [c.hN]; exact hy) (by rw [c.sc]; exact hyl) hsw hi blk hg ht he (fun x => folded_not it _ x)

theorem it_loop {J : It} {m : Nat} {G : Hp → Prop} {Y : Nat → Hp → V → Hp → Prop} (w : Walk J m G Y) {B : (Hp → Prop) → V → Hp → Prop} {H4 : Hp} {Qd : Hp → Prop} (Pv : Nat → Hp → Prop) (h0 : Pv 0 H4) (hG : ∀ i H, i ≤ m → Pv i H → G H)
    (hs : ∀ i x H H', i < m → Pv i H → Y i H x H' → B (Pv (i + 1)) x H') (hd : ∀ H, Pv m H → Qd H) :
    ∃ W : Nat → Nat → Hp → Prop, (∃ k, W 0 k H4) ∧ ∀ i k H, W i k H → (J.stop i H ∧ Qd H) ∨ (J.go i H ∧ ∃ Nx : Hp → Prop, (∀ H', Nx H' → ∃ k', k' < k ∧ W (i + 1) k' H') ∧ ∀ x H', J.yld i H x H' → B Nx x H') := by
  refine ⟨fun i k H => k = m - i ∧ i ≤ m ∧ Pv i H, ⟨m, by simp, Nat.zero_le _, h0⟩, ?_⟩
  rintro i k H ⟨rfl, hi, p⟩
  have q := hG i H hi p
  by_cases hlt : i < m
  · exact .inr ⟨w.goes i H hlt q, Pv (i + 1), fun H' p' => ⟨m - (i + 1), by omega, rfl, hlt, p'⟩, fun x H' y => hs i x H H' hlt p (w.yields i H x H' hlt q y)⟩
  · have e : i = m := by omega
    subst e
    exact .inl ⟨w.stops H q, hd H p⟩
theorem wipe_sub {σ : L2.St} {own : List Nat} : ∀ {l : List Nat}, (∀ i ∈ l, i ∈ own) → wipe (wipe σ l) own = wipe σ own
  | [], _ => rfl
  | i :: l, h => by
    show wipe ((wipe σ l).set i none) own = _
    rw [wipe_set (h i (List.mem_cons_self ..))]
    exact wipe_sub fun j hj => h j (List.mem_cons_of_mem _ hj)
def lc2Turn (D : Den) (elt : CE) (t : CT) (ifs : CEs) (t1 : CT) (it1 : CI) (ifs1 : CEs) (own vs1 : List Nat) : Val → Slots → Option (List Val × Slots) := fun v S1 => (t.set v S1).bind fun S2 => (evts D ifs S2).bind fun b => bif b.1 then (evI D it1 b.2).bind fun q1 =>
      (compL (lcTurn D elt t1 ifs1 vs1) q1.1 (wipeS q1.2 vs1)).map fun z => (z.1, wipeS z.2 own) else some ([], wipeS b.2 own)
theorem lc2Turn_wiped {elt : CE} {t t1 : CT} {it1 : CI} {ifs ifs1 : CEs} {own vs1 : List Nat} {v : Val} {S S1 : Slots} {o : List Val} (e : lc2Turn D elt t ifs t1 it1 ifs1 own vs1 v S = some (o, S1)) : ∃ R, S1 = wipeS R own := by
  unfold lc2Turn at e
  rw [Option.bind_eq_some_iff] at e
  obtain ⟨S2, e1, e⟩ := e
  rw [Option.bind_eq_some_iff] at e
  obtain ⟨⟨b, S3⟩, e2, e⟩ := e
  cases b with
  | false => exact ⟨S3, (Prod.mk.inj (Option.some.inj (show some (([] : List Val), wipeS S3 own) = some (o, S1) from e))).2.symm⟩
  | true =>
    have e : ((evI D it1 S3).bind fun q1 => (compL (lcTurn D elt t1 ifs1 vs1) q1.1 (wipeS q1.2 vs1)).map fun z => (z.1, wipeS z.2 own)) = some (o, S1) := e
    rw [Option.bind_eq_some_iff] at e
    obtain ⟨q1, e3, e⟩ := e
    rw [Option.map_eq_some_iff] at e
    obtain ⟨z, _, e⟩ := e
    exact ⟨z.2, (Prod.mk.inj e).2.symm⟩
theorem s_lc2 (c : Ctx free D n N sc X) {elt : CE} {t t1 : CT} {it it1 : CI} {ifs ifs1 : CEs} {scp : Scope} {own : List (Str × Nat)} {vs1 : List Nat} {p : Pos} (ok : blkC N sc scp own = true) (hsl : ∀ j ∈ t.slots, j ∈ own.map (·.2)) (hsl1 : ∀ j ∈ t1.slots, j ∈ vs1) (hv : ∀ i ∈ vs1, i ∈ own.map (·.2))
    (hi : PI X t.py it.py (tI X.K D it))
    (hg : ∀ (s : Shared) (H : Hp) (C : Addr) (cl : List (Str × Addr)) (fp : List Addr), PG (X.blk s H scp (compEnvC scp cl C X.env) fp) t.py (tT X.K t)) (ht : ∀ (s : Shared) (H : Hp) (C : Addr) (cl : List (Str × Addr)) (fp : List Addr), PTs (X.blk s H scp (compEnvC scp cl C X.env) fp) ifs.py (tTests X.K D ifs))
    (hi1 : ∀ (s : Shared) (H : Hp) (C : Addr) (cl : List (Str × Addr)) (fp : List Addr), PI (X.blk s H scp (compEnvC scp cl C X.env) fp) t1.py it1.py (tI X.K D it1))
    (hg1 : ∀ (s : Shared) (H : Hp) (C : Addr) (cl : List (Str × Addr)) (fp : List Addr), PG (X.blk s H scp (compEnvC scp cl C X.env) fp) t1.py (tT X.K t1)) (ht1 : ∀ (s : Shared) (H : Hp) (C : Addr) (cl : List (Str × Addr)) (fp : List Addr), PTs (X.blk s H scp (compEnvC scp cl C X.env) fp) ifs1.py (tTests X.K D ifs1))
    (he : ∀ (s : Shared) (H : Hp) (C : Addr) (cl : List (Str × Addr)) (fp : List Addr), PE (X.blk s H scp (compEnvC scp cl C X.env) fp) elt.py (tEv X.K D elt)) :
    ∃ tl, (∀ σ H Q, tEv X.K D (.lc2 elt t it ifs t1 it1 ifs1 scp own vs1 p) σ H Q → tl σ H Q) ∧ PE X (CE.lc2 elt t it ifs t1 it1 ifs1 scp own vs1 p).py tl ∧
      (∀ {i : Nat} {y : Str} {py spos : Pos}, N[i]? = some y → sc.names.lookup y = some .local → swapsWith (CE.lc2 elt t it ifs t1 it1 ifs1 scp own vs1 p).py (some (.Name y py)) spos.line X.env = pure true → PS X (.Assign [.Name y py] (CE.lc2 elt t it ifs t1 it1 ifs1 scp own vs1 p).py spos) (tAsg tl (gName i))) := by
  have blk : BlkOk X.N X.env.scope scp own := by rw [c.hN, c.sc]; exact blkOk_by ok
  refine ⟨tLc2 (tI X.K D it) (tT X.K t) (tTests X.K D ifs) (tI X.K D it1) (tT X.K t1) (tTests X.K D ifs1) (tEv X.K D elt) (own.map fun z : Str × Nat => z.2) vs1, ?_, pe_lc2 (pos := p) c.calm (by rw [c.hN]; exact c.nd) hi blk hv hg ht hi1 hg1 ht1 he (fun x => folded_not it _ x) (fun _ x => folded_not it1 _ x), fun hy hyl hsw => ?_⟩
  · rintro σ H Q ⟨S, Hf, F, r, S', rel, hev, q⟩
    unfold ev at hev
    rw [Option.bind_eq_some_iff] at hev
    obtain ⟨⟨vs, S1⟩, e1, hev⟩ := hev
    rw [Option.bind_eq_some_iff] at hev
    obtain ⟨⟨ws, S2⟩, e2, hev⟩ := hev
    rw [gd_some] at hev
    obtain ⟨fl, hev⟩ := hev
    obtain ⟨rfl, rfl⟩ := Prod.mk.inj (Option.some.inj hev)
    have fl := of_decide_eq_true fl
    have e2 : compL (lc2Turn D elt t ifs t1 it1 ifs1 (own.map (·.2)) vs1) vs (wipeS S1 (own.map (·.2))) = some (ws, S2) := e2
    refine ⟨S, Hf, F, vs, S1, rel, e1, fun J H1 Hf1 F1 rel1 st1 p1 w => fun D0 hD => ?_⟩
    obtain ⟨F1', relw, subw⟩ := rel1.wipe (own.map (·.2))
    have relw2 := relw.anyAt (own.map (·.2)) fun i hi hl => wipeS_at hi (by rw [wipeS_len] at hl; exact hl)
    let vl := own.map (·.2)
    let pu := elt.pure && ifs.pure && it1.pure && ifs1.pure
    have a0 : Acc X.K Hf1 F1' H1 D0 pu (wipe σ vl) [] (wipeS S1 vl) Hf1 F1' [] (upd H1 D0 (.lst [])) := Acc.start relw2 hD
    refine it_loop (B := fun Nx x H' => tT X.K t x (wipe σ vl) H' fun σ2 H2 => wipe σ2 vl = wipe σ vl ∧ tTests X.K D ifs σ2 H2 fun b H3 => if b = true then tI X.K D it1 σ2 H3 fun J1 H4 => ∃ W1 : Nat → Nat → Hp → Prop, (∃ m, W1 0 m H4) ∧ ∀ j k H, W1 j k H →
      (J1.stop j H ∧ Nx H) ∨ (J1.go j H ∧ ∃ Nx1 : Hp → Prop, (∀ H', Nx1 H' → ∃ k', k' < k ∧ W1 (j + 1) k' H') ∧ ∀ x H', J1.yld j H x H' → tT X.K t1 x (wipe σ2 vs1) H' fun σ3 H5 => wipe σ3 vs1 = wipe σ2 vs1 ∧ tTests X.K D ifs1 σ3 H5 fun b H6 =>
        if b = true then tEv X.K D elt σ3 H6 fun y H7 => ∃ acc, H7 D0 = some (.lst acc) ∧ acc.length < sizeLine ∧ Nx1 (upd H7 D0 (.lst (acc ++ [y]))) else Nx1 H6) else Nx H3) w
      (fun i H' => ∃ Si Hfi Fi ys done rest, Acc X.K Hf1 F1' H1 D0 pu (wipe σ vl) done Si Hfi Fi ys H' ∧ compL (lc2Turn D elt t ifs t1 it1 ifs1 vl vs1) (vs.drop i) Si = some (rest, S2) ∧ done ++ rest = ws ∧ ∃ R, Si = wipeS R vl) ?_ ?_ ?_ ?_
    · exact ⟨_, _, _, _, [], ws, a0, by rw [List.drop_zero]; exact e2, rfl, _, rfl⟩
    · rintro i H' _ ⟨Si, Hfi, Fi, ys, done, rest, a, _⟩
      exact a.st.hf.trans a.rel.sub
    · rintro i x H2 H3 hi ⟨Si, Hfi, Fi, ys, done, rest, a, ec, ew, _⟩ yi
      obtain ⟨v, hv'⟩ : ∃ v, vs[i]? = some v := ⟨vs[i], List.getElem?_eq_getElem hi⟩
      obtain ⟨o, S3, rest', f1, f2, rfl⟩ := compL_step hv' ec
      have wiped := lc2Turn_wiped f1
      obtain ⟨v', Hf', ev', s', a', rv⟩ := a.item a.st.hf yi
      rw [hv'] at ev'
      cases ev'
      have f1' := f1
      unfold lc2Turn at f1
      rw [Option.bind_eq_some_iff] at f1
      obtain ⟨T2, g1, f1⟩ := f1
      rw [Option.bind_eq_some_iff] at f1
      obtain ⟨⟨b, T3⟩, g2, f1⟩ := f1
      refine ⟨Si, Hf', Fi, v, T2, a'.rel, rv, g1, fun σ2 F2 rel2 sub2 wp => ⟨(wp vl hsl).trans wipe_wipe, ?_⟩⟩
      have st2 : Step Hf' Fi H3 Hf' F2 H3 := ⟨HSub.refl _, fun _ _ e _ => e, fun _ _ _ _ => rfl, fun a h => .inl (sub2 a h)⟩
      have a2 := a'.step (b := true) rel2 st2 (fun _ => HSub.refl _) (fun _ => rfl)
      refine ⟨T2, Hf', F2, b, T3, rel2, g2, fun H4 Hf4 F4 rel4 st4 p4 => ?_⟩
      have a4 := a2.step (b := ifs.pure) rel4 st4 p4 (fun h => by
        have h : (elt.pure && ifs.pure && it1.pure && ifs1.pure) = true := h
        simp only [Bool.and_eq_true] at h
        exact h.1.1.2)
      have fin : ∀ {τ : L2.St} {So : Slots} {Hf5 : Hp} {F5 : List Addr} {ys5 : List V} {H5 : Hp}, wipe τ vl = wipe σ vl → wipeS So vl = S3 → Acc X.K Hf1 F1' H1 D0 pu τ (done ++ o) So Hf5 F5 ys5 H5 →
          ∃ Si Hfi Fi ys done' rest, Acc X.K Hf1 F1' H1 D0 pu (wipe σ vl) done' Si Hfi Fi ys H5 ∧ compL (lc2Turn D elt t ifs t1 it1 ifs1 vl vs1) (vs.drop (i + 1)) Si = some (rest, S2) ∧ done' ++ rest = ws ∧ ∃ R, Si = wipeS R vl := by
        intro τ So Hf5 F5 ys5 H5 hw hS a5
        obtain ⟨F6, a6⟩ := a5.wipe vl
        rw [hw, hS] at a6
        exact ⟨S3, Hf5, F6, ys5, done ++ o, rest', a6, f2, by rw [List.append_assoc]; exact ew, wiped⟩
      dsimp only
      cases b with
      | false =>
        rw [if_neg (by decide)]
        obtain ⟨e5, e6⟩ := Prod.mk.inj (Option.some.inj (show some (([] : List Val), wipeS T3 vl) = some (o, S3) from f1))
        subst e5
        rw [List.append_nil] at fin
        exact fin ((wp vl hsl).trans wipe_wipe) e6 a4
      | true =>
        rw [if_pos rfl]
        have f1 : ((evI D it1 T3).bind fun q1 => (compL (lcTurn D elt t1 ifs1 vs1) q1.1 (wipeS q1.2 vs1)).map fun z => (z.1, wipeS z.2 vl)) = some (o, S3) := f1
        rw [Option.bind_eq_some_iff] at f1
        obtain ⟨⟨us, T4⟩, g3, f1⟩ := f1
        rw [Option.map_eq_some_iff] at f1
        obtain ⟨⟨o', T5⟩, g4, f1⟩ := f1
        obtain ⟨rfl, e7⟩ := Prod.mk.inj f1
        refine ⟨T3, Hf4, F4, us, T4, rel4, g3, fun J1 H5 Hf5 F5 rel5 st5 p5 w1 => ?_⟩
        have a5 := a4.step (b := it1.pure) rel5 st5 p5 (fun h => by
          have h : (elt.pure && ifs.pure && it1.pure && ifs1.pure) = true := h
          simp only [Bool.and_eq_true] at h
          exact h.1.2)
        obtain ⟨F6, a6⟩ := a5.wipe vs1
        refine it_loop (B := fun Nx1 x H' => tT X.K t1 x (wipe σ2 vs1) H' fun σ3 H5 => wipe σ3 vs1 = wipe σ2 vs1 ∧ tTests X.K D ifs1 σ3 H5 fun b H6 =>
          if b = true then tEv X.K D elt σ3 H6 fun y H7 => ∃ acc, H7 D0 = some (.lst acc) ∧ acc.length < sizeLine ∧ Nx1 (upd H7 D0 (.lst (acc ++ [y]))) else Nx1 H6) w1
          (fun j H' => ∃ Sj Hfj Fj ys1 done1 rest1, Acc X.K Hf1 F1' H1 D0 pu (wipe σ2 vs1) done1 Sj Hfj Fj ys1 H' ∧ HSub Hf5 Hfj ∧ compL (lcTurn D elt t1 ifs1 vs1) (us.drop j) Sj = some (rest1, T5) ∧ done1 ++ rest1 = done ++ o') ?_ ?_ ?_ ?_
        · exact ⟨_, _, _, _, done, o', a6, HSub.refl _, by rw [List.drop_zero]; exact g4, rfl⟩
        · rintro j H' _ ⟨Sj, Hfj, Fj, ys1, done1, rest1, b1, b2, _⟩
          exact b2.trans b1.rel.sub
        · rintro j y H7 H8 hj ⟨Sj, Hfj, Fj, ys1, done1, rest1, b1, b2, b3, b4⟩ yj
          obtain ⟨u, hu⟩ : ∃ v, us[j]? = some v := ⟨us[j], List.getElem?_eq_getElem hj⟩
          obtain ⟨o1, S6, rest2, k1, k2, rfl⟩ := compL_step hu b3
          refine lc_turn (tot := ws.length) b1 b2 yj hu k1 hsl1 (fun h => ?_) ?_ fl wipe_wipe fun Hf9 F9 ys9 H9 τ9 wp9 a9 s9 => ?_
          · have h : (elt.pure && ifs.pure && it1.pure && ifs1.pure) = true := h
            simp only [Bool.and_eq_true] at h ⊢
            exact ⟨h.1.1.1, h.2⟩
          · have q1 := congrArg List.length ew
            have q2 := congrArg List.length b4
            simp only [List.length_append] at q1 q2 ⊢
            omega
          · exact ⟨S6, Hf9, F9, ys9, done1 ++ o1, rest2, a9, b2.trans s9, k2, by rw [List.append_assoc]; exact b4⟩
        · rintro H7 ⟨Sj, Hfj, Fj, ys1, done1, rest1, b1, b2, b3, b4⟩
          obtain ⟨rfl, rfl⟩ := compL_end b3
          rw [List.append_nil] at b4
          subst b4
          exact fin ((wipe_sub hv).trans ((wp vl hsl).trans wipe_wipe)) e7 b1
    · rintro H2 ⟨Si, Hfi, Fi, ys, done, rest, a, ec, ew, R, eR⟩
      obtain ⟨rfl, rfl⟩ := compL_end ec
      rw [List.append_nil] at ew
      subst ew
      have hw0 : ∀ i ∈ vl, i < S2.length → S2[i]? = some none := by
        intro i hi hl
        rw [eR] at hl ⊢
        exact wipeS_at hi (by rw [wipeS_len] at hl; exact hl)
      have relF := Rel.ofWipe vl hw0 a.rel
      have ow : Own X.K Hfi H2 1 (.lst done) (.ref D0) [D0] := .lst a.at_ a.rep.ownL
      refine q _ H2 Hfi Fi ⟨relF, st1.trans ⟨a.st.hf, fun b o e n => a.st.fr b o e fun z => n (subw b z), fun b o e n => a.st.new b o e fun z => n (subw b z), fun b h => (a.st.own b h).imp (subw b) id⟩, [D0], ow, ?_, ?_, ?_⟩ fun hp => ?_
      · rw [List.nodup_append]
        refine ⟨a.rel.nd, by simp, fun b hb d hd e => ?_⟩
        have : d = D0 := by simpa using hd
        rw [e, this] at hb
        exact a.out hb
      · intro b hb
        have : b = D0 := by simpa using hb
        rw [this]; exact a.off
      · intro b hb
        have : b = D0 := by simpa using hb
        rw [this]; exact st1.fresh hD
      · unfold CE.pure at hp
        simp only [Bool.and_eq_true] at hp
        exact (p1 hp.1.1.1.2).trans (a.pu (by show (elt.pure && ifs.pure && it1.pure && ifs1.pure) = true; rw [hp.1.1.1.1, hp.1.1.2, hp.1.2, hp.2]; rfl))
  · exact ps_setLc2 c.calm (by rw [c.hN]; exact c.nd) (by rw [c.hN]; exact hy) (by rw [c.sc]; exact hyl) hsw hi blk hv hg ht hi1 hg1 ht1 he (fun x => folded_not it _ x) (fun _ x => folded_not it1 _ x)
end
end BV
/-! Every expression that is well formed means what it means. -/
namespace BV
open PySem PySem.Spec PyProof.Rows L2
/-- the scope of a comprehension's block within a def's -/
def relC (sc scp : Scope) : Scope := { scp with names := scp.names.map fun (n, k) => if (k == .free && sc.kind == .function && sc.names.lookup n == some .cell) then (n, .cell) else (n, k) }
theorem relC_ok {sc scp : Scope} {env : Env} (h : env.scope = sc) (cl : List (Str × Addr)) (C : Addr) : (compEnvC scp cl C env).scope = relC sc scp := by
  subst h; rfl
def fbC (sc scp : Scope) (x : Str) : Bool := (scp.names.lookup x == some .cell) || ((relC sc scp).names.lookup x == some .local)
structure WT where
  free : List Str
  calls : List CallSh
def nm (N : List Str) (sc : Scope) (i : Nat) (x : Str) : Bool := decide (N[i]? = some x) && visB sc x && okName x
def tgOk : CI → CT → Bool
  | .enum .., .name .. => false
  | .zip .., .name .. => false
  | _, _ => true
mutual
def CE.wf (T : WT) (N : List Str) (sc : Scope) : CE → Bool
  | .cst .. => true
  | .var i x _ => nm N sc i x
  | .brw i x _ => nm N sc i x
  | .mov i x _ => nm N sc i x
  | .ref .. => false
  | .pth i x _ k _ => nm N sc i x && k.wf T N sc
  | .glb x _ => glB sc x && okName x
  | .tup es _ _ => es.wf T N sc
  | .lst es _ => es.wf T N sc
  | .dic0 _ => true
  | .bin _ a b _ => a.wf T N sc && b.wf T N sc
  | .neg a _ => a.wf T N sc
  | .nt a _ => a.wf T N sc
  | .bop _ es _ => decide (es.len ≠ 0) && es.wf T N sc
  | .cmp _ a b _ => a.wf T N sc && b.wf T N sc
  | .chn _ _ a b c _ => a.wf T N sc && b.wf T N sc && c.wf T N sc
  | .ifx c a b _ => c.wf T N sc && a.wf T N sc && b.wf T N sc
  | .isi a t _ _ _ => glB sc "isinstance" && glB sc (Str.ofString t.name) && decide (("isinstance" : Str) ∈ T.free) && decide (Str.ofString t.name ∈ T.free) && a.wf T N sc
  | .blt f _ es _ => glB sc f.name && decide (f.name ∈ T.free) && decide (es.len ≠ 0) && es.wf T N sc
  | .call c x _ es ks _ => (match T.calls[c]? with
    | some sh => decide (sh.x = x) && decide (es.len = sh.n) && decide (ks.names = sh.ks)
    | none => false) && glB sc x && okName x && es.wfA T N sc && ks.wf T N sc
  | .idx a i _ => a.wf T N sc && i.wf T N sc
  | .slc a lo hi _ _ => a.wf T N sc && lo.wf T N sc && hi.wf T N sc
  | .lc elt t it ifs scp own _ => blkC N sc scp own && (t.slots.all fun j => decide (j ∈ own.map (·.2))) && it.wf T N sc && tgOk it t && t.wf N (relC sc scp) (fbC sc scp) && decide (ifs.len ≤ 1) && ifs.wf T N (relC sc scp) && elt.wf T N (relC sc scp)
  | .lc2 elt t it ifs t1 it1 ifs1 scp own vs1 _ => blkC N sc scp own && (t.slots.all fun j => decide (j ∈ own.map (·.2))) && it.wf T N sc && tgOk it t && t.wf N (relC sc scp) (fbC sc scp) && decide (ifs.len ≤ 1) && ifs.wf T N (relC sc scp) &&
      (t1.slots.all fun j => decide (j ∈ vs1)) && (vs1.all fun j => decide (j ∈ own.map (·.2))) && it1.wf T N (relC sc scp) && tgOk it1 t1 && t1.wf N (relC sc scp) (fbC sc scp) && decide (ifs1.len ≤ 1) && ifs1.wf T N (relC sc scp) && elt.wf T N (relC sc scp)
  | .popAt i x _ _ _ _ pa p => nm N sc i x && (pa.endLine == p.line)
def CEs.wf (T : WT) (N : List Str) (sc : Scope) : CEs → Bool
  | .nil => true
  | .cons e es => e.wf T N sc && es.wf T N sc
def CEs.wfA (T : WT) (N : List Str) (sc : Scope) : CEs → Bool
  | .nil => true
  | .cons (.ref i x _) es => nm N sc i x && es.wfA T N sc
  | .cons e es => e.wf T N sc && es.wfA T N sc
def CKs.wf (T : WT) (N : List Str) (sc : Scope) : CKs → Bool
  | .nil => true
  | .cons _ e _ ks => e.wf T N sc && ks.wf T N sc
def CO.wf (T : WT) (N : List Str) (sc : Scope) : CO → Bool
  | .no => true
  | .is e => e.wf T N sc
def CI.wf (T : WT) (N : List Str) (sc : Scope) : CI → Bool
  | .seq e => e.wf T N sc
  | .rng1 _ a _ => glB sc "range" && decide (("range" : Str) ∈ T.free) && a.wf T N sc
  | .rng2 _ a b _ => glB sc "range" && decide (("range" : Str) ∈ T.free) && a.wf T N sc && b.wf T N sc
  | .enum _ a _ => glB sc "enumerate" && decide (("enumerate" : Str) ∈ T.free) && a.wf T N sc
  | .zip _ a b _ => glB sc "zip" && decide (("zip" : Str) ∈ T.free) && a.wf T N sc && b.wf T N sc
end
section
variable {T : WT} {D : Den} {n : Nat} {N : List Str}
theorem nm_ok {sc : Scope} {i : Nat} {x : Str} (h : nm N sc i x = true) : N[i]? = some x ∧ visB sc x = true ∧ okName x = true := by
  unfold nm at h
  simp only [Bool.and_eq_true] at h
  exact ⟨of_decide_eq_true h.1.1, h.1.2, h.2⟩
theorem Ctx.blk {free : List Str} {sc scp : Scope} {X : Cx} (c : Ctx free D n N sc X) (s : Shared) (H : Hp) (C : Addr) (cl : List (Str × Addr)) (fp : List Addr) : Ctx free D n N (relC sc scp) (X.blk s H scp (compEnvC scp cl C X.env) fp) :=
  ⟨c.hN, c.nd, relC_ok c.sc cl C, c.calm, rfl, c.gu, c.room, c.con, c.fre, fun i sh h => ⟨(c.cal i sh h).ex⟩⟩
theorem fn_blk {sc scp : Scope} {X : Cx} (h : X.env.scope = sc) (s : Shared) (H : Hp) (C : Addr) (cl : List (Str × Addr)) (fp : List Addr) (x : Str) (e : fbC sc scp x = true) :
    (X.blk s H scp (compEnvC scp cl C X.env) fp).fn x = true ∨ (X.blk s H scp (compEnvC scp cl C X.env) fp).env.scope.names.lookup x = some .local := by
  unfold fbC at e
  rw [Bool.or_eq_true] at e
  rcases e with e | e
  · exact .inl e
  · right
    show (compEnvC scp cl C X.env).scope.names.lookup x = some .local
    rw [relC_ok h]
    exact beq_iff_eq.mp e
theorem tg_tup {it : CI} {t : CT} (h : tgOk it t = true) : (∀ np a p, it = .enum np a p → ∃ ts k p', t = .tup ts k p') ∧ ∀ np a b p, it = .zip np a b p → ∃ ts k p', t = .tup ts k p' := by
  refine ⟨fun np a p e => ?_, fun np a b p e => ?_⟩ <;> subst e <;> cases t with
  | name => cases h
  | tup ts k p' => exact ⟨ts, k, p', rfl⟩
/-- {} -/
theorem s_dic0 {D : Den} {X : Cx} {p : Pos} : PE X (CE.dic0 p).py (tEv X.K D (.dic0 p)) := by
  refine peBy pe_dnewK fun σ H Q ⟨S, Hf, F, r, S', rel, he, q⟩ => ?_
  unfold ev at he
  cases he
  intro a ha
  have hpF : a ∉ F := fun h => by obtain ⟨o, e⟩ := rel.dom a h; rw [e] at ha; cases ha
  have hf : Hf a = none := by
    cases z : Hf a with
    | none => rfl
    | some o => rw [rel.sub a o z] at ha; cases ha
  refine q _ _ Hf F ⟨rel.upd ha, (Step.refl Hf F H).upd ha, [a], .dic upd_same .nil, ?_, ?_, ?_⟩ fun _ => HSub.upd ha
  · rw [List.nodup_append]
    refine ⟨rel.nd, by simp, fun b hb c hc e => ?_⟩
    have : c = a := by simpa using hc
    exact hpF (this ▸ e ▸ hb)
  · intro b hb
    have : b = a := by simpa using hb
    rw [this]; exact hf
  · intro b hb
    have : b = a := by simpa using hb
    rw [this]; exact .inr ha
/-- a choice, as a test -/
def tChoose (t ta tb : TT) : TT := fun σ H Q => t σ H fun c H1 => if c = true then ta σ H1 Q else tb σ H1 Q
theorem pt_choose {X : Cx} {c a b : Expr} {pos : Pos} {tc ta tb : TT} (hc : PT X c tc) (ha : PT X a ta) (hb : PT X b tb) : PT X (.IfExp c a b pos) (tChoose tc ta tb) := by
  refine ⟨fun pins s σ H Q I h => isTrue_IfExp (thn (hc.run pins s σ H _ I h) fun d s1 ⟨H1, I1, q1⟩ => ?_)⟩
  cases d with
  | true => exact ha.run pins s1 σ H1 Q I1 q1
  | false => exact hb.run pins s1 σ H1 Q I1 q1
theorem t_ifx {D : Den} {X : Cx} {c a b : CE} {p : Pos} (hc : PT X c.py (tTs X.K D c)) (ha : PT X a.py (tTs X.K D a)) (hb : PT X b.py (tTs X.K D b)) : PT X (CE.ifx c a b p).py (tTs X.K D (.ifx c a b p)) := by
  refine ptBy (pt_choose hc ha hb) fun σ H Q ⟨S, Hf, F, bb, S', rel, ht, q⟩ => ?_
  obtain ⟨r, he, et⟩ := tst_some ht
  unfold ev at he
  rw [Option.bind_eq_some_iff] at he
  obtain ⟨⟨t, S1⟩, e1, he⟩ := he
  refine ⟨S, Hf, F, t, S1, rel, e1, fun H1 Hf1 F1 rel1 st1 p1 => ?_⟩
  have hp : ∀ e : CE, (CE.ifx c a b p).pure = true → c.pure = true ∧ a.pure = true ∧ b.pure = true := by
    intro _ hp
    unfold CE.pure at hp
    simp only [Bool.and_eq_true] at hp
    exact ⟨hp.1.1, hp.1.2, hp.2⟩
  cases t with
  | true =>
    show tTs X.K D a σ H1 Q
    exact ⟨S1, Hf1, F1, bb, S', rel1, by show tst (ev D a S1) = _; rw [show ev D a S1 = some (r, S') from he]; unfold tst; rw [Option.bind_some, et]; rfl, fun H2 Hf2 F2 rel2 st2 p2 => q H2 Hf2 F2 rel2 (st1.trans st2) fun h => (p1 (hp c h).1).trans (p2 (hp c h).2.1)⟩
  | false =>
    show tTs X.K D b σ H1 Q
    exact ⟨S1, Hf1, F1, bb, S', rel1, by show tst (ev D b S1) = _; rw [show ev D b S1 = some (r, S') from he]; unfold tst; rw [Option.bind_some, et]; rfl, fun H2 Hf2 F2 rel2 st2 p2 => q H2 Hf2 F2 rel2 (st1.trans st2) fun h => (p1 (hp c h).1).trans (p2 (hp c h).2.2)⟩
mutual
theorem both : ∀ (e : CE) (sc : Scope) (X : Cx), Ctx T.free D n N sc X → T.calls = D.calls → e.wf T N sc = true → PE X e.py (tEv X.K D e) ∧ PT X e.py (tTs X.K D e)
  | .cst c k p, sc, X, cx, hc, w => ⟨s_cst, t_val s_cst fun _ => rfl⟩
  | .var i x p, sc, X, cx, hc, w => by
    obtain ⟨a, b, c⟩ := nm_ok (show nm N sc i x = true from w)
    exact ⟨s_var cx a b c, t_val (s_var cx a b c) fun _ => rfl⟩
  | .brw i x p, sc, X, cx, hc, w => by
    obtain ⟨a, b, c⟩ := nm_ok (show nm N sc i x = true from w)
    exact ⟨s_brw cx a b c, t_val (s_brw cx a b c) fun _ => rfl⟩
  | .mov i x p, sc, X, cx, hc, w => by
    obtain ⟨a, b, c⟩ := nm_ok (show nm N sc i x = true from w)
    exact ⟨s_mov cx a b c, t_val (s_mov cx a b c) fun _ => rfl⟩
  | .ref i x p, sc, X, cx, hc, w => by cases (show false = true from w)
  | .pth i x px k p, sc, X, cx, hc, w => by
    have w : (nm N sc i x && k.wf T N sc) = true := w
    rw [Bool.and_eq_true] at w
    obtain ⟨a, b, c⟩ := nm_ok w.1
    have h := s_pth (px := px) (p := p) cx a b c (both k sc X cx hc w.2).1
    exact ⟨h, t_val h fun _ => rfl⟩
  | .glb x p, sc, X, cx, hc, w => by
    have w : (glB sc x && okName x) = true := w
    rw [Bool.and_eq_true] at w
    exact ⟨s_glb cx w.1 w.2, t_val (s_glb cx w.1 w.2) fun _ => rfl⟩
  | .tup es k p, sc, X, cx, hc, w => by
    have h := s_tup (k := k) (p := p) (all es sc X cx hc w).1
    exact ⟨h, t_val h fun _ => rfl⟩
  | .lst es p, sc, X, cx, hc, w => by
    have h := s_lst (p := p) (all es sc X cx hc w).1
    exact ⟨h, t_val h fun _ => rfl⟩
  | .dic0 p, sc, X, cx, hc, w => ⟨s_dic0, t_val s_dic0 fun _ => rfl⟩
  | .bin op a b p, sc, X, cx, hc, w => by
    have w : (a.wf T N sc && b.wf T N sc) = true := w
    rw [Bool.and_eq_true] at w
    have h := s_bin (op := op) (p := p) (both a sc X cx hc w.1).1 (both b sc X cx hc w.2).1
    exact ⟨h, t_val h fun _ => rfl⟩
  | .neg a p, sc, X, cx, hc, w => by
    have h := s_neg (p := p) (both a sc X cx hc w).1
    exact ⟨h, t_val h fun _ => rfl⟩
  | .nt a p, sc, X, cx, hc, w => ⟨s_nt (both a sc X cx hc w).1, t_nt (both a sc X cx hc w).2⟩
  | .bop o es p, sc, X, cx, hc, w => by
    have w : (decide (es.len ≠ 0) && es.wf T N sc) = true := w
    rw [Bool.and_eq_true] at w
    have h := (all es sc X cx hc w.2).2.2.2 (of_decide_eq_true w.1) o p
    exact ⟨s_bop h.1, t_bop h.2⟩
  | .cmp op a b p, sc, X, cx, hc, w => by
    have w : (a.wf T N sc && b.wf T N sc) = true := w
    rw [Bool.and_eq_true] at w
    have ha := (both a sc X cx hc w.1).1
    have hb := (both b sc X cx hc w.2).1
    exact ⟨s_cmp cx (no_marks op b) ha hb, t_cmp cx (no_marks op b) ha hb⟩
  | .chn op op' a b c p, sc, X, cx, hc, w => by
    have w : (a.wf T N sc && b.wf T N sc && c.wf T N sc) = true := w
    simp only [Bool.and_eq_true] at w
    have ha := (both a sc X cx hc w.1.1).1
    have hb := (both b sc X cx hc w.1.2).1
    have hd := (both c sc X cx hc w.2).1
    exact ⟨s_chn cx (no_marks op' c) ha hb hd, t_chn cx (no_marks op' c) ha hb hd⟩
  | .ifx c a b p, sc, X, cx, hc, w => by
    have w : (c.wf T N sc && a.wf T N sc && b.wf T N sc) = true := w
    simp only [Bool.and_eq_true] at w
    exact ⟨s_ifx (both c sc X cx hc w.1.1).2 (both a sc X cx hc w.1.2).1 (both b sc X cx hc w.2).1, t_ifx (both c sc X cx hc w.1.1).2 (both a sc X cx hc w.1.2).2 (both b sc X cx hc w.2).2⟩
  | .isi a t np tp p, sc, X, cx, hc, w => by
    have w : (glB sc "isinstance" && glB sc (Str.ofString t.name) && decide (("isinstance" : Str) ∈ T.free) && decide (Str.ofString t.name ∈ T.free) && a.wf T N sc) = true := w
    simp only [Bool.and_eq_true, decide_eq_true_eq] at w
    have h := s_isi (np := np) (tp := tp) (p := p) cx w.1.1.1.1 w.1.1.1.2 w.1.1.2 w.1.2 (both a sc X cx hc w.2).1
    exact ⟨h, t_val h fun _ => rfl⟩
  | .blt f np .nil p, sc, X, cx, hc, w => by
    have w : (glB sc f.name && decide (f.name ∈ T.free) && decide (CEs.nil.len ≠ 0) && CEs.nil.wf T N sc) = true := w
    simp only [Bool.and_eq_true, decide_eq_true_eq] at w
    exact absurd rfl w.1.2
  | .blt f np (.cons e es) p, sc, X, cx, hc, w => by
    have w : (glB sc f.name && decide (f.name ∈ T.free) && decide ((CEs.cons e es).len ≠ 0) && (CEs.cons e es).wf T N sc) = true := w
    simp only [Bool.and_eq_true, decide_eq_true_eq] at w
    have h := s_blt (np := np) (p := p) cx w.1.1.1 w.1.1.2 (all (.cons e es) sc X cx hc w.2).2.1
    exact ⟨h, t_val h fun _ => rfl⟩
  | .call ci x np es ks p, sc, X, cx, hc, w => by
    have w : ((match T.calls[ci]? with
      | some sh => decide (sh.x = x) && decide (es.len = sh.n) && decide (ks.names = sh.ks)
      | none => false) && glB sc x && okName x && es.wfA T N sc && ks.wf T N sc) = true := w
    simp only [Bool.and_eq_true] at w
    obtain ⟨⟨⟨⟨w1, w2⟩, w3⟩, w4⟩, w5⟩ := w
    rw [hc] at w1
    cases q : D.calls[ci]? with
    | none => rw [q] at w1; cases w1
    | some sh =>
      rw [q] at w1
      simp only [Bool.and_eq_true, decide_eq_true_eq] at w1
      have h := s_call (np := np) (p := p) cx q w1.1.1 w1.1.2 w1.2 w2 w3 (args es sc X cx hc w4) (kws ks sc X cx hc w5)
      exact ⟨h, t_val h fun _ => rfl⟩
  | .idx a i p, sc, X, cx, hc, w => by
    have w : (a.wf T N sc && i.wf T N sc) = true := w
    rw [Bool.and_eq_true] at w
    have h := s_idx (p := p) (both a sc X cx hc w.1).1 (both i sc X cx hc w.2).1
    exact ⟨h, t_val h fun _ => rfl⟩
  | .slc a lo hi sp p, sc, X, cx, hc, w => by
    have w : (a.wf T N sc && lo.wf T N sc && hi.wf T N sc) = true := w
    simp only [Bool.and_eq_true] at w
    have h := s_slc (sp := sp) (p := p) (both a sc X cx hc w.1.1).1 (opt lo sc X cx hc w.1.2) (opt hi sc X cx hc w.2)
    exact ⟨h, t_val h fun _ => rfl⟩
  | .lc elt t it ifs scp own p, sc, X, cx, hc, w => by
    have w : (blkC N sc scp own && (t.slots.all fun j => decide (j ∈ own.map (·.2))) && it.wf T N sc && tgOk it t && t.wf N (relC sc scp) (fbC sc scp) && decide (ifs.len ≤ 1) && ifs.wf T N (relC sc scp) && elt.wf T N (relC sc scp)) = true := w
    simp only [Bool.and_eq_true] at w
    obtain ⟨⟨⟨⟨⟨⟨⟨w1, w2⟩, w3⟩, w4⟩, w5⟩, w6⟩, w7⟩, w8⟩ := w
    obtain ⟨tl, h1, h2, _⟩ := s_lc (p := p) cx w1 (fun j hj => of_decide_eq_true (List.all_eq_true.mp w2 j hj)) (iters it sc X cx hc w3 t w4) (fun s H C cl fp => g_ct (cx.blk s H C cl fp) (fn_blk cx.sc s H C cl fp) t w5)
      (fun s H C cl fp => tests ifs _ _ (cx.blk s H C cl fp) hc w7 (of_decide_eq_true w6)) (fun s H C cl fp => (both elt _ _ (cx.blk s H C cl fp) hc w8).1)
    have h := peBy h2 h1
    exact ⟨h, t_val h fun _ => rfl⟩
  | .lc2 elt t it ifs t1 it1 ifs1 scp own vs1 p, sc, X, cx, hc, w => by
    have w : (blkC N sc scp own && (t.slots.all fun j => decide (j ∈ own.map (·.2))) && it.wf T N sc && tgOk it t && t.wf N (relC sc scp) (fbC sc scp) && decide (ifs.len ≤ 1) && ifs.wf T N (relC sc scp) &&
      (t1.slots.all fun j => decide (j ∈ vs1)) && (vs1.all fun j => decide (j ∈ own.map (·.2))) && it1.wf T N (relC sc scp) && tgOk it1 t1 && t1.wf N (relC sc scp) (fbC sc scp) && decide (ifs1.len ≤ 1) && ifs1.wf T N (relC sc scp) && elt.wf T N (relC sc scp)) = true := w
    simp only [Bool.and_eq_true] at w
    obtain ⟨⟨⟨⟨⟨⟨⟨⟨⟨⟨⟨⟨⟨⟨w1, w2⟩, w3⟩, w4⟩, w5⟩, w6⟩, w7⟩, w8⟩, w9⟩, w10⟩, w11⟩, w12⟩, w13⟩, w14⟩, w15⟩ := w
    obtain ⟨tl, h1, h2, _⟩ := s_lc2 (p := p) cx w1 (fun j hj => of_decide_eq_true (List.all_eq_true.mp w2 j hj)) (fun j hj => of_decide_eq_true (List.all_eq_true.mp w8 j hj)) (fun j hj => of_decide_eq_true (List.all_eq_true.mp w9 j hj))
      (iters it sc X cx hc w3 t w4) (fun s H C cl fp => g_ct (cx.blk s H C cl fp) (fn_blk cx.sc s H C cl fp) t w5)
      (fun s H C cl fp => tests ifs _ _ (cx.blk s H C cl fp) hc w7 (of_decide_eq_true w6)) (fun s H C cl fp => iters it1 _ _ (cx.blk s H C cl fp) hc w10 t1 w11) (fun s H C cl fp => g_ct (cx.blk s H C cl fp) (fn_blk cx.sc s H C cl fp) t1 w12)
      (fun s H C cl fp => tests ifs1 _ _ (cx.blk s H C cl fp) hc w14 (of_decide_eq_true w13)) (fun s H C cl fp => (both elt _ _ (cx.blk s H C cl fp) hc w15).1)
    have h := peBy h2 h1
    exact ⟨h, t_val h fun _ => rfl⟩
  | .popAt i x px k pk j pa p, sc, X, cx, hc, w => by
    have w : (nm N sc i x && (pa.endLine == p.line)) = true := w
    rw [Bool.and_eq_true] at w
    obtain ⟨a, b, c⟩ := nm_ok w.1
    have h := s_popAt (px := px) (pk := pk) (k := k) (j := j) cx a b c w.2
    exact ⟨h, t_val h fun _ => rfl⟩
theorem all : ∀ (es : CEs) (sc : Scope) (X : Cx), Ctx T.free D n N sc X → T.calls = D.calls → es.wf T N sc = true → PA X es.py (tEvs X.K D es) ∧ PA X es.py (tEvo X.K D es) ∧ PA X es.py (tEva X.K D es) ∧
    (es.len ≠ 0 → ∀ o p, PE X (.BoolOp o es.py p) (tEb X.K D o es) ∧ PW X (.BoolOp o es.py p) (tEt X.K D (fun S => tst (evb D o es S)) es.pure))
  | .nil, sc, X, cx, hc, w => ⟨pa_nilT, pa_nilO, pa_nilA, fun h => absurd rfl h⟩
  | .cons e .nil, sc, X, cx, hc, w => by
    have w : (e.wf T N sc && true) = true := w
    rw [Bool.and_eq_true] at w
    have h := both e sc X cx hc w.1
    exact ⟨pa_consT h.1 pa_nilT, pa_consO h.1 pa_nilO, pa_consA (fun i x p z => by subst z; cases (show false = true from w.1)) h.1 pa_nilA, fun _ o p => ⟨b_one h.1, t_bop1 h.2⟩⟩
  | .cons e (.cons e2 es), sc, X, cx, hc, w => by
    have w : (e.wf T N sc && (CEs.cons e2 es).wf T N sc) = true := w
    rw [Bool.and_eq_true] at w
    have h := both e sc X cx hc w.1
    have r := all (.cons e2 es) sc X cx hc w.2
    refine ⟨pa_consT h.1 r.1, pa_consO h.1 r.2.1, pa_consA (fun i x p z => by subst z; cases (show false = true from w.1)) h.1 r.2.2.1, fun _ o p => ?_⟩
    have rr := r.2.2.2 (by unfold CEs.len; omega) o p
    exact ⟨b_more h.1 rr.1, t_bop2 h.2 rr.2⟩
theorem args : ∀ (es : CEs) (sc : Scope) (X : Cx), Ctx T.free D n N sc X → T.calls = D.calls → es.wfA T N sc = true → PA X es.py (tEva X.K D es)
  | .nil, sc, X, cx, hc, w => pa_nilA
  | .cons e es, sc, X, cx, hc, w => by
    by_cases hr : ∃ i x p, e = .ref i x p
    · obtain ⟨i, x, p, rfl⟩ := hr
      have w : (nm N sc i x && es.wfA T N sc) = true := w
      rw [Bool.and_eq_true] at w
      obtain ⟨a, b, c⟩ := nm_ok w.1
      exact pa_refA cx a b c (args es sc X cx hc w.2)
    · have w : (e.wf T N sc && es.wfA T N sc) = true := by
        cases e <;> first | exact w | exact absurd ⟨_, _, _, rfl⟩ hr
      rw [Bool.and_eq_true] at w
      exact pa_consA (fun i x p z => hr ⟨i, x, p, z⟩) (both e sc X cx hc w.1).1 (args es sc X cx hc w.2)
theorem kws : ∀ (ks : CKs) (sc : Scope) (X : Cx), Ctx T.free D n N sc X → T.calls = D.calls → ks.wf T N sc = true → PK X ks.py (tEvk X.K D ks)
  | .nil, sc, X, cx, hc, w => pk_nilA
  | .cons x e p ks, sc, X, cx, hc, w => by
    have w : (e.wf T N sc && ks.wf T N sc) = true := w
    rw [Bool.and_eq_true] at w
    exact pk_consA (both e sc X cx hc w.1).1 (kws ks sc X cx hc w.2)
theorem opt : ∀ (o : CO) (sc : Scope) (X : Cx), Ctx T.free D n N sc X → T.calls = D.calls → o.wf T N sc = true → ∀ e, o = .is e → PE X e.py (tEv X.K D e)
  | .no, sc, X, cx, hc, w, e, h => by cases h
  | .is e', sc, X, cx, hc, w, e, h => by
    cases h
    exact (both e' sc X cx hc w).1
theorem tests : ∀ (ifs : CEs) (sc : Scope) (X : Cx), Ctx T.free D n N sc X → T.calls = D.calls → ifs.wf T N sc = true → ifs.len ≤ 1 → PTs X ifs.py (tTests X.K D ifs)
  | .nil, sc, X, cx, hc, w, hl => pts_ce (fun e h => by cases h) hl
  | .cons e es, sc, X, cx, hc, w, hl => by
    have w : (e.wf T N sc && es.wf T N sc) = true := w
    rw [Bool.and_eq_true] at w
    refine pts_ce (fun e' h => ?_) hl
    cases h
    exact (both e sc X cx hc w.1).2
theorem iters : ∀ (it : CI) (sc : Scope) (X : Cx), Ctx T.free D n N sc X → T.calls = D.calls → it.wf T N sc = true → ∀ (t : CT), tgOk it t = true → PI X t.py it.py (tI X.K D it)
  | .seq e, sc, X, cx, hc, w, t, h => i_seq (both e sc X cx hc w).1
  | .rng1 np a p, sc, X, cx, hc, w, t, h => by
    have w : (glB sc "range" && decide (("range" : Str) ∈ T.free) && a.wf T N sc) = true := w
    simp only [Bool.and_eq_true, decide_eq_true_eq] at w
    exact i_rng1 cx w.1.1 w.1.2 (both a sc X cx hc w.2).1
  | .rng2 np a b p, sc, X, cx, hc, w, t, h => by
    have w : (glB sc "range" && decide (("range" : Str) ∈ T.free) && a.wf T N sc && b.wf T N sc) = true := w
    simp only [Bool.and_eq_true, decide_eq_true_eq] at w
    exact i_rng2 cx w.1.1.1 w.1.1.2 (both a sc X cx hc w.1.2).1 (both b sc X cx hc w.2).1
  | .enum np a p, sc, X, cx, hc, w, t, h => by
    have w : (glB sc "enumerate" && decide (("enumerate" : Str) ∈ T.free) && a.wf T N sc) = true := w
    simp only [Bool.and_eq_true, decide_eq_true_eq] at w
    obtain ⟨ts, k, p', rfl⟩ := (tg_tup h).1 np a p rfl
    exact i_enum cx w.1.1 w.1.2 (both a sc X cx hc w.2).1
  | .zip np a b p, sc, X, cx, hc, w, t, h => by
    have w : (glB sc "zip" && decide (("zip" : Str) ∈ T.free) && a.wf T N sc && b.wf T N sc) = true := w
    simp only [Bool.and_eq_true, decide_eq_true_eq] at w
    obtain ⟨ts, k, p', rfl⟩ := (tg_tup h).2 np a b p rfl
    exact i_zip cx w.1.1.1 w.1.1.2 (both a sc X cx hc w.1.2).1 (both b sc X cx hc w.2).1
end
end
end BV
/-! Statements. -/
namespace BV
open PySem PySem.Spec PyProof.Rows L2
def Kept (B : List Nat) (σ σ' : L2.St) : Prop := ∀ i ∈ B, σ'[i]? = σ[i]?
theorem Kept.refl (B : List Nat) (σ : L2.St) : Kept B σ σ := fun _ _ => rfl
theorem Kept.trans {B : List Nat} {σ σ1 σ2 : L2.St} (a : Kept B σ σ1) (b : Kept B σ1 σ2) : Kept B σ σ2 := fun i h => (b i h).trans (a i h)
theorem Kept.set {B : List Nat} {σ : L2.St} {i : Nat} {x : Option V} (h : i ∉ B) : Kept B σ (σ.set i x) := fun j hj => by
  rw [List.getElem?_set_ne]
  rintro rfl
  exact h hj
theorem wipe_out {σ : L2.St} : ∀ {l : List Nat} {i : Nat}, i ∉ l → (wipe σ l)[i]? = σ[i]?
  | [], _, _ => rfl
  | j :: l, i, h => by
    unfold wipe
    rw [List.getElem?_set_ne (fun e => h (by rw [e]; exact List.mem_cons_self ..))]
    exact wipe_out fun z => h (List.mem_cons_of_mem _ z)
def Fin (K : Frag) (B : List Nat) (Hf : Hp) (F : List Addr) (H : Hp) (σ : L2.St) (E : Ends) : Out → Prop
  | .nx S' => ∀ σ' H' Hf' F', Rel K Hf' F' S' σ' H' → Step Hf F H Hf' F' H' → Kept B σ σ' → E.nx σ' H'
  | .bk S' => ∀ σ' H' Hf' F', Rel K Hf' F' S' σ' H' → Step Hf F H Hf' F' H' → Kept B σ σ' → E.bk σ' H'
  | .ct S' => ∀ σ' H' Hf' F', Rel K Hf' F' S' σ' H' → Step Hf F H Hf' F' H' → Kept B σ σ' → E.ct σ' H'
  | .rt r S' => ∀ x σ' H' Hf' F', Gives K Hf F H S' σ' (.own r.1, r.2) x Hf' F' H' → Kept B σ σ' → E.rt x H'
theorem Fin.on {K : Frag} {B : List Nat} {Hf Hf1 H H1 : Hp} {F F1 : List Addr} {σ σ1 : L2.St} {E : Ends} {o : Out} (f : Fin K B Hf F H σ E o) (st : Step Hf F H Hf1 F1 H1) (k : Kept B σ σ1) : Fin K B Hf1 F1 H1 σ1 E o := by
  cases o with
  | nx S => exact fun σ' H' Hf' F' r s k' => f σ' H' Hf' F' r (st.trans s) (k.trans k')
  | bk S => exact fun σ' H' Hf' F' r s k' => f σ' H' Hf' F' r (st.trans s) (k.trans k')
  | ct S => exact fun σ' H' Hf' F' r s k' => f σ' H' Hf' F' r (st.trans s) (k.trans k')
  | rt r S => exact fun x σ' H' Hf' F' g k' => f x σ' H' Hf' F' (resTrans st g) (k.trans k')
def tX (K : Frag) (B : List Nat) (o : Slots → Option Out) : TS := fun E σ H => ∃ S Hf F out, Rel K Hf F S σ H ∧ o S = some out ∧ Fin K B Hf F H σ E out
theorem psBy {X : Cx} {st : Stmt} {t t' : TS} (h : PS X st t) (w : ∀ E σ H, t' E σ H → t E σ H) : PS X st t' := ⟨fun pins s σ H E I q => h.run pins s σ H E I (w E σ H q)⟩
theorem pssBy {X : Cx} {st : List Stmt} {t t' : TS} (h : PSs X st t) (w : ∀ E σ H, t' E σ H → t E σ H) : PSs X st t' := ⟨fun pins s σ H E I q => h.run pins s σ H E I (w E σ H q)⟩
/-- a thing is made to fit into a container of depth d within -/
theorem fit {K : Frag} {Hf H : Hp} {F G : List Addr} {S : Slots} {σ : L2.St} {d d' : Nat} {v : Val} {x : V} (rel : Rel K Hf F S σ H) (ow : Own K Hf H d' v x G) (nd : (F ++ G).Nodup) (off : ∀ a ∈ G, Hf a = none) (h : fitsIn d (d', v) = true) :
    ∃ Hf' G', HSub Hf Hf' ∧ Rel K Hf' F S σ H ∧ Own K Hf' H d v x G' ∧ (∀ a ∈ G', a ∈ G) ∧ (F ++ G').Nodup ∧ (∀ a ∈ G', Hf' a = none) ∧ ∀ a, a ∉ G → Hf' a = Hf a := by
  unfold fitsIn at h
  simp only [Bool.or_eq_true, beq_iff_eq] at h
  rcases h with (h | h) | h
  · obtain ⟨rfl, ow'⟩ := ow.flat (d' := d) h
    exact ⟨Hf, [], HSub.refl _, rel, ow', fun a h => h, nd, off, fun _ _ => rfl⟩
  · subst h
    have s1 := frzH_sub (H := H) off
    have dis : ∀ a ∈ F, a ∉ G := fun a ha hg => (List.nodup_append.mp nd).2.2 a ha a hg rfl
    exact ⟨frzH Hf H G, [], s1, rel.grow s1 (frzH_le rel.sub) fun a ha => by rw [frzH_out (dis a ha)]; exact rel.off a ha, .frz (.inl rfl) (ow.freeze off), fun a h => (by cases h), by simpa using rel.nd, fun a h => (by cases h), fun a h => frzH_out h⟩
  · have h : d' = d := h
    subst h
    exact ⟨Hf, G, HSub.refl _, rel, ow, fun a h => h, nd, off, fun _ _ => rfl⟩
theorem OwnL.snoc {K : Frag} {Hf H : Hp} {d : Nat} {v : Val} {x : V} {G' : List Addr} (h : Own K Hf H d v x G') : ∀ {xs : List Val} {ys : List V} {G : List Addr}, OwnL K Hf H d xs ys G → OwnL K Hf H d (xs ++ [v]) (ys ++ [x]) (G ++ G')
  | _, _, _, .nil => by simpa using OwnL.cons h .nil
  | _, _, _, .cons (F := F) (G := G) q r => by
    have := OwnL.cons q (OwnL.snoc h r)
    simpa using this
section
variable {free : List Str} {D : Den} {n : Nat} {N : List Str} {sc : Scope} {X : Cx} {B : List Nat}
theorem room_slot (c : Ctx free D n N sc X) {i : Nat} {x : Str} {pins : List (Addr × Obj)} {s : Shared} {σ : L2.St} {H Hf : Hp} {F : List Addr} {S : Slots} (hi : N[i]? = some x) (I : Inv X pins σ H s) {H' : Hp} (rel : Rel X.K Hf F S σ H') : i < S.length := by
  have e1 := I.len
  have e2 := rel.len
  have := lt_of_get hi
  rw [c.hN] at e1
  omega
/-- a thing goes into a slot -/
theorem Gives.put {K : Frag} {Hf H Hf1 H1 : Hp} {F F1 : List Addr} {S1 : Slots} {σ : L2.St} {d : Nat} {v : Val} {x : V} {i : Nat} (g : Gives K Hf F H S1 σ (.own d, v) x Hf1 F1 H1) (hi : i < S1.length) :
    ∃ F', Rel K Hf1 F' (S1.set i (some (d, v))) (σ.set i (some x)) H1 ∧ Step Hf F H Hf1 F' H1 := by
  obtain ⟨rel, st, G, ow, nd, off, fr⟩ := g
  obtain ⟨F', rel', sub⟩ := rel.put hi ow nd off
  exact ⟨F', rel', st.hf, st.fr, st.new, fun a ha => (sub a ha).elim (st.own a) (fr a)⟩
theorem x_name (c : Ctx free D n N sc X) {i : Nat} {x : Str} {px p : Pos} {e : CE} {tl : TE} (hi : N[i]? = some x) (hB : i ∉ B) (hp : PS X (.Assign [.Name x px] e.py p) (tAsg tl (gName i))) (w : ∀ σ H Q, tEv X.K D e σ H Q → tl σ H Q) :
    PS X (CS.asg (.name i x px) e p).py (tX X.K B (ex D (.asg (.name i x px) e p))) := by
  refine ⟨fun pins s σ H E I h => hp.run pins s σ H E I ?_⟩
  obtain ⟨S, Hf, F, out, rel, ho, fin⟩ := h
  unfold ex at ho
  rw [Option.bind_eq_some_iff] at ho
  obtain ⟨⟨⟨m, v⟩, S1⟩, e1, ho⟩ := ho
  cases m with
  | bor => cases ho
  | own d =>
    cases ho
    refine w σ H _ ⟨S, Hf, F, _, S1, rel, e1, fun y H1 Hf1 F1 g p1 => ?_⟩
    obtain ⟨F', rel', st'⟩ := g.put (room_slot c hi I g.rel)
    exact fin _ _ _ _ rel' st' (Kept.set hB)
def CE.isTup : CE → Bool
  | .tup .. => true | _ => false
theorem x_tup (c : Ctx free D n N sc X) {ts : CTs} {k : Nat} {pt p : Pos} {e : CE} (he : PE X e.py (tEv X.K D e)) (hg : PG X (CT.tup ts k pt).py (tT X.K (.tup ts k pt))) (hB : ∀ i ∈ B, i ∉ (CT.tup ts k pt).slots) (hn : e.isTup = false) :
    PS X (CS.asg (.tup ts k pt) e p).py (tX X.K B (ex D (.asg (.tup ts k pt) e p))) := by
  refine psBy (ps_asg he hg (by cases e <;> rfl) (by cases e <;> first | rfl | cases hn) rfl) fun E σ H ⟨S, Hf, F, out, rel, ho, fin⟩ => ?_
  unfold ex at ho
  rw [Option.bind_eq_some_iff] at ho
  obtain ⟨⟨⟨m, v⟩, S1⟩, e1, ho⟩ := ho
  cases m with
  | bor => cases ho
  | own d =>
    have ho : ((CT.tup ts k pt).set v S1).map Out.nx = some out := ho
    rw [Option.map_eq_some_iff] at ho
    obtain ⟨S2, e2, rfl⟩ := ho
    refine ⟨S, Hf, F, _, S1, rel, e1, fun y H1 Hf1 F1 g p1 => ?_⟩
    obtain ⟨Hf1', s1, rel1, st1, re1, rf1⟩ := g.opd
    refine ⟨S1, Hf1', F1, v, S2, rel1, rf1 d rfl, e2, fun σ' F' rel' sub wp => ?_⟩
    refine fin σ' H1 Hf1' F' rel' ⟨st1.hf, st1.fr, st1.new, fun a ha => st1.own a (sub a ha)⟩ fun i hi => ?_
    have q := wp (CT.tup ts k pt).slots fun _ h => h
    rw [← wipe_out (σ := σ') (hB i hi), q, wipe_out (hB i hi)]
theorem x_par (c : Ctx free D n N sc X) {i j : Nat} {x y : Str} {px py pt p2 p : Pos} {kt k2 : Nat} {a b : CE} (hi : N[i]? = some x) (hj : N[j]? = some y) (hij : i ≠ j) (iB : i ∉ B) (jB : j ∉ B) (hx : sc.names.lookup x = some .local) (hy : sc.names.lookup y = some .local)
    (h : PA X [a.py, b.py] (tEvs X.K D (.cons a (.cons b .nil)))) (hw : swappedStores [.Tuple [.Name x px, .Name y py] kt pt] (.Tuple [a.py, b.py] k2 p2) X.env = pure (some [x, y])) :
    PS X (CS.par i j x y px py kt pt a b k2 p2 p).py (tX X.K B (ex D (.par i j x y px py kt pt a b k2 p2 p))) := by
  have hp := ps_par (pos := p) c.calm (by rw [c.hN]; exact c.nd) (by rw [c.hN]; exact hi) (by rw [c.hN]; exact hj) hij (by rw [c.sc]; exact hx) (by rw [c.sc]; exact hy) h hw rfl
  refine ⟨fun pins s σ H E I h => hp.run pins s σ H E I ?_⟩
  obtain ⟨S, Hf, F, out, rel, ho, fin⟩ := h
  unfold ex at ho
  rw [Option.bind_eq_some_iff] at ho
  obtain ⟨⟨rs, S1⟩, e1, ho⟩ := ho
  dsimp only at ho
  split at ho
  · rename_i r r'
    cases ho
    refine ⟨S, Hf, F, _, S1, rel, e1, fun xs H1 Hf1 F1 g p1 => ?_⟩
    obtain ⟨rel1, st1, G, ow, nd, off, fr⟩ := g
    cases ow with
    | cons ow1 t1 =>
      cases t1 with
      | cons ow2 t2 =>
        cases t2
        rename_i d v u Ga d' v' u' Gb
        have l1 := room_slot c hi I rel1
        have l2 := room_slot c hj I rel1
        refine ⟨u, u', rfl, ?_⟩
        rw [List.append_nil] at nd off fr
        have ndp := nd
        simp only [List.nodup_append, List.mem_append] at ndp
        obtain ⟨F2, rel2, sub2⟩ := rel1.put (i := i) l1 ow1 (by simp only [List.nodup_append]; grind) fun a ha => off a (List.mem_append_left _ ha)
        have nd2 : (F2 ++ Gb).Nodup := by
          have h2 := rel2.nd
          simp only [List.nodup_append]
          grind
        obtain ⟨F3, rel3, sub3⟩ := rel2.put (i := j) (by rw [List.length_set]; exact l2) ow2 nd2 fun a ha => off a (List.mem_append_right _ ha)
        refine fin _ H1 Hf1 F3 rel3 ⟨st1.hf, st1.fr, st1.new, fun a ha => ?_⟩ ((Kept.set iB).trans (Kept.set jB))
        rcases sub3 a ha with z | z
        · rcases sub2 a z with z | z
          · exact st1.own a z
          · exact fr a (List.mem_append_left _ z)
        · exact fr a (List.mem_append_right _ z)
  · cases ho
theorem x_expr (c : Ctx free D n N sc X) {e : CE} {p : Pos} (he : PE X e.py (tEv X.K D e)) (hs : swapsWith e.py none p.line X.env = pure false) : PS X (CS.expr e p).py (tX X.K B (ex D (.expr e p))) := by
  refine psBy (ps_expr he hs) fun E σ H ⟨S, Hf, F, out, rel, ho, fin⟩ => ?_
  unfold ex at ho
  rw [Option.map_eq_some_iff] at ho
  obtain ⟨⟨r, S1⟩, e1, rfl⟩ := ho
  exact ⟨S, Hf, F, r, S1, rel, e1, fun y H1 Hf1 F1 g p1 => fin σ H1 Hf1 F1 g.rel g.st (Kept.refl _ _)⟩
theorem x_ret {e : CE} {p : Pos} (he : PE X e.py (tEv X.K D e)) : PS X (CS.ret e p).py (tX X.K B (ex D (.ret e p))) := by
  refine psBy (ps_ret he) fun E σ H ⟨S, Hf, F, out, rel, ho, fin⟩ => ?_
  unfold ex at ho
  rw [Option.bind_eq_some_iff] at ho
  obtain ⟨⟨⟨m, v⟩, S1⟩, e1, ho⟩ := ho
  cases m with
  | bor => cases ho
  | own d =>
    cases ho
    exact ⟨S, Hf, F, _, S1, rel, e1, fun y H1 Hf1 F1 g p1 => fin y σ H1 Hf1 F1 g (Kept.refl _ _)⟩
theorem x_retN {p : Pos} : PS X (CS.retN p).py (tX X.K B (ex D (.retN p))) := by
  refine psBy ps_retN fun E σ H ⟨S, Hf, F, out, rel, ho, fin⟩ => ?_
  cases ho
  exact fin .non σ H Hf F (.frz rel (Step.refl _ _ _) .non (.inl rfl)) (Kept.refl _ _)
theorem x_pass {p : Pos} : PS X (CS.pass p).py (tX X.K B (ex D (.pass p))) := by
  refine psBy ps_pass fun E σ H ⟨S, Hf, F, out, rel, ho, fin⟩ => ?_
  cases ho
  exact fin σ H Hf F rel (Step.refl _ _ _) (Kept.refl _ _)
theorem x_brk {p : Pos} : PS X (CS.brk p).py (tX X.K B (ex D (.brk p))) := by
  refine psBy ps_break fun E σ H ⟨S, Hf, F, out, rel, ho, fin⟩ => ?_
  cases ho
  exact fin σ H Hf F rel (Step.refl _ _ _) (Kept.refl _ _)
theorem x_cnt {p : Pos} : PS X (CS.cnt p).py (tX X.K B (ex D (.cnt p))) := by
  refine psBy ps_continue fun E σ H ⟨S, Hf, F, out, rel, ho, fin⟩ => ?_
  cases ho
  exact fin σ H Hf F rel (Step.refl _ _ _) (Kept.refl _ _)
theorem x_nvr {st : Stmt} : PS X (CS.nvr st).py (tX X.K B (ex D (.nvr st))) :=
  psBy ps_never fun E σ H ⟨S, Hf, F, out, rel, ho, fin⟩ => by cases ho
theorem x_ife {ce : CE} {a b : CSs} {p : Pos} (hc : PT X ce.py (tTs X.K D ce)) (ha : PSs X a.py (tX X.K B (exs D a))) (hb : PSs X b.py (tX X.K B (exs D b))) : PS X (CS.ife ce a b p).py (tX X.K B (ex D (.ife ce a b p))) := by
  refine psBy (ps_if hc ha hb) fun E σ H ⟨S, Hf, F, out, rel, ho, fin⟩ => ?_
  unfold ex at ho
  rw [Option.bind_eq_some_iff] at ho
  obtain ⟨⟨t, S1⟩, e1, ho⟩ := ho
  refine ⟨S, Hf, F, t, S1, rel, e1, fun H1 Hf1 F1 rel1 st1 p1 => ?_⟩
  cases t with
  | true => exact ⟨S1, Hf1, F1, out, rel1, ho, fin.on st1 (Kept.refl _ _)⟩
  | false => exact ⟨S1, Hf1, F1, out, rel1, ho, fin.on st1 (Kept.refl _ _)⟩
theorem xs_nil : PSs X CSs.nil.py (tX X.K B (exs D .nil)) := by
  refine pssBy pss_nil fun E σ H ⟨S, Hf, F, out, rel, ho, fin⟩ => ?_
  cases ho
  exact fin σ H Hf F rel (Step.refl _ _ _) (Kept.refl _ _)
theorem xs_cons {st : CS} {ss : CSs} (h1 : PS X st.py (tX X.K B (ex D st))) (h2 : PSs X ss.py (tX X.K B (exs D ss))) : PSs X (CSs.cons st ss).py (tX X.K B (exs D (.cons st ss))) := by
  refine pssBy (pss_cons h1 h2) fun E σ H ⟨S, Hf, F, out, rel, ho, fin⟩ => ?_
  unfold exs at ho
  refine ⟨S, Hf, F, ?_⟩
  split at ho
  · rename_i S1 e1
    exact ⟨.nx S1, rel, e1, fun σ' H' Hf' F' rel' st k => ⟨S1, Hf', F', out, rel', ho, fin.on st k⟩⟩
  · rename_i e1
    refine ⟨out, rel, ho, ?_⟩
    cases out with
    | nx S1 => exact absurd ho (e1 S1)
    | bk S1 => exact fin
    | ct S1 => exact fin
    | rt r S1 => exact fin
theorem x_aug (c : Ctx free D n N sc X) {i : Nat} {x : Str} {px p : Pos} {op : Operator} {e : CE} (hi : N[i]? = some x) (hl : locB sc x = true) (hB : i ∉ B) (hf : X.fn x = true) (he : PE X e.py (tEv X.K D e)) :
    PS X (CS.aug i x px op e p).py (tX X.K B (ex D (.aug i x px op e p))) := by
  have core : ∀ {ti : TIp}, PIp X op ti → (∀ (k v : Int) (S2 : Slots) (out : Out), (match op, Val.int v with
      | .Add, .int m => some (Out.nx (S2.set i (some (0, .int (k + m)))))
      | .Sub, .int m => some (.nx (S2.set i (some (0, .int (k - m)))))
      | _, _ => none) = some out → ∃ z, out = .nx (S2.set i (some (0, .int z))) ∧ ∀ H (Q : VK), Q (.int z) H → ti (.int k) (.int v) H Q) → PS X (CS.aug i x px op e p).py (tX X.K B (ex D (.aug i x px op e p))) := by
    intro ti hip hz
    have hp := ps_aug (pos := p) (pos' := px) (by rw [c.hN]; exact c.nd) (by rw [c.hN]; exact hi) (by rw [c.sc]; exact locB_ok hl) he hip (.inl hf)
    refine ⟨fun pins s σ H E I h => hp.run pins s σ H E I ?_⟩
    obtain ⟨S, Hf, F, out, rel, ho, fin⟩ := h
    unfold ex at ho
    split at ho
    · rename_i d k e0
      rw [Option.bind_eq_some_iff] at ho
      obtain ⟨⟨⟨m, v⟩, S1⟩, e1, ho⟩ := ho
      obtain ⟨y, G, hy, ow, _⟩ := rel.get e0
      have ey : y = .int k := by
        cases ow with
        | frz _ r => cases r; rfl
      subst ey
      refine ⟨_, hy, S, Hf, F, _, S1, rel, e1, fun z H1 Hf1 F1 g p1 => ?_⟩
      obtain ⟨Hf1', s1, rel1, st1, re1, rf1⟩ := g.opd
      cases v with
      | int v =>
        obtain ⟨w, rfl, q⟩ := hz k v S1 out ho
        have ez : z = .int v := by
          cases re1 with
          | flat _ r => cases r; rfl
        subst ez
        refine q _ _ ?_
        obtain ⟨F', rel', sub⟩ := rel1.put (i := i) (d := 0) (v := .int w) (x := .int w) (G := []) (room_slot c hi I rel1) (.frz (.inl rfl) (.int w)) (by simpa using rel1.nd) (fun a h => by cases h)
        exact fin _ H1 Hf1' F' rel' ⟨st1.hf, st1.fr, st1.new, fun a ha => (sub a ha).elim (st1.own a) fun z => by cases z⟩ (Kept.set hB)
      | _ => exfalso; revert ho; cases op <;> simp
    · cases ho
  cases op with
  | Add => exact core ip_add fun k v S2 out h => ⟨k + v, (Option.some.inj h).symm, fun H Q q => ⟨k, v, rfl, rfl, q⟩⟩
  | Sub => exact core ip_sub fun k v S2 out h => ⟨k - v, (Option.some.inj h).symm, fun H Q q => ⟨k, v, rfl, rfl, q⟩⟩
  | _ =>
    refine psBy ps_never fun E σ H ⟨S, Hf, F, out, rel, ho, fin⟩ => ?_
    unfold ex at ho
    split at ho
    · rw [Option.bind_eq_some_iff] at ho
      obtain ⟨q, e1, ho⟩ := ho
      cases ho
    · cases ho
theorem nd_app {F0 F1 Gl Gw : List Addr} {a : Addr} (nd0 : (F0 ++ a :: Gl).Nodup) (ndw : (F1 ++ Gw).Nodup) (sub : ∀ b, b ∈ F0 ∨ b ∈ a :: Gl → b ∈ F1) : (F0 ++ a :: (Gl ++ Gw)).Nodup := by
  have d : ∀ b ∈ Gw, ¬ (b ∈ F0 ∨ b ∈ a :: Gl) := fun b hb h => (List.nodup_append.mp ndw).2.2 b (sub b h) b hb rfl
  have w : Gw.Nodup := (List.nodup_append.mp ndw).2.1
  clear sub ndw
  simp only [List.nodup_append, List.nodup_cons, List.mem_append, List.mem_cons] at *
  grind
theorem nd_set {F0 F1 G1 Gm G3 Gw : List Addr} {a : Addr} (nd0 : (F0 ++ a :: (G1 ++ Gm ++ G3)).Nodup) (ndw : (F1 ++ Gw).Nodup) (sub : ∀ b, b ∈ F0 ∨ b ∈ a :: (G1 ++ Gm ++ G3) → b ∈ F1) : (F0 ++ a :: (G1 ++ Gw ++ G3)).Nodup := by
  have d : ∀ b ∈ Gw, ¬ (b ∈ F0 ∨ b ∈ a :: (G1 ++ Gm ++ G3)) := fun b hb h => (List.nodup_append.mp ndw).2.2 b (sub b h) b hb rfl
  have w : Gw.Nodup := (List.nodup_append.mp ndw).2.1
  clear sub ndw
  simp only [List.nodup_append, List.nodup_cons, List.mem_append, List.mem_cons] at *
  grind
/-- a list in a slot is changed in place -/
theorem Rel.relist {K : Frag} {Hf H : Hp} {F : List Addr} {S : Slots} {σ : L2.St} {i d : Nat} {xs xs' : List Val} {ys ys' : List V} {a : Addr} {G0 G G' Gx : List Addr} (rel0 : Rel K Hf G0 (S.set i Option.none) σ H) (hs : i < S.length) (hy : σ[i]? = some (some (.ref a)))
    (ow : OwnL K Hf (L2.upd H a (.lst ys')) d xs' ys' G') (nd : (G0 ++ a :: G').Nodup) (off : ∀ b ∈ a :: G', Hf b = Option.none) :
    ∃ F', Rel K Hf F' (S.set i (some (d + 1, .lst xs'))) σ (L2.upd H a (.lst ys')) ∧ ∀ b ∈ F', b ∈ G0 ∨ b ∈ a :: G' := by
  have ha : a ∉ G0 := fun z => by
    have := (List.nodup_append.mp nd).2.2 a z a (List.mem_cons_self ..)
    exact this rfl
  obtain ⟨F', relN, subN⟩ := (rel0.mut (p := a) (o := .lst ys') ha (off a (List.mem_cons_self ..))).put (i := i) (by rw [List.length_set]; exact hs) (Own.lst (d := d) upd_same ow) nd off
  rw [List.set_set, set_same hy] at relN
  exact ⟨F', relN, subN⟩
theorem x_app (c : Ctx free D n N sc X) {i : Nat} {x : Str} {px pa pc p : Pos} {e : CE} (hi : N[i]? = some x) (hv : visB sc x = true) (ok : okName x = true) (hl : (pa.endLine == pc.line) = true) (he : PE X e.py (tEv X.K D e)) :
    PS X (CS.app i x px pa e pc p).py (tX X.K B (ex D (.app i x px pa e pc p))) := by
  have h1 : PE X (.Name x px) (tVar i) := pe_var (i := i) (by rw [c.hN]; exact hi) (by rw [c.sc]; exact visB_ok hv) (okName_ok ok).1 (okName_ok ok).2.1
  have hs := star_cons e [] X.env
  have pe := pe_bm (cpos := pc) (apos := pa) PySem.F.plainAttrs_list PySem.F.slot_list_append PySem.F.type_list_append (mt_append (X := X)) h1 (pa_cons he pa_nil hs) rfl (by rw [hs]; rfl) hl hs rfl
  refine psBy (ps_expr (pos := p) pe rfl) fun E σ H ⟨S, Hf, F, out, rel, ho, fin⟩ => ?_
  unfold ex at ho
  split at ho
  · rename_i d0 xs0 e0
    rw [Option.bind_eq_some_iff] at ho
    obtain ⟨⟨⟨m, v⟩, S1⟩, e1, ho⟩ := ho
    dsimp only at ho
    split at ho
    · rename_i d xs d' e2
      rw [gd_some, Bool.and_eq_true] at ho
      obtain ⟨⟨hfit, hz⟩, ho⟩ := ho
      cases ho
      have hz := of_decide_eq_true hz
      obtain ⟨y, G, hy, ow, _⟩ := rel.get e0
      have ty : L2.tyV X.K "list" y H := by
        cases ow with
        | frz _ r => cases r with | lst h _ => exact .inl ⟨rfl, _, (rdL_mono rel.sub h).sq⟩
        | lst h _ => exact .inl ⟨rfl, _, .inl (.inl h)⟩
      refine ⟨_, hy, ty, S, Hf, F, _, S1, rel, e1, fun z H1 Hf1 F1 g p1 => ?_⟩
      obtain ⟨rel1, st1, Gv, owv, ndv, offv, frv⟩ := g
      obtain ⟨Hf2, Gw, s12, rel2, oww, subw, ndw, offw, same⟩ := fit rel1 owv ndv offv hfit
      obtain ⟨y2, G2, F0, hy2, ow2, rel0, nd0, iff0, off0⟩ := rel2.take e2
      rw [hy] at hy2
      cases hy2
      cases ow2 with
      | frz hd r => rcases hd with z | z <;> cases z
      | lst ha l =>
        rename_i a ys Gl
        refine ⟨a, ys, z, rfl, rfl, ha, by rw [l.length]; exact hz, ?_⟩
        have fresh : a ∉ Gw := fun h => (List.nodup_append.mp ndw).2.2 a ((iff0 a).mpr (.inr (List.mem_cons_self ..))) a h rfl
        have nda := nd0
        simp only [List.nodup_append, List.nodup_cons, List.mem_cons] at nda
        have keep : ∀ b, b ≠ a → ∀ o, H1 b = some o → upd H1 a (.lst (ys ++ [z])) b = some o := fun b n o e => by rw [upd_ne n]; exact e
        have l' : OwnL X.K Hf2 (upd H1 a (.lst (ys ++ [z]))) d (xs ++ [v]) (ys ++ [z]) (Gl ++ Gw) :=
          OwnL.snoc (oww.mono (HSub.refl _) fun b hb o e => keep b (fun q => fresh (q ▸ hb)) o e) (l.mono (HSub.refl _) fun b hb o e => keep b (fun q => by subst q; exact nda.2.1.1 hb) o e)
        obtain ⟨F', relN, subN⟩ := Rel.relist (G := []) (Gx := []) (F := []) (xs := xs) (ys := ys) rel0 (lt_of_get e2) hy l' (nd_app nd0 ndw fun b h => (iff0 b).mpr h) (fun b hb => by
          rcases List.mem_cons.mp hb with z | z
          · rw [z]; exact off0 a (List.mem_cons_self ..)
          · rcases List.mem_append.mp z with z | z
            · exact off0 b (List.mem_cons_of_mem _ z)
            · exact offw b z)
        have st2 : Step Hf F H Hf2 F1 H1 := ⟨st1.hf.trans s12, st1.fr, fun b o e nF => by
          rw [same b fun hg => (frv b hg).elim nF fun q => by rw [e] at q; cases q]
          exact st1.new b o e nF, st1.own⟩
        refine fin σ _ Hf2 F' relN ⟨st2.hf, fun b o e nF => keep b (fun q => ?_) o (st2.fr b o e nF), st2.new, fun b hb => ?_⟩ (Kept.refl _ _)
        · rcases st2.own a ((iff0 a).mpr (.inr (List.mem_cons_self ..))) with z | z
          · exact nF (q ▸ z)
          · rw [← q, e] at z; cases z
        · rcases subN b hb with z | z
          · exact st2.own b ((iff0 b).mpr (.inl z))
          · rcases List.mem_cons.mp z with z | z
            · rw [z]; exact st2.own a ((iff0 a).mpr (.inr (List.mem_cons_self ..)))
            · rcases List.mem_append.mp z with z | z
              · exact st2.own b ((iff0 b).mpr (.inr (List.mem_cons_of_mem _ z)))
              · exact frv b (subw b z)
    · cases ho
  · cases ho
theorem x_setI (c : Ctx free D n N sc X) {i : Nat} {x : Str} {px tp p : Pos} {k e : CE} (hi : N[i]? = some x) (hv : visB sc x = true) (ok : okName x = true) (hk : PE X k.py (tEv X.K D k)) (he : PE X e.py (tEv X.K D e)) :
    PS X (CS.setI i x px k e tp p).py (tX X.K B (ex D (.setI i x px k e tp p))) := by
  have h1 : PE X (.Name x px) (tVar i) := pe_var (i := i) (by rw [c.hN]; exact hi) (by rw [c.sc]; exact visB_ok hv) (okName_ok ok).1 (okName_ok ok).2.1
  refine psBy (ps_asg (pos := p) he (pg_sub (pos := tp) h1 hk (set_list (X := X)) (by intro _; cases k <;> rfl)) (by cases e <;> rfl) (by cases e <;> rfl) rfl) fun E σ H ⟨S, Hf, F, out, rel, ho, fin⟩ => ?_
  unfold ex at ho
  rw [Option.bind_eq_some_iff] at ho
  obtain ⟨⟨⟨m, v⟩, S1⟩, e1, ho⟩ := ho
  dsimp only at ho
  split at ho
  · rename_i r0 e0
    rw [Option.bind_eq_some_iff] at ho
    obtain ⟨⟨⟨mk, kv⟩, S2⟩, e2, ho⟩ := ho
    dsimp only at ho
    split at ho
    · rename_i d xs mm d' e3
      rw [gd_some, Option.map_eq_some_iff] at ho
      obtain ⟨hfit, j, hj, rfl⟩ := ho
      refine ⟨S, Hf, F, _, S1, rel, e1, fun z H1 Hf1 F1 g p1 => ?_⟩
      obtain ⟨rel1, st1, Gv, owv, ndv, offv, frv⟩ := g
      obtain ⟨y, _, hy, _, _⟩ := rel1.get (d := r0.1) (v := r0.2) e0
      refine ⟨y, hy, S1, Hf1, F1, _, S2, rel1, e2, fun w H2 Hf2 F2 g2 p2 => ?_⟩
      have disv : ∀ a ∈ Gv, a ∉ F1 := fun a ha hf => (List.nodup_append.mp ndv).2.2 a hf a ha rfl
      obtain ⟨Hf2', s2, rel2, st2, re2, rf2⟩ := g2.opd
      obtain ⟨owv', disv', offv'⟩ := owv.held st2 disv offv
      have ndv' : (F2 ++ Gv).Nodup := by
        have := rel2.nd
        simp only [List.nodup_append] at ndv ⊢
        grind
      obtain ⟨Hf3, Gw, s23, rel3, oww, subw, ndw, offw, same⟩ := fit rel2 owv' ndv' offv' hfit
      have ew : w = .int mm := by
        cases re2 with
        | flat _ r => cases r; rfl
      subst ew
      obtain ⟨y2, G2, F0, hy2, ow2, rel0, nd0, iff0, off0⟩ := rel3.take e3
      rw [hy] at hy2
      cases hy2
      cases ow2 with
      | frz hd r => rcases hd with z | z <;> cases z
      | lst ha l =>
        rename_i a ys Gl _
        refine ⟨a, ys, mm, j, rfl, rfl, ha, by rw [l.length]; exact hj, ?_⟩
        have hjl : j < xs.length := by
          unfold ixN at hj
          grind
        obtain ⟨old, hold⟩ : ∃ u, xs[j]? = some u := ⟨xs[j], List.getElem?_eq_getElem hjl⟩
        obtain ⟨b0, G1, Gm, G3, eb, eG, owb, put⟩ := l.split hold
        subst eG
        have fresh : a ∉ Gw := fun h => (List.nodup_append.mp ndw).2.2 a ((iff0 a).mpr (.inr (List.mem_cons_self ..))) a h rfl
        have nda := nd0
        simp only [List.nodup_append, List.nodup_cons, List.mem_cons, List.mem_append] at nda
        have keep : ∀ b, b ≠ a → ∀ o, H2 b = some o → upd H2 a (.lst (ys.set j z)) b = some o := fun b n o e => by rw [upd_ne n]; exact e
        have l' : OwnL X.K Hf3 (upd H2 a (.lst (ys.set j z))) d (xs.set j v) (ys.set j z) (G1 ++ Gw ++ G3) :=
          put (fun b hb o e => keep b (fun q => by subst q; exact nda.2.1.1 (hb.elim (fun z => .inl (.inl z)) .inr)) o e) (oww.mono (HSub.refl _) fun b hb o e => keep b (fun q => fresh (q ▸ hb)) o e)
        obtain ⟨F', relN, subN⟩ := Rel.relist (G := []) (Gx := []) (F := []) (xs := xs) (ys := ys) rel0 (lt_of_get e3) hy l' (nd_set nd0 ndw fun b h => (iff0 b).mpr h) (fun b hb => by
          have : b ∈ a :: (G1 ++ Gm ++ G3) ∨ b ∈ Gw := by
            simp only [List.mem_append, List.mem_cons] at hb ⊢
            grind
          rcases this with z | z
          · exact off0 b z
          · exact offw b z)
        have st3 : Step Hf F H Hf3 F2 H2 := by
          have t := st1.trans st2
          refine ⟨t.hf.trans s23, t.fr, fun b o e nF => ?_, t.own⟩
          rw [same b fun hg => (frv b hg).elim nF fun q => by rw [e] at q; cases q]
          exact t.new b o e nF
        refine fin σ _ Hf3 F' relN ⟨st3.hf, fun b o e nF => keep b (fun q => ?_) o (st3.fr b o e nF), st3.new, fun b hb => ?_⟩ (Kept.refl _ _)
        · rcases st3.own a ((iff0 a).mpr (.inr (List.mem_cons_self ..))) with z | z
          · exact nF (q ▸ z)
          · rw [← q, e] at z; cases z
        · rcases subN b hb with z | z
          · exact st3.own b ((iff0 b).mpr (.inl z))
          · have : b ∈ a :: (G1 ++ Gm ++ G3) ∨ b ∈ Gw := by
              simp only [List.mem_append, List.mem_cons] at z ⊢
              grind
            rcases this with z | z
            · exact st3.own b ((iff0 b).mpr (.inr z))
            · exact frv b (subw b z)
    · cases ho
  · cases ho
theorem forL_step {f : Val → Slots → Option Out} {vs : List Val} {i : Nat} {v : Val} {S : Slots} (hv : vs[i]? = some v) : forL f (vs.drop i) S = match f v S with
    | some (.nx S1) => forL f (vs.drop (i + 1)) S1
    | some (.ct S1) => forL f (vs.drop (i + 1)) S1
    | some (.bk S1) => some (.nx S1)
    | some (.rt r S1) => some (.rt r S1)
    | none => none := by
  have hl := lt_of_get hv
  have e : vs.drop i = v :: vs.drop (i + 1) := by
    rw [List.drop_eq_getElem_cons hl]
    congr 1
    rw [List.getElem?_eq_getElem hl] at hv
    exact Option.some.inj hv
  rw [e]
  rfl
theorem Rel.item {K : Frag} {Hf Hfi H H' : Hp} {F : List Addr} {S : Slots} {σ : L2.St} {vs : List Val} {i : Nat} {x : V} (rel : Rel K Hf F S σ H) (s : HSub Hfi Hf) (y : YItem K Hfi vs i H x H') :
    ∃ v Hf', vs[i]? = some v ∧ Rel K Hf' F S σ H' ∧ Step Hf F H Hf' F H' ∧ Rep K Hf' v x := by
  obtain ⟨v, e, y⟩ := y
  rcases y with ⟨rfl, r⟩ | ⟨T, p, q, y1, y2, rfl, rfl, hT, rfl, r1, r2⟩
  · exact ⟨v, Hf, e, rel, Step.refl _ _ _, r.mono s⟩
  · have g := Gives.newT (Hf := Hf) (F := F) (H := H) rel (Step.refl _ _ _) hT (.cons (r1.mono s) (.cons (r2.mono s) .nil))
    obtain ⟨Hf', s1, rel', st', re, rf⟩ := g.opd
    exact ⟨_, Hf', e, rel', st', rf 0 rfl⟩
theorem x_for (c : Ctx free D n N sc X) {t : CT} {it : CI} {body : CSs} {p : Pos} (hi : PI X t.py it.py (tI X.K D it)) (hg : PG X t.py (tT X.K t)) (hB : ∀ i ∈ B, i ∉ t.slots) (hb : PSs X body.py (tX X.K B (exs D body))) :
    PS X (CS.forr t it body p).py (tX X.K B (ex D (.forr t it body p))) := by
  refine psBy (ps_for (pos := p) (by rw [c.xe]; exact PassesOwn.never) c.calm hi hg hb fun x => folded_not it _ x) fun E σ H ⟨S, Hf, F, out, rel, ho, fin⟩ => ?_
  unfold ex at ho
  rw [Option.bind_eq_some_iff] at ho
  obtain ⟨⟨vs, S1⟩, e1, ho⟩ := ho
  refine ⟨S, Hf, F, vs, S1, rel, e1, fun J H1 Hf1 F1 rel1 st1 p1 w => ?_⟩
  let f := fun v S1 => (t.set v S1).bind fun S2 => exs D body S2
  have ho : forL f vs S1 = some out := ho
  have fin1 := fin.on st1 (Kept.refl B σ)
  refine for_it w (fun i σ' H' => ∃ Si Hfi Fi, Rel X.K Hfi Fi Si σ' H' ∧ Step Hf1 F1 H1 Hfi Fi H' ∧ Kept B σ σ' ∧ forL f (vs.drop i) Si = some out) ?_ ?_ ?_ ?_
  · exact ⟨S1, Hf1, F1, rel1, Step.refl _ _ _, Kept.refl _ _, by rw [List.drop_zero]; exact ho⟩
  · rintro i σ' H' _ ⟨Si, Hfi, Fi, ri, si, _⟩
    exact si.hf.trans ri.sub
  · rintro i x σ' H2 H3 hlt ⟨Si, Hfi, Fi, ri, si, ki, fi⟩ yi
    obtain ⟨v, Hf3, hv, rel3, st3, rep3⟩ := ri.item si.hf yi
    rw [forL_step hv] at fi
    have go : ∃ S2 o2, t.set v Si = some S2 ∧ exs D body S2 = some o2 ∧ f v Si = some o2 := by
      cases q : f v Si with
      | none => rw [q] at fi; cases fi
      | some o2 =>
        have q' := q
        show ∃ S2 o2', _
        simp only [f, Option.bind_eq_some_iff] at q'
        obtain ⟨S2, a1, a2⟩ := q'
        exact ⟨S2, o2, a1, a2, rfl⟩
    obtain ⟨S2, o2, a1, a2, a3⟩ := go
    rw [a3] at fi
    refine ⟨Si, Hf3, Fi, v, S2, rel3, rep3, a1, fun σ2 F2 rel4 sub4 wp => ?_⟩
    have k2 : Kept B σ' σ2 := fun j hj => by
      have q := wp t.slots fun _ h => h
      rw [← wipe_out (σ := σ2) (hB j hj), q, wipe_out (hB j hj)]
    have st4 : Step Hf1 F1 H1 Hf3 F2 H3 := (si.trans st3).trans ⟨HSub.refl _, fun _ _ e _ => e, fun _ _ _ _ => rfl, fun a h => .inl (sub4 a h)⟩
    refine ⟨S2, Hf3, F2, o2, rel4, a2, ?_⟩
    cases o2 with
    | nx S5 => exact fun σ5 H5 Hf5 F5 rel5 st5 k5 => ⟨S5, Hf5, F5, rel5, st4.trans st5, (ki.trans k2).trans k5, fi⟩
    | ct S5 => exact fun σ5 H5 Hf5 F5 rel5 st5 k5 => ⟨S5, Hf5, F5, rel5, st4.trans st5, (ki.trans k2).trans k5, fi⟩
    | bk S5 =>
      cases fi
      exact fun σ5 H5 Hf5 F5 rel5 st5 k5 => fin1 σ5 H5 Hf5 F5 rel5 (st4.trans st5) ((ki.trans k2).trans k5)
    | rt r S5 =>
      cases fi
      exact fun x5 σ5 H5 Hf5 F5 g5 k5 => fin1 x5 σ5 H5 Hf5 F5 (resTrans st4 g5) ((ki.trans k2).trans k5)
  · rintro σ' H' ⟨Si, Hfi, Fi, ri, si, ki, fi⟩
    rw [List.drop_length] at fi
    cases fi
    exact fin1 σ' H' Hfi Fi ri si ki
end
/-! ### all of them -/
def swB (sc : Scope) (y : Str) (py : Pos) (pos : Pos) (scp : Scope) : Bool := (sc.names.lookup y == some .local) && (py.line == pos.line) && !(scp.names.any fun (n, k) => n == y && (k == .local || k == .cell))
theorem sw_at {elt : Expr} {gs : List Comprehension} {scp sc : Scope} {pos py : Pos} {y : Str} {l : Nat} {env : Env} (hs : env.scope = sc) (hk : sc.kind = .function) : swapsWith (.ListComp elt gs scp pos) (some (.Name y py)) l env = pure (swB sc y py pos scp) := by
  subst hs
  have hb : env.blockKind = .function := by unfold Env.blockKind; rw [hk]; rfl
  unfold swapsWith swB
  simp only [hb, Expr.pos]
  rfl
def CE.isLc : CE → Bool
  | .lc .. => true | .lc2 .. => true | _ => false
def outB (B : List Nat) (t : CT) : Bool := B.all fun i => !(t.slots.contains i)
theorem outB_ok {B : List Nat} {t : CT} (h : outB B t = true) : ∀ i ∈ B, i ∉ t.slots := fun i hi z => by
  have := List.all_eq_true.mp h i hi
  simp [z] at this
def swPar (sc : Scope) (x y : Str) (px py : Pos) (a b : CE) : Bool := decide (x ≠ y) && (py.line == px.line) && !((foldedForSure 8 a.py) && (foldedForSure 8 b.py)) && !((constantsAlone 8 a.py) && (constantsAlone 8 b.py))
mutual
def CS.wf (T : WT) (N : List Str) (sc : Scope) (B : List Nat) : CS → Bool
  | .asg (.name i x _) e _ => decide (N[i]? = some x) && locB sc x && !(B.contains i) && e.wf T N sc
  | .asg t e _ => !e.isTup && t.wf N sc (fun _ => true) && outB B t && e.wf T N sc
  | .par i j x y px py _ _ a b _ _ _ => decide (N[i]? = some x) && decide (N[j]? = some y) && decide (i ≠ j) && !(B.contains i) && !(B.contains j) && (sc.names.lookup x == some .local) && (sc.names.lookup y == some .local) && swPar sc x y px py a b && (CEs.cons a (.cons b .nil)).wf T N sc
  | .setI i x _ k e _ _ => nm N sc i x && k.wf T N sc && e.wf T N sc
  | .expr e _ => !e.isLc && e.wf T N sc
  | .app i x _ pa e pc _ => nm N sc i x && (pa.endLine == pc.line) && e.wf T N sc
  | .aug i x _ _ e _ => decide (N[i]? = some x) && locB sc x && !(B.contains i) && e.wf T N sc
  | .ife c a b _ => c.wf T N sc && a.wf T N sc B && b.wf T N sc B
  | .forr t it body _ => tgOk it t && t.wf N sc (fun _ => true) && outB B t && it.wf T N sc && body.wf T N sc B
  | .ret e _ => e.wf T N sc
  | _ => true
def CSs.wf (T : WT) (N : List Str) (sc : Scope) (B : List Nat) : CSs → Bool
  | .nil => true
  | .cons s ss => s.wf T N sc B && ss.wf T N sc B
end
theorem notB {B : List Nat} {i : Nat} (h : (!(B.contains i)) = true) : i ∉ B := fun z => by simp [z] at h
theorem sw_par {sc : Scope} {x y : Str} {px py pt p2 : Pos} {kt k2 : Nat} {a b : CE} {env : Env} (hs : env.scope = sc) (hk : sc.kind = .function) (hx : sc.names.lookup x = some .local) (hy : sc.names.lookup y = some .local) (h : swPar sc x y px py a b = true) :
    swappedStores [.Tuple [.Name x px, .Name y py] kt pt] (.Tuple [a.py, b.py] k2 p2) env = pure (some [x, y]) := by
  subst hs
  have hb : env.blockKind = .function := by unfold Env.blockKind; rw [hk]; rfl
  have kx : env.kindOf x = some .local := hx
  have ky : env.kindOf y = some .local := hy
  unfold swPar at h
  simp only [Bool.and_eq_true, decide_eq_true_eq, Bool.not_eq_true', ne_eq] at h
  obtain ⟨⟨⟨hn, hl⟩, hf⟩, hc⟩ := h
  have st : ∀ e : CE, (match e.py with | .Starred .. => true | _ => false) = false := fun e => by cases e <;> rfl
  have ne : (y == x) = false := by simpa using fun e => hn e.symm
  unfold swappedStores
  simp only [hb, kx, ky, List.any_cons, List.any_nil, st, List.all_cons, List.all_nil, Bool.and_true, hf, hc, List.filterMap_cons, List.filterMap_nil, List.head?_cons, Option.map_some, Option.getD_some, Expr.pos, hl, beq_self_eq_true, Bool.true_and, if_true, List.length_cons, List.length_nil, List.eraseDups_cons, List.filter_cons, List.filter_nil, ne]
  refine Eq.trans (if_neg (by decide)) (Eq.trans (if_neg fun h => ?_) rfl)
  rw [Bool.or_eq_true, Bool.or_eq_true] at h
  rcases h with h | h | h
  · exact Bool.noConfusion (h.symm.trans (st a))
  · exact Bool.noConfusion (h.symm.trans (st b))
  · cases h
section
variable {T : WT} {D : Den} {n : Nat} {N : List Str} {sc : Scope} {X : Cx} {B : List Nat}
theorem x_asg (cx : Ctx T.free D n N sc X) (hc : T.calls = D.calls) (hk : sc.kind = .function) (hfn : X.fn = fun _ => true) {i : Nat} {x : Str} {px p : Pos} (e : CE) (hi : N[i]? = some x) (hl : locB sc x = true) (hB : i ∉ B) (w : e.wf T N sc = true) :
    PS X (CS.asg (.name i x px) e p).py (tX X.K B (ex D (.asg (.name i x px) e p))) := by
  have plain : swapsWith e.py (some (.Name x px)) p.line X.env = pure false → PS X (CS.asg (.name i x px) e p).py (tX X.K B (ex D (.asg (.name i x px) e p))) := fun hs =>
    x_name cx hi hB (ps_set (by rw [cx.hN]; exact cx.nd) (by rw [cx.hN]; exact hi) (by rw [cx.sc]; exact locB_ok hl) (both e sc X cx hc w).1 hs (.inl (by rw [hfn]))) fun _ _ _ h => h
  cases e with
  | lc elt t it ifs scp own p' =>
    have sw := sw_at (elt := elt.py) (gs := [⟨t.py, it.py, ifs.py, 0⟩]) (scp := scp) (pos := p') (py := px) (y := x) (l := p.line) cx.sc hk
    cases q : swB sc x px p' scp with
    | false => rw [q] at sw; exact plain sw
    | true =>
      rw [q] at sw
      have hy : sc.names.lookup x = some .local := by
        unfold swB at q
        simp only [Bool.and_eq_true, beq_iff_eq] at q
        exact q.1.1
      have w : (blkC N sc scp own && (t.slots.all fun j => decide (j ∈ own.map (·.2))) && it.wf T N sc && tgOk it t && t.wf N (relC sc scp) (fbC sc scp) && decide (ifs.len ≤ 1) && ifs.wf T N (relC sc scp) && elt.wf T N (relC sc scp)) = true := w
      simp only [Bool.and_eq_true] at w
      obtain ⟨⟨⟨⟨⟨⟨⟨w1, w2⟩, w3⟩, w4⟩, w5⟩, w6⟩, w7⟩, w8⟩ := w
      obtain ⟨tl, h1, h2, h3⟩ := s_lc (p := p') cx w1 (fun j hj => of_decide_eq_true (List.all_eq_true.mp w2 j hj)) (iters it sc X cx hc w3 t w4) (fun s H C cl fp => g_ct (cx.blk s H C cl fp) (fn_blk cx.sc s H C cl fp) t w5)
        (fun s H C cl fp => tests ifs _ _ (cx.blk s H C cl fp) hc w7 (of_decide_eq_true w6)) (fun s H C cl fp => (both elt _ _ (cx.blk s H C cl fp) hc w8).1)
      exact x_name cx hi hB (h3 hi hy sw) h1
  | lc2 elt t it ifs t1 it1 ifs1 scp own vs1 p' =>
    have sw := sw_at (elt := elt.py) (gs := [⟨t.py, it.py, ifs.py, 0⟩, ⟨t1.py, it1.py, ifs1.py, 0⟩]) (scp := scp) (pos := p') (py := px) (y := x) (l := p.line) cx.sc hk
    cases q : swB sc x px p' scp with
    | false => rw [q] at sw; exact plain sw
    | true =>
      rw [q] at sw
      have hy : sc.names.lookup x = some .local := by
        unfold swB at q
        simp only [Bool.and_eq_true, beq_iff_eq] at q
        exact q.1.1
      have w : (blkC N sc scp own && (t.slots.all fun j => decide (j ∈ own.map (·.2))) && it.wf T N sc && tgOk it t && t.wf N (relC sc scp) (fbC sc scp) && decide (ifs.len ≤ 1) && ifs.wf T N (relC sc scp) &&
        (t1.slots.all fun j => decide (j ∈ vs1)) && (vs1.all fun j => decide (j ∈ own.map (·.2))) && it1.wf T N (relC sc scp) && tgOk it1 t1 && t1.wf N (relC sc scp) (fbC sc scp) && decide (ifs1.len ≤ 1) && ifs1.wf T N (relC sc scp) && elt.wf T N (relC sc scp)) = true := w
      simp only [Bool.and_eq_true] at w
      obtain ⟨⟨⟨⟨⟨⟨⟨⟨⟨⟨⟨⟨⟨⟨w1, w2⟩, w3⟩, w4⟩, w5⟩, w6⟩, w7⟩, w8⟩, w9⟩, w10⟩, w11⟩, w12⟩, w13⟩, w14⟩, w15⟩ := w
      obtain ⟨tl, h1, h2, h3⟩ := s_lc2 (p := p') cx w1 (fun j hj => of_decide_eq_true (List.all_eq_true.mp w2 j hj)) (fun j hj => of_decide_eq_true (List.all_eq_true.mp w8 j hj)) (fun j hj => of_decide_eq_true (List.all_eq_true.mp w9 j hj))
        (iters it sc X cx hc w3 t w4) (fun s H C cl fp => g_ct (cx.blk s H C cl fp) (fn_blk cx.sc s H C cl fp) t w5)
        (fun s H C cl fp => tests ifs _ _ (cx.blk s H C cl fp) hc w7 (of_decide_eq_true w6)) (fun s H C cl fp => iters it1 _ _ (cx.blk s H C cl fp) hc w10 t1 w11) (fun s H C cl fp => g_ct (cx.blk s H C cl fp) (fn_blk cx.sc s H C cl fp) t1 w12)
        (fun s H C cl fp => tests ifs1 _ _ (cx.blk s H C cl fp) hc w14 (of_decide_eq_true w13)) (fun s H C cl fp => (both elt _ _ (cx.blk s H C cl fp) hc w15).1)
      exact x_name cx hi hB (h3 hi hy sw) h1
  | _ => exact plain rfl
mutual
theorem stm (cx : Ctx T.free D n N sc X) (hc : T.calls = D.calls) (hk : sc.kind = .function) (hfn : X.fn = fun _ => true) : ∀ (s : CS), s.wf T N sc B = true → PS X s.py (tX X.K B (ex D s))
  | .asg (.name i x px) e p, w => by
    have w : (decide (N[i]? = some x) && locB sc x && !(B.contains i) && e.wf T N sc) = true := w
    simp only [Bool.and_eq_true] at w
    exact x_asg cx hc hk hfn e (of_decide_eq_true w.1.1.1) w.1.1.2 (notB w.1.2) w.2
  | .asg (.tup ts k pt) e p, w => by
    have w : (!e.isTup && (CT.tup ts k pt).wf N sc (fun _ => true) && outB B (.tup ts k pt) && e.wf T N sc) = true := w
    simp only [Bool.and_eq_true] at w
    exact x_tup cx (both e sc X cx hc w.2).1 (g_ct cx (fun x _ => .inl (by rw [hfn])) _ w.1.1.2) (outB_ok w.1.2) (by simpa using w.1.1.1)
  | .par i j x y px py kt pt a b k2 p2 p, w => by
    have w : (decide (N[i]? = some x) && decide (N[j]? = some y) && decide (i ≠ j) && !(B.contains i) && !(B.contains j) && (sc.names.lookup x == some .local) && (sc.names.lookup y == some .local) && swPar sc x y px py a b && (CEs.cons a (.cons b .nil)).wf T N sc) = true := w
    simp only [Bool.and_eq_true] at w
    obtain ⟨⟨⟨⟨⟨⟨⟨⟨w1, w2⟩, w3⟩, w4⟩, w5⟩, w6⟩, w7⟩, w8⟩, w9⟩ := w
    have w6 := beq_iff_eq.mp w6
    have w7 := beq_iff_eq.mp w7
    exact x_par cx (of_decide_eq_true w1) (of_decide_eq_true w2) (of_decide_eq_true w3) (notB w4) (notB w5) w6 w7 (all _ sc X cx hc w9).1 (sw_par cx.sc hk w6 w7 w8)
  | .setI i x px k e tp p, w => by
    have w : (nm N sc i x && k.wf T N sc && e.wf T N sc) = true := w
    simp only [Bool.and_eq_true] at w
    obtain ⟨a, b, c⟩ := nm_ok w.1.1
    exact x_setI cx a b c (both k sc X cx hc w.1.2).1 (both e sc X cx hc w.2).1
  | .expr e p, w => by
    have w : (!e.isLc && e.wf T N sc) = true := w
    rw [Bool.and_eq_true] at w
    exact x_expr cx (both e sc X cx hc w.2).1 (by have q := w.1; cases e <;> first | rfl | cases q)
  | .app i x px pa e pc p, w => by
    have w : (nm N sc i x && (pa.endLine == pc.line) && e.wf T N sc) = true := w
    simp only [Bool.and_eq_true] at w
    obtain ⟨a, b, c⟩ := nm_ok w.1.1
    exact x_app cx a b c w.1.2 (both e sc X cx hc w.2).1
  | .aug i x px op e p, w => by
    have w : (decide (N[i]? = some x) && locB sc x && !(B.contains i) && e.wf T N sc) = true := w
    simp only [Bool.and_eq_true] at w
    exact x_aug cx (of_decide_eq_true w.1.1.1) w.1.1.2 (notB w.1.2) (by rw [hfn]) (both e sc X cx hc w.2).1
  | .ife c a b p, w => by
    have w : (c.wf T N sc && a.wf T N sc B && b.wf T N sc B) = true := w
    simp only [Bool.and_eq_true] at w
    exact x_ife (both c sc X cx hc w.1.1).2 (stms cx hc hk hfn a w.1.2) (stms cx hc hk hfn b w.2)
  | .forr t it body p, w => by
    have w : (tgOk it t && t.wf N sc (fun _ => true) && outB B t && it.wf T N sc && body.wf T N sc B) = true := w
    simp only [Bool.and_eq_true] at w
    obtain ⟨⟨⟨⟨w1, w2⟩, w3⟩, w4⟩, w5⟩ := w
    exact x_for cx (iters it sc X cx hc w4 t w1) (g_ct cx (fun x _ => .inl (by rw [hfn])) t w2) (outB_ok w3) (stms cx hc hk hfn body w5)
  | .ret e p, w => x_ret (both e sc X cx hc w).1
  | .retN p, w => x_retN
  | .pass p, w => x_pass
  | .brk p, w => x_brk
  | .cnt p, w => x_cnt
  | .nvr st, w => x_nvr
theorem stms (cx : Ctx T.free D n N sc X) (hc : T.calls = D.calls) (hk : sc.kind = .function) (hfn : X.fn = fun _ => true) : ∀ (ss : CSs), ss.wf T N sc B = true → PSs X ss.py (tX X.K B (exs D ss))
  | .nil, _ => xs_nil
  | .cons s ss, w => by
    have w : (s.wf T N sc B && ss.wf T N sc B) = true := w
    rw [Bool.and_eq_true] at w
    exact xs_cons (stm cx hc hk hfn s w.1) (stms cx hc hk hfn ss w.2)
end
end
end BV
/-! Defs, programs. -/
namespace BV
open PySem PySem.Spec PyProof.Rows L2
/-- a def: its name, parameters, all its names, the parameters by reference, its scope, its body -/
structure Df where
  x : Str
  ps : List Str
  N : List Str
  B : List Nat
  sc : Scope
  body : CSs
structure Pg where
  defs : List Df
  calls : List CallSh
  const : List (Str × Val)
  free : List Str
def Df.start (d : Df) (rs : List R) : Slots := rs.map some ++ List.replicate (d.N.length - rs.length) none
/-- the parameters' slots behind the body -/
def backP (B : List Nat) : Nat → Nat → Slots → Slots
  | _, 0, _ => []
  | i, n + 1, S => (bif B.contains i then (match S with | p :: _ => p | [] => none) else none) :: backP B (i + 1) n (S.drop 1)
def Df.outc (d : Df) : Option Out → Option (R × Slots)
  | some (.rt r S) => some (r, backP d.B 0 d.ps.length S)
  | some (.nx S) => some ((0, .non), backP d.B 0 d.ps.length S)
  | _ => none
def Pg.den (P : Pg) : Nat → Den
  | 0 => ⟨fun x => P.const.lookup x, P.calls, fun _ _ => none⟩
  | n + 1 => ⟨fun x => P.const.lookup x, P.calls, fun f rs => match P.defs[f]? with
    | some d => gd (rs.length == d.ps.length) (d.outc (exs (P.den n) d.body (d.start rs)))
    | none => none⟩
def scB (d : Df) : Bool := decide (d.sc.kind = .function) && !d.sc.isCoroutine && !d.sc.isGenerator && decide d.N.Nodup && decide (d.N.take d.ps.length = d.ps) && (d.ps.all fun x => locB d.sc x) && (d.sc.names.all fun y => decide (y.2 ≠ .free))
def Df.wf (P : Pg) (d : Df) : Bool := scB d && d.body.wf ⟨P.free, P.calls⟩ d.N d.sc d.B
def Pg.wf (P : Pg) : Bool := P.defs.all fun d => d.wf P
theorem scB_ok {d : Df} (h : scB d = true) : FnScope d.N d.ps d.sc := by
  unfold scB at h
  simp only [Bool.and_eq_true, Bool.not_eq_true', decide_eq_true_eq] at h
  obtain ⟨⟨⟨⟨⟨⟨h1, h2⟩, h3⟩, h4⟩, h5⟩, h6⟩, h7⟩ := h
  refine ⟨h1, h2, h3, h4, h5, fun x hx => ?_, fun y hy => of_decide_eq_true (List.all_eq_true.mp h7 y hy)⟩
  exact locB_ok (List.all_eq_true.mp h6 x hx)
/-! ### the frame of a call -/
theorem Plcs.nones {K : Frag} {Hf H : Hp} : ∀ (n : Nat), Plcs K Hf H (List.replicate n none) (List.replicate n none) []
  | 0 => .nil
  | n + 1 => Plcs.cons (F := []) (G := []) .no (Plcs.nones n)
theorem Rel.begin {K : Frag} {Hf H : Hp} {F : List Addr} {rs : List R} {xs : List V} {d : Df} (r : Rel K Hf F (rs.map some) (xs.map some) H) : Rel K Hf F (d.start rs) (L2.start d.N xs) H := by
  have hl := r.len
  rw [List.length_map, List.length_map] at hl
  unfold Df.start L2.start
  rw [hl]
  have p := r.plc.append (Plcs.nones (K := K) (Hf := Hf) (H := H) (d.N.length - rs.length))
  rw [List.append_nil] at p
  exact ⟨r.sub, r.nd, r.off, p⟩
theorem Plcs.back {K : Frag} {Hf H : Hp} {B : List Nat} : ∀ {n i : Nat} {S : Slots} {σ : L2.St} {F : List Addr} {xs : List V}, Plcs K Hf H S σ F → xs.length = n → (∀ j, (i + j) ∈ B → j < n → σ[j]? = (xs.map some)[j]?) →
    ∃ F', Plcs K Hf H (backP B i n S) (xs.map some) F' ∧ F'.Sublist F
  | 0, i, S, σ, F, xs, p, hl, h => by
    have : xs = [] := List.length_eq_zero_iff.mp hl
    subst this
    exact ⟨[], .nil, List.nil_sublist _⟩
  | n + 1, i, S, σ, F, xs, p, hl, h => by
    obtain ⟨x, ys, rfl⟩ : ∃ x ys, xs = x :: ys := by
      cases xs with
      | nil => cases hl
      | cons x ys => exact ⟨x, ys, rfl⟩
    have hl' : ys.length = n := by simpa using hl
    cases p with
    | nil =>
      obtain ⟨F', p', s'⟩ := Plcs.back (i := i + 1) (B := B) (xs := ys) (Plcs.nil (K := K) (Hf := Hf) (H := H)) hl' (fun j hj hn => by
        have := h (j + 1) (by rw [show i + (j + 1) = i + 1 + j by omega]; exact hj) (by omega)
        simpa using this)
      refine ⟨F', ?_, s'⟩
      unfold backP
      have : (bif B.contains i then (none : Option R) else none) = none := by cases B.contains i <;> rfl
      show Plcs K Hf H ((bif B.contains i then none else none) :: backP B (i + 1) n []) (some x :: ys.map some) F'
      rw [this]
      exact Plcs.cons (F := []) (G := F') .no p'
    | cons p1 p2 =>
      rename_i p0 y S0 σ0 F0 G0
      obtain ⟨F', p', s'⟩ := Plcs.back (i := i + 1) (B := B) (xs := ys) p2 hl' (fun j hj hn => by
        have := h (j + 1) (by rw [show i + (j + 1) = i + 1 + j by omega]; exact hj) (by omega)
        simpa using this)
      unfold backP
      cases q : B.contains i with
      | false => exact ⟨F', Plcs.cons (F := []) (G := F') .no p', s'.trans (List.sublist_append_right _ _)⟩
      | true =>
        have e := h 0 (by simpa using q) (by omega)
        have e : y = some x := by simpa using e
        subst e
        exact ⟨F0 ++ F', Plcs.cons p1 p', s'.append_left F0⟩
theorem Rel.back {K : Frag} {Hf H : Hp} {F : List Addr} {S : Slots} {σ : L2.St} {xs : List V} {B : List Nat} (r : Rel K Hf F S σ H) (h : ∀ j ∈ B, j < xs.length → σ[j]? = (xs.map some)[j]?) : ∃ F', Rel K Hf F' (backP B 0 xs.length S) (xs.map some) H ∧ ∀ a ∈ F', a ∈ F := by
  obtain ⟨F', p, s⟩ := r.plc.back (B := B) (i := 0) (xs := xs) rfl (fun j hj hn => h j (by simpa using hj) hn)
  exact ⟨F', ⟨r.sub, s.nodup r.nd, fun a ha => r.off a (s.subset ha), p⟩, fun a ha => s.subset ha⟩
/-! ### what the head tells -/
/-- the def d stands at fa -/
def DefAt (K : Frag) (d : Df) (fa : Addr) (fd : FuncData) : Prop := ∃ qual params dvs kws, FunD K d.x qual params d.body.py d.sc dvs kws fa fd
structure Lk (P : Pg) (K : Frag) (mg : Str → Option Value) : Prop where
  con : ∀ x v, P.const.lookup x = some v → ∃ u y, mg x = some u ∧ RelV y u ∧ Rep K (fun _ => none) v y
  fre : ∀ x ∈ P.free, mg x = none
  cal : ∀ (c : Nat) (sh : CallSh), P.calls[c]? = some sh → ∃ (d : Df) (fa : Addr) (fd : FuncData) (ds : List Value) (dvs : List V), P.defs[sh.f]? = some d ∧ mg sh.x = some (.ref fa) ∧ DefAt K d fa fd ∧ Vals dvs ds ∧ RepL K (fun _ => none) sh.dv dvs ∧
    ∀ (s : Shared) (us ws : List Value), K.In s.heap → us.length = sh.n → ws.length = sh.ks.length → ∃ zs, arrange us ws ds sh.ar = some zs ∧ BindsTo s fd ⟨us, sh.ks.zip ws⟩ (d.ps.zip zs)
theorem Pg.go {P : Pg} {Pr : Program} {w : World} {K : Frag} {mg : Str → Option Value} {base : Heap} (L : Lk P K mg) (wf : P.wf = true) : ∀ (n f : Nat) (d : Df) (fa : Addr) (fd : FuncData), P.defs[f]? = some d → DefAt K d fa fd →
    FnG Pr w K mg base n fa fd d.ps (spOf K ((P.den n).fn f))
  | 0, f, d, fa, fd, hd, F => FnG.idle fun vs H Q E ⟨Hf, F, rs, r, fin, rel, e, _⟩ => by cases e
  | n + 1, f, d, fa, fd, hd, F => by
    obtain ⟨qual, params, dvs, kws, FD⟩ := F
    have wd := List.all_eq_true.mp wf d (List.mem_of_getElem? hd)
    unfold Df.wf at wd
    rw [Bool.and_eq_true] at wd
    have S := scB_ok wd.1
    have fnEq : ∀ rs, (P.den (n + 1)).fn f rs = gd (rs.length == d.ps.length) (d.outc (exs (P.den n) d.body (d.start rs))) := fun rs => by
      show (match P.defs[f]? with
        | some d => gd (rs.length == d.ps.length) (d.outc (exs (P.den n) d.body (d.start rs)))
        | none => none) = _
      rw [hd]
    refine FnG.of FD S (fun vs H Q E ⟨Hf, F, rs, r, fin, rel, e, _⟩ => ?_) fun X h1 h2 h3 h4 h5 h6 h7 h8 h9 h10 h11 h12 H vs Q E ⟨Hf, F, rs, r, fin, rel, e, q⟩ => ?_
    · rw [fnEq, gd_some] at e
      have := rel.len
      simp only [List.length_map] at this
      rw [this]
      simpa using e.1
    · subst h3 h4 h5
      have hden : (P.den n).const = (fun x => P.const.lookup x) ∧ (P.den n).calls = P.calls := by cases n <;> exact ⟨rfl, rfl⟩
      have cx : Ctx P.free (P.den n) n d.N d.sc X := by
        refine ⟨h6, S.nd, h7, h8, h9, h10, h11, fun x v e => L.con x v (by rw [hden.1] at e; exact e), L.fre, fun c sh hc => ?_⟩
        rw [hden.2] at hc
        obtain ⟨d', fa', fd', ds, dvs', e1, e2, e3, e4, e5, e6⟩ := L.cal c sh hc
        have go := Pg.go (Pr := X.prog) (w := X.w) (base := X.base) L wf n sh.f d' fa' fd' e1 e3
        obtain ⟨_, _, _, _, F'⟩ := e3
        exact ⟨fa', fd', d'.ps, ds, dvs', e2, F'.kp, go, e4, e5, e6⟩
      have ps := stms (T := ⟨P.free, P.calls⟩) (B := d.B) cx hden.2.symm S.kind h12 d.body wd.2
      refine ⟨_, ps, ?_⟩
      rw [fnEq, gd_some] at e
      obtain ⟨hl, e⟩ := e
      have hlen : vs.length = d.ps.length := by
        have := rel.len
        simp only [List.length_map] at this
        rw [this]; simpa using hl
      cases q2 : exs (P.den n) d.body (d.start rs) with
      | none => rw [q2] at e; cases e
      | some out =>
        rw [q2] at e
        refine ⟨d.start rs, Hf, F, out, rel.begin, q2, ?_⟩
        have keep : ∀ {σ' : L2.St}, Kept d.B (L2.start d.N vs) σ' → ∀ j ∈ d.B, j < vs.length → σ'[j]? = (vs.map some)[j]? := fun k j hj hjl => by
          rw [k j hj]
          unfold L2.start
          rw [List.getElem?_append_left (by rw [List.length_map]; exact hjl)]
        cases out with
        | bk S' => cases e
        | ct S' => cases e
        | nx S' =>
          obtain ⟨rfl, rfl⟩ := Prod.mk.inj (Option.some.inj e)
          intro σ' H' Hf' F' rel' st' k'
          obtain ⟨F2, rel2, sub2⟩ := rel'.back (xs := vs) (keep k')
          rw [hlen] at rel2
          exact q .non H' Hf' F2 (.frz rel2 ⟨st'.hf, st'.fr, st'.new, fun a ha => st'.own a (sub2 a ha)⟩ .non (.inl rfl))
        | rt r' S' =>
          obtain ⟨rfl, rfl⟩ := Prod.mk.inj (Option.some.inj e)
          intro x σ' H' Hf' F' g' k'
          obtain ⟨rel', st', G, ow, nd, off, fr⟩ := g'
          obtain ⟨F2, rel2, sub2⟩ := rel'.back (xs := vs) (keep k')
          rw [hlen] at rel2
          refine q x H' Hf' F2 ⟨rel2, ⟨st'.hf, st'.fr, st'.new, fun a ha => st'.own a (sub2 a ha)⟩, G, ow, ?_, off, fr⟩
          have nd2 := rel2.nd
          rw [List.nodup_append] at nd ⊢
          exact ⟨nd2, nd.2.1, fun a ha b hb => nd.2.2 a (sub2 a ha) b hb⟩
end BV
/-! What the head tells of defs, defaults, constants; the law's end. -/
namespace BV
open PySem PySem.Spec PyProof.Rows L2
/-! ### a call's binding -/
def Bd (K : Frag) (fd : FuncData) (ps : List Str) (sh : CallSh) : Prop := ∃ (ds : List Value) (dvs : List V), Vals dvs ds ∧ RepL K (fun _ => none) sh.dv dvs ∧
  ∀ (s : Shared) (us ws : List Value), K.In s.heap → us.length = sh.n → ws.length = sh.ks.length → ∃ zs, arrange us ws ds sh.ar = some zs ∧ BindsTo s fd ⟨us, sh.ks.zip ws⟩ (ps.zip zs)
section
variable {K : Frag} {x qual : Str} {params : Arguments} {body : List Stmt} {scope : Scope} {dvs : List V} {kws : List (Str × V)} {f : Addr} {fd : FuncData} {ps : List Str} {sh : CallSh}
/-- nothing is left to defaults, and there are none by place -/
theorem bindA (F : FunD K x qual params body scope [] kws f fd) (hd : sh.dv = [])
    (h : ∀ (kV doc pm : Value) (an : Option Addr) (cdv ct : Value) (us ws : List Value), us.length = sh.n → ws.length = sh.ks.length →
      ∃ zs, arrange us ws [] sh.ar = some zs ∧ bindArgs (PySem.W.fnOf x qual params body scope .none kV doc pm an cdv ct) ⟨us, sh.ks.zip ws⟩ = pure (ps.zip zs)) : Bd K fd ps sh := by
  obtain ⟨oc, od, dV, kV, doc, pm, an, cdv, ct, osl, rfl, lk, hcd, hD, hK⟩ := F.ex
  rcases hD with ⟨_, rfl⟩ | ⟨e, _⟩
  · refine ⟨[], [], .nil, by rw [hd]; exact .nil, fun s us ws X l1 l2 => ?_⟩
    obtain ⟨zs, e1, e2⟩ := h kV doc pm an cdv ct us ws l1 l2
    exact ⟨zs, e1, .of_eq e2⟩
  · exact absurd rfl e
/-- defaults of keyword-only parameters alone -/
theorem bindB (F : FunD K x qual params body scope [] kws f fd) (ms : List (Str × V)) (hne : kws ≠ []) (hms : ∀ q ∈ ms, q ∈ kws) (hr : RepL K (fun _ => none) sh.dv (ms.map (·.2)))
    (h : ∀ (D : Addr) (doc pm : Value) (an : Option Addr) (cdv ct : Value) (us mv ws : List Value), us.length = sh.n → mv.length = ms.length → ws.length = sh.ks.length →
      ∃ zs, arrange us ws mv sh.ar = some zs ∧ KwChain D ((ms.map (·.1)).zip mv) (bindArgs (PySem.W.fnOf x qual params body scope .none (.ref D) doc pm an cdv ct) ⟨us, sh.ks.zip ws⟩) (ps.zip zs)) : Bd K fd ps sh := by
  obtain ⟨oc, od, dV, kV, doc, pm, an, cdv, ct, osl, rfl, lk, hcd, hD, hK⟩ := F.ex
  rcases hD with ⟨_, rfl⟩ | ⟨e, _⟩
  · rcases hK with e | ⟨D, rfl, hq⟩
    · exact absurd e hne
    · obtain ⟨mv, hl, rk, hks⟩ := kwd_vals (ms := ms) fun q hm => hq q (hms q hm)
      refine ⟨mv, ms.map (·.2), rk, hr, fun s us ws X l1 l2 => ?_⟩
      obtain ⟨zs, e1, e2⟩ := h D doc pm an cdv ct us mv ws l1 hl l2
      exact ⟨zs, e1, BindsTo.of_looks fun M => KwChain.looks X hks e2⟩
  · exact absurd rfl e
/-- defaults by place alone -/
theorem bindC (F : FunD K x qual params body scope dvs kws f fd) (hne : dvs ≠ []) (hr : RepL K (fun _ => none) sh.dv dvs)
    (h : ∀ (T : Addr) (kV doc pm : Value) (an : Option Addr) (cdv ct : Value) (us its ws : List Value), us.length = sh.n → its.length = dvs.length → ws.length = sh.ks.length →
      ∃ zs k, arrange us ws its sh.ar = some zs ∧ bindArgs (PySem.W.fnOf x qual params body scope (.ref T) kV doc pm an cdv ct) ⟨us, sh.ks.zip ws⟩ = seqItems? (.ref T) >>= k ∧ k (some its.toArray) = pure (ps.zip zs)) : Bd K fd ps sh := by
  obtain ⟨oc, od, dV, kV, doc, pm, an, cdv, ct, osl, rfl, lk, hcd, hD, hK⟩ := F.ex
  rcases hD with ⟨e, _⟩ | ⟨_, T, o, its, m, rfl, lT, oT, rT⟩
  · exact absurd e hne
  · refine ⟨its, dvs, rT, hr, fun s us ws X l1 l2 => ?_⟩
    obtain ⟨zs, k, e1, e2, e3⟩ := h T kV doc pm an cdv ct us its ws l1 rT.length.symm l2
    refine ⟨zs, e1, BindsTo.of_looks fun M => ?_⟩
    rw [e2]
    exact looks_items X lT oT (.of_pure e3)
/-- both -/
theorem bindD (F : FunD K x qual params body scope dvs kws f fd) (ms : List (Str × V)) (hne : dvs ≠ []) (hnk : kws ≠ []) (hms : ∀ q ∈ ms, q ∈ kws) (hr : RepL K (fun _ => none) sh.dv (dvs ++ ms.map (·.2)))
    (h : ∀ (T D : Addr) (doc pm : Value) (an : Option Addr) (cdv ct : Value) (us its mv ws : List Value), us.length = sh.n → its.length = dvs.length → mv.length = ms.length → ws.length = sh.ks.length →
      ∃ zs k, arrange us ws (its ++ mv) sh.ar = some zs ∧ bindArgs (PySem.W.fnOf x qual params body scope (.ref T) (.ref D) doc pm an cdv ct) ⟨us, sh.ks.zip ws⟩ = seqItems? (.ref T) >>= k ∧ KwChain D ((ms.map (·.1)).zip mv) (k (some its.toArray)) (ps.zip zs)) : Bd K fd ps sh := by
  obtain ⟨oc, od, dV, kV, doc, pm, an, cdv, ct, osl, rfl, lk, hcd, hD, hK⟩ := F.ex
  rcases hD with ⟨e, _⟩ | ⟨_, T, o, its, m, rfl, lT, oT, rT⟩
  · exact absurd e hne
  · rcases hK with e | ⟨D, rfl, hq⟩
    · exact absurd e hnk
    · obtain ⟨mv, hl, rk, hks⟩ := kwd_vals (ms := ms) fun q hm => hq q (hms q hm)
      refine ⟨its ++ mv, dvs ++ ms.map (·.2), rT.append rk, hr, fun s us ws X l1 l2 => ?_⟩
      obtain ⟨zs, k, e1, e2, e3⟩ := h T D doc pm an cdv ct us its mv ws l1 rT.length.symm hl l2
      refine ⟨zs, e1, BindsTo.of_looks fun M => ?_⟩
      rw [e2]
      exact looks_items X lT oT (KwChain.looks X hks e3)
end
/-! ### constants -/
mutual
def repB (K : Frag) : Val → Value → Bool
  | .non, .none => true
  | .bl b, .bool c => b == c
  | .int i, .int j _ => decide (i = j)
  | .str x, .str y _ => decide (x = y)
  | .tup xs, .ref a => (match K.lookup a with
    | some ⟨.type c, _, .seq its _, _⟩ => decide (c = "tuple") && (decide (its.size ≤ sizeLine) && repBs K xs its.toList)
    | _ => false)
  | .lst xs, .ref a => (match K.lookup a with
    | some ⟨.type c, none, .seq its _, sl⟩ => decide (c = "list") && (sl.isEmpty && (decide (its.size ≤ sizeLine) && repBs K xs its.toList))
    | _ => false)
  | _, _ => false
def repBs (K : Frag) : List Val → List Value → Bool
  | [], [] => true
  | v :: vs, u :: us => repB K v u && repBs K vs us
  | _, _ => false
end
mutual
theorem repB_ok {K : Frag} : ∀ (v : Val) (u : Value), repB K v u = true → ∃ y, RelV y u ∧ Rep K (fun _ => none) v y
  | .non, u, h => by
    cases u with
    | none => exact ⟨.non, rfl, .non⟩
    | _ => cases h
  | .bl b, u, h => by
    cases u with
    | bool c =>
      have e : b = c := eq_of_beq (show (b == c) = true from h)
      exact ⟨.bl b, by rw [e]; rfl, .bl b⟩
    | _ => cases h
  | .int i, u, h => by
    cases u with
    | int j t =>
      have e : i = j := of_decide_eq_true h
      exact ⟨.int i, ⟨t, by rw [e]⟩, .int i⟩
    | _ => cases h
  | .str i, u, h => by
    cases u with
    | str j t =>
      have e : i = j := of_decide_eq_true h
      exact ⟨.str i, ⟨t, by rw [e]⟩, .str i⟩
    | _ => cases h
  | .tup xs, u, h => by
    cases u with
    | ref a =>
      have h : (match K.lookup a with
        | some ⟨.type c, _, .seq its _, _⟩ => decide (c = "tuple") && (decide (its.size ≤ sizeLine) && repBs K xs its.toList)
        | _ => false) = true := by unfold repB at h; exact h
      cases q : K.lookup a with
      | none => rw [q] at h; cases h
      | some o =>
        obtain ⟨oc, od, dt, osl⟩ := o
        rw [q] at h
        cases oc with
        | type c =>
          cases dt with
          | seq its n =>
            have h : (decide (c = "tuple") && (decide (its.size ≤ sizeLine) && repBs K xs its.toList)) = true := h
            simp only [Bool.and_eq_true, decide_eq_true_eq] at h
            obtain ⟨ys, r1, r2⟩ := repBs_ok xs its.toList h.2.2
            exact ⟨.ref a, rfl, .tup (.inr ⟨_, its, n, q, congrArg Value.type h.1, rfl, h.2.1, r1⟩) r2⟩
          | _ => cases h
        | _ => cases dt <;> cases h
    | _ => cases h
  | .lst xs, u, h => by
    cases u with
    | ref a =>
      have h : (match K.lookup a with
        | some ⟨.type c, none, .seq its _, sl⟩ => decide (c = "list") && (sl.isEmpty && (decide (its.size ≤ sizeLine) && repBs K xs its.toList))
        | _ => false) = true := by unfold repB at h; exact h
      cases q : K.lookup a with
      | none => rw [q] at h; cases h
      | some o =>
        obtain ⟨oc, od, dt, osl⟩ := o
        rw [q] at h
        cases oc with
        | type c =>
          cases od with
          | some d => cases dt <;> cases h
          | none =>
            cases dt with
            | seq its n =>
              have h : (decide (c = "list") && (osl.isEmpty && (decide (its.size ≤ sizeLine) && repBs K xs its.toList))) = true := h
              simp only [Bool.and_eq_true, decide_eq_true_eq] at h
              obtain ⟨ys, r1, r2⟩ := repBs_ok xs its.toList h.2.2.2
              refine ⟨.ref a, rfl, .lst (.inr ⟨its.toList, n, ?_, ?_, r1⟩) r2⟩
              · rw [q, h.1, Array.isEmpty_iff.mp h.2.1]
              · rw [r1.length]
                simpa using h.2.2.1
            | _ => cases h
        | _ => cases od <;> cases dt <;> cases h
    | _ => cases h
  | .dic kvs, u, h => by unfold repB at h; cases u <;> cases h
theorem repBs_ok {K : Frag} : ∀ (vs : List Val) (us : List Value), repBs K vs us = true → ∃ ys, Vals ys us ∧ RepL K (fun _ => none) vs ys
  | [], us, h => by
    cases us with
    | nil => exact ⟨[], .nil, .nil⟩
    | cons u us => cases h
  | v :: vs, us, h => by
    cases us with
    | nil => cases h
    | cons u us =>
      have h : (repB K v u && repBs K vs us) = true := by unfold repBs at h; exact h
      rw [Bool.and_eq_true] at h
      obtain ⟨y, r1, r2⟩ := repB_ok v u h.1
      obtain ⟨ys, s1, s2⟩ := repBs_ok vs us h.2
      exact ⟨y :: ys, .cons r1 s1, .cons r2 s2⟩
end
def conB (K : Frag) (q : Str × Val) : Bool := match PySem.W.nsIn K mainGlobals q.1 with
  | some (some u) => repB K q.2 u
  | _ => false
theorem conB_ok {K : Frag} {h : Heap} {mg : Str → Option Value} (X : K.In h) (G : h.Ns mainGlobals mg) {q : Str × Val} (c : conB K q = true) : ∃ u y, mg q.1 = some u ∧ RelV y u ∧ Rep K (fun _ => none) q.2 y := by
  unfold conB at c
  split at c
  · rename_i u e
    obtain ⟨y, r1, r2⟩ := repB_ok q.2 u c
    exact ⟨u, y, PySem.W.mg_of X G e, r1, r2⟩
  · cases c
def exB (cs : List (Str × Val)) (K : Frag) : Bool := cs.all fun q => conB K q
theorem lookup_mem' {α : Type} {x : Str} {v : α} : ∀ {l : List (Str × α)}, l.lookup x = some v → (x, v) ∈ l
  | [], h => by cases h
  | (y, u) :: r, h => by
    rw [List.lookup_cons] at h
    cases q : (x == y) with
    | true =>
      rw [q] at h
      have e : u = v := Option.some.inj h
      rw [beq_iff_eq.mp q, e]
      exact List.mem_cons_self
    | false =>
      rw [q] at h
      exact List.mem_cons_of_mem _ (lookup_mem' h)
theorem exB_ok {K : Frag} {h : Heap} {mg : Str → Option Value} (X : K.In h) (G : h.Ns mainGlobals mg) {cs : List (Str × Val)} (c : exB cs K = true) (x : Str) (v : Val) (e : cs.lookup x = some v) : ∃ u y, mg x = some u ∧ RelV y u ∧ Rep K (fun _ => none) v y :=
  conB_ok X G (List.all_eq_true.mp c (x, v) (lookup_mem' e))
/-! ### the end -/
theorem reps_ints {K : Frag} {H : Hp} : ∀ (ns : List Int), RepL K H (ns.map Val.int) (ns.map V.int)
  | [] => .nil
  | i :: r => .cons (.int i) (reps_ints r)
theorem law_end {l : PySem.W.OpenLaw} {m n : Nat} {q : Program} {loose : List Str} {XP : (Str → Option Value) → Heap → Prop} {YP : World → Heap → Prop} {d : DefRec} {x : Str} {P : Pg} {f : Nat} {df : Df}
    (hn : l.most = some m) (hn2 : m ≤ sizeLine) (hdf : d.params.defaults = []) (hr : Room n callerA) (wf : P.wf = true) (hd : P.defs[f]? = some df) (hps : df.ps = [x])
    (F : ∀ (w : World) (mg : Str → Option Value) (fa : Addr) (h : Heap), YP w h → h.Ns mainGlobals mg → mg d.name = some (.ref fa) →
      ∃ (K : Frag) (fd : FuncData), K.In h ∧ Lk P K mg ∧ DefAt K df fa fd ∧ ∀ (s : Shared) (u : Value), BindsTo s fd ⟨[u], []⟩ [(x, u)])
    (law : ∀ ns : List Int, ns.length ≤ m → (∀ k ∈ ns, Builtin.Int.intBits k ≤ 1048576) → ∃ dd fin, (P.den n).fn f [(0, .lst (ns.map Val.int))] = some ((dd, .bl true), fin)) :
    PySem.W.WalkO q loose XP YP l.row.toRowW d [] (fun f vs => PySem.call f vs) := by
  refine Att.attach_callB hn hdf fun w s₀ s₁ mg mb fa o pm cd doc a vs ns G Y ho hdd hcd hmg hobj hints hlen hbits hg => ?_
  obtain ⟨K, fd, KX, L, at_, hb⟩ := F w mg fa _ Y G.T.g hmg
  obtain ⟨dd, fin, e⟩ := law ns hlen hbits
  refine law_callG (k := n) (x := x) (sp := spOf K ((P.den n).fn f)) KX G.T.g G.T.b G.T.builtins G.T.nolimit hg hobj hints (Nat.le_trans hlen hn2) hr (fun base _ _ => ?_) hb fun H hS => ?_
  · rw [← hps]
    exact Pg.go L wf n f df fa fd hd at_
  · refine ⟨H, [], [(0, .lst (ns.map Val.int))], _, fin, ⟨HSub.refl _, List.nodup_nil, fun a h => (by cases h), ?_⟩, e, fun y H' Hf' F' g => ?_⟩
    · exact Plcs.cons (F := []) (G := []) (.is (.frz (.inl rfl) (.lst hS (reps_ints ns)))) .nil
    · obtain ⟨_, _, G, ow, _⟩ := g
      cases ow with
      | frz _ r => cases r; rfl
end BV
/-! The head's facts of all defs at once. -/
namespace BV
open PySem PySem.Spec PyProof.Rows L2
structure Dx where
  df : Df
  params : Arguments
  dfl : List He.Dv := []
  kwd : List (Str × He.Dv) := []
def Dx.dd (e : Dx) : He.DefD := ⟨(e.df.x, none), e.df.x, e.df.x, e.params, e.df.body.py, e.df.sc, e.dfl, e.kwd⟩
def faOf (P : Pg) : List He.Fa := P.defs.map (fun d => He.Fa.glo d.x) ++ P.free.map He.Fa.free
theorem glo_in {P : Pg} {fn : List He.DefD} {K : Frag} (c : He.SaysD (faOf P) fn K) (f : Nat) {d : Df} (h : P.defs[f]? = some d) : (He.Fa.glo d.x).ok K = true :=
  c.facts (List.mem_append_left _ (List.mem_map.mpr ⟨d, List.mem_of_getElem? h, rfl⟩))
theorem head_lk {P : Pg} {dx : List Dx} {K : Frag} {h : Heap} {w : World} {mg : Str → Option Value} (hdx : dx.map Dx.df = P.defs) (X : K.In h) (G : h.Ns mainGlobals mg)
    (c : He.SaysX (faOf P) (dx.map Dx.dd) [] [] (exB P.const) w h K)
    (cal : ∀ (c : Nat) (sh : CallSh), P.calls[c]? = some sh → ∃ e : Dx, dx[sh.f]? = some e ∧ e.df.x = sh.x ∧ ∀ (a : Addr) (fd : FuncData), FunD K e.df.x e.df.x e.params e.df.body.py e.df.sc (e.dd.dvs K) (e.dd.kws K) a fd → Bd K fd e.df.ps sh) :
    Lk P K mg ∧ ∀ (f : Nat) (e : Dx), dx[f]? = some e → ∃ fd, FunD K e.df.x e.df.x e.params e.df.body.py e.df.sc (e.dd.dvs K) (e.dd.kws K) (He.ga K e.df.x) fd := by
  have fnd : ∀ (f : Nat) (e : Dx), dx[f]? = some e → ∃ fd, FunD K e.df.x e.df.x e.params e.df.body.py e.df.sc (e.dd.dvs K) (e.dd.kws K) (He.ga K e.df.x) fd := fun f e he =>
    c.t.d.defs (d := e.dd) (List.mem_map.mpr ⟨e, List.mem_of_getElem? he, rfl⟩)
  have dfs : ∀ (f : Nat) (e : Dx), dx[f]? = some e → P.defs[f]? = some e.df := fun f e he => by
    rw [← hdx, List.getElem?_map, he]; rfl
  refine ⟨⟨fun x v e => exB_ok X G c.more x v e, fun x hx => He.free_ok X G (c.t.d.facts (List.mem_append_right _ (List.mem_map.mpr ⟨x, hx, rfl⟩))), fun i sh hc => ?_⟩, fnd⟩
  obtain ⟨e, h1, h2, h3⟩ := cal i sh hc
  obtain ⟨fd, F⟩ := fnd sh.f e h1
  obtain ⟨ds, dvs, b1, b2, b3⟩ := h3 _ fd F
  refine ⟨e.df, _, fd, ds, dvs, dfs _ _ h1, ?_, ⟨_, _, _, _, F⟩, b1, b2, b3⟩
  rw [← h2]
  exact He.glo_ok X G (glo_in c.t.d sh.f (dfs _ _ h1))
end BV
/-! The meaning, equation by equation, for the simplifier. -/
namespace BV
open PySem PySem.Spec PyProof.Rows L2

@[simp] theorem q_ev_0 {c : _} {z1 : _} {z2 : _} {D : Den} {S : Slots} : ev D (.cst c z1 z2) S = (cstV c).map fun v => ((.own 0, v), S) := rfl
@[simp] theorem q_ev_1 {i : _} {z1 : _} {z2 : _} {D : Den} {S : Slots} : ev D (.var i z1 z2) S = match S[i]? with
    | some (some (_, v)) => some ((.own 0, v), S.set i (some (0, v)))
    | _ => none := rfl
@[simp] theorem q_ev_2 {i : _} {z1 : _} {z2 : _} {D : Den} {S : Slots} : ev D (.brw i z1 z2) S = match S[i]? with
    | some (some (d, v)) => gd (decide (d ≤ 1) || v.inner) (some ((.bor, v), S))
    | _ => none := rfl
@[simp] theorem q_ev_3 {i : _} {z1 : _} {z2 : _} {D : Den} {S : Slots} : ev D (.mov i z1 z2) S = match S[i]? with
    | some (some (d, v)) => some ((.own d, v), S.set i none)
    | _ => none := rfl
@[simp] theorem q_ev_4 {z1 : _} {z2 : _} {z3 : _} {D : Den} {S : Slots} : ev D (.ref z1 z2 z3) S = none := rfl
@[simp] theorem q_ev_5 {i : _} {z1 : _} {z2 : _} {k : _} {z3 : _} {D : Den} {S : Slots} : ev D (.pth i z1 z2 k z3) S = match S[i]? with
    | some (some _) => (ev D k S).bind fun q => match q.2[i]? with
      | some (some (_, v)) => (getV v q.1.2).bind fun u => bif u.flat then some ((.own 0, u), q.2) else gd u.inner (some ((.bor, u), q.2))
      | _ => none
    | _ => none := rfl
@[simp] theorem q_ev_6 {x : _} {z1 : _} {D : Den} {S : Slots} : ev D (.glb x z1) S = (D.const x).map fun v => ((.own 0, v), S) := rfl
@[simp] theorem q_ev_7 {es : _} {z1 : _} {z2 : _} {D : Den} {S : Slots} : ev D (.tup es z1 z2) S = (evs D es S).bind fun q => gd (fitsLine q.1.length) (some ((.own 0, .tup (q.1.map (·.2))), q.2)) := rfl
@[simp] theorem q_ev_8 {es : _} {z1 : _} {D : Den} {S : Slots} : ev D (.lst es z1) S = (evs D es S).bind fun q => gd (fitsLine q.1.length) (some ((.own (dispD q.1), .lst (q.1.map (·.2))), q.2)) := rfl
@[simp] theorem q_ev_9 {z1 : _} {D : Den} {S : Slots} : ev D (.dic0 z1) S = some ((.own 1, .dic []), S) := rfl
@[simp] theorem q_ev_10 {op : _} {a : _} {b : _} {z1 : _} {D : Den} {S : Slots} : ev D (.bin op a b z1) S = (ev D a S).bind fun q => gd (q.1.1.lets b.pure) ((ev D b q.2).bind fun t => (binV op q.1.2 t.1.2).map fun r => ((.own r.1, r.2), t.2)) := rfl
@[simp] theorem q_ev_11 {a : _} {z1 : _} {D : Den} {S : Slots} : ev D (.neg a z1) S = (ev D a S).bind fun q => match q.1.2 with
    | .int i => some ((.own 0, .int (-i)), q.2)
    | _ => none := rfl
@[simp] theorem q_ev_12 {a : _} {z1 : _} {D : Den} {S : Slots} : ev D (.nt a z1) S = (tst (ev D a S)).map fun q => ((.own 0, .bl (!q.1)), q.2) := rfl
@[simp] theorem q_ev_13 {o : _} {es : _} {z1 : _} {D : Den} {S : Slots} : ev D (.bop o es z1) S = evb D o es S := rfl
@[simp] theorem q_ev_14 {op : _} {a : _} {b : _} {z1 : _} {D : Den} {S : Slots} : ev D (.cmp op a b z1) S = (ev D a S).bind fun q => gd (q.1.1.lets b.pure) ((ev D b q.2).bind fun t => (cmpV op q.1.2 t.1.2).map fun r => ((.own 0, .bl r), t.2)) := rfl
@[simp] theorem q_ev_15 {op : _} {op' : _} {a : _} {b : _} {c : _} {z1 : _} {D : Den} {S : Slots} : ev D (.chn op op' a b c z1) S = (ev D a S).bind fun q => gd (q.1.1.lets b.pure) ((ev D b q.2).bind fun t => (cmpV op q.1.2 t.1.2).bind fun r =>
      bif r then gd (t.1.1.lets c.pure) ((ev D c t.2).bind fun u => (cmpV op' t.1.2 u.1.2).map fun r' => ((.own 0, .bl r'), u.2)) else some ((.own 0, .bl false), t.2)) := rfl
@[simp] theorem q_ev_16 {c : _} {a : _} {b : _} {z1 : _} {D : Den} {S : Slots} : ev D (.ifx c a b z1) S = (tst (ev D c S)).bind fun q => bif q.1 then ev D a q.2 else ev D b q.2 := rfl
@[simp] theorem q_ev_17 {a : _} {T : _} {z1 : _} {z2 : _} {z3 : _} {D : Den} {S : Slots} : ev D (.isi a T z1 z2 z3) S = (ev D a S).map fun q => ((.own 0, .bl (isiV q.1.2 T)), q.2) := rfl
@[simp] theorem q_ev_18 {f : _} {z1 : _} {es : _} {z2 : _} {D : Den} {S : Slots} : ev D (.blt f z1 es z2) S = (evo D es S).bind fun q => (bltV f q.1).map fun r => ((.own r.1, r.2), q.2) := rfl
theorem q_ev_19 {c : _} {z1 : _} {z2 : _} {es : _} {ks : _} {z3 : _} {D : Den} {S : Slots} : ev D (.call c z1 z2 es ks z3) S = D.calls[c]?.bind fun sh => (eva D es S).bind fun q => (evk D ks q.2).bind fun t => (arrange q.1 t.1 (sh.dv.map .val) sh.ar).bind fun as => (argRs t.2 as).bind fun rs => gd (decide (refsOf as).Nodup) ((D.fn sh.f rs).bind fun w => (backS (wipeS t.2 (refsOf as)) as w.2).map fun S' => ((.own w.1.1, w.1.2), S')) := rfl
@[simp] theorem q_ev_20 {a : _} {i : _} {z1 : _} {D : Den} {S : Slots} : ev D (.idx a i z1) S = (ev D a S).bind fun q => gd (q.1.1.lets i.pure) ((ev D i q.2).bind fun t => (getV q.1.2 t.1.2).map fun u => ((.own 0, u), t.2)) := rfl
@[simp] theorem q_ev_21 {a : _} {lo : _} {hi : _} {z1 : _} {z2 : _} {D : Den} {S : Slots} : ev D (.slc a lo hi z1 z2) S = (ev D a S).bind fun q => gd (q.1.1.lets (lo.pure && hi.pure)) ((evi D lo q.2).bind fun t => (evi D hi t.2).bind fun u => (slcV q.1.2 t.1 u.1).map fun r => ((.own r.1, r.2), u.2)) := rfl
@[simp] theorem q_ev_22 {elt : _} {t : _} {it : _} {ifs : _} {z1 : _} {own : _} {z2 : _} {D : Den} {S : Slots} : ev D (.lc elt t it ifs z1 own z2) S = (evI D it S).bind fun q => (compL (fun v S1 => (t.set v S1).bind fun S2 => (evts D ifs S2).bind fun b => bif b.1 then (ev D elt b.2).bind fun r => match r.1.1 with
      | .own _ => some ([r.1.2], wipeS r.2 (own.map (·.2)))
      | .bor => none else some ([], wipeS b.2 (own.map (·.2)))) q.1 (wipeS q.2 (own.map (·.2)))).bind fun u => gd (fitsLine u.1.length) (some ((.own 1, .lst u.1), u.2)) := rfl
@[simp] theorem q_ev_23 {elt : _} {t : _} {it : _} {ifs : _} {t1 : _} {it1 : _} {ifs1 : _} {z1 : _} {own : _} {vs1 : _} {z2 : _} {D : Den} {S : Slots} : ev D (.lc2 elt t it ifs t1 it1 ifs1 z1 own vs1 z2) S = (evI D it S).bind fun q => (compL (fun v S1 => (t.set v S1).bind fun S2 => (evts D ifs S2).bind fun b => bif b.1 then (evI D it1 b.2).bind fun q1 =>
      (compL (fun v1 S3 => (t1.set v1 S3).bind fun S4 => (evts D ifs1 S4).bind fun b1 => bif b1.1 then (ev D elt b1.2).bind fun r => match r.1.1 with
        | .own _ => some ([r.1.2], wipeS r.2 vs1)
        | .bor => none else some ([], wipeS b1.2 vs1)) q1.1 (wipeS q1.2 vs1)).map fun z => (z.1, wipeS z.2 (own.map (·.2))) else some ([], wipeS b.2 (own.map (·.2)))) q.1 (wipeS q.2 (own.map (·.2)))).bind fun u => gd (fitsLine u.1.length) (some ((.own 1, .lst u.1), u.2)) := rfl
@[simp] theorem q_ev_24 {i : _} {z1 : _} {z2 : _} {k : _} {z3 : _} {j : _} {z4 : _} {z5 : _} {D : Den} {S : Slots} : ev D (.popAt i z1 z2 k z3 j z4 z5) S = match S[i]?, k, j with
    | some (some (d + 2, .lst xs)), .cst (.int m) _ _, .cst (.int 0) _ _ => (ixN xs.length m).bind fun n => match xs[n]? with
      | some (.lst (w :: ws)) => gd w.flat (some ((.own 0, w), S.set i (some (d + 2, .lst (xs.set n (.lst ws))))))
      | _ => none
    | _, _, _ => none := rfl
@[simp] theorem q_evs_0  {D : Den} {S : Slots} : evs D (.nil) S = some ([], S) := rfl
@[simp] theorem q_evs_1 {e : _} {es : _} {D : Den} {S : Slots} : evs D (.cons e es) S = (ev D e S).bind fun q => match q.1.1 with
    | .own d => (evs D es q.2).map fun t => ((d, q.1.2) :: t.1, t.2)
    | .bor => none := rfl
@[simp] theorem q_evo_0  {D : Den} {S : Slots} : evo D (.nil) S = some ([], S) := rfl
@[simp] theorem q_evo_1 {e : _} {es : _} {D : Den} {S : Slots} : evo D (.cons e es) S = (ev D e S).bind fun q => gd (q.1.1.lets es.pure) ((evo D es q.2).map fun t => (q.1.2 :: t.1, t.2)) := rfl
@[simp] theorem q_evi_0  {D : Den} {S : Slots} : evi D (.no) S = some (none, S) := rfl
@[simp] theorem q_evi_1 {e : _} {D : Den} {S : Slots} : evi D (.is e) S = (ev D e S).bind fun q => match q.1.2 with
    | .int i => some (some i, q.2)
    | _ => none := rfl
@[simp] theorem q_evk_0  {D : Den} {S : Slots} : evk D (.nil) S = some ([], S) := rfl
@[simp] theorem q_evk_1 {z1 : _} {e : _} {z2 : _} {es : _} {D : Den} {S : Slots} : evk D (.cons z1 e z2 es) S = (ev D e S).bind fun q => match q.1.1 with
    | .own _ => (evk D es q.2).map fun t => (.val q.1.2 :: t.1, t.2)
    | .bor => none := rfl
@[simp] theorem q_evI_0 {e : _} {D : Den} {S : Slots} : evI D (.seq e) S = (ev D e S).bind fun q => match q.1.1 with
    | .own _ => (itemsV q.1.2).map fun xs => (xs, q.2)
    | .bor => none := rfl
@[simp] theorem q_evI_1 {z1 : _} {a : _} {z2 : _} {D : Den} {S : Slots} : evI D (.rng1 z1 a z2) S = (ev D a S).bind fun q => match q.1.2 with
    | .int i => gd (inRange i) (some (intsFrom 0 i.toNat, q.2))
    | _ => none := rfl
@[simp] theorem q_evI_2 {z1 : _} {a : _} {b : _} {z2 : _} {D : Den} {S : Slots} : evI D (.rng2 z1 a b z2) S = (ev D a S).bind fun q => (ev D b q.2).bind fun t => match q.1.2, t.1.2 with
    | .int i, .int j => gd (inRange i && inRange j) (some (intsFrom i (j - i).toNat, t.2))
    | _, _ => none := rfl
@[simp] theorem q_evI_3 {z1 : _} {a : _} {z2 : _} {D : Den} {S : Slots} : evI D (.enum z1 a z2) S = (ev D a S).bind fun q => match q.1.1, q.1.2 with
    | .own _, .lst xs => some (numbered 0 xs, q.2)
    | _, _ => none := rfl
@[simp] theorem q_evI_4 {z1 : _} {a : _} {b : _} {z2 : _} {D : Den} {S : Slots} : evI D (.zip z1 a b z2) S = (ev D a S).bind fun q => (ev D b q.2).bind fun t => match q.1, t.1 with
    | (.own _, .lst xs), (.own _, .lst ys) => some (pairUp xs ys, t.2)
    | _, _ => none := rfl
@[simp] theorem q_ex_asgn {i x p e p' : _} {D : Den} {S : Slots} : ex D (.asg (.name i x p) e p') S = (ev D e S).bind fun q => match q.1.1 with
    | .own d => some (.nx (q.2.set i (some (d, q.1.2))))
    | .bor => none := by
  show (ev D e S).bind _ = _
  congr 1
  funext q
  rcases q with ⟨⟨m, v⟩, S1⟩
  cases m <;> rfl
@[simp] theorem q_ex_asgt {ts k p e p' : _} {D : Den} {S : Slots} : ex D (.asg (.tup ts k p) e p') S = (ev D e S).bind fun q => match q.1.1 with
    | .own _ => ((CT.tup ts k p).set q.1.2 q.2).map .nx
    | .bor => none := by
  show (ev D e S).bind _ = _
  congr 1
  funext q
  rcases q with ⟨⟨m, v⟩, S1⟩
  cases m <;> rfl
@[simp] theorem q_ex_1 {i : _} {j : _} {z1 : _} {z2 : _} {z3 : _} {z4 : _} {z5 : _} {z6 : _} {a : _} {b : _} {z7 : _} {z8 : _} {z9 : _} {D : Den} {S : Slots} : ex D (.par i j z1 z2 z3 z4 z5 z6 a b z7 z8 z9) S = (evs D (.cons a (.cons b .nil)) S).bind fun q => match q.1 with
    | [r, r'] => some (.nx ((q.2.set i (some r)).set j (some r')))
    | _ => none := rfl
@[simp] theorem q_ex_2 {i : _} {z1 : _} {z2 : _} {k : _} {e : _} {z3 : _} {z4 : _} {D : Den} {S : Slots} : ex D (.setI i z1 z2 k e z3 z4) S = (ev D e S).bind fun q => match q.2[i]? with
    | some (some _) => (ev D k q.2).bind fun t => match t.2[i]?, t.1.2, q.1.1 with
      | some (some (d + 1, .lst xs)), .int m, .own d' => gd (fitsIn d (d', q.1.2)) ((ixN xs.length m).map fun n => .nx (t.2.set i (some (d + 1, .lst (xs.set n q.1.2)))))
      | _, _, _ => none
    | _ => none := rfl
@[simp] theorem q_ex_3 {e : _} {z1 : _} {D : Den} {S : Slots} : ex D (.expr e z1) S = (ev D e S).map fun q => .nx q.2 := rfl
@[simp] theorem q_ex_4 {i : _} {z1 : _} {z2 : _} {z3 : _} {e : _} {z4 : _} {z5 : _} {D : Den} {S : Slots} : ex D (.app i z1 z2 z3 e z4 z5) S = match S[i]? with
    | some (some (_, .lst _)) => (ev D e S).bind fun q => match q.2[i]?, q.1.1 with
      | some (some (d + 1, .lst xs)), .own d' => gd (fitsIn d (d', q.1.2) && decide (xs.length < sizeLine)) (some (.nx (q.2.set i (some (d + 1, .lst (xs ++ [q.1.2]))))))
      | _, _ => none
    | _ => none := rfl
@[simp] theorem q_ex_5 {i : _} {z1 : _} {z2 : _} {op : _} {e : _} {z3 : _} {D : Den} {S : Slots} : ex D (.aug i z1 z2 op e z3) S = match S[i]? with
    | some (some (_, .int k)) => (ev D e S).bind fun q => match op, q.1.2 with
      | .Add, .int m => some (.nx (q.2.set i (some (0, .int (k + m)))))
      | .Sub, .int m => some (.nx (q.2.set i (some (0, .int (k - m)))))
      | _, _ => none
    | _ => none := rfl
@[simp] theorem q_ex_6 {c : _} {a : _} {b : _} {z1 : _} {D : Den} {S : Slots} : ex D (.ife c a b z1) S = (tst (ev D c S)).bind fun q => bif q.1 then exs D a q.2 else exs D b q.2 := rfl
@[simp] theorem q_ex_7 {t : _} {it : _} {body : _} {z1 : _} {D : Den} {S : Slots} : ex D (.forr t it body z1) S = (evI D it S).bind fun q => forL (fun v S1 => (t.set v S1).bind fun S2 => exs D body S2) q.1 q.2 := rfl
@[simp] theorem q_ex_8 {e : _} {z1 : _} {D : Den} {S : Slots} : ex D (.ret e z1) S = (ev D e S).bind fun q => match q.1.1 with
    | .own d => some (.rt (d, q.1.2) q.2)
    | .bor => none := rfl
@[simp] theorem q_ex_9 {z1 : _} {D : Den} {S : Slots} : ex D (.retN z1) S = some (.rt (0, .non) S) := rfl
@[simp] theorem q_ex_10 {z1 : _} {D : Den} {S : Slots} : ex D (.pass z1) S = some (.nx S) := rfl
@[simp] theorem q_ex_11 {z1 : _} {D : Den} {S : Slots} : ex D (.brk z1) S = some (.bk S) := rfl
@[simp] theorem q_ex_12 {z1 : _} {D : Den} {S : Slots} : ex D (.cnt z1) S = some (.ct S) := rfl
@[simp] theorem q_ex_13 {z1 : _} {D : Den} {S : Slots} : ex D (.nvr z1) S = none := rfl
@[simp] theorem q_exs_0  {D : Den} {S : Slots} : exs D (.nil) S = some (.nx S) := rfl
@[simp] theorem q_exs_1 {s : _} {ss : _} {D : Den} {S : Slots} : exs D (.cons s ss) S = match ex D s S with
    | some (.nx S1) => exs D ss S1
    | o => o := rfl
def CE.isRef : CE → Bool
  | .ref .. => true | _ => false
@[simp] theorem q_eva_0 {D : Den} {S : Slots} : eva D .nil S = some ([], S) := rfl
@[simp] theorem q_eva_1 {i x p es : _} {D : Den} {S : Slots} : eva D (.cons (.ref i x p) es) S = match S[i]? with
    | some (some _) => (eva D es S).map fun t => (.byRef i :: t.1, t.2)
    | _ => none := rfl
theorem q_eva_2 {e : CE} {es : CEs} {D : Den} {S : Slots} (h : e.isRef = false) : eva D (.cons e es) S = (ev D e S).bind fun q => match q.1.1 with
    | .own _ => (eva D es q.2).map fun t => (.val q.1.2 :: t.1, t.2)
    | .bor => none := by cases e <;> first | rfl | cases h
@[simp] theorem q_eva_cst {a0 : _} {a1 : _} {a2 : _} {es : CEs} {D : Den} {S : Slots} : eva D (.cons (.cst a0 a1 a2) es) S = (ev D (.cst a0 a1 a2) S).bind fun q => match q.1.1 with | .own _ => (eva D es q.2).map fun t => (.val q.1.2 :: t.1, t.2) | .bor => none := rfl
@[simp] theorem q_eva_var {a0 : _} {a1 : _} {a2 : _} {es : CEs} {D : Den} {S : Slots} : eva D (.cons (.var a0 a1 a2) es) S = (ev D (.var a0 a1 a2) S).bind fun q => match q.1.1 with | .own _ => (eva D es q.2).map fun t => (.val q.1.2 :: t.1, t.2) | .bor => none := rfl
@[simp] theorem q_eva_brw {a0 : _} {a1 : _} {a2 : _} {es : CEs} {D : Den} {S : Slots} : eva D (.cons (.brw a0 a1 a2) es) S = (ev D (.brw a0 a1 a2) S).bind fun q => match q.1.1 with | .own _ => (eva D es q.2).map fun t => (.val q.1.2 :: t.1, t.2) | .bor => none := rfl
@[simp] theorem q_eva_mov {a0 : _} {a1 : _} {a2 : _} {es : CEs} {D : Den} {S : Slots} : eva D (.cons (.mov a0 a1 a2) es) S = (ev D (.mov a0 a1 a2) S).bind fun q => match q.1.1 with | .own _ => (eva D es q.2).map fun t => (.val q.1.2 :: t.1, t.2) | .bor => none := rfl
@[simp] theorem q_eva_pth {a0 : _} {a1 : _} {a2 : _} {a3 : _} {a4 : _} {es : CEs} {D : Den} {S : Slots} : eva D (.cons (.pth a0 a1 a2 a3 a4) es) S = (ev D (.pth a0 a1 a2 a3 a4) S).bind fun q => match q.1.1 with | .own _ => (eva D es q.2).map fun t => (.val q.1.2 :: t.1, t.2) | .bor => none := rfl
@[simp] theorem q_eva_glb {a0 : _} {a1 : _} {es : CEs} {D : Den} {S : Slots} : eva D (.cons (.glb a0 a1) es) S = (ev D (.glb a0 a1) S).bind fun q => match q.1.1 with | .own _ => (eva D es q.2).map fun t => (.val q.1.2 :: t.1, t.2) | .bor => none := rfl
@[simp] theorem q_eva_tup {a0 : _} {a1 : _} {a2 : _} {es : CEs} {D : Den} {S : Slots} : eva D (.cons (.tup a0 a1 a2) es) S = (ev D (.tup a0 a1 a2) S).bind fun q => match q.1.1 with | .own _ => (eva D es q.2).map fun t => (.val q.1.2 :: t.1, t.2) | .bor => none := rfl
@[simp] theorem q_eva_lst {a0 : _} {a1 : _} {es : CEs} {D : Den} {S : Slots} : eva D (.cons (.lst a0 a1) es) S = (ev D (.lst a0 a1) S).bind fun q => match q.1.1 with | .own _ => (eva D es q.2).map fun t => (.val q.1.2 :: t.1, t.2) | .bor => none := rfl
@[simp] theorem q_eva_dic0 {a0 : _} {es : CEs} {D : Den} {S : Slots} : eva D (.cons (.dic0 a0) es) S = (ev D (.dic0 a0) S).bind fun q => match q.1.1 with | .own _ => (eva D es q.2).map fun t => (.val q.1.2 :: t.1, t.2) | .bor => none := rfl
@[simp] theorem q_eva_bin {a0 : _} {a1 : _} {a2 : _} {a3 : _} {es : CEs} {D : Den} {S : Slots} : eva D (.cons (.bin a0 a1 a2 a3) es) S = (ev D (.bin a0 a1 a2 a3) S).bind fun q => match q.1.1 with | .own _ => (eva D es q.2).map fun t => (.val q.1.2 :: t.1, t.2) | .bor => none := rfl
@[simp] theorem q_eva_neg {a0 : _} {a1 : _} {es : CEs} {D : Den} {S : Slots} : eva D (.cons (.neg a0 a1) es) S = (ev D (.neg a0 a1) S).bind fun q => match q.1.1 with | .own _ => (eva D es q.2).map fun t => (.val q.1.2 :: t.1, t.2) | .bor => none := rfl
@[simp] theorem q_eva_nt {a0 : _} {a1 : _} {es : CEs} {D : Den} {S : Slots} : eva D (.cons (.nt a0 a1) es) S = (ev D (.nt a0 a1) S).bind fun q => match q.1.1 with | .own _ => (eva D es q.2).map fun t => (.val q.1.2 :: t.1, t.2) | .bor => none := rfl
@[simp] theorem q_eva_bop {a0 : _} {a1 : _} {a2 : _} {es : CEs} {D : Den} {S : Slots} : eva D (.cons (.bop a0 a1 a2) es) S = (ev D (.bop a0 a1 a2) S).bind fun q => match q.1.1 with | .own _ => (eva D es q.2).map fun t => (.val q.1.2 :: t.1, t.2) | .bor => none := rfl
@[simp] theorem q_eva_cmp {a0 : _} {a1 : _} {a2 : _} {a3 : _} {es : CEs} {D : Den} {S : Slots} : eva D (.cons (.cmp a0 a1 a2 a3) es) S = (ev D (.cmp a0 a1 a2 a3) S).bind fun q => match q.1.1 with | .own _ => (eva D es q.2).map fun t => (.val q.1.2 :: t.1, t.2) | .bor => none := rfl
@[simp] theorem q_eva_chn {a0 : _} {a1 : _} {a2 : _} {a3 : _} {a4 : _} {a5 : _} {es : CEs} {D : Den} {S : Slots} : eva D (.cons (.chn a0 a1 a2 a3 a4 a5) es) S = (ev D (.chn a0 a1 a2 a3 a4 a5) S).bind fun q => match q.1.1 with | .own _ => (eva D es q.2).map fun t => (.val q.1.2 :: t.1, t.2) | .bor => none := rfl
@[simp] theorem q_eva_ifx {a0 : _} {a1 : _} {a2 : _} {a3 : _} {es : CEs} {D : Den} {S : Slots} : eva D (.cons (.ifx a0 a1 a2 a3) es) S = (ev D (.ifx a0 a1 a2 a3) S).bind fun q => match q.1.1 with | .own _ => (eva D es q.2).map fun t => (.val q.1.2 :: t.1, t.2) | .bor => none := rfl
@[simp] theorem q_eva_isi {a0 : _} {a1 : _} {a2 : _} {a3 : _} {a4 : _} {es : CEs} {D : Den} {S : Slots} : eva D (.cons (.isi a0 a1 a2 a3 a4) es) S = (ev D (.isi a0 a1 a2 a3 a4) S).bind fun q => match q.1.1 with | .own _ => (eva D es q.2).map fun t => (.val q.1.2 :: t.1, t.2) | .bor => none := rfl
@[simp] theorem q_eva_blt {a0 : _} {a1 : _} {a2 : _} {a3 : _} {es : CEs} {D : Den} {S : Slots} : eva D (.cons (.blt a0 a1 a2 a3) es) S = (ev D (.blt a0 a1 a2 a3) S).bind fun q => match q.1.1 with | .own _ => (eva D es q.2).map fun t => (.val q.1.2 :: t.1, t.2) | .bor => none := rfl
@[simp] theorem q_eva_call {a0 : _} {a1 : _} {a2 : _} {a3 : _} {a4 : _} {a5 : _} {es : CEs} {D : Den} {S : Slots} : eva D (.cons (.call a0 a1 a2 a3 a4 a5) es) S = (ev D (.call a0 a1 a2 a3 a4 a5) S).bind fun q => match q.1.1 with | .own _ => (eva D es q.2).map fun t => (.val q.1.2 :: t.1, t.2) | .bor => none := rfl
@[simp] theorem q_eva_idx {a0 : _} {a1 : _} {a2 : _} {es : CEs} {D : Den} {S : Slots} : eva D (.cons (.idx a0 a1 a2) es) S = (ev D (.idx a0 a1 a2) S).bind fun q => match q.1.1 with | .own _ => (eva D es q.2).map fun t => (.val q.1.2 :: t.1, t.2) | .bor => none := rfl
@[simp] theorem q_eva_slc {a0 : _} {a1 : _} {a2 : _} {a3 : _} {a4 : _} {es : CEs} {D : Den} {S : Slots} : eva D (.cons (.slc a0 a1 a2 a3 a4) es) S = (ev D (.slc a0 a1 a2 a3 a4) S).bind fun q => match q.1.1 with | .own _ => (eva D es q.2).map fun t => (.val q.1.2 :: t.1, t.2) | .bor => none := rfl
@[simp] theorem q_eva_lc {a0 : _} {a1 : _} {a2 : _} {a3 : _} {a4 : _} {a5 : _} {a6 : _} {es : CEs} {D : Den} {S : Slots} : eva D (.cons (.lc a0 a1 a2 a3 a4 a5 a6) es) S = (ev D (.lc a0 a1 a2 a3 a4 a5 a6) S).bind fun q => match q.1.1 with | .own _ => (eva D es q.2).map fun t => (.val q.1.2 :: t.1, t.2) | .bor => none := rfl
@[simp] theorem q_eva_lc2 {a0 : _} {a1 : _} {a2 : _} {a3 : _} {a4 : _} {a5 : _} {a6 : _} {a7 : _} {a8 : _} {a9 : _} {a10 : _} {es : CEs} {D : Den} {S : Slots} : eva D (.cons (.lc2 a0 a1 a2 a3 a4 a5 a6 a7 a8 a9 a10) es) S = (ev D (.lc2 a0 a1 a2 a3 a4 a5 a6 a7 a8 a9 a10) S).bind fun q => match q.1.1 with | .own _ => (eva D es q.2).map fun t => (.val q.1.2 :: t.1, t.2) | .bor => none := rfl
@[simp] theorem q_eva_popAt {a0 : _} {a1 : _} {a2 : _} {a3 : _} {a4 : _} {a5 : _} {a6 : _} {a7 : _} {es : CEs} {D : Den} {S : Slots} : eva D (.cons (.popAt a0 a1 a2 a3 a4 a5 a6 a7) es) S = (ev D (.popAt a0 a1 a2 a3 a4 a5 a6 a7) S).bind fun q => match q.1.1 with | .own _ => (eva D es q.2).map fun t => (.val q.1.2 :: t.1, t.2) | .bor => none := rfl
@[simp] theorem q_evb_1 {o e : _} {D : Den} {S : Slots} : evb D o (.cons e .nil) S = ev D e S := rfl
@[simp] theorem q_evb_2 {e e2 es : _} {D : Den} {S : Slots} : evb D .And (.cons e (.cons e2 es)) S = (ev D e S).bind fun q => (truV q.1.2).bind fun b => bif b then evb D .And (.cons e2 es) q.2 else some q := rfl
@[simp] theorem q_evb_3 {e e2 es : _} {D : Den} {S : Slots} : evb D .Or (.cons e (.cons e2 es)) S = (ev D e S).bind fun q => (truV q.1.2).bind fun b => bif b then some q else evb D .Or (.cons e2 es) q.2 := rfl
@[simp] theorem q_evts_0 {D : Den} {S : Slots} : evts D .nil S = some (true, S) := rfl
@[simp] theorem q_evts_1 {e : _} {D : Den} {S : Slots} : evts D (.cons e .nil) S = tst (ev D e S) := rfl
@[simp] theorem q_tst {r : Res} {S : Slots} : tst (some (r, S)) = (truV r.2).map fun b => (b, S) := rfl
@[simp] theorem q_tst0 : tst none = none := rfl
@[simp] theorem q_gd1 {a : Type} {o : Option a} : gd true o = o := rfl
@[simp] theorem q_gd0 {a : Type} {o : Option a} : gd false o = none := rfl
@[simp] theorem q_set1 {i x p v : _} {S : Slots} : (CT.name i x p).set v S = some (S.set i (some (0, v))) := rfl
@[simp] theorem q_set2 {ts k p xs : _} {S : Slots} : (CT.tup ts k p).set (.tup xs) S = ts.set xs S := rfl
@[simp] theorem q_sets0 {S : Slots} : CTs.nil.set [] S = some S := rfl
@[simp] theorem q_sets1 {t ts x xs : _} {S : Slots} : (CTs.cons t ts).set (x :: xs) S = (t.set x S).bind fun S1 => ts.set xs S1 := rfl
@[simp] theorem q_compL0 {f : Val → Slots → Option (List Val × Slots)} {S : Slots} : compL f [] S = some ([], S) := rfl
@[simp] theorem q_forL0 {f : Val → Slots → Option Out} {S : Slots} : forL f [] S = some (.nx S) := rfl
theorem q_compL1 {f : Val → Slots → Option (List Val × Slots)} {v : Val} {vs : List Val} {S : Slots} : compL f (v :: vs) S = (f v S).bind fun q => (compL f vs q.2).map fun t => (q.1 ++ t.1, t.2) := rfl
@[simp] theorem q_wipe0 {S : Slots} : wipeS S [] = S := rfl
@[simp] theorem q_wipe1 {S : Slots} {v : Nat} {vs : List Nat} : wipeS S (v :: vs) = (wipeS S vs).set v none := rfl
@[simp] theorem q_arr0 {a : Type} {as bs ds : List a} : arrange as bs ds [] = some [] := rfl
@[simp] theorem q_arr1 {a : Type} {as bs ds : List a} {i r : _} : arrange as bs ds (.pos i :: r) = as[i]?.bind fun a => (arrange as bs ds r).map (a :: ·) := rfl
@[simp] theorem q_arr2 {a : Type} {as bs ds : List a} {i r : _} : arrange as bs ds (.kw i :: r) = bs[i]?.bind fun a => (arrange as bs ds r).map (a :: ·) := rfl
@[simp] theorem q_arr3 {a : Type} {as bs ds : List a} {i r : _} : arrange as bs ds (.dfl i :: r) = ds[i]?.bind fun a => (arrange as bs ds r).map (a :: ·) := rfl
@[simp] theorem q_argR0 {S : Slots} {i : Nat} : argR S (.byRef i) = match S[i]? with
    | some (some r) => some r
    | _ => none := rfl
@[simp] theorem q_argR1 {S : Slots} {v : Val} : argR S (.val v) = some (0, v) := rfl
@[simp] theorem q_argRs0 {S : Slots} : argRs S [] = some [] := rfl
@[simp] theorem q_argRs1 {S : Slots} {a r : _} : argRs S (a :: r) = (argR S a).bind fun x => (argRs S r).map (x :: ·) := rfl
@[simp] theorem q_back0 {S fin : Slots} : backS S [] fin = some S := rfl
@[simp] theorem q_back1 {S fin : Slots} {v r : _} : backS S (.val v :: r) fin = backS S r (fin.drop 1) := rfl
@[simp] theorem q_back2 {S fin : Slots} {i r : _} : backS S (.byRef i :: r) fin = match fin[0]? with
    | some (some x) => backS (S.set i (some x)) r (fin.drop 1)
    | _ => none := rfl
@[simp] theorem q_refs0 : refsOf [] = [] := rfl
@[simp] theorem q_refs1 {v r : _} : refsOf (.val v :: r) = refsOf r := rfl
@[simp] theorem q_refs2 {i r : _} : refsOf (.byRef i :: r) = i :: refsOf r := rfl
@[simp] theorem q_lets1 {d b : _} : (Mode.own d).lets b = true := rfl
@[simp] theorem q_lets2 {b : _} : Mode.bor.lets b = b := rfl
@[simp] theorem q_outc1 {d : Df} {r S : _} : d.outc (some (.rt r S)) = some (r, backP d.B 0 d.ps.length S) := rfl
@[simp] theorem q_outc2 {d : Df} {S : _} : d.outc (some (.nx S)) = some ((0, .non), backP d.B 0 d.ps.length S) := rfl
@[simp] theorem q_backP0 {B i S : _} : backP B i 0 S = [] := rfl
@[simp] theorem q_backP1 {B i n p S : _} : backP B i (n + 1) (p :: S) = (bif B.contains i then p else none) :: backP B (i + 1) n S := rfl
@[simp] theorem q_cst0 : cstV .none = some .non := rfl
@[simp] theorem q_cst1 {b : _} : cstV (.bool b) = some (.bl b) := rfl
@[simp] theorem q_cst2 {b : _} : cstV (.int b) = some (.int b) := rfl
@[simp] theorem q_cst3 {b : _} : cstV (.str b) = some (.str b) := rfl
@[simp] theorem q_add {i j : Int} : binV .Add (.int i) (.int j) = some (0, .int (i + j)) := rfl
@[simp] theorem q_sub {i j : Int} : binV .Sub (.int i) (.int j) = some (0, .int (i - j)) := rfl
@[simp] theorem q_mul_r {i j : Int} (h : -18446744073709551616 < j ∧ j < 18446744073709551616) : binV .Mult (.int i) (.int j) = some (0, .int (i * j)) := by
  show gd (decide ((-(2 ^ 64) < i ∧ i < 2 ^ 64) ∨ (-(2 ^ 64) < j ∧ j < 2 ^ 64))) _ = _
  rw [decide_eq_true (by omega)]; rfl
@[simp] theorem q_mul_l {i j : Int} (h : -18446744073709551616 < i ∧ i < 18446744073709551616) : binV .Mult (.int i) (.int j) = some (0, .int (i * j)) := by
  show gd (decide ((-(2 ^ 64) < i ∧ i < 2 ^ 64) ∨ (-(2 ^ 64) < j ∧ j < 2 ^ 64))) _ = _
  rw [decide_eq_true (by omega)]; rfl
@[simp] theorem q_mod {i j : Int} (h : 0 < j) : binV .Mod (.int i) (.int j) = some (0, .int (i % j)) := by
  show gd (decide (0 < j)) _ = _
  rw [decide_eq_true h]; rfl
@[simp] theorem q_div {i j : Int} (h : 0 < j ∧ j < 1073741824) : binV .FloorDiv (.int i) (.int j) = some (0, .int (i / j)) := by
  show gd (decide (0 < j ∧ j < 1073741824)) _ = _
  rw [decide_eq_true h]; rfl
@[simp] theorem q_pow {i j : Int} (h : 0 ≤ j ∧ j ≤ 1000000 ∧ -18446744073709551616 < i ∧ i < 18446744073709551616) : binV .Pow (.int i) (.int j) = some (0, .int (i ^ j.toNat)) := by
  show gd (decide (0 ≤ j ∧ j ≤ 1000000 ∧ i.natAbs < 2 ^ 64)) _ = _
  rw [decide_eq_true (by omega)]; rfl
@[simp] theorem q_addS {a b : Str} : binV .Add (.str a) (.str b) = gd (fitsLine (a.length + b.length)) (some (0, .str (a ++ b))) := rfl
@[simp] theorem q_addL {xs ys : List Val} : binV .Add (.lst xs) (.lst ys) = gd (fitsLine (xs.length + ys.length)) (some (1, .lst (xs ++ ys))) := rfl
@[simp] theorem q_addT {xs ys : List Val} : binV .Add (.tup xs) (.tup ys) = gd (fitsLine (xs.length + ys.length)) (some (0, .tup (xs ++ ys))) := rfl
@[simp] theorem q_mulL {xs : List Val} {k : Int} (h : -100000 ≤ k ∧ k ≤ 100000 ∧ xs.length * k.toNat ≤ 100000) : binV .Mult (.lst xs) (.int k) = some (1, .lst (flatRep k xs)) := by
  show gd (decide (-(2 ^ 63) ≤ k ∧ k < 2 ^ 63 ∧ xs.length * k.toNat ≤ sizeLine)) _ = _
  rw [decide_eq_true ⟨by omega, by omega, Nat.le_trans h.2.2 (by decide)⟩]; rfl
@[simp] theorem q_mulT {xs : List Val} {k : Int} (h : -100000 ≤ k ∧ k ≤ 100000 ∧ xs.length ≤ 100) : binV .Mult (.tup xs) (.int k) = some (0, .tup (flatRep k xs)) := by
  show gd (decide (k ≤ 100000 ∧ -100000 ≤ k ∧ xs.length ≤ 100)) _ = _
  rw [decide_eq_true (by omega)]; rfl
@[simp] theorem q_fits {n : Nat} (h : n ≤ 100000) : fitsLine n = true := decide_eq_true (Nat.le_trans h (by decide))
@[simp] theorem q_lt {i j : Int} : cmpV .Lt (.int i) (.int j) = some (decide (i < j)) := rfl
@[simp] theorem q_le {i j : Int} : cmpV .LtE (.int i) (.int j) = some (decide (i ≤ j)) := rfl
@[simp] theorem q_gt {i j : Int} : cmpV .Gt (.int i) (.int j) = some (decide (j < i)) := rfl
@[simp] theorem q_ge {i j : Int} : cmpV .GtE (.int i) (.int j) = some (decide (j ≤ i)) := rfl
@[simp] theorem q_eq {a b : Val} : cmpV .Eq a b = eqS a b := rfl
@[simp] theorem q_ne {a b : Val} : cmpV .NotEq a b = (eqS a b).map (!·) := rfl
@[simp] theorem q_eqI {i j : Int} : eqS (.int i) (.int j) = some (decide (i = j)) := rfl
@[simp] theorem q_eqStr {i j : Str} : eqS (.str i) (.str j) = some (decide (i = j)) := rfl
@[simp] theorem q_eqB {i j : Bool} : eqS (.bl i) (.bl j) = some (decide (i = j)) := rfl
@[simp] theorem q_is0 : cmpV .Is .non .non = some true := rfl
@[simp] theorem q_isB {a b : Bool} : cmpV .Is (.bl a) (.bl b) = some (decide (a = b)) := rfl
@[simp] theorem q_isn0 : cmpV .IsNot .non .non = some false := rfl
@[simp] theorem q_isnB {a b : Bool} : cmpV .IsNot (.bl a) (.bl b) = some (!decide (a = b)) := rfl
@[simp] theorem q_tru0 : truV .non = some false := rfl
@[simp] theorem q_tru1 {b : _} : truV (.bl b) = some b := rfl
@[simp] theorem q_tru2 {i : Int} : truV (.int i) = some (i != 0) := rfl
@[simp] theorem q_tru3 {xs : _} : truV (.lst xs) = some (!xs.isEmpty) := rfl
@[simp] theorem q_tru4 {xs : _} : truV (.tup xs) = some (!xs.isEmpty) := rfl
@[simp] theorem q_tru5 {xs : _} : truV (.dic xs) = some (!xs.isEmpty) := rfl
@[simp] theorem q_len1 {xs : _} : bltV .len [.lst xs] = some (0, .int xs.length) := rfl
@[simp] theorem q_len2 {xs : _} : bltV .len [.tup xs] = some (0, .int xs.length) := rfl
@[simp] theorem q_len3 {s : Str} : bltV .len [.str s] = gd (fitsLine s.length) (some (0, .int s.length)) := rfl
@[simp] theorem q_repr {v : _} : bltV .repr [v] = (reprV v).map fun s => (0, .str s) := rfl
@[simp] theorem q_all {xs : _} : bltV .all [.lst xs] = (boolsOf xs).map fun bs => (0, .bl (bs.all id)) := rfl
@[simp] theorem q_any {xs : _} : bltV .any [.lst xs] = (boolsOf xs).map fun bs => (0, .bl (bs.any id)) := rfl
@[simp] theorem q_sum {xs : _} : bltV .sum [.lst xs] = (intsOf xs).map fun bs => (0, .int bs.sum) := rfl
@[simp] theorem q_tuple1 {xs : _} : bltV .tuple [.lst xs] = some (0, .tup xs) := rfl
@[simp] theorem q_tuple2 {xs : _} : bltV .tuple [.tup xs] = some (0, .tup xs) := rfl
@[simp] theorem q_list1 {xs : _} : bltV .list [.lst xs] = some (1, .lst xs) := rfl
@[simp] theorem q_list2 {xs : _} : bltV .list [.tup xs] = some (1, .lst xs) := rfl
@[simp] theorem q_min {i j : Int} : bltV .min2 [.int i, .int j] = some (0, .int (if j < i then j else i)) := rfl
@[simp] theorem q_max {i j : Int} : bltV .max2 [.int i, .int j] = some (0, .int (if j > i then j else i)) := rfl
@[simp] theorem q_int1 {i : Int} : bltV .int [.int i] = some (0, .int i) := rfl
@[simp] theorem q_abs {i : Int} : bltV .abs [.int i] = some (0, .int (if i < 0 then -i else i)) := rfl
@[simp] theorem q_get1 {xs : _} {i : Int} : getV (.lst xs) (.int i) = (ixN xs.length i).bind fun j => xs[j]? := rfl
@[simp] theorem q_get2 {xs : _} {i : Int} : getV (.tup xs) (.int i) = (ixN xs.length i).bind fun j => xs[j]? := rfl
@[simp] theorem q_slc1 {xs lo hi : _} : slcV (.lst xs) lo hi = some (1, .lst (cutL xs lo hi)) := rfl
@[simp] theorem q_slc2 {xs lo hi : _} : slcV (.tup xs) lo hi = some (0, .tup (cutL xs lo hi)) := rfl
@[simp] theorem q_items1 {xs : _} : itemsV (.lst xs) = some xs := rfl
@[simp] theorem q_items2 {xs : _} : itemsV (.tup xs) = some xs := rfl
@[simp] theorem q_flat1 {i : _} : (Val.int i).flat = true := rfl
@[simp] theorem q_flat2 {i : _} : (Val.str i).flat = true := rfl
@[simp] theorem q_flat3 {i : _} : (Val.bl i).flat = true := rfl
@[simp] theorem q_flat4 : Val.non.flat = true := rfl
@[simp] theorem q_flat5 {i : _} : (Val.tup i).flat = true := rfl
@[simp] theorem q_flat6 {i : _} : (Val.lst i).flat = false := rfl
@[simp] theorem q_flat7 {i : _} : (Val.dic i).flat = false := rfl
@[simp] theorem q_inner1 {i : _} : (Val.lst i).inner = i.all Val.flat := rfl
@[simp] theorem q_inner2 {i : _} : (Val.int i).inner = true := rfl
@[simp] theorem q_inner3 {i : _} : (Val.str i).inner = true := rfl
@[simp] theorem q_inner4 {i : _} : (Val.bl i).inner = true := rfl
@[simp] theorem q_inner5 {i : _} : (Val.tup i).inner = true := rfl
@[simp] theorem q_inner6 : Val.non.inner = true := rfl
@[simp] theorem q_isi1 {v : _} : isiV v .int = match v with | .int _ => true | .bl _ => true | _ => false := by cases v <;> rfl
@[simp] theorem q_isi2 {v : _} : isiV v .bool = match v with | .bl _ => true | _ => false := by cases v <;> rfl
@[simp] theorem q_isi3 {v : _} : isiV v .str = match v with | .str _ => true | _ => false := by cases v <;> rfl
@[simp] theorem q_isi4 {v : _} : isiV v .tuple = match v with | .tup _ => true | _ => false := by cases v <;> rfl
@[simp] theorem q_isi5 {v : _} : isiV v .list = match v with | .lst _ => true | _ => false := by cases v <;> rfl
@[simp] theorem q_isi6 {v : _} : isiV v .dict = match v with | .dic _ => true | _ => false := by cases v <;> rfl
@[simp] theorem q_bools0 : boolsOf [] = some [] := rfl
@[simp] theorem q_bools1 {b r : _} : boolsOf (.bl b :: r) = (boolsOf r).map (b :: ·) := rfl
@[simp] theorem q_ints0 : intsOf [] = some [] := rfl
@[simp] theorem q_ints1 {b r : _} : intsOf (.int b :: r) = (intsOf r).map (b :: ·) := rfl

@[simp] theorem q_pure_cst {a0 : _} {a1 : _} {a2 : _} : (CE.cst a0 a1 a2).pure = true := rfl
@[simp] theorem q_pure_var {a0 : _} {a1 : _} {a2 : _} : (CE.var a0 a1 a2).pure = true := rfl
@[simp] theorem q_pure_brw {a0 : _} {a1 : _} {a2 : _} : (CE.brw a0 a1 a2).pure = true := rfl
@[simp] theorem q_pure_mov {a0 : _} {a1 : _} {a2 : _} : (CE.mov a0 a1 a2).pure = true := rfl
@[simp] theorem q_pure_ref {a0 : _} {a1 : _} {a2 : _} : (CE.ref a0 a1 a2).pure = false := rfl
@[simp] theorem q_pure_glb {a0 : _} {a1 : _} : (CE.glb a0 a1).pure = true := rfl
@[simp] theorem q_pure_dic0 {a0 : _} : (CE.dic0 a0).pure = true := rfl
@[simp] theorem q_pure_popAt {a0 : _} {a1 : _} {a2 : _} {a3 : _} {a4 : _} {a5 : _} {a6 : _} {a7 : _} : (CE.popAt a0 a1 a2 a3 a4 a5 a6 a7).pure = false := rfl
@[simp] theorem q_pure_pth {a0 : _} {a1 : _} {a2 : _} {a3 : _} {a4 : _} : (CE.pth a0 a1 a2 a3 a4).pure = a3.pure := rfl
@[simp] theorem q_pure_tup {a0 : _} {a1 : _} {a2 : _} : (CE.tup a0 a1 a2).pure = a0.pure := rfl
@[simp] theorem q_pure_lst {a0 : _} {a1 : _} : (CE.lst a0 a1).pure = a0.pure := rfl
@[simp] theorem q_pure_bin {a0 : _} {a1 : _} {a2 : _} {a3 : _} : (CE.bin a0 a1 a2 a3).pure = (a1.pure && a2.pure) := rfl
@[simp] theorem q_pure_neg {a0 : _} {a1 : _} : (CE.neg a0 a1).pure = a0.pure := rfl
@[simp] theorem q_pure_nt {a0 : _} {a1 : _} : (CE.nt a0 a1).pure = a0.pure := rfl
@[simp] theorem q_pure_bop {a0 : _} {a1 : _} {a2 : _} : (CE.bop a0 a1 a2).pure = a1.pure := rfl
@[simp] theorem q_pure_cmp {a0 : _} {a1 : _} {a2 : _} {a3 : _} : (CE.cmp a0 a1 a2 a3).pure = (a1.pure && a2.pure) := rfl
@[simp] theorem q_pure_chn {a0 : _} {a1 : _} {a2 : _} {a3 : _} {a4 : _} {a5 : _} : (CE.chn a0 a1 a2 a3 a4 a5).pure = (a2.pure && a3.pure && a4.pure) := rfl
@[simp] theorem q_pure_ifx {a0 : _} {a1 : _} {a2 : _} {a3 : _} : (CE.ifx a0 a1 a2 a3).pure = (a0.pure && a1.pure && a2.pure) := rfl
@[simp] theorem q_pure_isi {a0 : _} {a1 : _} {a2 : _} {a3 : _} {a4 : _} : (CE.isi a0 a1 a2 a3 a4).pure = a0.pure := rfl
@[simp] theorem q_pure_blt {a0 : _} {a1 : _} {a2 : _} {a3 : _} : (CE.blt a0 a1 a2 a3).pure = a2.pure := rfl
@[simp] theorem q_pure_call {a0 : _} {a1 : _} {a2 : _} {a3 : _} {a4 : _} {a5 : _} : (CE.call a0 a1 a2 a3 a4 a5).pure = (a3.pure && a4.pure) := rfl
@[simp] theorem q_pure_idx {a0 : _} {a1 : _} {a2 : _} : (CE.idx a0 a1 a2).pure = (a0.pure && a1.pure) := rfl
@[simp] theorem q_pure_slc {a0 : _} {a1 : _} {a2 : _} {a3 : _} {a4 : _} : (CE.slc a0 a1 a2 a3 a4).pure = (a0.pure && a1.pure && a2.pure) := rfl
@[simp] theorem q_pure_lc {a0 : _} {a1 : _} {a2 : _} {a3 : _} {a4 : _} {a5 : _} {a6 : _} : (CE.lc a0 a1 a2 a3 a4 a5 a6).pure = (a0.pure && a2.pure && a3.pure) := rfl
@[simp] theorem q_pures0 : CEs.nil.pure = true := rfl
@[simp] theorem q_pures1 {e es : _} : (CEs.cons e es).pure = (e.pure && es.pure) := rfl
@[simp] theorem q_purek0 : CKs.nil.pure = true := rfl
@[simp] theorem q_purek1 {x e p es : _} : (CKs.cons x e p es).pure = (e.pure && es.pure) := rfl
@[simp] theorem q_pureo0 : CO.no.pure = true := rfl
@[simp] theorem q_pureo1 {e : _} : (CO.is e).pure = e.pure := rfl
@[simp] theorem q_purei0 {e : _} : (CI.seq e).pure = e.pure := rfl
def callV (D : Den) (f : Nat) (ar : List Src) (dv : List Val) (es : CEs) (ks : CKs) (S : Slots) : Option (Res × Slots) :=
  (eva D es S).bind fun q => (evk D ks q.2).bind fun t => (arrange q.1 t.1 (dv.map .val) ar).bind fun as => (argRs t.2 as).bind fun rs => gd (decide (refsOf as).Nodup) ((D.fn f rs).bind fun w => (backS (wipeS t.2 (refsOf as)) as w.2).map fun S' => ((.own w.1.1, w.1.2), S'))
theorem ev_call {D : Den} {c x np es ks p S : _} {sh : CallSh} (h : D.calls[c]? = some sh) : ev D (.call c x np es ks p) S = callV D sh.f sh.ar sh.dv es ks S := by
  show D.calls[c]?.bind _ = _
  rw [h]
  rfl
end BV
/-! Facts of plain data: places, equality, repr. -/
namespace BV
open PySem PySem.Spec PyProof.Rows L2
@[simp] theorem q_fit {d : Nat} {r : R} : fitsIn d r = (r.2.flat || d == 0 || r.1 == d) := rfl
theorem ix_in {n : Nat} {i : Int} (h0 : 0 ≤ i) (h1 : i < n) : ixN n i = some i.toNat := by
  unfold ixN
  rw [if_pos h0, if_pos h1]
theorem ix_back {n : Nat} {i : Int} (h0 : i < 0) (h1 : -(n : Int) ≤ i) : ixN n i = some (i + n).toNat := by
  unfold ixN
  rw [if_neg (by omega), if_pos h1]
@[simp] theorem ix_lit0 {n : Nat} (h : 0 < n) : ixN n 0 = some 0 := ix_in (by decide) (by omega)
@[simp] theorem ix_lit2 {n : Nat} (h : 2 < n) : ixN n 2 = some 2 := ix_in (by decide) (by omega)
@[simp] theorem ix_lit3 {n : Nat} (h : 3 < n) : ixN n 3 = some 3 := ix_in (by decide) (by omega)
@[simp] theorem ix_lit4 {n : Nat} (h : 4 < n) : ixN n 4 = some 4 := ix_in (by decide) (by omega)
@[simp] theorem ix_lit5 {n : Nat} (h : 5 < n) : ixN n 5 = some 5 := ix_in (by decide) (by omega)
@[simp] theorem ix_lit6 {n : Nat} (h : 6 < n) : ixN n 6 = some 6 := ix_in (by decide) (by omega)
@[simp] theorem ix_lit7 {n : Nat} (h : 7 < n) : ixN n 7 = some 7 := ix_in (by decide) (by omega)
@[simp] theorem ix_lit8 {n : Nat} (h : 8 < n) : ixN n 8 = some 8 := ix_in (by decide) (by omega)
@[simp] theorem ix_lit9 {n : Nat} (h : 9 < n) : ixN n 9 = some 9 := ix_in (by decide) (by omega)
@[simp] theorem ix_lit1 {n : Nat} (h : 1 < n) : ixN n 1 = some 1 := ix_in (by decide) (by omega)
/-! ### equality -/
theorem eqv_ints : ∀ (l m : List Int), PyData.eqvAll (toDs (l.map .int)) (toDs (m.map .int)) = decide (l = m)
  | [], [] => rfl
  | [], _ :: _ => rfl
  | _ :: _, [] => rfl
  | a :: l, b :: m => by
    show (a == b && PyData.eqvAll (toDs (l.map .int)) (toDs (m.map .int))) = _
    rw [eqv_ints l m]
    by_cases h : a = b <;> simp [h]
theorem shaped_ints (l : List Int) : SeqAt.shaped (Val.lst (l.map .int)).toD = true := by
  have a : ∀ l : List Int, PyData.canLayAll0 (toDs (l.map .int)) = true ∧ PyData.depthAll (toDs (l.map .int)) = 0 := by
    intro l
    induction l with
    | nil => exact ⟨by simp [toDs, PyData.canLayAll0], by simp [toDs, PyData.depthAll]⟩
    | cons i l ih => exact ⟨by simp [toDs, Val.toD, PyData.canLayAll0, PyData.canLay0, ih.1], by simp [toDs, Val.toD, PyData.depthAll, PyData.depth, ih.2]⟩
  obtain ⟨h1, h2⟩ := a l
  unfold SeqAt.shaped
  simp [Val.toD, PyData.canLay0, PyData.depth, h1, h2]
theorem eqS_lst (xs ys : List Val) : eqS (.lst xs) (.lst ys) = bif xs.length != ys.length then some false else eqV (.lst xs) (.lst ys) := by
  show ((bif xs.length != ys.length then some false else none : Option Bool).orElse fun _ => eqV (.lst xs) (.lst ys)) = _
  cases xs.length != ys.length <;> rfl
theorem eq_ints (l m : List Int) : eqS (.lst (l.map .int)) (.lst (m.map .int)) = some (decide (l = m)) := by
  rw [eqS_lst]
  cases h : ((l.map Val.int).length != (m.map Val.int).length) with
  | true =>
    have : l ≠ m := fun e => by rw [e] at h; simp at h
    simp [this]
  | false =>
    show eqV _ _ = _
    unfold eqV
    rw [shaped_ints, shaped_ints]
    show some (PyData.eqvAll (toDs (l.map .int)) (toDs (m.map .int))) = _
    rw [eqv_ints]
@[simp] theorem eq_nil (xs : List Val) : eqS (.lst xs) (.lst []) = some xs.isEmpty := by
  cases xs with
  | nil => exact eq_ints [] []
  | cons x xs => rfl
/-! ### repr -/
mutual
def rsz : Val → Nat
  | .non => 4
  | .bl _ => 5
  | .int i => i.natAbs.log2 + 3
  | .str x => (reprText x).length
  | .tup xs => rszs xs + 4
  | .lst xs => rszs xs + 4
  | .dic kvs => (PyData.shown (Val.dic kvs).toD).length
def rszs : List Val → Nat
  | [] => 0
  | x :: xs => rsz x + 2 + rszs xs
end
theorem textFrom_le : ∀ (ts : List Str) (k : Nat) (acc : Str), (textFrom k acc ts).length ≤ acc.length + (ts.map fun t => t.length + 2).sum
  | [], k, acc => by show acc.length ≤ acc.length + 0; omega
  | t :: r, k, acc => by
    have ih := textFrom_le r (k + 1) (acc ++ (if k > 0 then ", " else "" : String) ++ t)
    have e : (acc ++ (if k > 0 then ", " else "" : String) ++ t).length = acc.length + (if k > 0 then 2 else 0) + t.length := by
      rw [strLen_append, strLen_append]
      split <;> rfl
    rw [e] at ih
    show (textFrom (k + 1) (acc ++ (if k > 0 then ", " else "" : String) ++ t) r).length ≤ _
    rw [List.map_cons, List.sum_cons]
    have : (if k > 0 then 2 else 0) ≤ 2 := by split <;> omega
    omega
theorem join_le : ∀ (ts : List Str), (Str.join ", " ts).length ≤ (ts.map fun t => t.length + 2).sum
  | [] => by show (0 : Nat) ≤ _; omega
  | [x] => by show x.length ≤ _; simp
  | x :: y :: r => by
    have ih := join_le (y :: r)
    have e : (Str.join ", " (x :: y :: r)) = x ++ ", " ++ Str.join ", " (y :: r) := rfl
    rw [e, strLen_append, strLen_append, List.map_cons, List.sum_cons]
    have e2 : ((", " : String) : Str).length = 2 := rfl
    rw [e2]
    omega
mutual
theorem shown_le : ∀ v : Val, (PyData.shown v.toD).length ≤ rsz v
  | .non => by show (Str.ofString "None").length ≤ 4; decide
  | .bl b => by cases b <;> decide
  | .int i => by
    have := int_text_length_le (a := i) (k := i.natAbs.log2 + 1) (by omega) (by omega)
    show (Str.ofString (toString i)).length ≤ i.natAbs.log2 + 3
    have e : (Str.ofString (toString i)).length = (toString i).length := PySem.ofString_length _
    omega
  | .str x => Nat.le_of_eq rfl
  | .tup xs => by
    have h := showns_le xs
    have j := join_le (PyData.shownAll (toDs xs))
    show (tupleText (PyData.shownAll (toDs xs))).length ≤ rszs xs + 4
    unfold tupleText
    rw [strLen_append, strLen_append]
    have e1 : (("(" : String) : Str).length = 1 := rfl
    have e2 : ((if (PyData.shownAll (toDs xs)).length == 1 then ",)" else ")" : String) : Str).length ≤ 2 := by split <;> decide
    rw [e1]
    omega
  | .lst xs => by
    have h := showns_le xs
    have j := textFrom_le (PyData.shownAll (toDs xs)) 0 "["
    show (listText (PyData.shownAll (toDs xs))).length ≤ rszs xs + 4
    unfold listText
    rw [strLen_append]
    have e1 : (("[" : String) : Str).length = 1 := rfl
    have e2 : (("]" : String) : Str).length = 1 := rfl
    rw [e1] at j
    rw [e2]
    omega
  | .dic kvs => Nat.le_of_eq rfl
theorem showns_le : ∀ vs : List Val, ((PyData.shownAll (toDs vs)).map fun t => t.length + 2).sum ≤ rszs vs
  | [] => by show (0 : Nat) ≤ _; omega
  | v :: vs => by
    have a := shown_le v
    have b := showns_le vs
    show (((PyData.shown v.toD :: PyData.shownAll (toDs vs))).map fun t => t.length + 2).sum ≤ rsz v + 2 + rszs vs
    rw [List.map_cons, List.sum_cons]
    omega
end
/-- what repr asks of a value -/
structure Shows (v : Val) : Prop where
  a : PyData.showable v.toD = true
  b : rsz v ≤ 1000000
  c : v.toD.depth ≤ 64
  d : (!v.toD.hasDict || v.plainD) = true
theorem reprs {v : Val} (h : Shows v) : reprV v = some (PyData.shown v.toD) := by
  unfold reprV
  have e : fitsLine (PyData.shown v.toD).length = true := decide_eq_true (Nat.le_trans (shown_le v) (Nat.le_trans h.b (by decide)))
  rw [h.a, e, decide_eq_true h.c, h.d]
  rfl
end BV
/-! Runs of blocks, loops, comprehensions. -/
namespace BV
open PySem PySem.Spec PyProof.Rows L2
@[simp] theorem flatRep_len {k : Int} {xs : List Val} : (flatRep k xs).length = k.toNat * xs.length := by
  unfold flatRep
  induction k.toNat with
  | zero => simp
  | succ n ih => rw [List.replicate_succ, List.flatten_cons, List.length_append, ih, Nat.succ_mul, Nat.add_comm]
theorem flatRep_mem {k : Int} {xs : List Val} {x : Val} (h : x ∈ flatRep k xs) : x ∈ xs := by
  unfold flatRep at h
  obtain ⟨l, hl, hx⟩ := List.mem_flatten.mp h
  rw [List.eq_of_mem_replicate hl] at hx
  exact hx
def Runs (D : Den) (ss : CSs) (S : Slots) (Q : Out → Prop) : Prop := ∃ o, exs D ss S = some o ∧ Q o
section
variable {D : Den} {S S' : Slots} {Q : Out → Prop} {s : CS} {ss : CSs}
theorem Runs.nil (h : Q (.nx S)) : Runs D .nil S Q := ⟨_, rfl, h⟩
theorem Runs.step (h : ex D s S = some (.nx S')) (k : Runs D ss S' Q) : Runs D (.cons s ss) S Q := by
  obtain ⟨o, e, q⟩ := k
  refine ⟨o, ?_, q⟩
  show (match ex D s S with
    | some (.nx S1) => exs D ss S1
    | o => o) = _
  rw [h]
  exact e
theorem Runs.ends {o : Out} (h : ex D s S = some o) (hn : ∀ S', o ≠ .nx S') (q : Q o) : Runs D (.cons s ss) S Q := by
  refine ⟨o, ?_, q⟩
  show (match ex D s S with
    | some (.nx S1) => exs D ss S1
    | o => o) = _
  rw [h]
  cases o with
  | nx S1 => exact absurd rfl (hn S1)
  | _ => rfl
theorem Runs.ret {r : R} (h : ex D s S = some (.rt r S')) (q : Q (.rt r S')) : Runs D (.cons s ss) S Q := Runs.ends h (fun _ e => by cases e) q
theorem Runs.if1 {c : CE} {a b : CSs} {p : Pos} (h : tst (ev D c S) = some (true, S')) (k : Runs D a S' fun o => match o with
    | .nx S2 => Runs D ss S2 Q
    | o => Q o) : Runs D (.cons (.ife c a b p) ss) S Q := by
  obtain ⟨o, e, q⟩ := k
  have hx : ex D (.ife c a b p) S = some o := by
    show (tst (ev D c S)).bind _ = _
    rw [h]
    exact e
  cases o with
  | nx S2 => exact Runs.step hx q
  | _ => exact Runs.ends hx (fun _ e => by cases e) q
theorem Runs.if0 {c : CE} {a b : CSs} {p : Pos} (h : tst (ev D c S) = some (false, S')) (k : Runs D b S' fun o => match o with
    | .nx S2 => Runs D ss S2 Q
    | o => Q o) : Runs D (.cons (.ife c a b p) ss) S Q := by
  obtain ⟨o, e, q⟩ := k
  have hx : ex D (.ife c a b p) S = some o := by
    show (tst (ev D c S)).bind _ = _
    rw [h]
    exact e
  cases o with
  | nx S2 => exact Runs.step hx q
  | _ => exact Runs.ends hx (fun _ e => by cases e) q
theorem forL_inv {f : Val → Slots → Option Out} (I : Nat → Slots → Prop) : ∀ (vs : List Val) (k : Nat) (S : Slots), (∀ i v S, vs[i]? = some v → I (k + i) S → ∃ S', (f v S = some (.nx S') ∨ f v S = some (.ct S')) ∧ I (k + i + 1) S') → I k S → ∃ S', forL f vs S = some (.nx S') ∧ I (k + vs.length) S'
  | [], k, S, _, h0 => ⟨S, rfl, h0⟩
  | v :: vs, k, S, h, h0 => by
    obtain ⟨S1, e1, i1⟩ := h 0 v S rfl h0
    obtain ⟨S2, e2, i2⟩ := forL_inv I vs (k + 1) S1 (fun i u S hu hi => by
      have := h (i + 1) u S (by simpa using hu) (by rw [show k + (i + 1) = k + 1 + i by omega]; exact hi)
      rw [show k + (i + 1) + 1 = k + 1 + i + 1 by omega] at this
      exact this) i1
    refine ⟨S2, ?_, by rw [List.length_cons, show k + (vs.length + 1) = k + 1 + vs.length by omega]; exact i2⟩
    rcases e1 with e1 | e1
    · show (match f v S with
        | some (.nx S1) => forL f vs S1
        | some (.ct S1) => forL f vs S1
        | some (.bk S1) => some (.nx S1)
        | some (.rt r S1) => some (.rt r S1)
        | none => none) = _
      rw [e1]; exact e2
    · show (match f v S with
        | some (.nx S1) => forL f vs S1
        | some (.ct S1) => forL f vs S1
        | some (.bk S1) => some (.nx S1)
        | some (.rt r S1) => some (.rt r S1)
        | none => none) = _
      rw [e1]; exact e2
theorem Runs.loop {t : CT} {it : CI} {body : CSs} {p : Pos} {vs : List Val} {S1 : Slots} (I : Nat → Slots → Prop) (h : evI D it S = some (vs, S1)) (h0 : I 0 S1)
    (turn : ∀ i v S, vs[i]? = some v → I i S → ∃ S2, t.set v S = some S2 ∧ Runs D body S2 fun o => match o with
      | .nx S' => I (i + 1) S'
      | .ct S' => I (i + 1) S'
      | _ => False) (k : ∀ S', I vs.length S' → Runs D ss S' Q) : Runs D (.cons (.forr t it body p) ss) S Q := by
  obtain ⟨S2, e2, i2⟩ := forL_inv (f := fun v S1 => (t.set v S1).bind fun S2 => exs D body S2) I vs 0 S1 (fun i v S hv hi => by
    rw [Nat.zero_add] at hi ⊢
    obtain ⟨S2, a, o, b, c⟩ := turn i v S hv hi
    cases o with
    | nx S' => exact ⟨S', .inl (by show (t.set v S).bind _ = _; rw [a]; exact b), c⟩
    | ct S' => exact ⟨S', .inr (by show (t.set v S).bind _ = _; rw [a]; exact b), c⟩
    | bk S' => exact c.elim
    | rt r S' => exact c.elim) h0
  rw [Nat.zero_add] at i2
  refine Runs.step (S' := S2) ?_ (k S2 i2)
  show (evI D it S).bind _ = _
  rw [h]
  exact e2
/-- the block of a def -/
theorem Runs.fn {P : Pg} {n f : Nat} {d : Df} {rs : List R} {Q : R → Slots → Prop} (hd : P.defs[f]? = some d) (hl : rs.length = d.ps.length) (k : Runs (P.den n) d.body (d.start rs) fun o => match o with
    | .rt r S => Q r (backP d.B 0 d.ps.length S)
    | .nx S => Q (0, .non) (backP d.B 0 d.ps.length S)
    | _ => False) : ∃ r fin, (P.den (n + 1)).fn f rs = some (r, fin) ∧ Q r fin := by
  obtain ⟨o, e, q⟩ := k
  have h : (P.den (n + 1)).fn f rs = d.outc (some o) := by
    show (match P.defs[f]? with
      | some d => gd (rs.length == d.ps.length) (d.outc (exs (P.den n) d.body (d.start rs)))
      | none => none) = _
    rw [hd]
    show gd (rs.length == d.ps.length) (d.outc (exs (P.den n) d.body (d.start rs))) = _
    rw [e, hl, beq_self_eq_true]
    rfl
  cases o with
  | nx S => exact ⟨_, _, h, q⟩
  | rt r S => exact ⟨_, _, h, q⟩
  | bk S => exact q.elim
  | ct S => exact q.elim
/-- a comprehension, each turn with its things -/
theorem compL_inv {f : Val → Slots → Option (List Val × Slots)} (I : Nat → List Val → Slots → Prop) : ∀ (vs : List Val) (k : Nat) (done : List Val) (S : Slots), (∀ i v done S, vs[i]? = some v → I (k + i) done S → ∃ o S', f v S = some (o, S') ∧ I (k + i + 1) (done ++ o) S') → I k done S →
    ∃ ws S', compL f vs S = some (ws, S') ∧ I (k + vs.length) (done ++ ws) S'
  | [], k, done, S, _, h0 => ⟨[], S, rfl, by rw [List.append_nil]; exact h0⟩
  | v :: vs, k, done, S, h, h0 => by
    obtain ⟨o, S1, e1, i1⟩ := h 0 v done S rfl h0
    obtain ⟨ws, S2, e2, i2⟩ := compL_inv I vs (k + 1) (done ++ o) S1 (fun i u d S hu hi => by
      have := h (i + 1) u d S (by simpa using hu) (by rw [show k + (i + 1) = k + 1 + i by omega]; exact hi)
      rw [show k + (i + 1) + 1 = k + 1 + i + 1 by omega] at this
      exact this) i1
    refine ⟨o ++ ws, S2, ?_, by rw [List.length_cons, show k + (vs.length + 1) = k + 1 + vs.length by omega, ← List.append_assoc]; exact i2⟩
    rw [q_compL1, e1]
    show (compL f vs S1).map _ = _
    rw [e2]
    rfl
theorem lc_inv {elt : CE} {t : CT} {it : CI} {ifs : CEs} {scp : Scope} {own : List (Str × Nat)} {p : Pos} {vs : List Val} {S1 : Slots} (I : Nat → List Val → Slots → Prop) (h : evI D it S = some (vs, S1)) (h0 : I 0 [] (wipeS S1 (own.map (·.2))))
    (turn : ∀ i v done S, vs[i]? = some v → I i done S → ∃ o S', lcTurn D elt t ifs (own.map (·.2)) v S = some (o, S') ∧ I (i + 1) (done ++ o) S') (hz : ∀ ws S', I vs.length ws S' → ws.length ≤ 100000) :
    ∃ ws S', ev D (.lc elt t it ifs scp own p) S = some ((.own 1, .lst ws), S') ∧ I vs.length ws S' := by
  obtain ⟨ws, S2, e2, i2⟩ := compL_inv (f := lcTurn D elt t ifs (own.map (·.2))) I vs 0 [] _ (fun i v d S hv hi => by
    rw [Nat.zero_add] at hi ⊢
    exact turn i v d S hv hi) h0
  rw [Nat.zero_add, List.nil_append] at i2
  refine ⟨ws, S2, ?_, i2⟩
  show (evI D it S).bind _ = _
  rw [h]
  show (compL (lcTurn D elt t ifs (own.map (·.2))) vs (wipeS S1 (own.map (·.2)))).bind _ = _
  rw [e2]
  show gd (fitsLine ws.length) _ = _
  rw [q_fits (hz ws S2 i2)]
  rfl
end
/-! ### slices -/
theorem cut_pre {xs : List Val} {k : Int} (h : 0 ≤ k) : cutL xs none (some k) = xs.take k.toNat := by
  obtain ⟨n, rfl⟩ : ∃ n : Nat, k = n := ⟨k.toNat, by omega⟩
  unfold cutL
  rw [HT.sIx_nat, HT.sIx_none, Int.toNat_natCast, List.drop_zero, Nat.sub_zero, List.take_eq_take_iff]
  omega
theorem cut_suf {xs : List Val} {k : Int} (h : 0 ≤ k) : cutL xs (some k) none = xs.drop k.toNat := by
  obtain ⟨n, rfl⟩ : ∃ n : Nat, k = n := ⟨k.toNat, by omega⟩
  unfold cutL
  rw [HT.sIx_nat, HT.sIx_none, Int.toNat_natCast]
  by_cases hn : n ≤ xs.length
  · rw [Nat.min_eq_left hn, List.take_of_length_le (by rw [List.length_drop]; omega)]
  · rw [Nat.min_eq_right (by omega), List.drop_eq_nil_of_le (by omega), List.drop_eq_nil_of_le (by omega)]
    simp
theorem ints_get {n : Nat} {lo : Int} {i : Nat} {v : Val} (h : (intsFrom lo n)[i]? = some v) : v = .int (lo + i) ∧ i < n := by
  have hl : i < n := by
    have := lt_of_get h
    rw [intsFrom_len] at this
    exact this
  rw [intsFrom_get hl] at h
  exact ⟨(Option.some.inj h).symm, hl⟩
/-! ### what repr asks, of sequences -/
structure Sm (x : Val) : Prop where
  a : PyData.showable x.toD = true
  b : rsz x ≤ 300
  c : x.toD.depth ≤ 4
theorem sm_all : ∀ (xs : List Val), (∀ x ∈ xs, Sm x) → PyData.showableAll (toDs xs) = true ∧ rszs xs ≤ 302 * xs.length ∧ PyData.depthAll (toDs xs) ≤ 4
  | [], _ => ⟨by simp [toDs, PyData.showableAll], by simp [rszs], by simp [toDs, PyData.depthAll]⟩
  | x :: xs, h => by
    obtain ⟨h1, h2, h3⟩ := sm_all xs fun y hy => h y (List.mem_cons_of_mem _ hy)
    have hx := h x (List.mem_cons_self ..)
    refine ⟨by simp [toDs, PyData.showableAll, hx.a, h1], ?_, ?_⟩
    · have := hx.b
      simp only [rszs, List.length_cons]
      omega
    · have := hx.c
      simp only [toDs, PyData.depthAll]
      omega
theorem noDict_all : ∀ (xs : List Val), (∀ x ∈ xs, x.toD.hasDict = false) → PyData.hasDictAll (toDs xs) = false
  | [], _ => by simp [toDs, PyData.hasDictAll]
  | x :: xs, h => by simp [toDs, PyData.hasDictAll, h x (List.mem_cons_self ..), noDict_all xs fun y hy => h y (List.mem_cons_of_mem _ hy)]
theorem plain_all : ∀ (xs : List Val), (∀ x ∈ xs, x.plainD = true) → plainDs xs = true
  | [], _ => rfl
  | x :: xs, h => by simp [plainDs, h x (List.mem_cons_self ..), plain_all xs fun y hy => h y (List.mem_cons_of_mem _ hy)]
theorem shows_tup {xs : List Val} (h : ∀ x ∈ xs, Sm x) (hl : xs.length ≤ 3000) (hd : (∀ x ∈ xs, x.toD.hasDict = false) ∨ ∀ x ∈ xs, x.plainD = true) : Shows (.tup xs) := by
  obtain ⟨h1, h2, h3⟩ := sm_all xs h
  refine ⟨by simpa [Val.toD, PyData.showable] using h1, by simp only [rsz]; omega, by simp only [Val.toD, PyData.depth]; omega, ?_⟩
  rcases hd with hd | hd
  · simp [Val.toD, PyData.hasDict, noDict_all xs hd]
  · simp [Val.plainD, plain_all xs hd]
theorem shows_lst {xs : List Val} (h : ∀ x ∈ xs, Sm x) (hl : xs.length ≤ 3000) (hd : ∀ x ∈ xs, x.toD.hasDict = false) : Shows (.lst xs) := by
  obtain ⟨h1, h2, h3⟩ := sm_all xs h
  exact ⟨by simpa [Val.toD, PyData.showable] using h1, by simp only [rsz]; omega, by simp only [Val.toD, PyData.depth]; omega, by simp [Val.toD, PyData.hasDict, noDict_all xs hd]⟩
theorem log_le {i : Int} (h0 : -(10 ^ 40) ≤ i) (h1 : i ≤ 10 ^ 40) : i.natAbs.log2 < 200 := by
  by_cases h : i.natAbs = 0
  · rw [h]; decide
  · rw [Nat.log2_lt h]
    have : (10 : Nat) ^ 40 < 2 ^ 200 := by decide
    omega
theorem sm_int {i : Int} (h0 : -(10 ^ 40) ≤ i) (h1 : i ≤ 10 ^ 40) : Sm (.int i) := by
  have := log_le h0 h1
  exact ⟨by simp only [Val.toD, PyData.showable, decide_eq_true_eq]; omega, by simp only [rsz]; omega, by simp [Val.toD, PyData.depth]⟩
theorem shows_int {i : Int} (h0 : -(10 ^ 40) ≤ i) (h1 : i ≤ 10 ^ 40) : Shows (.int i) := by
  have := sm_int h0 h1
  exact ⟨this.a, Nat.le_trans this.b (by decide), by simp [Val.toD, PyData.depth], by simp [Val.toD, PyData.hasDict]⟩
end BV
/-! Expressions, forwards. -/
namespace BV
open PySem PySem.Spec PyProof.Rows L2
def EvW (D : Den) (e : CE) (S : Slots) (Q : Res → Slots → Prop) : Prop := ∃ r S', ev D e S = some (r, S') ∧ Q r S'
section
variable {D : Den} {S S' : Slots}
theorem EvW.of {e : CE} {r : Res} {Q : Res → Slots → Prop} (h : ev D e S = some (r, S')) (q : Q r S') : EvW D e S Q := ⟨r, S', h, q⟩
theorem EvW.blt1 {f : BF} {np p : Pos} {e : CE} {Q : Res → Slots → Prop} (h : EvW D e S fun r S' => ∃ w, bltV f [r.2] = some w ∧ Q (.own w.1, w.2) S') : EvW D (.blt f np (.cons e .nil) p) S Q := by
  obtain ⟨r, S', e1, w, e2, q⟩ := h
  refine ⟨_, S', ?_, q⟩
  obtain ⟨m, v⟩ := r
  have : evo D (.cons e .nil) S = some ([v], S') := by
    show (ev D e S).bind _ = _
    rw [e1]
    cases m <;> rfl
  show (evo D (.cons e .nil) S).bind _ = _
  rw [this]
  show (bltV f [v]).map _ = _
  rw [e2]
  rfl
theorem EvW.lc {elt : CE} {t : CT} {it : CI} {ifs : CEs} {scp : Scope} {own : List (Str × Nat)} {p : Pos} {vs : List Val} {S1 : Slots} {Q : Res → Slots → Prop} (I : Nat → List Val → Slots → Prop) (h : evI D it S = some (vs, S1)) (h0 : I 0 [] (wipeS S1 (own.map (·.2))))
    (turn : ∀ i v done S, vs[i]? = some v → I i done S → ∃ o S', lcTurn D elt t ifs (own.map (·.2)) v S = some (o, S') ∧ I (i + 1) (done ++ o) S') (hz : ∀ ws S', I vs.length ws S' → ws.length ≤ 100000)
    (k : ∀ ws S', I vs.length ws S' → Q (.own 1, .lst ws) S') : EvW D (.lc elt t it ifs scp own p) S Q := by
  obtain ⟨ws, S2, e, i⟩ := lc_inv (scp := scp) (p := p) I h h0 turn hz
  exact ⟨_, _, e, k ws S2 i⟩
theorem Runs.asgW {i : Nat} {x : Str} {p p' : Pos} {e : CE} {ss : CSs} {Q : Out → Prop} (h : EvW D e S fun r S' => ∃ d, r.1 = .own d ∧ Runs D ss (S'.set i (some (d, r.2))) Q) : Runs D (.cons (.asg (.name i x p) e p') ss) S Q := by
  obtain ⟨⟨m, v⟩, S', e1, d, e2, q⟩ := h
  have e2 : m = .own d := e2
  subst e2
  refine Runs.step ?_ q
  rw [q_ex_asgn, e1]
  rfl
theorem Runs.retW {p : Pos} {e : CE} {ss : CSs} {Q : Out → Prop} (h : EvW D e S fun r S' => ∃ d, r.1 = .own d ∧ Q (.rt (d, r.2) S')) : Runs D (.cons (.ret e p) ss) S Q := by
  obtain ⟨⟨m, v⟩, S', e1, d, e2, q⟩ := h
  have e2 : m = .own d := e2
  subst e2
  refine Runs.ret ?_ q
  show (ev D e S).bind _ = _
  rw [e1]
  rfl
end
end BV
namespace K01
open PySem PySem.Spec PyProof.Rows L2 BV
abbrev prog : Program := PySem.Challenge.pw_haulring_k01_words_of_all_kinds
def top (i : Nat) : Stmt := prog.main.body.getD i (.Pass ⟨0, 0, 0, 0⟩)
/-- is_whole: 0 thing, 1 least, 2 most -/
def d_is_whole_b : CSs := (.cons (.ret (.bop .And (.cons (.isi (.var 0 "thing" ⟨7, 22, 7, 27⟩) .int ⟨7, 11, 7, 21⟩ ⟨7, 29, 7, 32⟩ ⟨7, 11, 7, 33⟩) (.cons (.nt (.isi (.var 0 "thing" ⟨7, 54, 7, 59⟩) .bool ⟨7, 43, 7, 53⟩ ⟨7, 61, 7, 65⟩ ⟨7, 43, 7, 66⟩) ⟨7, 39, 7, 66⟩) (.cons (.chn .LtE .LtE (.var 1 "least" ⟨7, 73, 7, 78⟩) (.var 0 "thing" ⟨7, 82, 7, 87⟩) (.var 2 "most" ⟨7, 91, 7, 95⟩) ⟨7, 73, 7, 95⟩) .nil))) ⟨7, 11, 7, 96⟩) ⟨7, 4, 7, 96⟩)
  .nil)
def d_is_whole : Df := ⟨"is_whole", ["thing", "least", "most"], ["thing", "least", "most"], [], defScope (top 5), d_is_whole_b⟩
/-- is_byte: 0 thing -/
def d_is_byte_b : CSs := (.cons (.ret (.call 0 "is_whole" ⟨9, 11, 9, 19⟩ (.cons (.var 0 "thing" ⟨9, 20, 9, 25⟩) .nil) (.cons "most" (.glb "GREATEST_BYTE" ⟨9, 32, 9, 45⟩) ⟨9, 27, 9, 45⟩ .nil) ⟨9, 11, 9, 46⟩) ⟨9, 4, 9, 46⟩)
  .nil)
def d_is_byte : Df := ⟨"is_byte", ["thing"], ["thing"], [], defScope (top 6), d_is_byte_b⟩
/-- is_memory: 0 thing, 1 one -/
def d_is_memory_b : CSs := (.cons (.ife (.bop .Or (.cons (.nt (.isi (.var 0 "thing" ⟨11, 22, 11, 27⟩) .tuple ⟨11, 11, 11, 21⟩ ⟨11, 29, 11, 34⟩ ⟨11, 11, 11, 35⟩) ⟨11, 7, 11, 35⟩) (.cons (.nt (.chn .LtE .LtE (.cst (.int 1) 0 ⟨11, 43, 11, 44⟩) (.blt .len ⟨11, 48, 11, 51⟩ (.cons (.var 0 "thing" ⟨11, 52, 11, 57⟩) .nil) ⟨11, 48, 11, 58⟩) (.glb "MOST_CELLS" ⟨11, 62, 11, 72⟩) ⟨11, 43, 11, 72⟩) ⟨11, 39, 11, 72⟩) .nil)) ⟨11, 7, 11, 72⟩) (.cons (.ret (.cst (.bool false) 0 ⟨12, 15, 12, 20⟩) ⟨12, 8, 12, 20⟩)
    .nil) .nil ⟨11, 4, 12, 20⟩)
  (.cons (.ret (.blt .all ⟨13, 11, 13, 14⟩ (.cons (.lc (.call 1 "is_byte" ⟨13, 16, 13, 23⟩ (.cons (.var 1 "one" ⟨13, 24, 13, 27⟩) .nil) .nil ⟨13, 16, 13, 28⟩) (.name 1 "one" ⟨13, 33, 13, 36⟩) (.seq (.var 0 "thing" ⟨13, 40, 13, 45⟩)) .nil { kind := PySem.ScopeKind.function, names := [ (PySem.Str.ofString ".0", PySem.NameKind.local), (PySem.Str.ofString "one", PySem.NameKind.local), (PySem.Str.ofString "is_byte", PySem.NameKind.globalImplicit)], isGenerator := false, isCoroutine := false, more := [] : PySem.Scope } [("one", 1)] ⟨13, 15, 13, 46⟩) .nil) ⟨13, 11, 13, 47⟩) ⟨13, 4, 13, 47⟩)
  .nil))
def d_is_memory : Df := ⟨"is_memory", ["thing"], ["thing", "one"], [], defScope (top 7), d_is_memory_b⟩
/-- _law_mixed: 0 _law_drawn, 1 _law_k -/
def d_law_mixed_b : CSs := (.cons (.asg (.name 0 "_law_drawn" ⟨16, 4, 16, 14⟩) (.bin .Mod (.bin .Pow (.bin .Add (.bin .Add (.bin .Add (.bin .Mod (.var 0 "_law_drawn" ⟨16, 18, 16, 28⟩) (.cst (.int 2147483647) 0 ⟨16, 31, 16, 41⟩) ⟨16, 18, 16, 41⟩) (.bin .Mult (.bin .Mult (.cst (.int 7919) 0 ⟨16, 44, 16, 48⟩) (.var 1 "_law_k" ⟨16, 51, 16, 57⟩) ⟨16, 44, 16, 57⟩) (.var 1 "_law_k" ⟨16, 60, 16, 66⟩) ⟨16, 44, 16, 66⟩) ⟨16, 18, 16, 66⟩) (.bin .Mult (.cst (.int 31) 0 ⟨16, 69, 16, 71⟩) (.var 1 "_law_k" ⟨16, 74, 16, 80⟩) ⟨16, 69, 16, 80⟩) ⟨16, 18, 16, 80⟩) (.cst (.int 5) 0 ⟨16, 83, 16, 84⟩) ⟨16, 18, 16, 84⟩) (.cst (.int 5) 0 ⟨16, 89, 16, 90⟩) ⟨16, 17, 16, 90⟩) (.cst (.int 2147483629) 0 ⟨16, 93, 16, 103⟩) ⟨16, 17, 16, 103⟩) ⟨16, 4, 16, 103⟩)
  (.cons (.ret (.bin .FloorDiv (.bin .Mod (.bin .Mult (.var 0 "_law_drawn" ⟨17, 11, 17, 21⟩) (.bin .Add (.cst (.int 48271) 0 ⟨17, 25, 17, 30⟩) (.bin .Mult (.cst (.int 2) 0 ⟨17, 33, 17, 34⟩) (.var 1 "_law_k" ⟨17, 37, 17, 43⟩) ⟨17, 33, 17, 43⟩) ⟨17, 25, 17, 43⟩) ⟨17, 11, 17, 44⟩) (.cst (.int 2147483587) 0 ⟨17, 47, 17, 57⟩) ⟨17, 11, 17, 57⟩) (.cst (.int 7) 0 ⟨17, 61, 17, 62⟩) ⟨17, 11, 17, 62⟩) ⟨17, 4, 17, 62⟩)
  .nil))
def d_law_mixed : Df := ⟨"_law_mixed", ["_law_drawn", "_law_k"], ["_law_drawn", "_law_k"], [], defScope (top 9), d_law_mixed_b⟩
/-- _law_take: 0 _law_stream, 1 _law_many, 2 _law_cell, 3 _law_drawn -/
def d_law_take_b : CSs := (.cons (.setI 0 "_law_stream" ⟨19, 4, 19, 15⟩ (.cst (.int 2) 0 ⟨19, 16, 19, 17⟩) (.bin .Add (.pth 0 "_law_stream" ⟨19, 21, 19, 32⟩ (.cst (.int 2) 0 ⟨19, 33, 19, 34⟩) ⟨19, 21, 19, 35⟩) (.cst (.int 1) 0 ⟨19, 38, 19, 39⟩) ⟨19, 21, 19, 39⟩) ⟨19, 4, 19, 18⟩ ⟨19, 4, 19, 39⟩)
  (.cons (.ife (.bop .And (.cons (.cmp .Lt (.pth 0 "_law_stream" ⟨20, 7, 20, 18⟩ (.cst (.int 1) 0 ⟨20, 19, 20, 20⟩) ⟨20, 7, 20, 21⟩) (.cst (.int 2) 0 ⟨20, 24, 20, 25⟩) ⟨20, 7, 20, 25⟩) (.cons (.cmp .NotEq (.pth 0 "_law_stream" ⟨20, 30, 20, 41⟩ (.cst (.int 0) 0 ⟨20, 42, 20, 43⟩) ⟨20, 30, 20, 44⟩) (.lst .nil ⟨20, 48, 20, 50⟩) ⟨20, 30, 20, 50⟩) .nil)) ⟨20, 7, 20, 50⟩) (.cons (.asg (.name 2 "_law_cell" ⟨21, 8, 21, 17⟩) (.popAt 0 "_law_stream" ⟨21, 20, 21, 31⟩ (.cst (.int 0) 0 ⟨21, 32, 21, 33⟩) ⟨21, 20, 21, 34⟩ (.cst (.int 0) 0 ⟨21, 39, 21, 40⟩) ⟨21, 20, 21, 38⟩ ⟨21, 20, 21, 41⟩) ⟨21, 8, 21, 41⟩)
    (.cons (.setI 0 "_law_stream" ⟨22, 8, 22, 19⟩ (.cst (.int 1) 0 ⟨22, 20, 22, 21⟩) (.ifx (.cmp .GtE (.var 2 "_law_cell" ⟨22, 38, 22, 47⟩) (.bin .Pow (.cst (.int 10) 0 ⟨22, 51, 22, 53⟩) (.cst (.int 18) 0 ⟨22, 57, 22, 59⟩) ⟨22, 51, 22, 59⟩) ⟨22, 38, 22, 59⟩) (.var 2 "_law_cell" ⟨22, 25, 22, 34⟩) (.cst (.int 0) 0 ⟨22, 65, 22, 66⟩) ⟨22, 25, 22, 66⟩) ⟨22, 8, 22, 22⟩ ⟨22, 8, 22, 66⟩)
    (.cons (.setI 0 "_law_stream" ⟨23, 8, 23, 19⟩ (.cst (.int 3) 0 ⟨23, 20, 23, 21⟩) (.call 2 "_law_mixed" ⟨23, 25, 23, 35⟩ (.cons (.bin .Add (.pth 0 "_law_stream" ⟨23, 36, 23, 47⟩ (.cst (.int 3) 0 ⟨23, 48, 23, 49⟩) ⟨23, 36, 23, 50⟩) (.var 2 "_law_cell" ⟨23, 53, 23, 62⟩) ⟨23, 36, 23, 62⟩) (.cons (.pth 0 "_law_stream" ⟨23, 64, 23, 75⟩ (.cst (.int 2) 0 ⟨23, 76, 23, 77⟩) ⟨23, 64, 23, 78⟩) .nil)) .nil ⟨23, 25, 23, 79⟩) ⟨23, 8, 23, 22⟩ ⟨23, 8, 23, 79⟩)
    .nil))) .nil ⟨20, 4, 23, 79⟩)
  (.cons (.ife (.cmp .Gt (.pth 0 "_law_stream" ⟨24, 7, 24, 18⟩ (.cst (.int 1) 0 ⟨24, 19, 24, 20⟩) ⟨24, 7, 24, 21⟩) (.cst (.int 1) 0 ⟨24, 24, 24, 25⟩) ⟨24, 7, 24, 25⟩) (.cons (.asg (.name 3 "_law_drawn" ⟨25, 8, 25, 18⟩) (.bin .Mod (.pth 0 "_law_stream" ⟨25, 21, 25, 32⟩ (.cst (.int 1) 0 ⟨25, 33, 25, 34⟩) ⟨25, 21, 25, 35⟩) (.var 1 "_law_many" ⟨25, 38, 25, 47⟩) ⟨25, 21, 25, 47⟩) ⟨25, 8, 25, 47⟩)
    (.cons (.setI 0 "_law_stream" ⟨26, 8, 26, 19⟩ (.cst (.int 1) 0 ⟨26, 20, 26, 21⟩) (.bin .FloorDiv (.pth 0 "_law_stream" ⟨26, 25, 26, 36⟩ (.cst (.int 1) 0 ⟨26, 37, 26, 38⟩) ⟨26, 25, 26, 39⟩) (.var 1 "_law_many" ⟨26, 43, 26, 52⟩) ⟨26, 25, 26, 52⟩) ⟨26, 8, 26, 22⟩ ⟨26, 8, 26, 52⟩)
    (.cons (.ret (.var 3 "_law_drawn" ⟨27, 15, 27, 25⟩) ⟨27, 8, 27, 25⟩)
    .nil))) .nil ⟨24, 4, 27, 25⟩)
  (.cons (.ret (.bin .Mod (.bin .FloorDiv (.call 2 "_law_mixed" ⟨28, 11, 28, 21⟩ (.cons (.bin .Add (.pth 0 "_law_stream" ⟨28, 22, 28, 33⟩ (.cst (.int 3) 0 ⟨28, 34, 28, 35⟩) ⟨28, 22, 28, 36⟩) (.bin .Mult (.cst (.int 104729) 0 ⟨28, 39, 28, 45⟩) (.pth 0 "_law_stream" ⟨28, 48, 28, 59⟩ (.cst (.int 2) 0 ⟨28, 60, 28, 61⟩) ⟨28, 48, 28, 62⟩) ⟨28, 39, 28, 62⟩) ⟨28, 22, 28, 62⟩) (.cons (.pth 0 "_law_stream" ⟨28, 64, 28, 75⟩ (.cst (.int 2) 0 ⟨28, 76, 28, 77⟩) ⟨28, 64, 28, 78⟩) .nil)) .nil ⟨28, 11, 28, 79⟩) (.cst (.int 11) 0 ⟨28, 83, 28, 85⟩) ⟨28, 11, 28, 85⟩) (.var 1 "_law_many" ⟨28, 88, 28, 97⟩) ⟨28, 11, 28, 97⟩) ⟨28, 4, 28, 97⟩)
  .nil))))
def d_law_take : Df := ⟨"_law_take", ["_law_stream", "_law_many"], ["_law_stream", "_law_many", "_law_cell", "_law_drawn"], [0], defScope (top 10), d_law_take_b⟩
/-- _law_of: 0 _law_stream, 1 _law_some -/
def d_law_of_b : CSs := (.cons (.ret (.idx (.var 1 "_law_some" ⟨30, 11, 30, 20⟩) (.call 3 "_law_take" ⟨30, 21, 30, 30⟩ (.cons (.ref 0 "_law_stream" ⟨30, 31, 30, 42⟩) (.cons (.blt .len ⟨30, 44, 30, 47⟩ (.cons (.var 1 "_law_some" ⟨30, 48, 30, 57⟩) .nil) ⟨30, 44, 30, 58⟩) .nil)) .nil ⟨30, 21, 30, 59⟩) ⟨30, 11, 30, 60⟩) ⟨30, 4, 30, 60⟩)
  .nil)
def d_law_of : Df := ⟨"_law_of", ["_law_stream", "_law_some"], ["_law_stream", "_law_some"], [0], defScope (top 11), d_law_of_b⟩
/-- _law_item_by: 0 _law_stream, 1 _law_way, 2 _law_far -/
def d_law_item_by_b : CSs := (.cons (.par 1 2 "_law_way" "_law_far" ⟨32, 4, 32, 12⟩ ⟨32, 14, 32, 22⟩ 0 ⟨32, 4, 32, 22⟩ (.call 3 "_law_take" ⟨32, 26, 32, 35⟩ (.cons (.ref 0 "_law_stream" ⟨32, 36, 32, 47⟩) (.cons (.cst (.int 12) 0 ⟨32, 49, 32, 51⟩) .nil)) .nil ⟨32, 26, 32, 52⟩) (.bin .Sub (.call 3 "_law_take" ⟨32, 54, 32, 63⟩ (.cons (.ref 0 "_law_stream" ⟨32, 64, 32, 75⟩) (.cons (.cst (.int 3) 0 ⟨32, 77, 32, 78⟩) .nil)) .nil ⟨32, 54, 32, 79⟩) (.cst (.int 1) 0 ⟨32, 82, 32, 83⟩) ⟨32, 54, 32, 83⟩) 0 ⟨32, 25, 32, 84⟩ ⟨32, 4, 32, 84⟩)
  (.cons (.ife (.cmp .Lt (.var 1 "_law_way" ⟨33, 7, 33, 15⟩) (.cst (.int 7) 0 ⟨33, 18, 33, 19⟩) ⟨33, 7, 33, 19⟩) (.cons (.ret (.bin .Add (.idx (.lst (.cons (.cst (.int 0) 0 ⟨34, 16, 34, 17⟩) (.cons (.cst (.int 255) 0 ⟨34, 19, 34, 22⟩) (.cons (.cst (.int 1023) 0 ⟨34, 24, 34, 28⟩) (.cons (.neg (.cst (.int 1) 0 ⟨34, 31, 34, 32⟩) ⟨34, 30, 34, 32⟩) (.cons (.bin .Pow (.cst (.int 10) 0 ⟨34, 34, 34, 36⟩) (.cst (.int 30) 0 ⟨34, 40, 34, 42⟩) ⟨34, 34, 34, 42⟩) (.cons (.bin .Pow (.cst (.int 2) 0 ⟨34, 44, 34, 45⟩) (.cst (.int 60) 0 ⟨34, 49, 34, 51⟩) ⟨34, 44, 34, 51⟩) (.cons (.call 3 "_law_take" ⟨34, 53, 34, 62⟩ (.cons (.ref 0 "_law_stream" ⟨34, 63, 34, 74⟩) (.cons (.cst (.int 1100) 0 ⟨34, 76, 34, 80⟩) .nil)) .nil ⟨34, 53, 34, 81⟩) .nil))))))) ⟨34, 15, 34, 82⟩) (.var 1 "_law_way" ⟨34, 83, 34, 91⟩) ⟨34, 15, 34, 92⟩) (.var 2 "_law_far" ⟨34, 95, 34, 103⟩) ⟨34, 15, 34, 103⟩) ⟨34, 8, 34, 103⟩)
    .nil) .nil ⟨33, 4, 34, 103⟩)
  (.cons (.ret (.call 4 "_law_of" ⟨35, 11, 35, 18⟩ (.cons (.ref 0 "_law_stream" ⟨35, 19, 35, 30⟩) (.cons (.lst (.cons (.cst (.bool true) 0 ⟨35, 33, 35, 37⟩) (.cons (.cst (.bool false) 0 ⟨35, 39, 35, 44⟩) (.cons (.cst .none 0 ⟨35, 46, 35, 50⟩) (.cons (.cst (.str "1") 0 ⟨35, 52, 35, 55⟩) (.cons (.cst (.str "") 0 ⟨35, 57, 35, 59⟩) (.cons (.lst (.cons (.cst (.int 1) 0 ⟨35, 62, 35, 63⟩) .nil) ⟨35, 61, 35, 64⟩) (.cons (.tup (.cons (.cst (.int 1) 0 ⟨35, 67, 35, 68⟩) .nil) 0 ⟨35, 66, 35, 70⟩) (.cons (.dic0 ⟨35, 72, 35, 74⟩) (.cons (.tup .nil 0 ⟨35, 76, 35, 78⟩) (.cons (.tup (.cons (.tup (.cons (.cst (.int 0) 0 ⟨35, 82, 35, 83⟩) .nil) 0 ⟨35, 81, 35, 85⟩) .nil) 0 ⟨35, 80, 35, 87⟩) (.cons (.cst (.str "a") 0 ⟨35, 89, 35, 92⟩) (.cons (.lst (.cons (.cst (.int 0) 0 ⟨35, 95, 35, 96⟩) (.cons (.cst (.int 1) 0 ⟨35, 98, 35, 99⟩) .nil)) ⟨35, 94, 35, 100⟩) .nil)))))))))))) ⟨35, 32, 35, 101⟩) .nil)) .nil ⟨35, 11, 35, 102⟩) ⟨35, 4, 35, 102⟩)
  .nil)))
def d_law_item_by : Df := ⟨"_law_item_by", ["_law_stream"], ["_law_stream", "_law_way", "_law_far"], [0], defScope (top 12), d_law_item_by_b⟩
/-- _law_is_number: 0 _law_item, 1 _law_low, 2 _law_high -/
def d_law_is_number_b : CSs := (.cons (.ret (.bop .And (.cons (.isi (.var 0 "_law_item" ⟨37, 22, 37, 31⟩) .int ⟨37, 11, 37, 21⟩ ⟨37, 33, 37, 36⟩ ⟨37, 11, 37, 37⟩) (.cons (.nt (.isi (.var 0 "_law_item" ⟨37, 58, 37, 67⟩) .bool ⟨37, 47, 37, 57⟩ ⟨37, 69, 37, 73⟩ ⟨37, 47, 37, 74⟩) ⟨37, 43, 37, 74⟩) (.cons (.chn .LtE .LtE (.var 1 "_law_low" ⟨37, 81, 37, 89⟩) (.var 0 "_law_item" ⟨37, 93, 37, 102⟩) (.var 2 "_law_high" ⟨37, 106, 37, 115⟩) ⟨37, 81, 37, 115⟩) .nil))) ⟨37, 11, 37, 116⟩) ⟨37, 4, 37, 116⟩)
  .nil)
def d_law_is_number : Df := ⟨"_law_is_number", ["_law_item", "_law_low", "_law_high"], ["_law_item", "_law_low", "_law_high"], [], defScope (top 13), d_law_is_number_b⟩
/-- _law_wholes_right: 0 _law_stream, 1 _law_item, 2 _law_low, 3 _law_high, 4 _law_told, 5 _law_due -/
def d_law_wholes_right_b : CSs := (.cons (.par 2 3 "_law_low" "_law_high" ⟨39, 4, 39, 12⟩ ⟨39, 14, 39, 23⟩ 0 ⟨39, 4, 39, 23⟩ (.bin .Sub (.call 3 "_law_take" ⟨39, 27, 39, 36⟩ (.cons (.ref 0 "_law_stream" ⟨39, 37, 39, 48⟩) (.cons (.cst (.int 2000) 0 ⟨39, 50, 39, 54⟩) .nil)) .nil ⟨39, 27, 39, 55⟩) (.cst (.int 1000) 0 ⟨39, 58, 39, 62⟩) ⟨39, 27, 39, 62⟩) (.bin .Sub (.call 3 "_law_take" ⟨39, 64, 39, 73⟩ (.cons (.ref 0 "_law_stream" ⟨39, 74, 39, 85⟩) (.cons (.cst (.int 2000) 0 ⟨39, 87, 39, 91⟩) .nil)) .nil ⟨39, 64, 39, 92⟩) (.cst (.int 500) 0 ⟨39, 95, 39, 98⟩) ⟨39, 64, 39, 98⟩) 0 ⟨39, 26, 39, 99⟩ ⟨39, 4, 39, 99⟩)
  (.cons (.asg (.name 4 "_law_told" ⟨40, 4, 40, 13⟩) (.lst (.cons (.call 6 "is_whole" ⟨40, 17, 40, 25⟩ (.cons (.var 1 "_law_item" ⟨40, 26, 40, 35⟩) .nil) .nil ⟨40, 17, 40, 36⟩) (.cons (.call 5 "is_whole" ⟨40, 38, 40, 46⟩ (.cons (.var 1 "_law_item" ⟨40, 47, 40, 56⟩) .nil) (.cons "least" (.var 2 "_law_low" ⟨40, 64, 40, 72⟩) ⟨40, 58, 40, 72⟩ .nil) ⟨40, 38, 40, 73⟩) (.cons (.call 0 "is_whole" ⟨40, 75, 40, 83⟩ (.cons (.var 1 "_law_item" ⟨40, 84, 40, 93⟩) .nil) (.cons "most" (.var 3 "_law_high" ⟨40, 100, 40, 109⟩) ⟨40, 95, 40, 109⟩ .nil) ⟨40, 75, 40, 110⟩) .nil))) ⟨40, 16, 40, 111⟩) ⟨40, 4, 40, 111⟩)
  (.cons (.asg (.name 4 "_law_told" ⟨41, 4, 41, 13⟩) (.bin .Add (.var 4 "_law_told" ⟨41, 16, 41, 25⟩) (.lst (.cons (.call 8 "is_whole" ⟨41, 29, 41, 37⟩ .nil (.cons "most" (.var 3 "_law_high" ⟨41, 43, 41, 52⟩) ⟨41, 38, 41, 52⟩ (.cons "thing" (.var 1 "_law_item" ⟨41, 60, 41, 69⟩) ⟨41, 54, 41, 69⟩ (.cons "least" (.var 2 "_law_low" ⟨41, 77, 41, 85⟩) ⟨41, 71, 41, 85⟩ .nil))) ⟨41, 29, 41, 86⟩) (.cons (.call 7 "is_whole" ⟨41, 88, 41, 96⟩ .nil (.cons "thing" (.var 1 "_law_item" ⟨41, 103, 41, 112⟩) ⟨41, 97, 41, 112⟩ .nil) ⟨41, 88, 41, 113⟩) .nil)) ⟨41, 28, 41, 114⟩) ⟨41, 16, 41, 114⟩) ⟨41, 4, 41, 114⟩)
  (.cons (.asg (.name 4 "_law_told" ⟨42, 4, 42, 13⟩) (.bin .Add (.var 4 "_law_told" ⟨42, 16, 42, 25⟩) (.lst (.cons (.call 1 "is_byte" ⟨42, 29, 42, 36⟩ (.cons (.var 1 "_law_item" ⟨42, 37, 42, 46⟩) .nil) .nil ⟨42, 29, 42, 47⟩) (.cons (.call 9 "is_byte" ⟨42, 49, 42, 56⟩ .nil (.cons "thing" (.var 1 "_law_item" ⟨42, 63, 42, 72⟩) ⟨42, 57, 42, 72⟩ .nil) ⟨42, 49, 42, 73⟩) .nil)) ⟨42, 28, 42, 74⟩) ⟨42, 16, 42, 74⟩) ⟨42, 4, 42, 74⟩)
  (.cons (.asg (.name 5 "_law_due" ⟨43, 4, 43, 12⟩) (.lst (.cons (.call 10 "_law_is_number" ⟨43, 16, 43, 30⟩ (.cons (.var 1 "_law_item" ⟨43, 31, 43, 40⟩) (.cons (.cst (.int 0) 0 ⟨43, 42, 43, 43⟩) (.cons (.cst (.int 1023) 0 ⟨43, 45, 43, 49⟩) .nil))) .nil ⟨43, 16, 43, 50⟩) (.cons (.call 10 "_law_is_number" ⟨43, 52, 43, 66⟩ (.cons (.var 1 "_law_item" ⟨43, 67, 43, 76⟩) (.cons (.var 2 "_law_low" ⟨43, 78, 43, 86⟩) (.cons (.cst (.int 1023) 0 ⟨43, 88, 43, 92⟩) .nil))) .nil ⟨43, 52, 43, 93⟩) .nil)) ⟨43, 15, 43, 94⟩) ⟨43, 4, 43, 94⟩)
  (.cons (.asg (.name 5 "_law_due" ⟨44, 4, 44, 12⟩) (.bin .Add (.var 5 "_law_due" ⟨44, 15, 44, 23⟩) (.lst (.cons (.call 10 "_law_is_number" ⟨44, 27, 44, 41⟩ (.cons (.var 1 "_law_item" ⟨44, 42, 44, 51⟩) (.cons (.cst (.int 0) 0 ⟨44, 53, 44, 54⟩) (.cons (.var 3 "_law_high" ⟨44, 56, 44, 65⟩) .nil))) .nil ⟨44, 27, 44, 66⟩) (.cons (.call 10 "_law_is_number" ⟨44, 68, 44, 82⟩ (.cons (.var 1 "_law_item" ⟨44, 83, 44, 92⟩) (.cons (.var 2 "_law_low" ⟨44, 94, 44, 102⟩) (.cons (.var 3 "_law_high" ⟨44, 104, 44, 113⟩) .nil))) .nil ⟨44, 68, 44, 114⟩) (.cons (.call 10 "_law_is_number" ⟨44, 116, 44, 130⟩ (.cons (.var 1 "_law_item" ⟨44, 131, 44, 140⟩) (.cons (.cst (.int 0) 0 ⟨44, 142, 44, 143⟩) (.cons (.cst (.int 1023) 0 ⟨44, 145, 44, 149⟩) .nil))) .nil ⟨44, 116, 44, 150⟩) .nil))) ⟨44, 26, 44, 151⟩) ⟨44, 15, 44, 151⟩) ⟨44, 4, 44, 151⟩)
  (.cons (.ret (.cmp .Eq (.blt .repr ⟨45, 11, 45, 15⟩ (.cons (.var 4 "_law_told" ⟨45, 16, 45, 25⟩) .nil) ⟨45, 11, 45, 26⟩) (.blt .repr ⟨45, 30, 45, 34⟩ (.cons (.bin .Add (.var 5 "_law_due" ⟨45, 35, 45, 43⟩) (.bin .Mult (.lst (.cons (.call 10 "_law_is_number" ⟨45, 47, 45, 61⟩ (.cons (.var 1 "_law_item" ⟨45, 62, 45, 71⟩) (.cons (.cst (.int 0) 0 ⟨45, 73, 45, 74⟩) (.cons (.cst (.int 255) 0 ⟨45, 76, 45, 79⟩) .nil))) .nil ⟨45, 47, 45, 80⟩) .nil) ⟨45, 46, 45, 81⟩) (.cst (.int 2) 0 ⟨45, 84, 45, 85⟩) ⟨45, 46, 45, 85⟩) ⟨45, 35, 45, 85⟩) .nil) ⟨45, 30, 45, 86⟩) ⟨45, 11, 45, 86⟩) ⟨45, 4, 45, 86⟩)
  .nil)))))))
def d_law_wholes_right : Df := ⟨"_law_wholes_right", ["_law_stream", "_law_item"], ["_law_stream", "_law_item", "_law_low", "_law_high", "_law_told", "_law_due"], [0], defScope (top 14), d_law_wholes_right_b⟩
/-- _law_memory_right: 0 _law_item, 1 _law_good, 2 _law_kept, 3 _law_one -/
def d_law_memory_right_b : CSs := (.cons (.asg (.name 1 "_law_good" ⟨47, 4, 47, 13⟩) (.bop .And (.cons (.isi (.var 0 "_law_item" ⟨47, 27, 47, 36⟩) .tuple ⟨47, 16, 47, 26⟩ ⟨47, 38, 47, 43⟩ ⟨47, 16, 47, 44⟩) (.cons (.chn .Lt .Lt (.cst (.int 0) 0 ⟨47, 49, 47, 50⟩) (.blt .len ⟨47, 53, 47, 56⟩ (.cons (.var 0 "_law_item" ⟨47, 57, 47, 66⟩) .nil) ⟨47, 53, 47, 67⟩) (.cst (.int 1025) 0 ⟨47, 70, 47, 74⟩) ⟨47, 49, 47, 74⟩) .nil)) ⟨47, 16, 47, 74⟩) ⟨47, 4, 47, 74⟩)
  (.cons (.asg (.name 1 "_law_good" ⟨48, 4, 48, 13⟩) (.bop .And (.cons (.var 1 "_law_good" ⟨48, 16, 48, 25⟩) (.cons (.cmp .Eq (.lc (.var 3 "_law_one" ⟨48, 31, 48, 39⟩) (.name 3 "_law_one" ⟨48, 44, 48, 52⟩) (.seq (.var 0 "_law_item" ⟨48, 56, 48, 65⟩)) (.cons (.nt (.call 10 "_law_is_number" ⟨48, 73, 48, 87⟩ (.cons (.var 3 "_law_one" ⟨48, 88, 48, 96⟩) (.cons (.cst (.int 0) 0 ⟨48, 98, 48, 99⟩) (.cons (.cst (.int 255) 0 ⟨48, 101, 48, 104⟩) .nil))) .nil ⟨48, 73, 48, 105⟩) ⟨48, 69, 48, 105⟩) .nil) { kind := PySem.ScopeKind.function, names := [ (PySem.Str.ofString ".0", PySem.NameKind.local), (PySem.Str.ofString "_law_one", PySem.NameKind.local), (PySem.Str.ofString "_law_is_number", PySem.NameKind.globalImplicit)], isGenerator := false, isCoroutine := false, more := [] : PySem.Scope } [("_law_one", 3)] ⟨48, 30, 48, 106⟩) (.lst .nil ⟨48, 110, 48, 112⟩) ⟨48, 30, 48, 112⟩) .nil)) ⟨48, 16, 48, 112⟩) ⟨48, 4, 48, 112⟩)
  (.cons (.asg (.name 2 "_law_kept" ⟨49, 4, 49, 13⟩) (.blt .repr ⟨49, 16, 49, 20⟩ (.cons (.var 0 "_law_item" ⟨49, 21, 49, 30⟩) .nil) ⟨49, 16, 49, 31⟩) ⟨49, 4, 49, 31⟩)
  (.cons (.ret (.bop .And (.cons (.cmp .Eq (.blt .repr ⟨50, 11, 50, 15⟩ (.cons (.lst (.cons (.call 12 "is_memory" ⟨50, 17, 50, 26⟩ (.cons (.var 0 "_law_item" ⟨50, 27, 50, 36⟩) .nil) .nil ⟨50, 17, 50, 37⟩) (.cons (.call 11 "is_memory" ⟨50, 39, 50, 48⟩ .nil (.cons "thing" (.var 0 "_law_item" ⟨50, 55, 50, 64⟩) ⟨50, 49, 50, 64⟩ .nil) ⟨50, 39, 50, 65⟩) .nil)) ⟨50, 16, 50, 66⟩) .nil) ⟨50, 11, 50, 67⟩) (.blt .repr ⟨50, 71, 50, 75⟩ (.cons (.lst (.cons (.var 1 "_law_good" ⟨50, 77, 50, 86⟩) (.cons (.var 1 "_law_good" ⟨50, 88, 50, 97⟩) .nil)) ⟨50, 76, 50, 98⟩) .nil) ⟨50, 71, 50, 99⟩) ⟨50, 11, 50, 99⟩) (.cons (.cmp .Eq (.blt .repr ⟨50, 104, 50, 108⟩ (.cons (.var 0 "_law_item" ⟨50, 109, 50, 118⟩) .nil) ⟨50, 104, 50, 119⟩) (.var 2 "_law_kept" ⟨50, 123, 50, 132⟩) ⟨50, 104, 50, 132⟩) .nil)) ⟨50, 11, 50, 132⟩) ⟨50, 4, 50, 132⟩)
  .nil))))
def d_law_memory_right : Df := ⟨"_law_memory_right", ["_law_item"], ["_law_item", "_law_good", "_law_kept", "_law_one"], [], defScope (top 15), d_law_memory_right_b⟩
def d_law_l0 : CSs := (.cons (.ife (.nt (.call 13 "_law_memory_right" ⟨57, 19, 57, 36⟩ (.cons (.var 3 "_law_item" ⟨57, 37, 57, 46⟩) .nil) .nil ⟨57, 19, 57, 47⟩) ⟨57, 15, 57, 47⟩) (.cons (.ret (.cst (.bool false) 0 ⟨58, 23, 58, 28⟩) ⟨58, 16, 58, 28⟩)
    .nil) .nil ⟨57, 12, 58, 28⟩)
    .nil)
def d_law_l1 : CSs := (.cons (.forr (.name 3 "_law_item" ⟨56, 12, 56, 21⟩) (.seq (.lst (.cons (.bin .Mult (.tup (.cons (.cst (.int 7) 0 ⟨56, 27, 56, 28⟩) .nil) 0 ⟨56, 26, 56, 30⟩) (.var 2 "_law_many" ⟨56, 33, 56, 42⟩) ⟨56, 26, 56, 42⟩) (.cons (.bin .Mult (.lst (.cons (.cst (.int 7) 0 ⟨56, 45, 56, 46⟩) .nil) ⟨56, 44, 56, 47⟩) (.var 2 "_law_many" ⟨56, 50, 56, 59⟩) ⟨56, 44, 56, 59⟩) (.cons (.bin .Add (.bin .Mult (.tup (.cons (.cst (.int 7) 0 ⟨56, 62, 56, 63⟩) .nil) 0 ⟨56, 61, 56, 65⟩) (.bin .Sub (.var 2 "_law_many" ⟨56, 69, 56, 78⟩) (.cst (.int 1) 0 ⟨56, 81, 56, 82⟩) ⟨56, 69, 56, 82⟩) ⟨56, 61, 56, 83⟩) (.tup (.cons (.cst (.int 256) 0 ⟨56, 87, 56, 90⟩) .nil) 0 ⟨56, 86, 56, 92⟩) ⟨56, 61, 56, 92⟩) (.cons (.bin .Add (.tup (.cons (.cst (.bool true) 0 ⟨56, 95, 56, 99⟩) .nil) 0 ⟨56, 94, 56, 101⟩) (.bin .Mult (.tup (.cons (.cst (.int 0) 0 ⟨56, 105, 56, 106⟩) .nil) 0 ⟨56, 104, 56, 108⟩) (.bin .Sub (.var 2 "_law_many" ⟨56, 112, 56, 121⟩) (.cst (.int 1) 0 ⟨56, 124, 56, 125⟩) ⟨56, 112, 56, 125⟩) ⟨56, 104, 56, 126⟩) ⟨56, 94, 56, 126⟩) .nil)))) ⟨56, 25, 56, 127⟩)) d_law_l0 ⟨56, 8, 58, 28⟩)
    .nil)
def d_law_l2 : CSs := (.cons (.ife (.nt (.call 13 "_law_memory_right" ⟨67, 19, 67, 36⟩ (.cons (.var 8 "_law_near" ⟨67, 37, 67, 46⟩) .nil) .nil ⟨67, 19, 67, 47⟩) ⟨67, 15, 67, 47⟩) (.cons (.ret (.cst (.bool false) 0 ⟨68, 23, 68, 28⟩) ⟨68, 16, 68, 28⟩)
    .nil) .nil ⟨67, 12, 68, 28⟩)
    .nil)
def d_law_l3 : CSs := (.cons (.asg (.name 3 "_law_item" ⟨60, 8, 60, 17⟩) (.call 14 "_law_item_by" ⟨60, 20, 60, 32⟩ (.cons (.ref 1 "_law_stream" ⟨60, 33, 60, 44⟩) .nil) .nil ⟨60, 20, 60, 45⟩) ⟨60, 8, 60, 45⟩)
    (.cons (.asg (.name 5 "_law_cells" ⟨61, 8, 61, 18⟩) (.blt .tuple ⟨61, 21, 61, 26⟩ (.cons (.lc (.call 4 "_law_of" ⟨61, 28, 61, 35⟩ (.cons (.ref 1 "_law_stream" ⟨61, 36, 61, 47⟩) (.cons (.lst (.cons (.cst (.int 0) 0 ⟨61, 50, 61, 51⟩) (.cons (.cst (.int 255) 0 ⟨61, 53, 61, 56⟩) (.cons (.call 3 "_law_take" ⟨61, 58, 61, 67⟩ (.cons (.ref 1 "_law_stream" ⟨61, 68, 61, 79⟩) (.cons (.cst (.int 256) 0 ⟨61, 81, 61, 84⟩) .nil)) .nil ⟨61, 58, 61, 85⟩) .nil))) ⟨61, 49, 61, 86⟩) .nil)) .nil ⟨61, 28, 61, 87⟩) (.name 9 "_law_k" ⟨61, 92, 61, 98⟩) (.rng1 ⟨61, 102, 61, 107⟩ (.call 3 "_law_take" ⟨61, 108, 61, 117⟩ (.cons (.ref 1 "_law_stream" ⟨61, 118, 61, 129⟩) (.cons (.cst (.int 12) 0 ⟨61, 131, 61, 133⟩) .nil)) .nil ⟨61, 108, 61, 134⟩) ⟨61, 102, 61, 135⟩) .nil { kind := PySem.ScopeKind.function, names := [ (PySem.Str.ofString ".0", PySem.NameKind.local), (PySem.Str.ofString "_law_k", PySem.NameKind.local), (PySem.Str.ofString "_law_of", PySem.NameKind.globalImplicit), (PySem.Str.ofString "_law_take", PySem.NameKind.globalImplicit), (PySem.Str.ofString "_law_stream", PySem.NameKind.free)], isGenerator := false, isCoroutine := false, more := [] : PySem.Scope } [("_law_k", 9)] ⟨61, 27, 61, 136⟩) .nil) ⟨61, 21, 61, 137⟩) ⟨61, 8, 61, 137⟩)
    (.cons (.asg (.name 6 "_law_at" ⟨62, 8, 62, 15⟩) (.call 3 "_law_take" ⟨62, 18, 62, 27⟩ (.cons (.ref 1 "_law_stream" ⟨62, 28, 62, 39⟩) (.cons (.bin .Add (.blt .len ⟨62, 41, 62, 44⟩ (.cons (.var 5 "_law_cells" ⟨62, 45, 62, 55⟩) .nil) ⟨62, 41, 62, 56⟩) (.cst (.int 1) 0 ⟨62, 59, 62, 60⟩) ⟨62, 41, 62, 60⟩) .nil)) .nil ⟨62, 18, 62, 61⟩) ⟨62, 8, 62, 61⟩)
    (.cons (.ife (.nt (.call 15 "_law_wholes_right" ⟨63, 15, 63, 32⟩ (.cons (.ref 1 "_law_stream" ⟨63, 33, 63, 44⟩) (.cons (.var 3 "_law_item" ⟨63, 46, 63, 55⟩) .nil)) .nil ⟨63, 15, 63, 56⟩) ⟨63, 11, 63, 56⟩) (.cons (.ret (.cst (.bool false) 0 ⟨64, 19, 64, 24⟩) ⟨64, 12, 64, 24⟩)
    .nil) .nil ⟨63, 8, 64, 24⟩)
    (.cons (.asg (.name 7 "_law_some" ⟨65, 8, 65, 17⟩) (.lst (.cons (.var 3 "_law_item" ⟨65, 21, 65, 30⟩) (.cons (.var 5 "_law_cells" ⟨65, 32, 65, 42⟩) (.cons (.blt .list ⟨65, 44, 65, 48⟩ (.cons (.var 5 "_law_cells" ⟨65, 49, 65, 59⟩) .nil) ⟨65, 44, 65, 60⟩) (.cons (.bin .Add (.bin .Add (.slc (.var 5 "_law_cells" ⟨65, 62, 65, 72⟩) .no (.is (.var 6 "_law_at" ⟨65, 74, 65, 81⟩)) ⟨65, 73, 65, 81⟩ ⟨65, 62, 65, 82⟩) (.tup (.cons (.var 3 "_law_item" ⟨65, 86, 65, 95⟩) .nil) 0 ⟨65, 85, 65, 97⟩) ⟨65, 62, 65, 97⟩) (.slc (.var 5 "_law_cells" ⟨65, 100, 65, 110⟩) (.is (.var 6 "_law_at" ⟨65, 111, 65, 118⟩)) .no ⟨65, 111, 65, 119⟩ ⟨65, 100, 65, 120⟩) ⟨65, 62, 65, 120⟩) .nil)))) ⟨65, 20, 65, 121⟩) ⟨65, 8, 65, 121⟩)
    (.cons (.forr (.name 8 "_law_near" ⟨66, 12, 66, 21⟩) (.seq (.bin .Add (.var 7 "_law_some" ⟨66, 25, 66, 34⟩) (.lst (.cons (.bin .Add (.bin .Add (.slc (.var 5 "_law_cells" ⟨66, 38, 66, 48⟩) .no (.is (.var 6 "_law_at" ⟨66, 50, 66, 57⟩)) ⟨66, 49, 66, 57⟩ ⟨66, 38, 66, 58⟩) (.tup (.cons (.var 3 "_law_item" ⟨66, 62, 66, 71⟩) .nil) 0 ⟨66, 61, 66, 73⟩) ⟨66, 38, 66, 73⟩) (.slc (.var 5 "_law_cells" ⟨66, 76, 66, 86⟩) (.is (.bin .Add (.var 6 "_law_at" ⟨66, 87, 66, 94⟩) (.cst (.int 1) 0 ⟨66, 97, 66, 98⟩) ⟨66, 87, 66, 98⟩)) .no ⟨66, 87, 66, 99⟩ ⟨66, 76, 66, 100⟩) ⟨66, 38, 66, 100⟩) .nil) ⟨66, 37, 66, 101⟩) ⟨66, 25, 66, 101⟩)) d_law_l2 ⟨66, 8, 68, 28⟩)
    .nil))))))
/-- law: 0 _law_script, 1 _law_stream, 2 _law_many, 3 _law_item, 4 _law_turn, 5 _law_cells, 6 _law_at, 7 _law_some, 8 _law_near, 9 _law_k -/
def d_law_b : CSs := (.cons (.asg (.name 1 "_law_stream" ⟨52, 4, 52, 15⟩) (.lst (.cons (.slc (.bin .Add (.var 0 "_law_script" ⟨52, 20, 52, 31⟩) (.lst (.cons (.cst (.int 0) 0 ⟨52, 35, 52, 36⟩) .nil) ⟨52, 34, 52, 37⟩) ⟨52, 20, 52, 37⟩) .no (.is (.cst (.int 63) 0 ⟨52, 40, 52, 42⟩)) ⟨52, 39, 52, 42⟩ ⟨52, 19, 52, 43⟩) (.cons (.cst (.int 0) 0 ⟨52, 45, 52, 46⟩) (.cons (.cst (.int 0) 0 ⟨52, 48, 52, 49⟩) (.cons (.cst (.int 7) 0 ⟨52, 51, 52, 52⟩) (.cons (.cst (.int 0) 0 ⟨52, 54, 52, 55⟩) .nil))))) ⟨52, 18, 52, 56⟩) ⟨52, 4, 52, 56⟩)
  (.cons (.ife (.cmp .NotEq (.blt .repr ⟨53, 7, 53, 11⟩ (.cons (.lst (.cons (.glb "MOST_CELLS" ⟨53, 13, 53, 23⟩) (.cons (.glb "FLAGS" ⟨53, 25, 53, 30⟩) .nil)) ⟨53, 12, 53, 31⟩) .nil) ⟨53, 7, 53, 32⟩) (.cst (.str "[1024, 8]") 0 ⟨53, 36, 53, 47⟩) ⟨53, 7, 53, 47⟩) (.cons (.ret (.cst (.bool false) 0 ⟨54, 15, 54, 20⟩) ⟨54, 8, 54, 20⟩)
    .nil) .nil ⟨53, 4, 54, 20⟩)
  (.cons (.forr (.name 2 "_law_many" ⟨55, 8, 55, 17⟩) (.seq (.tup (.cons (.cst (.int 0) 0 ⟨55, 22, 55, 23⟩) (.cons (.cst (.int 1) 0 ⟨55, 25, 55, 26⟩) (.cons (.cst (.int 1023) 0 ⟨55, 28, 55, 32⟩) (.cons (.cst (.int 1024) 0 ⟨55, 34, 55, 38⟩) (.cons (.cst (.int 1025) 0 ⟨55, 40, 55, 44⟩) .nil))))) 0 ⟨55, 21, 55, 45⟩)) d_law_l1 ⟨55, 4, 58, 28⟩)
  (.cons (.forr (.name 4 "_law_turn" ⟨59, 8, 59, 17⟩) (.rng1 ⟨59, 21, 59, 26⟩ (.bin .Add (.cst (.int 12) 0 ⟨59, 27, 59, 29⟩) (.blt .min2 ⟨59, 32, 59, 35⟩ (.cons (.cst (.int 48) 0 ⟨59, 36, 59, 38⟩) (.cons (.blt .len ⟨59, 40, 59, 43⟩ (.cons (.var 0 "_law_script" ⟨59, 44, 59, 55⟩) .nil) ⟨59, 40, 59, 56⟩) .nil)) ⟨59, 32, 59, 57⟩) ⟨59, 27, 59, 57⟩) ⟨59, 21, 59, 58⟩) d_law_l3 ⟨59, 4, 68, 28⟩)
  (.cons (.ret (.cst (.bool true) 0 ⟨69, 11, 69, 15⟩) ⟨69, 4, 69, 15⟩)
  .nil)))))
def d_law : Df := ⟨"law", ["_law_script"], ["_law_script", "_law_stream", "_law_many", "_law_item", "_law_turn", "_law_cells", "_law_at", "_law_some", "_law_near", "_law_k"], [], defScope (top 16), d_law_b⟩
def sh0 : CallSh := ⟨0, "is_whole", 1, ["most"], [.pos 0, .dfl 0, .kw 0], [(.int 0)]⟩
def sh1 : CallSh := ⟨1, "is_byte", 1, [], [.pos 0], []⟩
def sh2 : CallSh := ⟨3, "_law_mixed", 2, [], [.pos 0, .pos 1], []⟩
def sh3 : CallSh := ⟨4, "_law_take", 2, [], [.pos 0, .pos 1], []⟩
def sh4 : CallSh := ⟨5, "_law_of", 2, [], [.pos 0, .pos 1], []⟩
def sh5 : CallSh := ⟨0, "is_whole", 1, ["least"], [.pos 0, .kw 0, .dfl 0], [(.int 1023)]⟩
def sh6 : CallSh := ⟨0, "is_whole", 1, [], [.pos 0, .dfl 0, .dfl 1], [(.int 0), (.int 1023)]⟩
def sh7 : CallSh := ⟨0, "is_whole", 0, ["thing"], [.kw 0, .dfl 0, .dfl 1], [(.int 0), (.int 1023)]⟩
def sh8 : CallSh := ⟨0, "is_whole", 0, ["most", "thing", "least"], [.kw 1, .kw 2, .kw 0], []⟩
def sh9 : CallSh := ⟨1, "is_byte", 0, ["thing"], [.kw 0], []⟩
def sh10 : CallSh := ⟨7, "_law_is_number", 3, [], [.pos 0, .pos 1, .pos 2], []⟩
def sh11 : CallSh := ⟨2, "is_memory", 0, ["thing"], [.kw 0], []⟩
def sh12 : CallSh := ⟨2, "is_memory", 1, [], [.pos 0], []⟩
def sh13 : CallSh := ⟨9, "_law_memory_right", 1, [], [.pos 0], []⟩
def sh14 : CallSh := ⟨6, "_law_item_by", 1, [], [.pos 0], []⟩
def sh15 : CallSh := ⟨8, "_law_wholes_right", 2, [], [.pos 0, .pos 1], []⟩
def P : Pg := ⟨[d_is_whole, d_is_byte, d_is_memory, d_law_mixed, d_law_take, d_law_of, d_law_item_by, d_law_is_number, d_law_wholes_right, d_law_memory_right, d_law], [sh0, sh1, sh2, sh3, sh4, sh5, sh6, sh7, sh8, sh9, sh10, sh11, sh12, sh13, sh14, sh15], [("GREATEST_BYTE", (.int 255)), ("MOST_CELLS", (.int 1024)), ("FLAGS", (.int 8))], ["isinstance", "bool", "int", "len", "tuple", "all", "repr", "range", "list", "min"]⟩
theorem wf : P.wf = true := by kernel_rfl
@[simp] theorem d_is_whole_B : d_is_whole.B = [] := rfl
@[simp] theorem d_is_whole_ps : d_is_whole.ps.length = 3 := rfl
theorem op_is_whole (n : Nat) (r0 r1 r2 : R) : (P.den (n + 1)).fn 0 [r0, r1, r2] = d_is_whole.outc (exs (P.den n) d_is_whole_b [some r0, some r1, some r2]) := rfl
@[simp] theorem d_is_byte_B : d_is_byte.B = [] := rfl
@[simp] theorem d_is_byte_ps : d_is_byte.ps.length = 1 := rfl
theorem op_is_byte (n : Nat) (r0 : R) : (P.den (n + 1)).fn 1 [r0] = d_is_byte.outc (exs (P.den n) d_is_byte_b [some r0]) := rfl
@[simp] theorem d_is_memory_B : d_is_memory.B = [] := rfl
@[simp] theorem d_is_memory_ps : d_is_memory.ps.length = 1 := rfl
theorem op_is_memory (n : Nat) (r0 : R) : (P.den (n + 1)).fn 2 [r0] = d_is_memory.outc (exs (P.den n) d_is_memory_b [some r0, none]) := rfl
@[simp] theorem d_law_mixed_B : d_law_mixed.B = [] := rfl
@[simp] theorem d_law_mixed_ps : d_law_mixed.ps.length = 2 := rfl
theorem op_law_mixed (n : Nat) (r0 r1 : R) : (P.den (n + 1)).fn 3 [r0, r1] = d_law_mixed.outc (exs (P.den n) d_law_mixed_b [some r0, some r1]) := rfl
@[simp] theorem d_law_take_B : d_law_take.B = [0] := rfl
@[simp] theorem d_law_take_ps : d_law_take.ps.length = 2 := rfl
theorem op_law_take (n : Nat) (r0 r1 : R) : (P.den (n + 1)).fn 4 [r0, r1] = d_law_take.outc (exs (P.den n) d_law_take_b [some r0, some r1, none, none]) := rfl
@[simp] theorem d_law_of_B : d_law_of.B = [0] := rfl
@[simp] theorem d_law_of_ps : d_law_of.ps.length = 2 := rfl
theorem op_law_of (n : Nat) (r0 r1 : R) : (P.den (n + 1)).fn 5 [r0, r1] = d_law_of.outc (exs (P.den n) d_law_of_b [some r0, some r1]) := rfl
@[simp] theorem d_law_item_by_B : d_law_item_by.B = [0] := rfl
@[simp] theorem d_law_item_by_ps : d_law_item_by.ps.length = 1 := rfl
theorem op_law_item_by (n : Nat) (r0 : R) : (P.den (n + 1)).fn 6 [r0] = d_law_item_by.outc (exs (P.den n) d_law_item_by_b [some r0, none, none]) := rfl
@[simp] theorem d_law_is_number_B : d_law_is_number.B = [] := rfl
@[simp] theorem d_law_is_number_ps : d_law_is_number.ps.length = 3 := rfl
theorem op_law_is_number (n : Nat) (r0 r1 r2 : R) : (P.den (n + 1)).fn 7 [r0, r1, r2] = d_law_is_number.outc (exs (P.den n) d_law_is_number_b [some r0, some r1, some r2]) := rfl
@[simp] theorem d_law_wholes_right_B : d_law_wholes_right.B = [0] := rfl
@[simp] theorem d_law_wholes_right_ps : d_law_wholes_right.ps.length = 2 := rfl
theorem op_law_wholes_right (n : Nat) (r0 r1 : R) : (P.den (n + 1)).fn 8 [r0, r1] = d_law_wholes_right.outc (exs (P.den n) d_law_wholes_right_b [some r0, some r1, none, none, none, none]) := rfl
@[simp] theorem d_law_memory_right_B : d_law_memory_right.B = [] := rfl
@[simp] theorem d_law_memory_right_ps : d_law_memory_right.ps.length = 1 := rfl
theorem op_law_memory_right (n : Nat) (r0 : R) : (P.den (n + 1)).fn 9 [r0] = d_law_memory_right.outc (exs (P.den n) d_law_memory_right_b [some r0, none, none, none]) := rfl
@[simp] theorem d_law_B : d_law.B = [] := rfl
@[simp] theorem d_law_ps : d_law.ps.length = 1 := rfl
theorem op_law (n : Nat) (r0 : R) : (P.den (n + 1)).fn 10 [r0] = d_law.outc (exs (P.den n) d_law_b [some r0, none, none, none, none, none, none, none, none, none]) := rfl
@[simp] theorem cl_0 {n : Nat} {x np es ks p : _} {S : Slots} : ev (P.den n) (.call 0 x np es ks p) S = callV (P.den n) 0 [.pos 0, .dfl 0, .kw 0] [(.int 0)] es ks S := ev_call (sh := sh0) (by cases n <;> rfl)
@[simp] theorem cl_1 {n : Nat} {x np es ks p : _} {S : Slots} : ev (P.den n) (.call 1 x np es ks p) S = callV (P.den n) 1 [.pos 0] [] es ks S := ev_call (sh := sh1) (by cases n <;> rfl)
@[simp] theorem cl_2 {n : Nat} {x np es ks p : _} {S : Slots} : ev (P.den n) (.call 2 x np es ks p) S = callV (P.den n) 3 [.pos 0, .pos 1] [] es ks S := ev_call (sh := sh2) (by cases n <;> rfl)
@[simp] theorem cl_3 {n : Nat} {x np es ks p : _} {S : Slots} : ev (P.den n) (.call 3 x np es ks p) S = callV (P.den n) 4 [.pos 0, .pos 1] [] es ks S := ev_call (sh := sh3) (by cases n <;> rfl)
@[simp] theorem cl_4 {n : Nat} {x np es ks p : _} {S : Slots} : ev (P.den n) (.call 4 x np es ks p) S = callV (P.den n) 5 [.pos 0, .pos 1] [] es ks S := ev_call (sh := sh4) (by cases n <;> rfl)
@[simp] theorem cl_5 {n : Nat} {x np es ks p : _} {S : Slots} : ev (P.den n) (.call 5 x np es ks p) S = callV (P.den n) 0 [.pos 0, .kw 0, .dfl 0] [(.int 1023)] es ks S := ev_call (sh := sh5) (by cases n <;> rfl)
@[simp] theorem cl_6 {n : Nat} {x np es ks p : _} {S : Slots} : ev (P.den n) (.call 6 x np es ks p) S = callV (P.den n) 0 [.pos 0, .dfl 0, .dfl 1] [(.int 0), (.int 1023)] es ks S := ev_call (sh := sh6) (by cases n <;> rfl)
@[simp] theorem cl_7 {n : Nat} {x np es ks p : _} {S : Slots} : ev (P.den n) (.call 7 x np es ks p) S = callV (P.den n) 0 [.kw 0, .dfl 0, .dfl 1] [(.int 0), (.int 1023)] es ks S := ev_call (sh := sh7) (by cases n <;> rfl)
@[simp] theorem cl_8 {n : Nat} {x np es ks p : _} {S : Slots} : ev (P.den n) (.call 8 x np es ks p) S = callV (P.den n) 0 [.kw 1, .kw 2, .kw 0] [] es ks S := ev_call (sh := sh8) (by cases n <;> rfl)
@[simp] theorem cl_9 {n : Nat} {x np es ks p : _} {S : Slots} : ev (P.den n) (.call 9 x np es ks p) S = callV (P.den n) 1 [.kw 0] [] es ks S := ev_call (sh := sh9) (by cases n <;> rfl)
@[simp] theorem cl_10 {n : Nat} {x np es ks p : _} {S : Slots} : ev (P.den n) (.call 10 x np es ks p) S = callV (P.den n) 7 [.pos 0, .pos 1, .pos 2] [] es ks S := ev_call (sh := sh10) (by cases n <;> rfl)
@[simp] theorem cl_11 {n : Nat} {x np es ks p : _} {S : Slots} : ev (P.den n) (.call 11 x np es ks p) S = callV (P.den n) 2 [.kw 0] [] es ks S := ev_call (sh := sh11) (by cases n <;> rfl)
@[simp] theorem cl_12 {n : Nat} {x np es ks p : _} {S : Slots} : ev (P.den n) (.call 12 x np es ks p) S = callV (P.den n) 2 [.pos 0] [] es ks S := ev_call (sh := sh12) (by cases n <;> rfl)
@[simp] theorem cl_13 {n : Nat} {x np es ks p : _} {S : Slots} : ev (P.den n) (.call 13 x np es ks p) S = callV (P.den n) 9 [.pos 0] [] es ks S := ev_call (sh := sh13) (by cases n <;> rfl)
@[simp] theorem cl_14 {n : Nat} {x np es ks p : _} {S : Slots} : ev (P.den n) (.call 14 x np es ks p) S = callV (P.den n) 6 [.pos 0] [] es ks S := ev_call (sh := sh14) (by cases n <;> rfl)
@[simp] theorem cl_15 {n : Nat} {x np es ks p : _} {S : Slots} : ev (P.den n) (.call 15 x np es ks p) S = callV (P.den n) 8 [.pos 0, .pos 1] [] es ks S := ev_call (sh := sh15) (by cases n <;> rfl)
@[simp] theorem con_0 {n : Nat} : (P.den n).const "GREATEST_BYTE" = some (.int 255) := by cases n <;> rfl
@[simp] theorem con_1 {n : Nat} : (P.den n).const "MOST_CELLS" = some (.int 1024) := by cases n <;> rfl
@[simp] theorem con_2 {n : Nat} : (P.den n).const "FLAGS" = some (.int 8) := by cases n <;> rfl
def dx : List Dx := [⟨d_is_whole, defArgs (top 5), [], [("least", .int 0), ("most", .int 1023)]⟩,
  ⟨d_is_byte, defArgs (top 6), [], []⟩,
  ⟨d_is_memory, defArgs (top 7), [], []⟩,
  ⟨d_law_mixed, defArgs (top 9), [], []⟩,
  ⟨d_law_take, defArgs (top 10), [], []⟩,
  ⟨d_law_of, defArgs (top 11), [], []⟩,
  ⟨d_law_item_by, defArgs (top 12), [], []⟩,
  ⟨d_law_is_number, defArgs (top 13), [], []⟩,
  ⟨d_law_wholes_right, defArgs (top 14), [], []⟩,
  ⟨d_law_memory_right, defArgs (top 15), [], []⟩,
  ⟨d_law, defArgs (top 16), [], []⟩]
section
variable {K : Frag} {a : Addr} {fd : FuncData}
theorem bd0 (F : FunD K "is_whole" "is_whole" (defArgs (top 5)) d_is_whole_b.py (defScope (top 5)) [] [("least", .int 0), ("most", .int 1023)] a fd) : Bd K fd ["thing", "least", "most"] sh0 :=
  bindB F [("least", .int 0)] (by simp) (fun q h => (by simp at h ⊢; grind)) (.cons (.int 0) .nil) fun _ _ _ _ _ _ us mv ws h1 h2 h3 => match us, mv, ws, h1, h2, h3 with | [u0], [m0], [w0], _, _, _ => ⟨_, rfl, ⟨_, _, _, _, _, _, rfl, rfl, rfl⟩⟩
theorem bd1 (F : FunD K "is_byte" "is_byte" (defArgs (top 6)) d_is_byte_b.py (defScope (top 6)) [] [] a fd) : Bd K fd ["thing"] sh1 :=
  bindA F rfl fun _ _ _ _ _ _ us ws h1 h2 => match us, ws, h1, h2 with | [u0], [], _, _ => ⟨_, rfl, rfl⟩
theorem bd2 (F : FunD K "_law_mixed" "_law_mixed" (defArgs (top 9)) d_law_mixed_b.py (defScope (top 9)) [] [] a fd) : Bd K fd ["_law_drawn", "_law_k"] sh2 :=
  bindA F rfl fun _ _ _ _ _ _ us ws h1 h2 => match us, ws, h1, h2 with | [u0, u1], [], _, _ => ⟨_, rfl, rfl⟩
theorem bd3 (F : FunD K "_law_take" "_law_take" (defArgs (top 10)) d_law_take_b.py (defScope (top 10)) [] [] a fd) : Bd K fd ["_law_stream", "_law_many"] sh3 :=
  bindA F rfl fun _ _ _ _ _ _ us ws h1 h2 => match us, ws, h1, h2 with | [u0, u1], [], _, _ => ⟨_, rfl, rfl⟩
theorem bd4 (F : FunD K "_law_of" "_law_of" (defArgs (top 11)) d_law_of_b.py (defScope (top 11)) [] [] a fd) : Bd K fd ["_law_stream", "_law_some"] sh4 :=
  bindA F rfl fun _ _ _ _ _ _ us ws h1 h2 => match us, ws, h1, h2 with | [u0, u1], [], _, _ => ⟨_, rfl, rfl⟩
theorem bd5 (F : FunD K "is_whole" "is_whole" (defArgs (top 5)) d_is_whole_b.py (defScope (top 5)) [] [("least", .int 0), ("most", .int 1023)] a fd) : Bd K fd ["thing", "least", "most"] sh5 :=
  bindB F [("most", .int 1023)] (by simp) (fun q h => (by simp at h ⊢; grind)) (.cons (.int 1023) .nil) fun _ _ _ _ _ _ us mv ws h1 h2 h3 => match us, mv, ws, h1, h2, h3 with | [u0], [m0], [w0], _, _, _ => ⟨_, rfl, ⟨_, _, _, _, _, _, rfl, rfl, rfl⟩⟩
theorem bd6 (F : FunD K "is_whole" "is_whole" (defArgs (top 5)) d_is_whole_b.py (defScope (top 5)) [] [("least", .int 0), ("most", .int 1023)] a fd) : Bd K fd ["thing", "least", "most"] sh6 :=
  bindB F [("least", .int 0), ("most", .int 1023)] (by simp) (fun q h => (by simp at h ⊢; grind)) (.cons (.int 0) (.cons (.int 1023) .nil)) fun _ _ _ _ _ _ us mv ws h1 h2 h3 => match us, mv, ws, h1, h2, h3 with | [u0], [m0, m1], [], _, _, _ => ⟨_, rfl, ⟨_, _, _, _, _, _, rfl, rfl, ⟨_, _, _, _, _, _, rfl, rfl, rfl⟩⟩⟩
theorem bd7 (F : FunD K "is_whole" "is_whole" (defArgs (top 5)) d_is_whole_b.py (defScope (top 5)) [] [("least", .int 0), ("most", .int 1023)] a fd) : Bd K fd ["thing", "least", "most"] sh7 :=
  bindB F [("least", .int 0), ("most", .int 1023)] (by simp) (fun q h => (by simp at h ⊢; grind)) (.cons (.int 0) (.cons (.int 1023) .nil)) fun _ _ _ _ _ _ us mv ws h1 h2 h3 => match us, mv, ws, h1, h2, h3 with | [], [m0, m1], [w0], _, _, _ => ⟨_, rfl, ⟨_, _, _, _, _, _, rfl, rfl, ⟨_, _, _, _, _, _, rfl, rfl, rfl⟩⟩⟩
theorem bd8 (F : FunD K "is_whole" "is_whole" (defArgs (top 5)) d_is_whole_b.py (defScope (top 5)) [] [("least", .int 0), ("most", .int 1023)] a fd) : Bd K fd ["thing", "least", "most"] sh8 :=
  bindA F rfl fun _ _ _ _ _ _ us ws h1 h2 => match us, ws, h1, h2 with | [], [w0, w1, w2], _, _ => ⟨_, rfl, rfl⟩
theorem bd9 (F : FunD K "is_byte" "is_byte" (defArgs (top 6)) d_is_byte_b.py (defScope (top 6)) [] [] a fd) : Bd K fd ["thing"] sh9 :=
  bindA F rfl fun _ _ _ _ _ _ us ws h1 h2 => match us, ws, h1, h2 with | [], [w0], _, _ => ⟨_, rfl, rfl⟩
theorem bd10 (F : FunD K "_law_is_number" "_law_is_number" (defArgs (top 13)) d_law_is_number_b.py (defScope (top 13)) [] [] a fd) : Bd K fd ["_law_item", "_law_low", "_law_high"] sh10 :=
  bindA F rfl fun _ _ _ _ _ _ us ws h1 h2 => match us, ws, h1, h2 with | [u0, u1, u2], [], _, _ => ⟨_, rfl, rfl⟩
theorem bd11 (F : FunD K "is_memory" "is_memory" (defArgs (top 7)) d_is_memory_b.py (defScope (top 7)) [] [] a fd) : Bd K fd ["thing"] sh11 :=
  bindA F rfl fun _ _ _ _ _ _ us ws h1 h2 => match us, ws, h1, h2 with | [], [w0], _, _ => ⟨_, rfl, rfl⟩
theorem bd12 (F : FunD K "is_memory" "is_memory" (defArgs (top 7)) d_is_memory_b.py (defScope (top 7)) [] [] a fd) : Bd K fd ["thing"] sh12 :=
  bindA F rfl fun _ _ _ _ _ _ us ws h1 h2 => match us, ws, h1, h2 with | [u0], [], _, _ => ⟨_, rfl, rfl⟩
theorem bd13 (F : FunD K "_law_memory_right" "_law_memory_right" (defArgs (top 15)) d_law_memory_right_b.py (defScope (top 15)) [] [] a fd) : Bd K fd ["_law_item"] sh13 :=
  bindA F rfl fun _ _ _ _ _ _ us ws h1 h2 => match us, ws, h1, h2 with | [u0], [], _, _ => ⟨_, rfl, rfl⟩
theorem bd14 (F : FunD K "_law_item_by" "_law_item_by" (defArgs (top 12)) d_law_item_by_b.py (defScope (top 12)) [] [] a fd) : Bd K fd ["_law_stream"] sh14 :=
  bindA F rfl fun _ _ _ _ _ _ us ws h1 h2 => match us, ws, h1, h2 with | [u0], [], _, _ => ⟨_, rfl, rfl⟩
theorem bd15 (F : FunD K "_law_wholes_right" "_law_wholes_right" (defArgs (top 14)) d_law_wholes_right_b.py (defScope (top 14)) [] [] a fd) : Bd K fd ["_law_stream", "_law_item"] sh15 :=
  bindA F rfl fun _ _ _ _ _ _ us ws h1 h2 => match us, ws, h1, h2 with | [u0, u1], [], _, _ => ⟨_, rfl, rfl⟩
end
theorem cal {K : Frag} : ∀ (c : Nat) (sh : CallSh), P.calls[c]? = some sh → ∃ e : Dx, dx[sh.f]? = some e ∧ e.df.x = sh.x ∧ ∀ (a : Addr) (fd : FuncData), FunD K e.df.x e.df.x e.params e.df.body.py e.df.sc (e.dd.dvs K) (e.dd.kws K) a fd → Bd K fd e.df.ps sh
  | 0, sh, h => by cases h; exact ⟨_, rfl, rfl, fun a fd F => bd0 F⟩
  | 1, sh, h => by cases h; exact ⟨_, rfl, rfl, fun a fd F => bd1 F⟩
  | 2, sh, h => by cases h; exact ⟨_, rfl, rfl, fun a fd F => bd2 F⟩
  | 3, sh, h => by cases h; exact ⟨_, rfl, rfl, fun a fd F => bd3 F⟩
  | 4, sh, h => by cases h; exact ⟨_, rfl, rfl, fun a fd F => bd4 F⟩
  | 5, sh, h => by cases h; exact ⟨_, rfl, rfl, fun a fd F => bd5 F⟩
  | 6, sh, h => by cases h; exact ⟨_, rfl, rfl, fun a fd F => bd6 F⟩
  | 7, sh, h => by cases h; exact ⟨_, rfl, rfl, fun a fd F => bd7 F⟩
  | 8, sh, h => by cases h; exact ⟨_, rfl, rfl, fun a fd F => bd8 F⟩
  | 9, sh, h => by cases h; exact ⟨_, rfl, rfl, fun a fd F => bd9 F⟩
  | 10, sh, h => by cases h; exact ⟨_, rfl, rfl, fun a fd F => bd10 F⟩
  | 11, sh, h => by cases h; exact ⟨_, rfl, rfl, fun a fd F => bd11 F⟩
  | 12, sh, h => by cases h; exact ⟨_, rfl, rfl, fun a fd F => bd12 F⟩
  | 13, sh, h => by cases h; exact ⟨_, rfl, rfl, fun a fd F => bd13 F⟩
  | 14, sh, h => by cases h; exact ⟨_, rfl, rfl, fun a fd F => bd14 F⟩
  | 15, sh, h => by cases h; exact ⟨_, rfl, rfl, fun a fd F => bd15 F⟩
  | c + 16, sh, h => by cases h
def loose : List Str := (["MOST_CELLS", "FLAGS", "GREATEST_CELL", "GREATEST_BYTE", "is_whole", "is_byte", "is_memory", "_law_mixed", "_law_take", "_law_of", "_law_item_by", "_law_is_number", "_law_wholes_right", "_law_memory_right"] : List Str)
abbrev Rr : PySem.W.OpenRow := PySem.W.OpenLaw.row PySem.Challenge.rw_haulring_k01_words_of_all_kinds
abbrev hk : PySem.W.Hook := He.hookX 4 (faOf P) (dx.map Dx.dd) [] [] (exB P.const)
def ob (s : PySem.W.SharedT) : He.AlX := He.obsX 4 (faOf P) (dx.map Dx.dd) [] [] (exB P.const) (HandSHeadRun.getT s)
theorem ob_eq (s : PySem.W.SharedT) : ob s = hk.obs s.abs := He.obsX_eq (HandSHeadRun.getT_eq s)
theorem run (w : World) : HandSHeadRun.RunEq Rr (PySem.W.view Rr.prog [16]) hk ob 1000 loose w := by
  intro os
  kernel_rfl
theorem holds_by (n : Nat) (hr : Room n callerA) (law : ∀ ns : List Int, ns.length ≤ 63 → (∀ k ∈ ns, Builtin.Int.intBits k ≤ 1048576) → ∃ dd fin, (P.den n).fn 10 [(0, .lst (ns.map Val.int))] = some ((dd, .bl true), fin)) :
    PySem.W.WalkO (PySem.W.view Rr.prog [16]) loose (PySem.W.XL (PySem.W.view Rr.prog [16]) []) hk.says Rr.toRowW (HandSHeadRun.topDef Rr.prog 16) [] (fun f vs => PySem.call f vs) := by
  refine law_end (l := PySem.Challenge.rw_haulring_k01_words_of_all_kinds) (m := 63) (n := n) (P := P) (f := 10) (df := d_law) (x := "_law_script") rfl (by decide) (by kernel_rfl) hr wf rfl rfl ?_ law
  intro w mg fa h Y G hmg0
  obtain ⟨K, KX, c⟩ := Y
  have hmg : mg ("law" : Str) = some (.ref fa) := by
    have e : (HandSHeadRun.topDef Rr.prog 16).name = ("law" : Str) := by kernel_rfl
    rw [← e]
    exact hmg0
  obtain ⟨L, F⟩ := head_lk (dx := dx) rfl KX G c cal
  obtain ⟨fd, F⟩ := F 10 _ rfl
  have e := hmg.symm.trans (He.glo_ok KX G (glo_in c.t.d 10 rfl))
  cases e
  exact ⟨K, fd, KX, L, ⟨_, _, _, _, F⟩, fun s u => by
    have b := FunD.bindsA (ps := ["_law_script"]) F fun _ _ _ _ _ _ us hl => match us, hl with | [_], _ => rfl
    exact b s [u] rfl⟩
end K01
namespace K01
open PySem PySem.Spec PyProof.Rows L2 BV
def numB (v : Val) (lo hi : Int) : Bool := match v with
  | .int i => decide (lo ≤ i) && decide (i ≤ hi)
  | _ => false
theorem whole_ok (n : Nat) (v : Val) (lo hi : Int) : (P.den (n + 1)).fn 0 [(0, v), (0, .int lo), (0, .int hi)] = some ((0, .bl (numB v lo hi)), [none, none, none]) := by
  rw [op_is_whole]
  cases v with
  | int i => by_cases h : lo ≤ i <;> simp [d_is_whole_b, numB, h]
  | _ => simp [d_is_whole_b, numB]
theorem byte_ok (n : Nat) (v : Val) : (P.den (n + 2)).fn 1 [(0, v)] = some ((0, .bl (numB v 0 255)), [none]) := by
  rw [op_is_byte]
  simp [d_is_byte_b, callV, whole_ok]
end K01
namespace K01
open PySem PySem.Spec PyProof.Rows L2 BV
theorem mixed_ok (n : Nat) (a k : Int) (h0 : 0 ≤ k) (h1 : k ≤ 1000000) : ∃ r, 0 ≤ r ∧ (P.den (n + 1)).fn 3 [(0, .int a), (0, .int k)] = some ((0, .int r), [none, none]) := by
  rw [op_law_mixed]
  have hk : 0 ≤ k * k ∧ k * k ≤ 1000000 * 1000000 := ⟨Int.mul_nonneg h0 h0, Int.mul_le_mul h1 h1 h0 (by decide)⟩
  have hk2 : 7919 * k * k = 7919 * (k * k) := Int.mul_assoc _ _ _
  refine ⟨(a % 2147483647 + 7919 * k * k + 31 * k + 5) ^ 5 % 2147483629 * (48271 + 2 * k) % 2147483587 / 7, by omega, ?_⟩
  simp (disch := first | omega | (simp; done) | (simp; omega)) [d_law_mixed_b]
/-- the stream after c draws -/
def Stm (c : Int) (v : Val) : Prop := 0 ≤ c ∧ ∃ (cells : List Int) (a s t : Int), v = .lst [.lst (cells.map .int), .int a, .int c, .int s, .int t]
theorem ints_flat (l : List Int) : ∀ x ∈ l.map Val.int, x.flat = true := by
  intro x hx
  obtain ⟨i, _, rfl⟩ := List.mem_map.mp hx
  rfl
@[simp] theorem all_flat (l : List Int) : l.all (Val.flat ∘ Val.int) = true := List.all_eq_true.mpr fun _ _ => rfl
theorem take_ok (n : Nat) {c m : Int} {v : Val} (g : Stm c v) (hc : c < 1000000) (h0 : 0 < m) (h1 : m < 1073741824) :
    ∃ r v', 0 ≤ r ∧ r < m ∧ Stm (c + 1) v' ∧ (P.den (n + 2)).fn 4 [(2, v), (0, .int m)] = some ((0, .int r), [some (2, v'), none]) := by
  obtain ⟨hc0, cells, a, s, t, rfl⟩ := g
  rw [op_law_take]
  have hr : ∀ x : Int, 0 ≤ x % m ∧ x % m < m := fun x => ⟨Int.emod_nonneg _ (by omega), Int.emod_lt_of_pos _ h0⟩
  by_cases ha : a < 2
  · have ha1 : ¬ 1 < a := by omega
    cases cells with
    | nil =>
      obtain ⟨z, hz, e⟩ := mixed_ok n (s + 104729 * (c + 1)) (c + 1) (by omega) (by omega)
      exact ⟨_, _, (hr (z / 11)).1, (hr (z / 11)).2, ⟨by omega, [], a, s, t, rfl⟩, by simp (disch := first | omega | (simp; done) | (simp; omega)) [d_law_take_b, callV, ha, ha1, e]⟩
    | cons x xs =>
      obtain ⟨z, hz, e⟩ := mixed_ok n (s + x) (c + 1) (by omega) (by omega)
      by_cases hx : 1000000000000000000 ≤ x
      · have hx1 : 1 < x := by omega
        exact ⟨_, _, (hr x).1, (hr x).2, ⟨by omega, xs, x / m, z, t, rfl⟩, by simp (disch := first | omega | (simp; done) | (simp; omega)) [d_law_take_b, callV, ha, hx, hx1, e]⟩
      · obtain ⟨z2, hz2, e2⟩ := mixed_ok n (z + 104729 * (c + 1)) (c + 1) (by omega) (by omega)
        exact ⟨_, _, (hr (z2 / 11)).1, (hr (z2 / 11)).2, ⟨by omega, xs, 0, z, t, rfl⟩, by simp (disch := first | omega | (simp; done) | (simp; omega)) [d_law_take_b, callV, ha, hx, e, e2]⟩
  · have ha1 : 1 < a := by omega
    exact ⟨_, _, (hr a).1, (hr a).2, ⟨by omega, cells, a / m, s, t, rfl⟩, by simp (disch := first | omega | (simp; done) | (simp; omega)) [d_law_take_b, callV, ha, ha1]⟩
end K01
namespace BV
open PySem PySem.Spec PyProof.Rows L2
theorem compL_map {f : Val → Slots → Option (List Val × Slots)} {g : Val → Val} {S : Slots} : ∀ {xs : List Val}, (∀ v ∈ xs, f v S = some ([g v], S)) → compL f xs S = some (xs.map g, S)
  | [], _ => rfl
  | v :: xs, h => by
    rw [q_compL1, h v (List.mem_cons_self ..)]
    show (compL f xs S).map _ = _
    rw [compL_map fun u hu => h u (List.mem_cons_of_mem _ hu)]
    rfl
theorem compL_filter {f : Val → Slots → Option (List Val × Slots)} {p : Val → Bool} {S : Slots} : ∀ {xs : List Val}, (∀ v ∈ xs, f v S = some (bif p v then [v] else [], S)) → compL f xs S = some (xs.filter p, S)
  | [], _ => rfl
  | v :: xs, h => by
    rw [q_compL1, h v (List.mem_cons_self ..)]
    show (compL f xs S).map _ = _
    rw [compL_filter fun u hu => h u (List.mem_cons_of_mem _ hu)]
    cases e : p v <;> simp [List.filter_cons, e]
theorem bools_map {g : Val → Bool} : ∀ (xs : List Val), boolsOf (xs.map fun x => .bl (g x)) = some (xs.map g)
  | [] => rfl
  | x :: xs => by
    show (boolsOf (xs.map fun x => .bl (g x))).map _ = _
    rw [bools_map xs]
    rfl
theorem shows_bools (bs : List Bool) (h : bs.length ≤ 1000) : Shows (.lst (bs.map .bl)) := by
  have a : ∀ bs : List Bool, PyData.showableAll (toDs (bs.map .bl)) = true ∧ rszs (bs.map .bl) = 7 * bs.length ∧ PyData.depthAll (toDs (bs.map .bl)) = 0 ∧ PyData.hasDictAll (toDs (bs.map .bl)) = false := by
    intro bs
    induction bs with
    | nil => exact ⟨by simp [toDs, PyData.showableAll], by simp [rszs], by simp [toDs, PyData.depthAll], by simp [toDs, PyData.hasDictAll]⟩
    | cons b l ih => exact ⟨by simp [toDs, Val.toD, PyData.showableAll, PyData.showable, ih.1], by simp [rszs, rsz, ih.2.1]; omega, by simp [toDs, Val.toD, PyData.depthAll, PyData.depth, ih.2.2.1], by simp [toDs, Val.toD, PyData.hasDictAll, PyData.hasDict, ih.2.2.2]⟩
  obtain ⟨h1, h2, h3, h4⟩ := a bs
  exact ⟨by simpa [Val.toD, PyData.showable] using h1, by simp [rsz, h2]; omega, by simp [Val.toD, PyData.depth, h3], by simp [Val.toD, PyData.hasDict, h4]⟩
theorem repr_bools (bs : List Bool) (h : bs.length ≤ 1000) : reprV (.lst (bs.map .bl)) = some (PyData.shown (Val.lst (bs.map .bl)).toD) := reprs (shows_bools bs h)
end BV
namespace K01
open PySem PySem.Spec PyProof.Rows L2 BV
theorem number_ok (n : Nat) (v : Val) (lo hi : Int) : (P.den (n + 1)).fn 7 [(0, v), (0, .int lo), (0, .int hi)] = some ((0, .bl (numB v lo hi)), [none, none, none]) := by
  rw [op_law_is_number]
  cases v with
  | int i => by_cases h : lo ≤ i <;> simp [d_law_is_number_b, numB, h]
  | _ => simp [d_law_is_number_b, numB]
def memB (v : Val) : Bool := match v with
  | .tup xs => decide (1 ≤ xs.length) && decide (xs.length ≤ 1024) && xs.all fun x => numB x 0 255
  | _ => false
theorem memory_ok (n : Nat) (v : Val) : (P.den (n + 3)).fn 2 [(0, v)] = some ((0, .bl (memB v)), [none]) := by
  rw [op_is_memory]
  cases v with
  | tup xs =>
    by_cases h1 : 1 ≤ xs.length
    · by_cases h2 : xs.length ≤ 1024
      · have i1 : (1 : Int) ≤ (xs.length : Int) := by omega
        have i2 : (xs.length : Int) ≤ 1024 := by omega
        simp (disch := first | omega | (simp; done) | (simp; omega)) [d_is_memory_b, memB, h1, h2, i1, i2]
        rw [compL_map (g := fun x => .bl (numB x 0 255))]
        · simp (disch := first | omega | (simp; done) | (simp; omega)) [bools_map, Function.comp_def]
        · intro x hx
          simp [callV, byte_ok]
      · have i1 : (1 : Int) ≤ (xs.length : Int) := by omega
        have i2 : ¬ (xs.length : Int) ≤ 1024 := by omega
        simp [d_is_memory_b, memB, h1, h2, i1, i2]
    · have i1 : ¬ (1 : Int) ≤ (xs.length : Int) := by omega
      simp [d_is_memory_b, memB, h1, i1]
  | _ => simp [d_is_memory_b, memB]
theorem right_ok (n : Nat) (v : Val) (hs : Shows v) : (P.den (n + 4)).fn 9 [(0, v)] = some ((0, .bl true), [none]) := by
  rw [op_law_memory_right]
  have hm := memory_ok n v
  have hr := reprs hs
  have hb := repr_bools [memB v, memB v] (by simp)
  simp only [List.map_cons, List.map_nil] at hb
  cases v with
  | tup xs =>
    by_cases h1 : 1 ≤ xs.length
    · have i1 : (0 : Int) < (xs.length : Int) := by omega
      have i0 : 0 < xs.length := h1
      by_cases h2 : xs.length ≤ 1024
      · have i2 : (xs.length : Int) < 1025 := by omega
        have hbb : memB (.tup xs) = xs.all fun x => numB x 0 255 := by simp [memB, h1, h2]
        have hf : (xs.filter fun x => !numB x 0 255).isEmpty = xs.all fun x => numB x 0 255 := by
          clear hbb hs hm hr hb h1 h2 i0 i1 i2
          induction xs with
          | nil => rfl
          | cons x xs ih => cases e : numB x 0 255 <;> simp [List.filter_cons, e]; simpa using ih
        have hl : (xs.filter fun x => !numB x 0 255).length ≤ 1024 := Nat.le_trans (List.length_filter_le _ _) h2
        rw [hbb] at hb hm
        simp (disch := first | omega | (simp; done) | (simp; omega)) [d_law_memory_right_b, i0, i1, i2]
        rw [compL_filter (p := fun x => !numB x 0 255)]
        · simp (disch := first | omega | (simp; done) | (simp; omega)) [callV, hm, hr, hf, hb]
        · intro x hx
          cases e : numB x 0 255 <;> simp [callV, number_ok, e]
      · have i2 : ¬ (xs.length : Int) < 1025 := by omega
        have hbb : memB (.tup xs) = false := by simp [memB, h2]
        rw [hbb] at hb hm
        simp [d_law_memory_right_b, i0, i1, i2, callV, hm, hr, hb]
    · have i1 : ¬ (0 : Int) < (xs.length : Int) := by omega
      have i0 : ¬ 0 < xs.length := h1
      have hbb : memB (.tup xs) = false := by simp [memB, h1]
      rw [hbb] at hb hm
      simp [d_law_memory_right_b, i0, i1, callV, hm, hr, hb]
  | _ =>
    have hb2 : reprV (.lst [.bl false, .bl false]) = some _ := hb
    have hm2 := hm
    simp only [memB] at hm2
    simp [d_law_memory_right_b, callV, hm2, hr, hb2]
theorem of_ok (n : Nat) {c : Int} {v : Val} {xs : List Val} (g : Stm c v) (hc : c < 1000000) (h0 : 0 < xs.length) (h1 : xs.length < 1073741824) :
    ∃ u v', u ∈ xs ∧ Stm (c + 1) v' ∧ (P.den (n + 3)).fn 5 [(2, v), (0, .lst xs)] = some ((0, u), [some (2, v'), none]) := by
  rw [op_law_of]
  obtain ⟨r, v', r0, r1, g', e⟩ := take_ok n (m := xs.length) g hc (by omega) (by omega)
  obtain ⟨u, hu⟩ : ∃ u, xs[r.toNat]? = some u := ⟨xs[r.toNat]'(by omega), List.getElem?_eq_getElem (by omega)⟩
  refine ⟨u, v', List.mem_of_getElem? hu, g', ?_⟩
  simp [d_law_of_b, callV, e, ix_in r0 r1, hu]
end K01
namespace K01
open PySem PySem.Spec PyProof.Rows L2 BV
def odd12 : List Val := [.bl true, .bl false, .non, .str "1", .str "", .lst [.int 1], .tup [.int 1], .dic [], .tup [], .tup [.tup [.int 0]], .str "a", .lst [.int 0, .int 1]]
def Item (u : Val) : Prop := (∃ i : Int, u = .int i ∧ -(10 ^ 31) ≤ i ∧ i ≤ 10 ^ 31) ∨ u ∈ odd12
theorem item_ok (n : Nat) {c : Int} {v : Val} (g : Stm c v) (hc : c < 999990) : ∃ u v', Item u ∧ Stm (c + 3) v' ∧ (P.den (n + 4)).fn 6 [(2, v)] = some ((0, u), [some (2, v')]) := by
  rw [op_law_item_by]
  obtain ⟨r1, v1, a1, b1, g1, e1⟩ := take_ok (n + 1) (m := 12) g (by omega) (by omega) (by omega)
  obtain ⟨r2, v2, a2, b2, g2, e2⟩ := take_ok (n + 1) (m := 3) g1 (by omega) (by omega) (by omega)
  have g2 : Stm (c + 2) v2 := by rw [show c + 2 = c + 1 + 1 by omega]; exact g2
  by_cases h : r1 < 7
  · obtain ⟨r3, v3, a3, b3, g3, e3⟩ := take_ok (n + 1) (m := 1100) g2 (by omega) (by omega) (by omega)
    have g3 : Stm (c + 3) v3 := by rw [show c + 3 = c + 2 + 1 by omega]; exact g3
    have hl : ∀ x : Int, x ∈ [0, 255, 1023, -1, 1000000000000000000000000000000, 1152921504606846976, r3] → -(10 ^ 31) ≤ x + (r2 - 1) ∧ x + (r2 - 1) ≤ 10 ^ 31 := by
      intro x hx
      simp only [List.mem_cons, List.mem_nil_iff, or_false] at hx
      omega
    obtain ⟨x, hx⟩ : ∃ x, ([0, 255, 1023, -1, 1000000000000000000000000000000, 1152921504606846976, r3] : List Int)[r1.toNat]? = some x := ⟨_, List.getElem?_eq_getElem (by show r1.toNat < 7; omega)⟩
    have hv : ([.int 0, .int 255, .int 1023, .int (-1), .int 1000000000000000000000000000000, .int 1152921504606846976, .int r3] : List Val)[r1.toNat]? = some (.int x) := by
      have := congrArg (Option.map Val.int) hx
      rw [← List.getElem?_map] at this
      exact this
    obtain ⟨h1, h2⟩ := hl x (List.mem_of_getElem? hx)
    refine ⟨.int (x + (r2 - 1)), v3, .inl ⟨_, rfl, h1, h2⟩, g3, ?_⟩
    obtain ⟨hlt, hv2⟩ := List.getElem?_eq_some_iff.mp hv
    have hix : ixN 7 r1 = some r1.toNat := ix_in a1 (by omega)
    simp [d_law_item_by_b, callV, e1, e2, e3, h, dispD, hix, hv2]
  · obtain ⟨u, v3, hu, g3, e3⟩ := of_ok (n) (xs := odd12) g2 (by omega) (by decide) (by decide)
    have g3 : Stm (c + 3) v3 := by rw [show c + 3 = c + 2 + 1 by omega]; exact g3
    refine ⟨u, v3, .inr hu, g3, ?_⟩
    have e3 : (P.den (n + 3)).fn 5 [(2, v2), (0, .lst [.bl true, .bl false, .non, .str "1", .str "", .lst [.int 1], .tup [.int 1], .dic [], .tup [], .tup [.tup [.int 0]], .str "a", .lst [.int 0, .int 1]])] = _ := e3
    simp [d_law_item_by_b, callV, e1, e2, e3, h, dispD]
theorem wholes_ok (n : Nat) {c : Int} {v : Val} (it : Val) (g : Stm c v) (hc : c < 999990) : ∃ v', Stm (c + 2) v' ∧ (P.den (n + 4)).fn 8 [(2, v), (0, it)] = some ((0, .bl true), [some (2, v'), none]) := by
  rw [op_law_wholes_right]
  obtain ⟨r1, v1, a1, b1, g1, e1⟩ := take_ok (n + 1) (m := 2000) g (by omega) (by omega) (by omega)
  obtain ⟨r2, v2, a2, b2, g2, e2⟩ := take_ok (n + 1) (m := 2000) g1 (by omega) (by omega) (by omega)
  have g2 : Stm (c + 2) v2 := by rw [show c + 2 = c + 1 + 1 by omega]; exact g2
  refine ⟨v2, g2, ?_⟩
  have hb := repr_bools [numB it 0 1023, numB it (r1 - 1000) 1023, numB it 0 (r2 - 500), numB it (r1 - 1000) (r2 - 500), numB it 0 1023, numB it 0 255, numB it 0 255] (by simp)
  simp only [List.map_cons, List.map_nil] at hb
  simp [d_law_wholes_right_b, callV, e1, e2, whole_ok, byte_ok, number_ok, dispD, flatRep, hb]
end K01
namespace K01
open PySem PySem.Spec PyProof.Rows L2 BV
def StL (sc v : Val) (S : Slots) : Prop := ∃ a2 a3 a4 a5 a6 a7 a8 a9, S = [some (0, sc), some (2, v), a2, a3, a4, a5, a6, a7, a8, a9]
theorem l0_ok (n : Nat) {sc v it : Val} (hs : Shows it) {a2 a4 a5 a6 a7 a8 a9 : Option R} : Runs (P.den (n + 4)) d_law_l0 [some (0, sc), some (2, v), a2, some (0, it), a4, a5, a6, a7, a8, a9] fun o => match o with
    | .nx S => StL sc v S
    | _ => False :=
  ⟨.nx [some (0, sc), some (2, v), a2, some (0, it), a4, a5, a6, a7, a8, a9], by simp [d_law_l0, callV, right_ok _ _ hs], _, _, _, _, _, _, _, _, rfl⟩
theorem l2_ok (n : Nat) {sc v it : Val} (hs : Shows it) {a2 a3 a4 a5 a6 a7 a9 : Option R} : Runs (P.den (n + 4)) d_law_l2 [some (0, sc), some (2, v), a2, a3, a4, a5, a6, a7, some (0, it), a9] fun o => match o with
    | .nx S => StL sc v S
    | _ => False :=
  ⟨.nx [some (0, sc), some (2, v), a2, a3, a4, a5, a6, a7, some (0, it), a9], by simp [d_law_l2, callV, right_ok _ _ hs], _, _, _, _, _, _, _, _, rfl⟩
theorem small (i : Int) (h0 : 0 ≤ i) (h1 : i ≤ 300) : Sm (.int i) := sm_int (by omega) (by omega)
theorem nd (i : Int) : (Val.int i).toD.hasDict = false := by simp [Val.toD, PyData.hasDict]
def pats (m : Int) : List Val := [.tup (flatRep m [.int 7]), .lst (flatRep m [.int 7]), .tup (flatRep (m - 1) [.int 7] ++ [.int 256]), .tup ([.bl true] ++ flatRep (m - 1) [.int 0])]
theorem pats_ok (m : Int) (h0 : -1 ≤ m) (h1 : m ≤ 1100) : ∀ it ∈ pats m, Shows it := by
  intro it hi
  have k7 : ∀ k : Int, ∀ x ∈ flatRep k [.int 7], x = .int 7 := fun k x hx => by simpa using flatRep_mem hx
  have k0 : ∀ k : Int, ∀ x ∈ flatRep k [.int 0], x = .int 0 := fun k x hx => by simpa using flatRep_mem hx
  simp only [pats, List.mem_cons, List.mem_nil_iff, or_false] at hi
  rcases hi with rfl | rfl | rfl | rfl
  · exact shows_tup (fun x hx => by rw [k7 m x hx]; exact small 7 (by omega) (by omega)) (by simp; omega) (.inl fun x hx => by rw [k7 m x hx]; exact nd 7)
  · exact shows_lst (fun x hx => by rw [k7 m x hx]; exact small 7 (by omega) (by omega)) (by simp; omega) (fun x hx => by rw [k7 m x hx]; exact nd 7)
  · have q : ∀ x ∈ flatRep (m - 1) [.int 7] ++ [.int 256], x = .int 7 ∨ x = .int 256 := fun x hx => by
      rcases List.mem_append.mp hx with z | z
      · exact .inl (k7 _ x z)
      · exact .inr (by simpa using z)
    exact shows_tup (fun x hx => by rcases q x hx with rfl | rfl; exact small 7 (by omega) (by omega); exact small 256 (by omega) (by omega)) (by simp; omega) (.inl fun x hx => by rcases q x hx with rfl | rfl <;> exact nd _)
  · have q : ∀ x ∈ [.bl true] ++ flatRep (m - 1) [.int 0], x = .bl true ∨ x = .int 0 := fun x hx => by
      rcases List.mem_append.mp hx with z | z
      · exact .inl (by simpa using z)
      · exact .inr (k0 _ x z)
    have sb : Sm (.bl true) := ⟨by simp [Val.toD, PyData.showable], by simp [rsz], by simp [Val.toD, PyData.depth]⟩
    exact shows_tup (fun x hx => by rcases q x hx with rfl | rfl; exact sb; exact small 0 (by omega) (by omega)) (by simp; omega) (.inl fun x hx => by rcases q x hx with rfl | rfl; (simp [Val.toD, PyData.hasDict]); exact nd _)
theorem l1_ok (n : Nat) {sc v : Val} {m : Int} (h0 : 0 ≤ m) (h1 : m ≤ 1100) {a3 a4 a5 a6 a7 a8 a9 : Option R} : Runs (P.den (n + 4)) d_law_l1 [some (0, sc), some (2, v), some (0, .int m), a3, a4, a5, a6, a7, a8, a9] fun o => match o with
    | .nx S => StL sc v S
    | _ => False := by
  unfold d_law_l1
  refine Runs.loop (I := fun _ S => StL sc v S) (vs := pats m) (S1 := [some (0, sc), some (2, v), some (0, .int m), a3, a4, a5, a6, a7, a8, a9]) ?_ ⟨_, _, _, _, _, _, _, _, rfl⟩ ?_ fun S' h => .nil h
  · simp (disch := first | omega | (simp; done) | (simp; omega)) [pats, dispD]
  · rintro i it S hv ⟨a2, a3, a4, a5, a6, a7, a8, a9, rfl⟩
    refine ⟨_, rfl, ?_⟩
    obtain ⟨o, e, q⟩ := l0_ok n (sc := sc) (v := v) (pats_ok m (by omega) h1 it (List.mem_of_getElem? hv)) (a2 := a2) (a4 := a4) (a5 := a5) (a6 := a6) (a7 := a7) (a8 := a8) (a9 := a9)
    refine ⟨o, e, ?_⟩
    cases o with
    | nx S => exact q
    | _ => exact q.elim
theorem item_sm {u : Val} (h : Item u) : Sm u := by
  rcases h with ⟨i, rfl, h0, h1⟩ | h
  · exact sm_int (by omega) (by omega)
  · simp only [odd12, List.mem_cons, List.mem_nil_iff, or_false] at h
    rcases h with rfl | rfl | rfl | rfl | rfl | rfl | rfl | rfl | rfl | rfl | rfl | rfl <;> exact ⟨by decide +kernel, by decide +kernel, by decide +kernel⟩
theorem item_shows {u : Val} (h : Item u) : Shows u := by
  have s := item_sm h
  refine ⟨s.a, Nat.le_trans s.b (by decide), Nat.le_trans s.c (by decide), ?_⟩
  rcases h with ⟨i, rfl, _⟩ | h
  · simp [Val.toD, PyData.hasDict]
  · simp only [odd12, List.mem_cons, List.mem_nil_iff, or_false] at h
    rcases h with rfl | rfl | rfl | rfl | rfl | rfl | rfl | rfl | rfl | rfl | rfl | rfl <;> decide +kernel
theorem item_dict {u : Val} (h : Item u) : u.toD.hasDict = false ∨ u.plainD = true := by
  rcases h with ⟨i, rfl, _⟩ | h
  · exact .inl (by simp [Val.toD, PyData.hasDict])
  · simp only [odd12, List.mem_cons, List.mem_nil_iff, or_false] at h
    rcases h with rfl | rfl | rfl | rfl | rfl | rfl | rfl | rfl | rfl | rfl | rfl | rfl <;> first | exact .inl (by decide +kernel) | exact .inr (by decide +kernel)
def Byte (x : Val) : Prop := ∃ i : Int, x = .int i ∧ 0 ≤ i ∧ i ≤ 255
theorem mix_shows {u : Val} (h : Item u) {xs : List Val} (hx : ∀ x ∈ xs, Byte x ∨ x = u) (hl : xs.length ≤ 3000) : Shows (.tup xs) := by
  refine shows_tup (fun x hx' => ?_) hl ?_
  · rcases hx x hx' with ⟨i, rfl, a, b⟩ | rfl
    · exact small i a (by omega)
    · exact item_sm h
  · rcases item_dict h with d | d
    · refine .inl fun x hx' => ?_
      rcases hx x hx' with ⟨i, rfl, a, b⟩ | rfl
      · exact nd i
      · exact d
    · refine .inr fun x hx' => ?_
      rcases hx x hx' with ⟨i, rfl, a, b⟩ | rfl
      · rfl
      · exact d
theorem l3_ok (n : Nat) {sc v : Val} {c : Int} (g : Stm c v) (hc : c ≤ 3000) {a2 a3 a4 a5 a6 a7 a8 a9 : Option R} : Runs (P.den (n + 5)) d_law_l3 [some (0, sc), some (2, v), a2, a3, a4, a5, a6, a7, a8, a9] fun o => match o with
    | .nx S => ∃ v' c', StL sc v' S ∧ Stm c' v' ∧ c' ≤ c + 29
    | _ => False := by
  obtain ⟨u, v1, hu, g1, e1⟩ := item_ok (n + 1) g (by omega)
  unfold d_law_l3
  refine Runs.step (S' := [some (0, sc), some (2, v1), a2, some (0, u), a4, a5, a6, a7, a8, a9]) (by simp [callV, e1]) ?_
  obtain ⟨r2, v2, b0, b1, g2, e2⟩ := take_ok (n + 3) (m := 12) g1 (by omega) (by omega) (by omega)
  refine Runs.asgW (EvW.blt1 (EvW.lc (vs := intsFrom 0 r2.toNat) (S1 := [some (0, sc), some (2, v2), a2, some (0, u), a4, a5, a6, a7, a8, a9])
    (I := fun i done S => ∃ v', S = [some (0, sc), some (2, v'), a2, some (0, u), a4, a5, a6, a7, a8, none] ∧ Stm (c + 4 + 2 * i) v' ∧ done.length = i ∧ ∀ x ∈ done, Byte x) ?_ ?_ ?_ ?_ ?_))
  · have hr : inRange r2 = true := decide_eq_true (by omega)
    simp [callV, e2, hr]
  · exact ⟨v2, rfl, by rw [show c + 4 + 2 * ((0 : Nat) : Int) = c + 3 + 1 by omega]; exact g2, rfl, fun x h => by cases h⟩
  · rintro i x done S hx ⟨v', rfl, g', hl, hB⟩
    obtain ⟨rfl, hi⟩ := ints_get hx
    obtain ⟨r3, v3, d0, d1, g3, e3⟩ := take_ok (n + 3) (m := 256) g' (by omega) (by omega) (by omega)
    obtain ⟨w, v4, hw, g4, e4⟩ := of_ok (n + 2) (xs := [.int 0, .int 255, .int r3]) g3 (by omega) (by simp) (by simp)
    refine ⟨[w], [some (0, sc), some (2, v4), a2, some (0, u), a4, a5, a6, a7, a8, none], by simp [lcTurn, callV, e3, dispD, e4], v4, rfl, ?_, by simp [hl], fun y hy => ?_⟩
    · rw [show c + 4 + 2 * ((i + 1 : Nat) : Int) = c + 4 + 2 * (i : Int) + 1 + 1 by omega]; exact g4
    · rcases List.mem_append.mp hy with z | z
      · exact hB y z
      · have : y = w := by simpa using z
        subst this
        simp only [List.mem_cons, List.mem_nil_iff, or_false] at hw
        rcases hw with rfl | rfl | rfl
        · exact ⟨0, rfl, by omega, by omega⟩
        · exact ⟨255, rfl, by omega, by omega⟩
        · exact ⟨r3, rfl, by omega, by omega⟩
  · rintro ws S' ⟨v', rfl, g', hl, hB⟩
    rw [hl, intsFrom_len]
    omega
  · rintro ws S' ⟨v', rfl, g', hl, hB⟩
    rw [intsFrom_len] at g' hl
    refine ⟨(0, .tup ws), rfl, 0, rfl, ?_⟩
    have hws : ws.length ≤ 11 := by omega
    obtain ⟨r5, v5, p0, p1, g5, e5⟩ := take_ok (n + 3) (m := (ws.length : Int) + 1) g' (by omega) (by omega) (by omega)
    obtain ⟨v6, g6, e6⟩ := wholes_ok (n + 1) u g5 (by omega)
    refine Runs.step (S' := [some (0, sc), some (2, v5), a2, some (0, u), a4, some (0, .tup ws), some (0, .int r5), a7, a8, none]) (by simp [callV, e5]) ?_
    refine Runs.if0 (S' := [some (0, sc), some (2, v6), a2, some (0, u), a4, some (0, .tup ws), some (0, .int r5), a7, a8, none]) (by simp [callV, e6]) (Runs.nil ?_)
    have htk : (ws.take r5.toNat).length ≤ 11 := by rw [List.length_take]; omega
    have hdr : ∀ k, (ws.drop k).length ≤ 11 := fun k => by rw [List.length_drop]; omega
    have sz : ∀ ys : List Val, ys.length ≤ 40 → fitsLine ys.length = true := fun ys h => q_fits (by omega)
    refine Runs.step (S' := [some (0, sc), some (2, v6), a2, some (0, u), a4, some (0, .tup ws), some (0, .int r5), some (dispD [(0, u), (0, .tup ws), (1, .lst ws), (0, .tup (ws.take r5.toNat ++ [u] ++ ws.drop r5.toNat))], .lst [u, .tup ws, .lst ws, .tup (ws.take r5.toNat ++ [u] ++ ws.drop r5.toNat)]), a8, none]) ?_ ?_
    · simp (disch := first | omega | (simp; done) | (simp; omega)) [cut_pre p0, cut_suf p0]
    · have p2 : 0 ≤ r5 + 1 := by omega
      refine Runs.loop (I := fun _ S => StL sc v6 S) (vs := [u, .tup ws, .lst ws, .tup (ws.take r5.toNat ++ [u] ++ ws.drop r5.toNat), .tup (ws.take r5.toNat ++ [u] ++ ws.drop (r5 + 1).toNat)]) (S1 := [some (0, sc), some (2, v6), a2, some (0, u), a4, some (0, .tup ws), some (0, .int r5), some (0, .lst [u, .tup ws, .lst ws, .tup (ws.take r5.toNat ++ [u] ++ ws.drop r5.toNat)]), a8, none]) ?_ ⟨_, _, _, _, _, _, _, _, rfl⟩ ?_ fun S' h => .nil ⟨v6, _, h, g6, by omega⟩
      · simp (disch := first | omega | (simp; done) | (simp; omega)) [cut_pre p0, cut_suf p2]
      · rintro i it S hv ⟨a2, a3, a4, a5, a6, a7, a8, a9, rfl⟩
        have hm := List.mem_of_getElem? hv
        have mixed : ∀ k : Nat, ∀ x ∈ ws.take r5.toNat ++ [u] ++ ws.drop k, Byte x ∨ x = u := fun k x hx => by
          rcases List.mem_append.mp hx with z | z
          · rcases List.mem_append.mp z with z | z
            · exact .inl (hB x (List.mem_of_mem_take z))
            · exact .inr (by simpa using z)
          · exact .inl (hB x (List.mem_of_mem_drop z))
        have len : ∀ k : Nat, (ws.take r5.toNat ++ [u] ++ ws.drop k).length ≤ 3000 := fun k => by
          have := hdr k
          simp only [List.length_append, List.length_singleton]
          omega
        have hs : Shows it := by
          simp only [List.mem_cons, List.mem_nil_iff, or_false] at hm
          rcases hm with rfl | rfl | rfl | rfl | rfl
          · exact item_shows hu
          · exact mix_shows hu (fun x hx => .inl (hB x hx)) (by omega)
          · refine shows_lst (fun x hx => ?_) (by omega) fun x hx => ?_
            · obtain ⟨i, rfl, z0, z1⟩ := hB x hx
              exact small i z0 (by omega)
            · obtain ⟨i, rfl, z0, z1⟩ := hB x hx
              exact nd i
          · exact mix_shows hu (mixed _) (len _)
          · exact mix_shows hu (mixed _) (len _)
        refine ⟨_, rfl, ?_⟩
        obtain ⟨o, e, q⟩ := l2_ok (n + 1) (sc := sc) (v := v6) hs (a2 := a2) (a3 := a3) (a4 := a4) (a5 := a5) (a6 := a6) (a7 := a7) (a9 := a9)
        refine ⟨o, e, ?_⟩
        cases o with
        | nx S => exact q
        | _ => exact q.elim
theorem rep_first : reprV (.lst [.int 1024, .int 8]) = some "[1024, 8]" := by decide +kernel
theorem law_ok (n : Nat) (ns : List Int) (hl : ns.length ≤ 63) : ∃ dd fin, (P.den (n + 6)).fn 10 [(0, .lst (ns.map Val.int))] = some ((dd, .bl true), fin) := by
  obtain ⟨⟨dd, r⟩, fin, e, q⟩ := Runs.fn (P := P) (n := n + 5) (f := 10) (d := d_law) (rs := [(0, .lst (ns.map Val.int))]) (Q := fun r _ => r.2 = .bl true) rfl rfl (by
    show Runs (P.den (n + 5)) d_law_b [some (0, .lst (ns.map Val.int)), none, none, none, none, none, none, none, none, none] _
    unfold d_law_b
    have hcut : cutL (ns.map Val.int ++ [.int 0]) none (some 63) = ((ns ++ [0]).take 63).map Val.int := by
      rw [cut_pre (by omega), List.map_take, List.map_append]
      rfl
    refine Runs.step (S' := [some (0, .lst (ns.map Val.int)), some (2, .lst [.lst (((ns ++ [0]).take 63).map Val.int), .int 0, .int 0, .int 7, .int 0]), none, none, none, none, none, none, none, none]) ?_ ?_
    · simp (disch := first | omega | (simp; done) | (simp; omega)) [hcut, dispD]
    refine Runs.if0 (S' := [some (0, .lst (ns.map Val.int)), some (2, .lst [.lst (((ns ++ [0]).take 63).map Val.int), .int 0, .int 0, .int 7, .int 0]), none, none, none, none, none, none, none, none]) ?_ (Runs.nil ?_)
    · simp (disch := first | omega | (simp; done) | (simp; omega)) [rep_first]
    generalize hv0 : Val.lst [.lst (((ns ++ [0]).take 63).map Val.int), .int 0, .int 0, .int 7, .int 0] = v0
    have g0 : Stm 0 v0 := ⟨by omega, _, 0, 7, 0, hv0.symm⟩
    refine Runs.loop (I := fun _ S => StL (.lst (ns.map Val.int)) v0 S) (vs := [.int 0, .int 1, .int 1023, .int 1024, .int 1025]) (S1 := [some (0, .lst (ns.map Val.int)), some (2, v0), none, none, none, none, none, none, none, none]) (by simp) ⟨_, _, _, _, _, _, _, _, rfl⟩ ?_ ?_
    · rintro i it S hv ⟨a2, a3, a4, a5, a6, a7, a8, a9, rfl⟩
      have hm := List.mem_of_getElem? hv
      obtain ⟨m, rfl, m0, m1⟩ : ∃ m : Int, it = .int m ∧ 0 ≤ m ∧ m ≤ 1100 := by
        simp only [List.mem_cons, List.mem_nil_iff, or_false] at hm
        rcases hm with rfl | rfl | rfl | rfl | rfl <;> exact ⟨_, rfl, by omega, by omega⟩
      refine ⟨_, rfl, ?_⟩
      obtain ⟨o, e, q⟩ := l1_ok (n + 1) (sc := .lst (ns.map Val.int)) (v := v0) m0 m1 (a3 := a3) (a4 := a4) (a5 := a5) (a6 := a6) (a7 := a7) (a8 := a8) (a9 := a9)
      refine ⟨o, e, ?_⟩
      cases o with
      | nx S => exact q
      | _ => exact q.elim
    rintro S1 ⟨a2, a3, a4, a5, a6, a7, a8, a9, rfl⟩
    have hmin : ∃ k : Int, (if (ns.length : Int) < 48 then (ns.length : Int) else 48) = k ∧ 0 ≤ k ∧ k ≤ 48 := ⟨_, rfl, by split <;> omega, by split <;> omega⟩
    obtain ⟨k, hk, k0, k1⟩ := hmin
    refine Runs.loop (I := fun i S => ∃ v c, StL (.lst (ns.map Val.int)) v S ∧ Stm c v ∧ c ≤ 29 * i) (vs := intsFrom 0 (12 + k).toNat) (S1 := [some (0, .lst (ns.map Val.int)), some (2, v0), a2, a3, a4, a5, a6, a7, a8, a9]) ?_ ⟨v0, 0, ⟨_, _, _, _, _, _, _, _, rfl⟩, g0, by omega⟩ ?_ ?_
    · have hr : inRange (12 + k) = true := decide_eq_true (by omega)
      simp [hk, hr]
    · rintro i it S hv ⟨v, c, ⟨a2, a3, a4, a5, a6, a7, a8, a9, rfl⟩, g, hc⟩
      obtain ⟨rfl, hi⟩ := ints_get hv
      refine ⟨_, rfl, ?_⟩
      obtain ⟨o, e, q⟩ := l3_ok n (sc := .lst (ns.map Val.int)) g (by omega) (a2 := a2) (a3 := a3) (a4 := some (0, .int (0 + i))) (a5 := a5) (a6 := a6) (a7 := a7) (a8 := a8) (a9 := a9)
      refine ⟨o, e, ?_⟩
      cases o with
      | nx S =>
        obtain ⟨v', c', h1, h2, h3⟩ := q
        exact ⟨v', c', h1, h2, by omega⟩
      | _ => exact q.elim
    · rintro S1 _
      exact Runs.ret (r := (0, .bl true)) (S' := S1) (by simp) rfl)
  have q : r = .bl true := q
  subst q
  exact ⟨dd, fin, e⟩
end K01
open PySem PySem.W PySem.Calls PyProof.Rows in
theorem PySem.Challenge.cw_haulring_k01_words_of_all_kinds_holds : PySem.Challenge.rw_haulring_k01_words_of_all_kinds.Holds := by
  w_on; o_law
  refine HandSHeadRun.head_any (r := K01.Rr) (q := view K01.Rr.prog [16]) (H := K01.hk) (ob := K01.ob) (M := 1000) (loose := K01.loose) (d := HandSHeadRun.topDef K01.Rr.prog 16) (kwd := []) K01.ob_eq
    (by kernel_rfl) (fun s => by kernel_rfl) K01.run (by kernel_rfl) (by kernel_rfl) (by kernel_rfl) (by rfl) (by first | assumption | decide +kernel) (by decide +kernel) ⟨rfl, rfl, rfl, rfl, rfl, by decide +kernel⟩ ?hw ?hc
  case hw => w_witness2
  case hc => exact K01.holds_by 20 ⟨rfl, by decide, by decide⟩ fun ns h _ => K01.law_ok 14 ns h
