import PyProof.Rows.All
import Wide.All
import OpenK.AllK
import Wide.FinOn
import HandS.ForMost
import HandS.RaiseMore
import HandS.ExcCtx
import HandS.HotCalls
import HandS.ExcIs
import HandS.ForExc
import HandS.Flow
import HandS.IsInst
import HandS.Zip
import HandS.Wide
import HandS.Ends
import HandS.EndBits
import HandS.ExcOwn
import HandS.TryOnly
import HandS.Deep
import HandS.Flt
import HandS.WordsExc
import PyProof.Rows.RegStrFacts
import PySem.Challenge.RW_turnalgebra_k11_products_and_deeds
set_option Elab.async false
set_option linter.all false
set_option maxRecDepth 100000
set_option maxHeartbeats 4000000
/-! ## The core: data, what is frozen, what is owned -/
namespace Q
open PySem PySem.Spec PyProof.Rows L2

abbrev D := PyData
variable {K : PySem.W.Frag} {G G' H H' : Hp}

theorem SqT.mono {a : Addr} {xs : List V} (e : Same H H') (h : SqT K H a xs) : SqT K H' a xs := by
  rcases h with (h | ⟨o, h⟩) | h
  · exact .inl (.inl (e _ _ h))
  · exact .inl (.inr ⟨o, e _ _ h⟩)
  · exact .inr h
mutual
theorem Dp.mono (e : Same H H') : ∀ {v : V} {d : D}, Dp K H v d → Dp K H' v d
  | _, _, .non => .non
  | _, _, .bl b => .bl b
  | _, _, .int i => .int i
  | _, _, .str x => .str x
  | _, _, .lst h r => .lst (e.seq h) (DpAll.mono e r)
  | _, _, .tup h r => .tup (SqT.mono e h) (DpAll.mono e r)
theorem DpAll.mono (e : Same H H') : ∀ {vs : List V} {ds : List D}, DpAll K H vs ds → DpAll K H' vs ds
  | _, _, .nil => .nil
  | _, _, .cons h r => .cons (Dp.mono e h) (DpAll.mono e r)
end
theorem DpAll.length : ∀ {vs : List V} {ds : List D}, DpAll K H vs ds → vs.length = ds.length
  | _, _, .nil => rfl
  | _, _, .cons _ r => by rw [List.length_cons, List.length_cons, DpAll.length r]
theorem DpAll.get : ∀ {vs : List V} {ds : List D} {i : Nat} {d : D}, DpAll K H vs ds → ds[i]? = some d → ∃ v, vs[i]? = some v ∧ Dp K H v d
  | _, _, 0, _, .cons h _, e => by simp at e; subst e; exact ⟨_, rfl, h⟩
  | _, _, i + 1, _, .cons _ r, e => by
    obtain ⟨v, h1, h2⟩ := DpAll.get (i := i) r (by simpa using e)
    exact ⟨v, by simpa using h1, h2⟩
theorem DpAll.append : ∀ {vs ws : List V} {ds es : List D}, DpAll K H vs ds → DpAll K H ws es → DpAll K H (vs ++ ws) (ds ++ es)
  | _, _, _, _, .nil, s => s
  | _, _, _, _, .cons h r, s => .cons h (DpAll.append r s)
theorem DpAll.set : ∀ {vs : List V} {ds : List D} {v : V} {d : D} (i : Nat), DpAll K H vs ds → Dp K H v d → DpAll K H (vs.set i v) (ds.set i d)
  | _, _, _, _, _, .nil, _ => .nil
  | _, _, _, _, 0, .cons _ r, h => .cons h r
  | _, _, _, _, i + 1, .cons h r, k => .cons h (DpAll.set i r k)
theorem DpAll.take : ∀ {vs : List V} {ds : List D} (i : Nat), DpAll K H vs ds → DpAll K H (vs.take i) (ds.take i)
  | _, _, 0, _ => .nil
  | _, _, _ + 1, .nil => .nil
  | _, _, i + 1, .cons h r => .cons h (DpAll.take i r)
theorem DpAll.drop : ∀ {vs : List V} {ds : List D} (i : Nat), DpAll K H vs ds → DpAll K H (vs.drop i) (ds.drop i)
  | _, _, 0, h => h
  | _, _, _ + 1, .nil => .nil
  | _, _, i + 1, .cons _ r => DpAll.drop i r

/-- data without places -/
def flat : D → Bool
  | .none => true
  | .bool _ => true
  | .int _ => true
  | .str _ => true
  | _ => false

mutual
/-- down to a depth the lists are owned (their places are the list A), below it all is frozen -/
inductive Ow (K : PySem.W.Frag) (G H : Hp) : Nat → List Addr → V → D → Prop
  | frz {v : V} {d : D} : Dp K G v d → Ow K G H 0 [] v d
  | flt {k : Nat} {v : V} {d : D} : flat d = true → Dp K G v d → Ow K G H (k + 1) [] v d
  | lst {k : Nat} {a : Addr} {A : List Addr} {vs : List V} {ds : List D} : H a = some (.lst vs) → Ows K G H k A vs ds → Ow K G H (k + 1) (a :: A) (.ref a) (.list ds)
inductive Ows (K : PySem.W.Frag) (G H : Hp) : Nat → List Addr → List V → List D → Prop
  | nil {k : Nat} : Ows K G H k [] [] []
  | cons {k : Nat} {A B : List Addr} {v : V} {vs : List V} {d : D} {ds : List D} : Ow K G H k A v d → Ows K G H k B vs ds → Ows K G H k (A ++ B) (v :: vs) (d :: ds)
end
mutual
theorem Ow.mono (g : Same G G') : ∀ {k : Nat} {A : List Addr} {v : V} {d : D}, (∀ b ∈ A, ∀ o, H b = some o → H' b = some o) → Ow K G H k A v d → Ow K G' H' k A v d
  | _, _, _, _, _, .frz h => .frz (Dp.mono g h)
  | _, _, _, _, _, .flt f h => .flt f (Dp.mono g h)
  | _, _, _, _, m, .lst h r => .lst (m _ (by simp) _ h) (Ows.mono g (fun b hb => m b (by simp [hb])) r)
theorem Ows.mono (g : Same G G') : ∀ {k : Nat} {A : List Addr} {vs : List V} {ds : List D}, (∀ b ∈ A, ∀ o, H b = some o → H' b = some o) → Ows K G H k A vs ds → Ows K G' H' k A vs ds
  | _, _, _, _, _, .nil => .nil
  | _, _, _, _, m, .cons h r => .cons (Ow.mono g (fun b hb => m b (by simp [hb])) h) (Ows.mono g (fun b hb => m b (by simp [hb])) r)
end
mutual
theorem Ow.there : ∀ {k : Nat} {A : List Addr} {v : V} {d : D}, Ow K G H k A v d → ∀ b ∈ A, ∃ vs, H b = some (.lst vs)
  | _, _, _, _, .frz _, _, hb => nomatch hb
  | _, _, _, _, .flt _ _, _, hb => nomatch hb
  | _, _, _, _, .lst h r, b, hb => by
    rcases List.mem_cons.mp hb with e | hb
    · subst e; exact ⟨_, h⟩
    · exact Ows.there r b hb
theorem Ows.there : ∀ {k : Nat} {A : List Addr} {vs : List V} {ds : List D}, Ows K G H k A vs ds → ∀ b ∈ A, ∃ vs, H b = some (.lst vs)
  | _, _, _, _, .nil, _, hb => nomatch hb
  | _, _, _, _, .cons h r, b, hb => by
    rcases List.mem_append.mp hb with hb | hb
    · exact Ow.there h b hb
    · exact Ows.there r b hb
end
theorem Ows.length : ∀ {k : Nat} {A : List Addr} {vs : List V} {ds : List D}, Ows K G H k A vs ds → vs.length = ds.length
  | _, _, _, _, .nil => rfl
  | _, _, _, _, .cons _ r => by rw [List.length_cons, List.length_cons, Ows.length r]
mutual
/-- all that is owned is read as it stands -/
theorem Ow.read (g : Same G H) : ∀ {k : Nat} {A : List Addr} {v : V} {d : D}, Ow K G H k A v d → Dp K H v d
  | _, _, _, _, .frz h => Dp.mono g h
  | _, _, _, _, .flt _ h => Dp.mono g h
  | _, _, _, _, .lst h r => .lst (.inl (.inl h)) (Ows.read g r)
theorem Ows.read (g : Same G H) : ∀ {k : Nat} {A : List Addr} {vs : List V} {ds : List D}, Ows K G H k A vs ds → DpAll K H vs ds
  | _, _, _, _, .nil => .nil
  | _, _, _, _, .cons h r => .cons (Ow.read g h) (Ows.read g r)
end
/-- the frozen part with the places of A put to it -/
def grow (G H : Hp) (A : List Addr) : Hp := fun b => if b ∈ A then H b else G b
theorem same_grow {A : List Addr} (n : ∀ a ∈ A, G a = none) : Same G (grow G H A) := fun b o e => by
  unfold grow
  by_cases h : b ∈ A
  · rw [n b h] at e; cases e
  · rw [if_neg h]; exact e
theorem grow_same {A : List Addr} (g : Same G H) : Same (grow G H A) H := fun b o e => by
  unfold grow at e
  by_cases h : b ∈ A
  · rw [if_pos h] at e; exact e
  · rw [if_neg h] at e; exact g b o e
mutual
/-- what is owned, frozen -/
theorem Ow.freeze {B : List Addr} (g : Same G (grow G H B)) : ∀ {k : Nat} {A : List Addr} {v : V} {d : D}, (∀ a ∈ A, a ∈ B) → Ow K G H k A v d → Dp K (grow G H B) v d
  | _, _, _, _, _, .frz h => Dp.mono g h
  | _, _, _, _, _, .flt _ h => Dp.mono g h
  | _, _, _, _, m, .lst h r => .lst (.inl (.inl (by unfold grow; rw [if_pos (m _ (by simp))]; exact h))) (Ows.freeze g (fun b hb => m b (by simp [hb])) r)
theorem Ows.freeze {B : List Addr} (g : Same G (grow G H B)) : ∀ {k : Nat} {A : List Addr} {vs : List V} {ds : List D}, (∀ a ∈ A, a ∈ B) → Ows K G H k A vs ds → DpAll K (grow G H B) vs ds
  | _, _, _, _, _, .nil => .nil
  | _, _, _, _, m, .cons h r => .cons (Ow.freeze g (fun b hb => m b (by simp [hb])) h) (Ows.freeze g (fun b hb => m b (by simp [hb])) r)
end
theorem same_growL {B E : List Addr} (ho : ∀ a ∈ E, G a = none) : Same (grow G H B) (grow G H (B ++ E)) := fun b o e => by
  unfold grow at e ⊢
  by_cases z : b ∈ B
  · rw [if_pos z] at e; rw [if_pos (by simp [z])]; exact e
  · rw [if_neg z] at e
    by_cases z2 : b ∈ E
    · rw [ho b z2] at e; cases e
    · rw [if_neg (by simp [z, z2])]; exact e
theorem same_growR {B E : List Addr} (ho : ∀ a ∈ B, G a = none) : Same (grow G H E) (grow G H (B ++ E)) := fun b o e => by
  unfold grow at e ⊢
  by_cases z : b ∈ E
  · rw [if_pos z] at e; rw [if_pos (by simp [z])]; exact e
  · rw [if_neg z] at e
    by_cases z2 : b ∈ B
    · rw [ho b z2] at e; cases e
    · rw [if_neg (by simp [z, z2])]; exact e
def WeakO (K : PySem.W.Frag) (G H : Hp) (m : Nat) (A : List Addr) (P : Hp → List Addr → Prop) : Prop :=
  ∃ A' B, (∀ a ∈ A', a ∈ A) ∧ (∀ a ∈ B, a ∈ A) ∧ (∀ a ∈ A', a ∉ B) ∧ A'.Nodup ∧ P (grow G H B) A'
mutual
/-- owned to less depth: what lies below is frozen -/
theorem Ow.weak : ∀ {k : Nat} {A : List Addr} {v : V} {d : D}, Ow K G H k A v d → ∀ m, m ≤ k → A.Nodup → (∀ a ∈ A, G a = none) → WeakO K G H m A fun G' A' => Ow K G' H m A' v d
  | _, _, _, _, .frz h => fun m hm nd ho => by
    obtain rfl : m = 0 := by omega
    exact ⟨[], [], (fun _ h => nomatch h), (fun _ h => nomatch h), (fun _ h => nomatch h), .nil, .frz (Dp.mono (same_grow (A := []) (fun _ h => nomatch h)) h)⟩
  | _, _, _, _, .flt f h => fun m hm nd ho => by
    refine ⟨[], [], (fun _ h => nomatch h), (fun _ h => nomatch h), (fun _ h => nomatch h), .nil, ?_⟩
    cases m with
    | zero => exact .frz (Dp.mono (same_grow (A := []) (fun _ h => nomatch h)) h)
    | succ m => exact .flt f (Dp.mono (same_grow (A := []) (fun _ h => nomatch h)) h)
  | _, _, _, _, .lst (a := a) h r => fun m hm nd ho => by
    cases m with
    | zero => exact ⟨[], _, (fun _ h => nomatch h), (fun _ h => h), (fun _ h => nomatch h), .nil, .frz (Ow.freeze (same_grow ho) (fun _ h => h) (.lst h r))⟩
    | succ m =>
      obtain ⟨A', B, h1, h2, h3, h4, h5⟩ := Ows.weak r m (by omega) (List.nodup_cons.mp nd).2 (fun b hb => ho b (by simp [hb]))
      have na := (List.nodup_cons.mp nd).1
      refine ⟨a :: A', B, fun b hb => ?_, fun b hb => by simp [h2 b hb], fun b hb => ?_, List.nodup_cons.mpr ⟨fun z => na (h1 a z), h4⟩, .lst h h5⟩
      · rcases List.mem_cons.mp hb with rfl | hb
        · simp
        · simp [h1 b hb]
      · rcases List.mem_cons.mp hb with rfl | hb
        · exact fun z => na (h2 b z)
        · exact h3 b hb
theorem Ows.weak : ∀ {k : Nat} {A : List Addr} {vs : List V} {ds : List D}, Ows K G H k A vs ds → ∀ m, m ≤ k → A.Nodup → (∀ a ∈ A, G a = none) → WeakO K G H m A fun G' A' => Ows K G' H m A' vs ds
  | _, _, _, _, .nil => fun m hm nd ho => ⟨[], [], (fun _ h => nomatch h), (fun _ h => nomatch h), (fun _ h => nomatch h), .nil, .nil⟩
  | _, _, _, _, .cons (A := A1) (B := A2) h r => fun m hm nd ho => by
    obtain ⟨n1, n2, n3⟩ := List.nodup_append.mp nd
    obtain ⟨A', B, h1, h2, h3, h4, h5⟩ := Ow.weak h m hm n1 (fun b hb => ho b (by simp [hb]))
    obtain ⟨C', E, g1, g2, g3, g4, g5⟩ := Ows.weak r m hm n2 (fun b hb => ho b (by simp [hb]))
    refine ⟨A' ++ C', B ++ E, fun b hb => ?_, fun b hb => ?_, fun b hb => ?_, List.nodup_append.mpr ⟨h4, g4, fun x hx y hy => n3 x (h1 x hx) y (g1 y hy)⟩, .cons (Ow.mono (same_growL fun a ha => ho a (by simp [g2 a ha])) (fun _ _ _ q => q) h5) (Ows.mono (same_growR fun a ha => ho a (by simp [h2 a ha])) (fun _ _ _ q => q) g5)⟩
    · rcases List.mem_append.mp hb with hb | hb
      · simp [h1 b hb]
      · simp [g1 b hb]
    · rcases List.mem_append.mp hb with hb | hb
      · simp [h2 b hb]
      · simp [g2 b hb]
    · intro z
      rcases List.mem_append.mp hb with hb | hb
      · rcases List.mem_append.mp z with z | z
        · exact h3 b hb z
        · exact n3 b (h1 b hb) b (g2 b z) rfl
      · rcases List.mem_append.mp z with z | z
        · exact n3 b (h2 b z) b (g1 b hb) rfl
        · exact g3 b hb z
end
theorem Ows.of_frz : ∀ {vs : List V} {ds : List D}, DpAll K G vs ds → Ows K G H 0 [] vs ds
  | _, _, .nil => .nil
  | _, _, .cons h r => .cons (A := []) (.frz h) (Ows.of_frz r)
theorem Ows.to_frz : ∀ {A : List Addr} {vs : List V} {ds : List D}, Ows K G H 0 A vs ds → A = [] ∧ DpAll K G vs ds
  | _, _, _, .nil => ⟨rfl, .nil⟩
  | _, _, _, .cons (.frz h) r => let ⟨e, q⟩ := Ows.to_frz r; ⟨by rw [e]; rfl, .cons h q⟩
theorem Ows.append : ∀ {k : Nat} {A B : List Addr} {vs ws : List V} {ds es : List D}, Ows K G H k A vs ds → Ows K G H k B ws es → Ows K G H k (A ++ B) (vs ++ ws) (ds ++ es)
  | _, _, _, _, _, _, _, .nil, s => s
  | _, _, _, _, _, _, _, .cons h r, s => by rw [List.append_assoc]; exact .cons h (Ows.append r s)

/-! ### what the names hold -/
inductive Cell where
  /-- nothing is known -/
  | un
  /-- frozen data -/
  | va (d : D)
  /-- an owned list, to a depth -/
  | ow (k : Nat) (d : D)
  /-- an owned list, one item of which is lent out -/
  | hol (k : Nat) (v : V) (pre post : List D)
  /-- a list of a length -/
  | ln (n : Nat)
abbrev Env := List Cell

abbrev Sg := L2.St
abbrev Foot := Nat → List Addr
def CellOk (K : PySem.W.Frag) (G H : Hp) (A : List Addr) (x : Option (Option V)) : Cell → Prop
  | .un => True
  | .va d => ∃ v, x = some (some v) ∧ Dp K G v d
  | .ow k d => ∃ v, x = some (some v) ∧ Ow K G H k A v d
  | .hol k v pre post => ∃ (p : Addr) (vs ws : List V) (A1 A2 : List Addr), x = some (some (.ref p)) ∧ H p = some (.lst (vs ++ v :: ws)) ∧ A = p :: (A1 ++ A2) ∧ Ows K G H k A1 vs pre ∧ Ows K G H k A2 ws post
  | .ln n => ∃ (p : Addr) (vs : List V), x = some (some (.ref p)) ∧ SqL K G p vs ∧ vs.length = n
theorem CellOk.mono {A : List Addr} {x : Option (Option V)} (g : Same G G') (m : ∀ b ∈ A, ∀ o, H b = some o → H' b = some o) : ∀ {c : Cell}, CellOk K G H A x c → CellOk K G' H' A x c
  | .un, _ => trivial
  | .va _, ⟨v, e, h⟩ => ⟨v, e, Dp.mono g h⟩
  | .ow _ _, ⟨v, e, h⟩ => ⟨v, e, Ow.mono g m h⟩
  | .hol _ _ _ _, ⟨p, vs, ws, A1, A2, e, h, hA, h1, h2⟩ => ⟨p, vs, ws, A1, A2, e, m _ (by rw [hA]; simp) _ h, hA, Ows.mono g (fun b hb => m b (by rw [hA]; simp [hb])) h1, Ows.mono g (fun b hb => m b (by rw [hA]; simp [hb])) h2⟩
  | .ln _, ⟨p, vs, e, h, l⟩ => ⟨p, vs, e, g.seq h, l⟩
/-- no list is too long -/
def lenOk : HO → Prop
  | .lst vs => vs.length ≤ 16777216
  | _ => True
def notFrz : HO → Prop
  | .frz _ _ => False
  | _ => True
/-- the state: what the names hold, by data; F the places owned, by slot; G what is frozen -/
structure En (K : PySem.W.Frag) (σ : Sg) (ρ : Env) (F : Foot) (G H : Hp) : Prop where
  same : Same G H
  len : ρ.length = σ.length
  cell : ∀ (i : Nat) c, ρ[i]? = some c → CellOk K G H (F i) (σ[i]?) c
  nod : ∀ i, (F i).Nodup
  dis : ∀ i j a, a ∈ F i → a ∈ F j → i = j
  out : ∀ i a, a ∈ F i → G a = none
  th : ∀ i a, a ∈ F i → H a ≠ none
  ln : ∀ a o, H a = some o → lenOk o
  fz : ∀ a o vs, G a = some (.frz o (.lst vs)) → vs.length ≤ 16777216
structure Stp (F : Foot) (G H : Hp) (F' : Foot) (G' H' : Hp) : Prop where
  g : Same G G'
  h : ∀ b o, (∀ i, b ∉ F i) → H b = some o → H' b = some o
  nf : ∀ i b, b ∈ F' i → (∃ j, b ∈ F j) ∨ H b = none
  ng : ∀ b, G b = none → G' b ≠ none → (∃ j, b ∈ F j) ∨ H b = none
  th : ∀ b, H b ≠ none → H' b ≠ none
theorem Stp.refl (F : Foot) (G H : Hp) : Stp F G H F G H := ⟨Same.refl _, fun _ _ _ e => e, fun i _ h => .inl ⟨i, h⟩, fun _ n s => absurd n s, fun _ h => h⟩
theorem Stp.trans {F F' F'' : Foot} {G'' H'' : Hp} (a : Stp F G H F' G' H') (b : Stp F' G' H' F'' G'' H'') : Stp F G H F'' G'' H'' where
  g := a.g.trans b.g
  h := fun c o n e => b.h c o (fun i hi => by
    rcases a.nf i c hi with ⟨j, hj⟩ | hn
    · exact n j hj
    · rw [hn] at e; cases e) (a.h c o n e)
  nf := fun i c hc => by
    rcases b.nf i c hc with ⟨j, hj⟩ | hn
    · exact a.nf j c hj
    · refine .inr ?_
      cases q : H c with
      | none => rfl
      | some o => exact absurd hn (a.th c (by rw [q]; simp))
  ng := fun c n s => by
    cases q : G' c with
    | some o => exact a.ng c n (by rw [q]; simp)
    | none =>
      rcases b.ng c q s with ⟨j, hj⟩ | hn
      · exact a.nf j c hj
      · refine .inr ?_
        cases q : H c with
        | none => rfl
        | some o => exact absurd hn (a.th c (by rw [q]; simp))
  th := fun c h => b.th c (a.th c h)
/-- a value with the places that it owns, beside the state -/
structure Res (K : PySem.W.Frag) (F : Foot) (G H : Hp) (F' : Foot) (G' H' : Hp) (k : Nat) (A : List Addr) (v : V) (d : D) : Prop where
  ow : Ow K G' H' k A v d
  nod : A.Nodup
  out : ∀ a ∈ A, G' a = none
  dis : ∀ a ∈ A, ∀ i, a ∉ F' i
  new : ∀ a ∈ A, (∃ j, a ∈ F j) ∨ H a = none
variable {F F' F'' : Foot} {G'' H'' : Hp} {σ : Sg} {ρ : Env}
/-- it stays through a step -/
theorem Res.stp {k : Nat} {A : List Addr} {v : V} {d : D} (r : Res K F G H F' G' H' k A v d) (s : Stp F' G' H' F'' G'' H'') : Res K F G H F'' G'' H'' k A v d where
  ow := Ow.mono s.g (fun b hb o e => s.h b o (r.dis b hb) e) r.ow
  nod := r.nod
  out := fun a ha => by
    cases q : G'' a with
    | none => rfl
    | some o =>
      rcases s.ng a (r.out a ha) (by rw [q]; simp) with ⟨j, hj⟩ | hn
      · exact absurd hj (r.dis a ha j)
      · obtain ⟨vs, e⟩ := Ow.there r.ow a ha
        rw [hn] at e; cases e
  dis := fun a ha i hi => by
    rcases s.nf i a hi with ⟨j, hj⟩ | hn
    · exact r.dis a ha j hj
    · obtain ⟨vs, e⟩ := Ow.there r.ow a ha
      rw [hn] at e; cases e
  new := r.new
theorem Res.from {k : Nat} {A : List Addr} {v : V} {d : D} {F0 : Foot} {G0 H0 : Hp} (s : Stp F0 G0 H0 F G H) (r : Res K F G H F' G' H' k A v d) : Res K F0 G0 H0 F' G' H' k A v d :=
  ⟨r.ow, r.nod, r.out, r.dis, fun a ha => by
    rcases r.new a ha with ⟨j, hj⟩ | hn
    · exact s.nf j a hj
    · refine .inr ?_
      cases q : H0 a with
      | none => rfl
      | some o => exact absurd hn (s.th a (by rw [q]; simp))⟩
/-- frozen data are a result that owns nothing -/
theorem Res.frz {v : V} {d : D} (h : Dp K G' v d) : Res K F G H F' G' H' 0 [] v d := ⟨.frz h, .nil, (fun _ h => nomatch h), (fun _ h => nomatch h), (fun _ h => nomatch h)⟩
theorem En.upto (e : En K σ ρ F G H) (g : Same G G') (h : ∀ i b, b ∈ F i → ∀ o, H b = some o → H' b = some o) (gh : Same G' H') (n : ∀ i a, a ∈ F i → G' a = none) (ln : ∀ a o, H' a = some o → lenOk o) (fz : ∀ a o vs, G' a = some (.frz o (.lst vs)) → vs.length ≤ 16777216) : En K σ ρ F G' H' where
  ln := ln
  fz := fz
  same := gh
  len := e.len
  cell := fun i c hc => CellOk.mono g (fun b hb o q => h i b hb o q) (e.cell i c hc)
  nod := e.nod
  dis := e.dis
  out := n
  th := fun i a ha => by
    cases q : H a with
    | none => exact absurd q (e.th i a ha)
    | some o => rw [h i a ha o q]; simp
theorem fz_grow {A : List Addr} (f : ∀ a o vs, G a = some (.frz o (.lst vs)) → vs.length ≤ 16777216) (th : ∀ a ∈ A, ∃ vs, H a = some (.lst vs)) : ∀ a o vs, grow G H A a = some (.frz o (.lst vs)) → vs.length ≤ 16777216 := fun a o vs q => by
  unfold grow at q
  by_cases h : a ∈ A
  · rw [if_pos h] at q
    obtain ⟨ws, z⟩ := th a h
    rw [z] at q; cases q
  · rw [if_neg h] at q; exact f a o vs q
/-- what a result owns is frozen -/
theorem Res.freeze {k : Nat} {A : List Addr} {v : V} {d : D} (e : En K σ ρ F' G' H') (r : Res K F G H F' G' H' k A v d) :
    Dp K (grow G' H' A) v d ∧ En K σ ρ F' (grow G' H' A) H' ∧ (Stp F G H F' G' H' → Stp F G H F' (grow G' H' A) H') := by
  have g := same_grow (H := H') r.out
  have n : ∀ i a, a ∈ F' i → grow G' H' A a = none := fun i a ha => by
    unfold grow
    rw [if_neg (fun z => r.dis a z i ha)]
    exact e.out i a ha
  refine ⟨Ow.freeze g (fun _ h => h) r.ow, e.upto g (fun _ _ _ _ q => q) (grow_same e.same) n e.ln (fz_grow e.fz fun a ha => Ow.there r.ow a ha), fun s => ⟨s.g.trans g, s.h, s.nf, fun b hb hs => ?_, s.th⟩⟩
  by_cases hA : b ∈ A
  · exact r.new b hA
  · unfold grow at hs
    rw [if_neg hA] at hs
    exact s.ng b hb hs
/-- .. to a depth -/
theorem Res.weak {k m : Nat} {A : List Addr} {v : V} {d : D} (e : En K σ ρ F' G' H') (r : Res K F G H F' G' H' k A v d) (hm : m ≤ k) :
    ∃ A' B, (∀ a ∈ B, a ∈ A) ∧ En K σ ρ F' (grow G' H' B) H' ∧ (Stp F G H F' G' H' → Stp F G H F' (grow G' H' B) H') ∧ Res K F G H F' (grow G' H' B) H' m A' v d := by
  obtain ⟨A', B, h1, h2, h3, h4, h5⟩ := Ow.weak r.ow m hm r.nod r.out
  have g := same_grow (H := H') (fun a ha => r.out a (h2 a ha))
  have n : ∀ i a, a ∈ F' i → grow G' H' B a = none := fun i a ha => by
    unfold grow
    rw [if_neg (fun z => r.dis a (h2 a z) i ha)]
    exact e.out i a ha
  refine ⟨A', B, h2, e.upto g (fun _ _ _ _ q => q) (grow_same e.same) n e.ln (fz_grow e.fz fun a ha => Ow.there r.ow a (h2 a ha)), fun s => ⟨s.g.trans g, s.h, s.nf, fun b hb hs => ?_, s.th⟩, ⟨h5, h4, fun a ha => ?_, fun a ha => r.dis a (h1 a ha), fun a ha => r.new a (h1 a ha)⟩⟩
  · by_cases hB : b ∈ B
    · exact r.new b (h2 b hB)
    · unfold grow at hs
      rw [if_neg hB] at hs
      exact s.ng b hb hs
  · unfold grow
    rw [if_neg (h3 a ha)]
    exact r.out a (h1 a ha)
/-- the foot with another list at a slot -/
def put (F : Foot) (i : Nat) (A : List Addr) : Foot := fun j => if j = i then A else F j
theorem put_same {i : Nat} {A : List Addr} : put F i A i = A := if_pos rfl
theorem put_ne {i j : Nat} {A : List Addr} (h : j ≠ i) : put F i A j = F j := if_neg h
/-- a name's value put in another one's place: a result -/
theorem En.set {k : Nat} {A : List Addr} {v : V} {d : D} {i : Nat} {c : Cell} (e : En K σ ρ F' G' H') (r : Res K F G H F' G' H' k A v d) (hc : c = .un ∨ (k = 0 ∧ c = .va d) ∨ c = .ow k d) :
    En K (σ.set i (some v)) (ρ.set i c) (put F' i A) G' H' where
  ln := e.ln
  fz := e.fz
  same := e.same
  len := by simp [e.len]
  cell := fun j cj hj => by
    by_cases h : i = j
    · subst h
      rw [List.getElem?_set] at hj
      rw [if_pos rfl] at hj
      have hl : i < ρ.length := by
        by_cases q : i < ρ.length
        · exact q
        · rw [if_neg q] at hj; cases hj
      rw [if_pos hl] at hj
      cases hj
      have hs : (σ.set i (some v))[i]? = some (some v) := List.getElem?_set_self (by rw [← e.len]; exact hl)
      rw [hs, put_same]
      rcases hc with rfl | ⟨rfl, rfl⟩ | rfl
      · trivial
      · cases r.ow with
        | frz h => exact ⟨v, rfl, h⟩
      · exact ⟨v, rfl, r.ow⟩
    · rw [List.getElem?_set_ne h] at hj
      rw [List.getElem?_set_ne h, put_ne (Ne.symm h)]
      exact e.cell j cj hj
  nod := fun j => by
    by_cases h : j = i
    · subst h; rw [put_same]; exact r.nod
    · rw [put_ne h]; exact e.nod j
  dis := fun j l a hj hl => by
    by_cases h1 : j = i
    · subst h1
      rw [put_same] at hj
      by_cases h2 : l = j
      · exact h2.symm
      · rw [put_ne h2] at hl; exact absurd hl (r.dis a hj l)
    · rw [put_ne h1] at hj
      by_cases h2 : l = i
      · subst h2
        rw [put_same] at hl; exact absurd hj (r.dis a hl j)
      · rw [put_ne h2] at hl; exact e.dis j l a hj hl
  out := fun j a hj => by
    by_cases h : j = i
    · subst h; rw [put_same] at hj; exact r.out a hj
    · rw [put_ne h] at hj; exact e.out j a hj
  th := fun j a hj => by
    by_cases h : j = i
    · subst h
      rw [put_same] at hj
      obtain ⟨vs, q⟩ := Ow.there r.ow a hj
      rw [q]; simp
    · rw [put_ne h] at hj; exact e.th j a hj
theorem Stp.put {k : Nat} {A : List Addr} {v : V} {d : D} {i : Nat} (s : Stp F G H F' G' H') (r : Res K F G H F' G' H' k A v d) : Stp F G H (Q.put F' i A) G' H' :=
  ⟨s.g, s.h, fun j b hb => by
    by_cases h : j = i
    · subst h; rw [put_same] at hb; exact r.new b hb
    · rw [put_ne h] at hb; exact s.nf j b hb, s.ng, s.th⟩
theorem ln_upd {p : Addr} {o : HO} (l : ∀ a o, H a = some o → lenOk o) (ho : lenOk o) : ∀ a u, upd H p o a = some u → lenOk u := fun a u q => by
  by_cases h : a = p
  · subst h; rw [upd_same] at q; cases q; exact ho
  · rw [upd_ne h] at q; exact l a u q
theorem En.lenL {a : Addr} {vs : List V} (e : En K σ ρ F G H) (h : SqL K G a vs) : vs.length ≤ 16777216 := by
  rcases h with (h | ⟨o, h⟩) | ⟨o, its, n, _, _, _, _, hs, r⟩
  · exact e.ln a _ (e.same _ _ h)
  · exact e.fz a _ _ h
  · rw [r.length, Array.length_toList]; rw [sizeLine_eq] at hs; exact hs
/-- a new object that is frozen at once -/
theorem En.laid {p : Addr} {o : HO} (e : En K σ ρ F G H) (hp : H p = none) (ho : lenOk o) (hf : notFrz o) : En K σ ρ F (upd G p o) (upd H p o) ∧ Stp F G H F (upd G p o) (upd H p o) := by
  have hg : G p = none := e.same.free hp
  have sg : Same G (upd G p o) := fun b u q => by rw [upd_ne (ne_of_none q hg)]; exact q
  have sh : ∀ b u, H b = some u → upd H p o b = some u := fun b u q => by rw [upd_ne (ne_of_none q hp)]; exact q
  have gh : Same (upd G p o) (upd H p o) := fun b u q => by
    by_cases h : b = p
    · subst h; rw [upd_same] at q ⊢; exact q
    · rw [upd_ne h] at q ⊢; exact e.same b u q
  have n : ∀ i a, a ∈ F i → upd G p o a = none := fun i a ha => by
    rw [upd_ne (fun z => e.th i a ha (by rw [z]; exact hp))]
    exact e.out i a ha
  refine ⟨e.upto sg (fun _ b _ u q => sh b u q) gh n (ln_upd e.ln ho) (fun a ob vs q => by
    by_cases h : a = p
    · subst h; rw [upd_same] at q; cases q; exact hf.elim
    · rw [upd_ne h] at q; exact e.fz a ob vs q), ⟨sg, fun b u _ q => sh b u q, fun i b h => .inl ⟨i, h⟩, fun b hb hs => ?_, fun b hb => ?_⟩⟩
  · by_cases h : b = p
    · rw [h]; exact .inr hp
    · rw [upd_ne h] at hs; exact absurd hb hs
  · by_cases h : b = p
    · rw [h, upd_same]; simp
    · rw [upd_ne h]; exact hb
/-- a new object that stands beside -/
theorem En.beside {p : Addr} {o : HO} (e : En K σ ρ F G H) (hp : H p = none) (ho : lenOk o) : En K σ ρ F G (upd H p o) ∧ Stp F G H F G (upd H p o) := by
  have sh : ∀ b u, H b = some u → upd H p o b = some u := fun b u q => by rw [upd_ne (ne_of_none q hp)]; exact q
  refine ⟨e.upto (Same.refl _) (fun _ b _ u q => sh b u q) (fun b u q => sh b u (e.same b u q)) e.out (ln_upd e.ln ho) e.fz, ⟨Same.refl _, fun b u _ q => sh b u q, fun i b h => .inl ⟨i, h⟩, fun b hb hs => absurd hb hs, fun b hb => ?_⟩⟩
  by_cases h : b = p
  · rw [h, upd_same]; simp
  · rw [upd_ne h]; exact hb
end Q

/-! ## Calls where no text of a list is under way (so that str may show lists) -/
namespace Q
open PySem PySem.Spec PyProof.Rows L2

/-- a def keeps its promise wherever nothing is being shown -/
structure FnG (P : Program) (w : World) (K : PySem.W.Frag) (mg : Str → Option Value) (base : Heap) (CX : CXT) (k : Nat) (f : Addr) (fd : FuncData) (ps : List Str) (sp : Sp) : Prop where
  len : ∀ vs H Q E, sp vs H Q E → vs.length = ps.length
  go : ∀ (A : Around), A.guards = some [] → Room k A → ∀ (outer : List PySem.Env) (s : Shared) (H : Hp), Env0 P w K mg base A outer s H → ∀ (args : Args) (us : List Value) (vs : List V) (Q : VK) (E : XK), BindsTo s fd args (ps.zip us) → Vals vs us → sp vs H Q E →
    codeAny (model P w) A (.call (.ref f) args) (CR CX outer P w H s Q E) s
section
variable {P : Program} {w : World} {K : PySem.W.Frag} {mg : Str → Option Value} {base : Heap} {CX : CXT} {k : Nat} {f : Addr} {fd : FuncData} {ps : List Str} {sp : Sp}
theorem FnG.ofOk (F : FnOk P w K mg base CX k f fd ps sp) : FnG P w K mg base CX k f fd ps sp :=
  ⟨F.len, fun A _ r outer s H e args us vs Q E => F.run A outer s H args us vs Q E r e⟩
theorem FnG.mono {j : Nat} (F : FnG P w K mg base CX j f fd ps sp) (h : j ≤ k) : FnG P w K mg base CX k f fd ps sp :=
  ⟨F.len, fun A g r => F.go A g (r.mono h)⟩
theorem FnG.imp {sp' : Sp} (F : FnG P w K mg base CX k f fd ps sp) (h : ∀ vs H Q E, sp' vs H Q E → sp vs H Q E) : FnG P w K mg base CX k f fd ps sp' :=
  ⟨fun vs H Q E q => F.len vs H Q E (h _ _ _ _ q), fun A g r outer s H e args us vs Q E b v q => F.go A g r outer s H e args us vs Q E b v (h _ _ _ _ q)⟩
end
/-- f(e, ..) -/
theorem pe_callG {X : Cx} {CX : CXT} {k : Nat} {f : Addr} {fd : FuncData} {ps : List Str} {sp : Sp} {E : L2.St → XK} {x : Str} {p pos : Pos} {e : Expr} {es : List Expr} {t : TA}
    (F : FnG X.prog X.w X.K X.mg X.base CX k f fd ps sp) (hG : X.A.guards = some []) (hr : Room k X.A) (hgl : Gl X x) (hmg : X.mg x = some (.ref f)) (hkeep : PySem.W.keepIn X.K (.ref f) = true) (hbi : Binds X.K fd ps [])
    (hpass : ∀ σ, L2.PassesAt CX X σ (E σ)) (hargs : PA X (e :: es) t) (hdb : (x == ("__debug__" : Str)) = false) (hst : starEach (e :: es) X.env = (false, eval e X.env) :: starEach es X.env) (hpl : (backTo pos (starEach es X.env)).any (·.1) = false) :
    PE X (.Call (.Name x p) (e :: es) [] pos) (L2.tCallS sp E t) := by
  constructor
  intro pins s σ H Q I h
  refine wpAny_Call_Name_kw (ld_glob I hgl hmg ?_ hdb)
  refine PySem.W.callWith_K (h₀ := X.base) I.ok.mod.kin hkeep (thn (hargs.run pos pins s σ H _ I h) fun us s1 hh => ?_) hst hpl
  obtain ⟨vs, H1, I1, rv, q⟩ := hh
  refine ⟨I1.kIn, ?_⟩
  have hlen : us.length = ps.length := (rv.length.symm).trans (F.len _ _ _ _ q)
  have hbind := hbi s1 us I1.kIn (by simpa using hlen)
  simp only [List.append_nil] at hbind
  refine wpAny_call (codeAny_mono (F.go X.A hG hr X.stack s1 H1 I1.env0 ⟨us, []⟩ us vs Q (E σ) hbind rv q) ?_)
  rintro (e | fl) s2 hq
  · exact hpass σ pins H1 s1 e s2 I1 hq
  · cases fl <;> first | exact I1.after hq | exact (hq : False).elim
/-- a def of the text, by its body -/
theorem fnG_of {CX : CXT} {P : Program} {w : World} {K : PySem.W.Frag} {mg : Str → Option Value} {base : Heap} {k : Nat} {f : Addr} {nm qn : Str} {params : Arguments} {bd : List Stmt} {scp : Scope} {dV kV doc pm cdv ct oc : Value} {an od : Option Addr}
    {osl : Array (Option Value)} {N ps : List Str} {sp : Sp} (hlk : K.lookup f = some ⟨oc, od, .func (PySem.W.fnOf nm qn params bd scp dV kV doc pm an cdv ct), osl⟩) (hcode : PySem.W.codeIn K cdv qn = true) (S : FnScope N ps scp)
    (hlen : ∀ vs H Q E, sp vs H Q E → vs.length = ps.length)
    (hb : ∀ (A : Around) (outer : List PySem.Env) (s : Shared) (H : Hp) (vs : List V) (Q : VK) (E : XK), A.guards = some [] → Room k (A.deeper (envOfC qn scp s.heap.objs.size f cdv)) → sp vs H Q E →
      ∃ t, PSs (cxOf CX P w K mg base N qn scp f cdv A outer s H E) bd t ∧ t { nx := fun _ H' => Q .non H', rt := Q } (L2.start N vs) H) :
    FnG P w K mg base CX (k + 1) f (PySem.W.fnOf nm qn params bd scp dV kV doc pm an cdv ct) ps sp := by
  constructor
  · exact hlen
  intro A hG hroom outer s H env args us vs Q E hbd rv hsp
  have hvl := hlen _ _ _ _ hsp
  have there : K.In s.heap := env.mod.kin.keeps fun c z e => (env.bs c z e).1
  have limit : s.heap.NoLimit := env.mod.nolimit.keeps fun c z e => (env.bs c z e).1
  refine codeAny_call_function hroom.depth (there _ _ hlk) rfl S.co S.gen rfl (PySem.W.codeRec_of there hcode) (hbd _ _ _ _ ?_)
  refine wpAny_newFunctionEnv_cells S.kind (fun pr hpr => ?_) fun en hen s1 x => ?_
  · obtain ⟨y, v⟩ := pr
    cases S.par y (List.of_mem_zip hpr).1 with
    | inl q => exact .inl q
    | inr q => exact .inr ⟨q, PySem.W.cellsFrom_some _ _ _ (.inl q)⟩
  subst hen
  refine ⟨limit.keeps x.toInCall.keep, codeAny_func ?_⟩
  obtain ⟨t, pt, ht⟩ := hb A outer s H vs Q E hG (hroom.deeper _) hsp
  refine wpAny_mono (pt.run [] s1 (L2.start N vs) H _ (inv_start S hroom.hd env hvl rv x) ht) ?_ fun _ _ z => z
  rintro (_ | u | _ | _) s2 h
  all_goals first
    | (obtain ⟨σ2, H2, J, q⟩ := h; exact ⟨.non, H2, J.os, J.bare, J.base, J.hok, rfl, q⟩)
    | (obtain ⟨v, σ2, H2, J, r2, q⟩ := h; exact ⟨v, H2, J.os, J.bare, J.base, J.hok, r2, q⟩)
    | (obtain ⟨_, _, _, q⟩ := h; exact (q : False).elim)
/-- the law's own call, in a heap in which the script alone may be tracked -/
theorem callG_in {P : Program} {w : World} {K : PySem.W.Frag} {mg mb : Str → Option Value} {CX : CXT} {k : Nat} {fa a : Addr} {fd : FuncData} {x : Str} {sp : Sp} {s1 : Shared} {its : List Value} {H : Hp}
    (inK : K.In s1.heap) (nsG : s1.heap.Ns mainGlobals mg) (nsB : s1.heap.Ns builtinsNs mb) (bt : ∀ y : Str, y ≠ "__name__" → mb y = bootBuiltins y) (nl : s1.heap.NoLimit) (noG : s1.gens = #[])
    (scr : s1.heap.get? a = some { cls := .type "list", data := .seq its.toArray }) (room : Room k callerA)
    (F : ∀ base : Heap, K.In base → base.Ns mainGlobals mg → FnG P w K mg base CX k fa fd [x] sp) (bnd : ∀ (s : Shared) (u : Value), BindsTo s fd ⟨[u], []⟩ [(x, u)])
    (noX : ∀ H e s', CX [] H s1 (fun _ _ _ => False) e s' → False)
    (only : Only H) (ok : HOk P w H s1.heap) (atA : ∀ b, H b ≠ none → b = a) (notK : H a ≠ none → K.lookup a = none) (prom : sp [.ref a] H (fun v _ => v = .bl true) fun _ _ _ => False) :
    codeAny (model P w) callerA (.call (.ref fa) ⟨[.ref a], []⟩) (fun r s' => r = .ok (.ret (.bool true)) ∧ OldK s1.heap s'.heap ∧ s'.os = s1.os ∧ AllBare s'.gens) s1 := by
  have low : ∀ {b : Addr} {o : Obj}, s1.heap.get? b = some o → H b = none → (hidT s1.heap H).get? b = some o := hidT_get
  -- a tracked place is the script's, so it is no dict's and none of the module's own
  have free : ∀ {b : Addr} {o : Obj}, s1.heap.get? b = some o → (b = a → H a ≠ none → False) → H b = none := fun {b o} _ no => by
    by_cases z : H b = none
    · exact z
    · have hb := atA b z
      exact (no hb (hb ▸ z)).elim
  have dict : ∀ {b : Addr} {o : Obj} {es : Array DictEntry} {ep : Nat}, s1.heap.get? b = some o → o.data = .dict es ep → H b = none := fun {b o es ep} e d => free e fun hb _ => by
    subst hb
    rw [scr] at e
    cases e
    exact absurd (show Data.seq its.toArray _ = Data.dict es ep from d) (by simp)
  have ns : ∀ {b : Addr} {m : Str → Option Value}, s1.heap.Ns b m → (hidT s1.heap H).Ns b m := fun {b m} h => by
    obtain ⟨o, es, ep, e, d, r⟩ := h
    exact ⟨o, es, ep, low e (dict e d), d, r⟩
  have inK2 : K.In (hidT s1.heap H) := fun b o e => low (inK b o e) (free (inK b o e) fun hb z => by
    subst hb
    rw [notK z] at e
    cases e)
  have md : Mod K mg (hidT s1.heap H) := ⟨inK2, ns nsG, ⟨mb, ns nsB, bt⟩, by obtain ⟨mc, h1, h2⟩ := nl; exact ⟨mc, ns h1, h2⟩⟩
  have env : Env0 P w K mg (hidT s1.heap H) callerA [] s1 H := ⟨rfl, md, fun _ _ => of_hidT, Nat.le_of_eq (hidT_size _ _), trivial, (fun _ hb => nomatch hb), ok, .of_eq noG⟩
  have run := (F _ inK2 (ns nsG)).go callerA rfl room [] s1 H env ⟨[.ref a], []⟩ [.ref a] [.ref a] _ _ (bnd s1 (.ref a)) (.cons rfl .nil) prom
  refine codeAny_mono run ?_
  rintro (e | fl) s2 h
  · exact (noX H e s2 h).elim
  · cases fl with
    | ret u =>
      obtain ⟨v, H2, os, bare, un, ok2, rv, rfl⟩ := h
      obtain rfl : u = Value.bool true := rv
      refine ⟨rfl, OldK.of_keep fun b o e => ?_, os, bare⟩
      rcases only b with z | ⟨ob, xs, z⟩
      · exact un.keep b o e z (fun hz => nomatch hz) (by simp)
      · obtain ⟨e1, _⟩ := ok b _ z
        obtain ⟨e2, _⟩ := ok2 b _ (un.frzs b ob _ z)
        rw [e] at e1
        cases e1
        exact e2
    | next => exact (h : False).elim
    | brk => exact (h : False).elim
    | cont => exact (h : False).elim
theorem callG {P : Program} {w : World} {K : PySem.W.Frag} {mg mb : Str → Option Value} {CX : CXT} {k : Nat} {fa a : Addr} {fd : FuncData} {x : Str} {sp : Sp} {s1 : Shared} {its : List Value} {ns : List Int}
    (inK : K.In s1.heap) (nsG : s1.heap.Ns mainGlobals mg) (nsB : s1.heap.Ns builtinsNs mb) (bt : ∀ y : Str, y ≠ "__name__" → mb y = bootBuiltins y) (nl : s1.heap.NoLimit) (noG : s1.gens = #[])
    (scr : s1.heap.get? a = some { cls := .type "list", data := .seq its.toArray }) (arI : IntsAre its ns) (few : ns.length ≤ sizeLine) (room : Room k callerA)
    (F : ∀ base : Heap, K.In base → base.Ns mainGlobals mg → FnG P w K mg base CX k fa fd [x] sp) (bnd : ∀ (s : Shared) (u : Value), BindsTo s fd ⟨[u], []⟩ [(x, u)])
    (noX : ∀ H e s', CX [] H s1 (fun _ _ _ => False) e s' → False)
    (prom : ∀ H : Hp, Only H → SqL K H a (ns.map V.int) → sp [.ref a] H (fun v _ => v = .bl true) fun _ _ _ => False) :
    codeAny (model P w) callerA (.call (.ref fa) ⟨[.ref a], []⟩) (fun r s' => r = .ok (.ret (.bool true)) ∧ OldK s1.heap s'.heap ∧ s'.os = s1.os ∧ AllBare s'.gens) s1 := by
  have rv := vals_ints arI
  have hl := arI.length
  by_cases hk : K.lookup a = none
  · let H : Hp := fun b => if b = a then some (.frz { cls := .type "list", data := .seq its.toArray } (.lst (ns.map V.int))) else none
    have hA : H a = some (.frz { cls := .type "list", data := .seq its.toArray } (.lst (ns.map V.int))) := if_pos rfl
    have hN : ∀ b, b ≠ a → H b = none := fun b z => if_neg z
    have only : Only H := fun b => by
      by_cases z : b = a
      · subst z; exact .inr ⟨_, _, hA⟩
      · exact .inl (hN b z)
    refine callG_in (H := H) inK nsG nsB bt nl noG scr room F bnd noX only (fun b u z => ?_) (fun b z => ?_) (fun _ => hk) (prom H only (.inl (.inr ⟨_, hA⟩)))
    · by_cases q : b = a
      · subst q
        rw [hA] at z
        cases z
        exact ⟨scr, by rw [List.length_map]; exact few, its, _, rv, scr⟩
      · rw [hN b q] at z
        cases z
    · exact Classical.byContradiction fun q => z (hN b q)
  · obtain ⟨o, ho⟩ := Option.ne_none_iff_exists'.mp hk
    have e := inK a o ho
    rw [scr] at e
    cases e
    have only : Only fun _ => none := fun _ => .inl rfl
    refine callG_in (H := fun _ => none) inK nsG nsB bt nl noG scr room F bnd noX only (fun b u z => nomatch z) (fun b z => absurd rfl z) (fun z => absurd rfl z) (prom _ only (.inr ⟨_, its.toArray, _, ho, rfl, rfl, rfl, by simpa [hl] using few, by simpa using rv⟩))
theorem walkG {l : PySem.W.OpenLaw} {n k : Nat} {q : Program} {loose : List Str} {XP : (Str → Option Value) → Heap → Prop} {YP : World → Heap → Prop} {d : DefRec} {K : Params → PySem.W.Frag} {CX : World → CXT} {sp : World → Sp} {x : Str}
    (most : l.most = some n) (small : n ≤ sizeLine) (nodef : d.params.defaults = []) (room : Room k callerA) (hY : ∀ (w : World) (h : Heap), YP w h → (K w.params).In h)
    (F : ∀ (w : World) (mg : Str → Option Value) (fa : Addr) (h : Heap), (K w.params).In h → h.Ns mainGlobals mg → mg d.name = some (.ref fa) → ∃ fd : FuncData, (∀ (s : Shared) (u : Value), BindsTo s fd ⟨[u], []⟩ [(x, u)]) ∧
      ∀ base : Heap, (K w.params).In base → base.Ns mainGlobals mg → FnG l.prog w (K w.params) mg base (CX w) k fa fd [x] (sp w))
    (prom : ∀ (w : World) (H : Hp) (a : Addr) (ns : List Int), ns.length ≤ n → (∀ z ∈ ns, Builtin.Int.intBits z ≤ 1048576) → Only H → SqL (K w.params) H a (ns.map V.int) → sp w [.ref a] H (fun v _ => v = .bl true) fun _ _ _ => False)
    (noX : ∀ (w : World) (H : Hp) (s : Shared) (e : Value) (s' : Shared), CX w [] H s (fun _ _ _ => False) e s' → False) : PySem.W.WalkO q loose XP YP l.row.toRowW d [] (fun f vs => PySem.call f vs) := by
  refine Att.attach_callB most nodef fun w _ s1 mg _ fa _ _ _ _ a its ns G Y _ _ _ hmg scr arI few bits noG => ?_
  obtain ⟨fd, bnd, hF⟩ := F w mg fa _ (hY w _ Y) G.T.g hmg
  exact callG (hY w _ Y) G.T.g G.T.b G.T.builtins G.T.nolimit noG scr arI (Nat.le_trans few small) room hF bnd (fun H e s' => noX w H s1 e s') fun H only sq => prom w H a ns few bits only sq
end Q

/-! ## A small language and what it does to data -/
namespace Q
open PySem PySem.Spec PyProof.Rows L2

/-- built-in functions by values -/
inductive Bi where
  | len | abs | mn | mx | int | any | all | str
  deriving DecidableEq
inductive Ty where
  | int | bool | str | list | tuple
  deriving DecidableEq
mutual
inductive Tg where
  | nm (i : Nat)
  | tp (ts : Tgs)
inductive Tgs where
  | nil
  | cons (t : Tg) (ts : Tgs)
end
mutual
inductive E where
  | var (i : Nat)
  | mv (i k : Nat)
  | int (n : Int) | bl (b : Bool) | non | str (x : Str)
  | op (o : Operator) (a b : E)
  | neg (a : E)
  | cmp (o : CmpOp) (a b : E)
  | chn (o o' : CmpOp) (a b c : E)
  /-- whether two texts are the same, or not -/
  | cmps (neg : Bool) (a b : E)
  | and (a b : E) | or (a b : E) | not (a : E)
  | ite (c a b : E)
  | tup (es : Es)
  | lst (k : Nat) (es : Es)
  | ix (a b : E)
  | pk (i : Nat) (b : E)
  | lenv (i : Nat)
  | call (f rk : Nat) (es : Es)
  | callr (f rk i : Nat) (es : Es)
  | blt (b : Bi) (es : Es)
  | isi (a : E) (t : Ty)
  | comp (k : Nat) (own : List Nat) (tg : Tg) (it : It) (ifs : Os) (elt : E)
  | cat (k : Nat) (a b : E)
  /-- all that is owned is looked at as if it were frozen -/
  | lend (e : E)
  /-- a new list times a whole number -/
  | rep (a b : E)
  | lof (e : E)
  /-- str of a list or a tuple -/
  | shw (e : E)
  | tof (e : E)
  /-- a list's first place of a thing -/
  | idx (a b : E)
  | cnt (a b : E)
  /-- in, not in a list or a tuple -/
  | inn (neg : Bool) (a b : E)
  /-- a part of a list -/
  | slc (a : E) (lo hi : Os)
  /-- a module's own constant -/
  | gl (x : Str) (d : D)
  | mm3 (mx : Bool) (es : Es)
inductive Es where
  | nil
  | cons (e : E) (es : Es)
inductive Os where
  | none
  | some (e : E)
inductive It where
  | lst (e : E)
  | tup (e : E)
  | rng (e : E)
  | rng2 (a b : E)
  | enum (e : E)
  | zip (a b : E)
end
/-- to which depth the value of an expression owns its lists -/
def E.dep : E → Nat
  | .mv _ k => k
  | .lst k _ => k + 1
  | .call _ rk _ => rk
  | .callr _ rk _ _ => rk
  | .comp k _ _ _ _ _ => k + 1
  | .cat k _ _ => k + 1
  | .lend e => e.dep
  | .rep _ _ => 1
  | .lof _ => 1
  | .slc _ _ _ => 1
  | _ => 0
mutual
inductive S where
  | set (i : Nat) (e : E)
  | seto (i k : Nat) (e : E)
  | par (i j : Nat) (a b : E)
  | unp (ts : Tgs) (e : E)
  | ret (e : E)
  | expr (e : E)
  | ite (c : E) (a b : Ss)
  | whl (c : E) (b : Ss)
  | for (tg : Tg) (it : It) (b : Ss)
  | pass | cont | brk
  | app (i : Nat) (e : E)
  | sti (i : Nat) (b e : E)
  | never
  | raise (x m : Str)
  /-- a store at a path of places, of what is owned to a depth -/
  | stp (i q : Nat) (bs : Es) (b e : E)
  /-- a store at a path of a whole number more or less -/
  | aug (i : Nat) (bs : Es) (b : E) (o : Operator) (e : E)
  /-- a loop over an owned list, its items lent one by one -/
  | forb (en : Option Nat) (x i : Nat) (b : Ss)
  | ext (i : Nat) (e : E)
  /-- a loop over a new list of owned lists -/
  | forl (x k : Nat) (e : E) (b : Ss)
  /-- a name's whole number changed -/
  | augv (i : Nat) (o : Operator) (e : E)
inductive Ss where
  | nil
  | cons (s : S) (ss : Ss)
end

/-- an exception, by its class's name -/
abbrev XD := Str
abbrev Px := Env → XD → Prop
/-- a def's promise: the arguments, what is wanted of the value and of what the first argument has become, of an exception -/
abbrev FSp := List D → (D → D → Prop) → (D → XD → Prop) → Prop
structure Sig where
  name : Str
  /-- the depth to which the first argument is owned -/
  own : Option Nat
  np : Nat
  rk : Nat
structure Ent where
  sig : Sig
  sp : FSp

/-! ### operators by data -/
def opD : Operator → D → D → (D → Prop) → Prop
  | .Add, .int i, .int j, k => k (.int (i + j))
  | .Add, .str x, .str y, k => x.length + y.length ≤ sizeLine ∧ k (.str (x ++ y))
  | .Sub, .int i, .int j, k => k (.int (i - j))
  | .Mult, .int i, .int j, k => IntMulOk i j ∧ k (.int (i * j))
  | .FloorDiv, .int i, .int j, k => j ≠ 0 ∧ Builtin.divisionGoesByPylong i j = false ∧ k (.int (i.fdiv j))
  | .Mod, .int i, .int j, k => j ≠ 0 ∧ k (.int (i.fmod j))
  | .Pow, .int i, .int j, k => 0 ≤ j ∧ (Builtin.Int.intBits i : Int) * j ≤ 2 ^ 27 ∧ k (.int (i ^ j.toNat))
  | _, _, _, _ => False
def cmpD : CmpOp → D → D → (D → Prop) → Prop
  | .Lt, .int i, .int j, k => k (.bool (decide (i < j)))
  | .LtE, .int i, .int j, k => k (.bool (decide (i ≤ j)))
  | .Gt, .int i, .int j, k => k (.bool (decide (j < i)))
  | .GtE, .int i, .int j, k => k (.bool (decide (j ≤ i)))
  | .Eq, x, y, k => SeqAt.shaped x = true ∧ SeqAt.shaped y = true ∧ k (.bool (PyData.eqv x y))
  | .NotEq, x, y, k => SeqAt.shaped x = true ∧ SeqAt.shaped y = true ∧ k (.bool (!PyData.eqv x y))
  | .Is, .none, .none, k => k (.bool true)
  | .Is, .bool _, .none, k => k (.bool false)
  | .Is, .int _, .none, k => k (.bool false)
  | .Is, .str _, .none, k => k (.bool false)
  | .Is, .list _, .none, k => k (.bool false)
  | .Is, .tuple _, .none, k => k (.bool false)
  | .IsNot, .none, .none, k => k (.bool false)
  | .IsNot, .bool _, .none, k => k (.bool true)
  | .IsNot, .int _, .none, k => k (.bool true)
  | .IsNot, .str _, .none, k => k (.bool true)
  | .IsNot, .list _, .none, k => k (.bool true)
  | .IsNot, .tuple _, .none, k => k (.bool true)
  | _, _, _, _ => False
def cmpsD (neg : Bool) : D → D → (D → Prop) → Prop
  | .str s, .str t, k => k (.bool (xor neg (decide (s = t))))
  | _, _, _ => False
def ixR : D → D → (D → Prop) → Prop
  | .list ds, .int i, k => ∃ d, atI ds i = some d ∧ k d
  | .tuple ds, .int i, k => ∃ d, atI ds i = some d ∧ k d
  | _, _, _ => False
@[irreducible] def ixD (x y : D) (k : D → Prop) : Prop := ixR x y k
theorem ixD_r {x y : D} {k : D → Prop} (h : ixD x y k) : ixR x y k := by unfold ixD at h; exact h
theorem ixD_i {x y : D} {k : D → Prop} (h : ixR x y k) : ixD x y k := by unfold ixD; exact h
def bltD : Bi → List D → (D → Prop) → Prop
  | .len, [.list ds], k => k (.int ds.length)
  | .len, [.tuple ds], k => k (.int ds.length)
  | .abs, [.int i], k => k (.int (if i < 0 then -i else i))
  | .mn, [.int i, .int j], k => k (.int (if j < i then j else i))
  | .mx, [.int i, .int j], k => k (.int (if j > i then j else i))
  | .int, [.int i], k => k (.int i)
  | .int, [.bool b], k => k (.int (if b then 1 else 0))
  | .str, [.int i], k => i.natAbs.log2 < 1920 ∧ k (.str (toString i))
  | .str, [.str x], k => k (.str x)
  | .any, [.list ds], k => ∃ bs : List Bool, ds = bs.map PyData.bool ∧ k (.bool (bs.any id))
  | .all, [.list ds], k => ∃ bs : List Bool, ds = bs.map PyData.bool ∧ k (.bool (bs.all id))
  | _, _, _ => False
def isiD : D → Ty → Option Bool
  | .none, _ => some false
  | .bool _, .int => some true
  | .bool _, .bool => some true
  | .bool _, _ => some false
  | .int _, .int => some true
  | .int _, _ => some false
  | .str _, .str => some true
  | .str _, _ => some false
  | .list _, .list => some true
  | .list _, _ => some false
  | .tuple _, .tuple => some true
  | .tuple _, _ => some false
  | .dict _, _ => none

/-- without a list or a dict within -/
def noL : D → Bool
  | .none => true
  | .bool _ => true
  | .int _ => true
  | .str _ => true
  | .tuple ds => noLs ds
  | .list _ => false
  | .dict _ => false
where noLs : List D → Bool
  | [] => true
  | d :: ds => noL d && noLs ds
/-- down to a depth lists, below it nothing that has a list in it -/
def leaf : Nat → D → Bool
  | 0, d => noL d
  | k + 1, .list ds => ds.all (leaf k)
  | _ + 1, .none => true
  | _ + 1, .bool _ => true
  | _ + 1, .int _ => true
  | _ + 1, .str _ => true
  | _ + 1, _ => false
def lentC : Cell → Cell
  | .un => .un
  | .va d => .va d
  | .ow _ d => .va d
  | .hol _ _ pre post => .ln (pre.length + (1 + post.length))
  | .ln n => .ln n
def lent (ρ : Env) : Env := ρ.map lentC
def pget : D → List D → Option D
  | d, [] => some d
  | .list ds, .int i :: is => match ixN ds.length i with
    | some m => match ds[m]? with
      | some d => pget d is
      | none => none
    | none => none
  | _, _ => none
def pset : D → List D → D → Option D
  | _, [], x => some x
  | .list ds, .int i :: is, x => match ixN ds.length i with
    | some m => match ds[m]? with
      | some d => match pset d is x with
        | some d' => some (.list (ds.set m d'))
        | none => none
      | none => none
    | none => none
  | _, _, _ => none
def augI : Operator → Int → Int → Option Int
  | .Add, i, j => some (i + j)
  | .Sub, i, j => some (i - j)
  | _, _, _ => none
def intsD : List D → Prop
  | [] => True
  | .int _ :: ds => intsD ds
  | _ => False
def inD : D → D → (Bool → Prop) → Prop
  | x, .list ds, k => SeqAt.shaped x = true ∧ SeqAt.shaped (.list ds) = true ∧ k (ds.any fun z => PyData.eqv z x)
  | .int i, .tuple ds, k => ∃ ns : List Int, ds = ns.map PyData.int ∧ k (decide (i ∈ ns))
  | _, _, _ => False
def repR : D → D → (D → Prop) → Prop
  | .list ds, .int n, k => -(2 ^ 63) ≤ n ∧ n < 2 ^ 63 ∧ ds.length * n.toNat ≤ 16777216 ∧ k (.list (List.replicate n.toNat ds).flatten)
  | _, _, _ => False
@[irreducible] def repD (x y : D) (k : D → Prop) : Prop := repR x y k
theorem repD_r {x y : D} {k : D → Prop} (h : repD x y k) : repR x y k := by unfold repD at h; exact h
theorem repD_i {x y : D} {k : D → Prop} (h : repR x y k) : repD x y k := by unfold repD; exact h
def lofR : D → (D → Prop) → Prop
  | .list ds, k => k (.list ds)
  | .tuple ds, k => ds.length ≤ 16777216 ∧ k (.list ds)
  | _, _ => False
@[irreducible] def lofD (x : D) (k : D → Prop) : Prop := lofR x k
theorem lofD_r {x : D} {k : D → Prop} (h : lofD x k) : lofR x k := by unfold lofD at h; exact h
theorem lofD_i {x : D} {k : D → Prop} (h : lofR x k) : lofD x k := by unfold lofD; exact h
/-- what str can show -/
def ShwOk (d : D) : Prop := d.showable = true ∧ d.hasDict = false ∧ d.depth ≤ 60 ∧ d.shown.length ≤ sizeLine
def isSq : D → Bool
  | .list _ => true
  | .tuple _ => true
  | _ => false
def shwD (x : D) (k : D → Prop) : Prop := isSq x = true ∧ ShwOk x ∧ k (.str x.shown)
def tofD : D → (D → Prop) → Prop
  | .list ds, k => k (.tuple ds)
  | .tuple ds, k => k (.tuple ds)
  | _, _ => False
def idxR : D → D → (D → Prop) → Prop
  | .list ds, x, k => SeqAt.shaped (.list ds) = true ∧ SeqAt.shaped x = true ∧ ∃ j z, ds[j]? = some z ∧ PyData.eqv z x = true ∧ (∀ m z', m < j → ds[m]? = some z' → PyData.eqv z' x = false) ∧ k (.int (j : Nat))
  | _, _, _ => False
@[irreducible] def idxD (x y : D) (k : D → Prop) : Prop := idxR x y k
theorem idxD_r {x y : D} {k : D → Prop} (h : idxD x y k) : idxR x y k := by unfold idxD at h; exact h
theorem idxD_i {x y : D} {k : D → Prop} (h : idxR x y k) : idxD x y k := by unfold idxD; exact h
def cntD : D → D → (D → Prop) → Prop
  | .list ds, x, k => SeqAt.shaped (.list ds) = true ∧ SeqAt.shaped x = true ∧ k (.int ((ds.countP fun z => PyData.eqv z x) : Nat))
  | _, _, _ => False
def slcR : D → Option Int → Option Int → (D → Prop) → Prop
  | .list ds, a, b, k => k (.list ((ds.drop (HT.sIx ds.length 0 a)).take (HT.sIx ds.length ds.length b - HT.sIx ds.length 0 a)))
  | _, _, _, _ => False
@[irreducible] def slcD (x : D) (a b : Option Int) (k : D → Prop) : Prop := slcR x a b k
theorem slcD_r {x : D} {a b : Option Int} {k : D → Prop} (h : slcD x a b k) : slcR x a b k := by unfold slcD at h; exact h
theorem slcD_i {x : D} {a b : Option Int} {k : D → Prop} (h : slcR x a b k) : slcD x a b k := by unfold slcD; exact h
def max3 (i j l : Int) : Int := if (if i < j then j else i) < l then l else (if i < j then j else i)
def min3 (i j l : Int) : Int := if l < (if j < i then j else i) then l else (if j < i then j else i)
def mm3D (mx : Bool) : List D → (D → Prop) → Prop
  | [.int i, .int j, .int l], k => k (.int (if mx then max3 i j l else min3 i j l))
  | _, _ => False

/-! ### stores -/
mutual
def asg : Tg → D → Env → (Env → Prop) → Prop
  | .nm i, d, ρ, k => k (ρ.set i (.va d))
  | .tp ts, .tuple ds, ρ, k => asgs ts ds ρ k
  | .tp ts, .list ds, ρ, k => asgs ts ds ρ k
  | .tp _, _, _, _ => False
def asgs : Tgs → List D → Env → (Env → Prop) → Prop
  | .nil, [], ρ, k => k ρ
  | .cons t ts, d :: ds, ρ, k => asg t d ρ fun ρ1 => asgs ts ds ρ1 k
  | _, _, _, _ => False
end
/-- the slots of a comprehension's own names forgotten, and put back -/
def wip (ρ : Env) : List Nat → Env
  | [] => ρ
  | i :: is => (wip ρ is).set i .un
def plainC : Cell → Bool
  | .un => true
  | .va _ => true
  | _ => false
def notOw (ρ : Env) (is : List Nat) : Prop := is.all (fun i => plainC (ρ.getD i .un)) = true
def back (ρ ρ' : Env) : List Nat → Env
  | [] => ρ'
  | i :: is => (back ρ ρ' is).set i (ρ.getD i .un)
/-- one of two, by a truth value -/
@[irreducible] def sel (t : Bool) (A B : Prop) : Prop := if t = true then A else B
theorem sel_t {A B : Prop} : sel true A B = A := by unfold sel; exact if_pos rfl
theorem sel_f {A B : Prop} : sel false A B = B := by unfold sel; exact if_neg (by decide)
theorem sel_mk {t : Bool} {A B : Prop} (h1 : t = true → A) (h2 : t = false → B) : sel t A B := by
  cases t with
  | true => rw [sel_t]; exact h1 rfl
  | false => rw [sel_f]; exact h2 rfl
def compW0 (own : List Nat) (tg : Tg) (tst : Env → (Env → Bool → Prop) → Prop) (f : Env → (Env → D → Prop) → Prop) : List D → List D → Env → (Env → List D → Prop) → Prop
  | [], acc, ρ, Φ => Φ ρ acc
  | d :: ds, acc, ρ, Φ => asg tg d ρ fun ρ1 => tst ρ1 fun ρ2 b => sel b (f ρ2 fun ρ3 y => compW0 own tg tst f ds (acc ++ [y]) (wip ρ3 own) Φ) (compW0 own tg tst f ds acc (wip ρ2 own) Φ)
@[irreducible] def compW (own : List Nat) (tg : Tg) (tst : Env → (Env → Bool → Prop) → Prop) (f : Env → (Env → D → Prop) → Prop) (ds acc : List D) (ρ : Env) (Φ : Env → List D → Prop) : Prop := compW0 own tg tst f ds acc ρ Φ
theorem compW_n {own : List Nat} {tg : Tg} {tst : Env → (Env → Bool → Prop) → Prop} {f : Env → (Env → D → Prop) → Prop} {acc : List D} {ρ : Env} {Φ : Env → List D → Prop} : compW own tg tst f [] acc ρ Φ = Φ ρ acc := by unfold compW; rfl
theorem compW_c {own : List Nat} {tg : Tg} {tst : Env → (Env → Bool → Prop) → Prop} {f : Env → (Env → D → Prop) → Prop} {d : D} {ds acc : List D} {ρ : Env} {Φ : Env → List D → Prop} : compW own tg tst f (d :: ds) acc ρ Φ = asg tg d ρ fun ρ1 => tst ρ1 fun ρ2 b => sel b (f ρ2 fun ρ3 y => compW own tg tst f ds (acc ++ [y]) (wip ρ3 own) Φ) (compW own tg tst f ds acc (wip ρ2 own) Φ) := by unfold compW; rfl

/-- a list of two -/
def catR : D → D → (D → Prop) → Prop
  | .list ds, .list es, k => ds.length + es.length ≤ 16777216 ∧ k (.list (ds ++ es))
  | _, _, _ => False
@[irreducible] def catD (x y : D) (k : D → Prop) : Prop := catR x y k
theorem catD_r {x y : D} {k : D → Prop} (h : catD x y k) : catR x y k := by unfold catD at h; exact h
theorem catD_i {x y : D} {k : D → Prop} (h : catR x y k) : catD x y k := by unfold catD; exact h
/-- an owned list's item: frozen where the depth is one -/
def pkD : Cell → D → (D → Prop) → Prop
  | .ow 1 (.list ds), .int i, k => ∃ d, atI ds i = some d ∧ k d
  | _, _, _ => False
def lenC : Cell → (D → Prop) → Prop
  | .ow (_ + 1) (.list ds), k => k (.int ds.length)
  | .va (.list ds), k => k (.int ds.length)
  | .ln n, k => k (.int n)
  | .hol _ _ pre post, k => k (.int (pre.length + (1 + post.length) : Nat))
  | _, _ => False
def getC (ρ : Env) (i : Nat) : Cell := ρ.getD i .un
def isOw : Cell → Prop
  | .ow (_ + 1) (.list _) => True
  | _ => False
def xNo : Px := fun _ _ => False
def nolonger (n : Int) : Prop := n ≤ 16777216

/-! ### what an expression does: from the names' data to its value's -/
mutual
def ev (Γ : List Ent) : E → Env → (Env → D → Prop) → Px → Prop
  | .var i, ρ, Φ, _ => match getC ρ i with
    | .va d => Φ ρ d
    | .ow _ d => Φ (ρ.set i (.va d)) d
    | _ => False
  | .mv i k, ρ, Φ, _ => ∃ d, getC ρ i = .ow k d ∧ Φ (ρ.set i .un) d
  | .int n, ρ, Φ, _ => Φ ρ (.int n)
  | .bl b, ρ, Φ, _ => Φ ρ (.bool b)
  | .non, ρ, Φ, _ => Φ ρ .none
  | .str x, ρ, Φ, _ => Φ ρ (.str x)
  | .op o a b, ρ, Φ, Ξ => ev Γ a ρ (fun ρ1 x => ev Γ b ρ1 (fun ρ2 y => opD o x y (Φ ρ2)) Ξ) Ξ
  | .neg a, ρ, Φ, Ξ => ev Γ a ρ (fun ρ1 x => ∃ i, x = .int i ∧ Φ ρ1 (.int (-i))) Ξ
  | .cmp o a b, ρ, Φ, Ξ => ev Γ a ρ (fun ρ1 x => ev Γ b ρ1 (fun ρ2 y => cmpD o x y (Φ ρ2)) Ξ) Ξ
  | .cmps neg a b, ρ, Φ, Ξ => ev Γ a ρ (fun ρ1 x => ev Γ b ρ1 (fun ρ2 y => cmpsD neg x y (Φ ρ2)) Ξ) Ξ
  | .chn o o' a b c, ρ, Φ, Ξ => ev Γ a ρ (fun ρ1 x => ev Γ b ρ1 (fun ρ2 y => cmpD o x y fun z => ∃ t, z = .bool t ∧
      sel t (ev Γ c ρ2 (fun ρ3 w => cmpD o' y w (Φ ρ3)) Ξ) (Φ ρ2 (.bool false))) Ξ) Ξ
  | .and a b, ρ, Φ, Ξ => ev Γ a ρ (fun ρ1 x => ∃ t, x = .bool t ∧ sel t (ev Γ b ρ1 Φ Ξ) (Φ ρ1 (.bool false))) Ξ
  | .or a b, ρ, Φ, Ξ => ev Γ a ρ (fun ρ1 x => ∃ t, x = .bool t ∧ sel t (Φ ρ1 (.bool true)) (ev Γ b ρ1 Φ Ξ)) Ξ
  | .not a, ρ, Φ, Ξ => ev Γ a ρ (fun ρ1 x => ∃ t, x = .bool t ∧ Φ ρ1 (.bool (!t))) Ξ
  | .ite c a b, ρ, Φ, Ξ => ev Γ c ρ (fun ρ1 x => ∃ t, x = .bool t ∧ sel t (ev Γ a ρ1 Φ Ξ) (ev Γ b ρ1 Φ Ξ)) Ξ
  | .tup es, ρ, Φ, Ξ => evs Γ es ρ (fun ρ1 ds => Φ ρ1 (.tuple ds)) Ξ
  | .lst _ es, ρ, Φ, Ξ => evs Γ es ρ (fun ρ1 ds => Φ ρ1 (.list ds)) Ξ
  | .ix a b, ρ, Φ, Ξ => ev Γ a ρ (fun ρ1 x => ev Γ b ρ1 (fun ρ2 y => ixD x y (Φ ρ2)) Ξ) Ξ
  | .pk i b, ρ, Φ, Ξ => isOw (getC ρ i) ∧ ev Γ b ρ (fun ρ1 y => pkD (getC ρ1 i) y (Φ ρ1)) Ξ
  | .lenv i, ρ, Φ, _ => lenC (getC ρ i) (Φ ρ)
  | .call f _ es, ρ, Φ, Ξ => evs Γ es ρ (fun ρ1 ds => ∃ g, Γ[f]? = some g ∧ g.sp ds (fun d _ => Φ ρ1 d) (fun _ x => Ξ ρ1 x)) Ξ
  | .callr f _ i es, ρ, Φ, Ξ => isOw (getC ρ i) ∧ evs Γ es ρ (fun ρ1 ds => ∃ g k d, Γ[f]? = some g ∧ g.sig.own = some k ∧ getC ρ1 i = .ow k d ∧ g.sp (d :: ds) (fun e d' => Φ (ρ1.set i (.ow k d')) e) (fun d' x => Ξ (ρ1.set i (.ow k d')) x)) Ξ
  | .blt b es, ρ, Φ, Ξ => evs Γ es ρ (fun ρ1 ds => bltD b ds (Φ ρ1)) Ξ
  | .isi a t, ρ, Φ, Ξ => ev Γ a ρ (fun ρ1 x => ∃ r, isiD x t = some r ∧ Φ ρ1 (.bool r)) Ξ
  | .comp _ own tg it ifs elt, ρ, Φ, Ξ => evIt Γ it ρ (fun ρ1 ds => notOw ρ1 own ∧ compW own tg (fun ρ k => evO Γ ifs ρ k) (fun ρ k => ev Γ elt ρ k xNo) ds [] (wip ρ1 own) fun ρ2 ys => Φ (back ρ1 ρ2 own) (.list ys)) Ξ
  | .cat _ a b, ρ, Φ, Ξ => ev Γ a ρ (fun ρ1 x => ev Γ b ρ1 (fun ρ2 y => catD x y (Φ ρ2)) Ξ) Ξ
  | .lend e, ρ, Φ, Ξ => ev Γ e (lent ρ) (fun _ d => leaf e.dep d = true ∧ Φ ρ d) (fun _ x => Ξ ρ x)
  | .rep a b, ρ, Φ, Ξ => ev Γ a ρ (fun ρ1 x => ev Γ b ρ1 (fun ρ2 y => repD x y (Φ ρ2)) Ξ) Ξ
  | .lof e, ρ, Φ, Ξ => ev Γ e ρ (fun ρ1 x => lofD x (Φ ρ1)) Ξ
  | .shw e, ρ, Φ, Ξ => ev Γ e ρ (fun ρ1 x => shwD x (Φ ρ1)) Ξ
  | .tof e, ρ, Φ, Ξ => ev Γ e ρ (fun ρ1 x => tofD x (Φ ρ1)) Ξ
  | .idx a b, ρ, Φ, Ξ => ev Γ a ρ (fun ρ1 x => (∃ ds, x = .list ds) ∧ ev Γ b ρ1 (fun ρ2 y => idxD x y (Φ ρ2)) Ξ) Ξ
  | .cnt a b, ρ, Φ, Ξ => ev Γ a ρ (fun ρ1 x => (∃ ds, x = .list ds) ∧ ev Γ b ρ1 (fun ρ2 y => cntD x y (Φ ρ2)) Ξ) Ξ
  | .inn neg a b, ρ, Φ, Ξ => ev Γ a ρ (fun ρ1 x => ev Γ b ρ1 (fun ρ2 y => inD x y fun t => Φ ρ2 (.bool (xor neg t))) Ξ) Ξ
  | .slc a lo hi, ρ, Φ, Ξ => ev Γ a ρ (fun ρ1 x => evP Γ lo ρ1 (fun ρ2 l => evP Γ hi ρ2 (fun ρ3 h => slcD x l h (Φ ρ3)) Ξ) Ξ) Ξ
  | .gl _ d, ρ, Φ, _ => Φ ρ d
  | .mm3 mx es, ρ, Φ, Ξ => evs Γ es ρ (fun ρ1 ds => mm3D mx ds (Φ ρ1)) Ξ
def evP (Γ : List Ent) : Os → Env → (Env → Option Int → Prop) → Px → Prop
  | .none, ρ, Φ, _ => Φ ρ none
  | .some e, ρ, Φ, Ξ => ev Γ e ρ (fun ρ1 x => ∃ i, x = .int i ∧ Φ ρ1 (some i)) Ξ
/-- a path of places into a thing -/
def evPa (Γ : List Ent) : Es → D → List D → Env → (Env → List D → Prop) → Prop
  | .nil, _, acc, ρ, Φ => Φ ρ acc
  | .cons e es, d, acc, ρ, Φ => ev Γ e ρ (fun ρ1 y => ∃ d', pget d [y] = some d' ∧ evPa Γ es d' (acc ++ [y]) ρ1 Φ) xNo
def evs (Γ : List Ent) : Es → Env → (Env → List D → Prop) → Px → Prop
  | .nil, ρ, Φ, _ => Φ ρ []
  | .cons e es, ρ, Φ, Ξ => ev Γ e ρ (fun ρ1 d => evs Γ es ρ1 (fun ρ2 ds => Φ ρ2 (d :: ds)) Ξ) Ξ
def evO (Γ : List Ent) : Os → Env → (Env → Bool → Prop) → Prop
  | .none, ρ, Φ => Φ ρ true
  | .some e, ρ, Φ => ev Γ e ρ (fun ρ1 x => ∃ t, x = .bool t ∧ Φ ρ1 t) xNo
def evIt (Γ : List Ent) : It → Env → (Env → List D → Prop) → Px → Prop
  | .lst e, ρ, Φ, Ξ => ev Γ e ρ (fun ρ1 x => ∃ ds, x = .list ds ∧ Φ ρ1 ds) Ξ
  | .tup e, ρ, Φ, Ξ => ev Γ e ρ (fun ρ1 x => ∃ ds, x = .tuple ds ∧ ds.length ≤ 16777216 ∧ Φ ρ1 ds) Ξ
  | .rng e, ρ, Φ, Ξ => ev Γ e ρ (fun ρ1 x => ∃ n : Int, x = .int n ∧ (-16777216 ≤ n ∧ n ≤ 16777216) ∧ Φ ρ1 ((List.range n.toNat).map fun i => .int (i : Nat))) Ξ
  | .rng2 a b, ρ, Φ, Ξ => ev Γ a ρ (fun ρ1 x => ev Γ b ρ1 (fun ρ2 y => ∃ m n : Int, x = .int m ∧ y = .int n ∧ (-16777216 ≤ m ∧ m ≤ 16777216 ∧ -16777216 ≤ n ∧ n - m ≤ 16777216 ∧ n ≤ 16777216) ∧ Φ ρ2 ((List.range (n - m).toNat).map fun i => .int (m + (i : Nat)))) Ξ) Ξ
  | .enum e, ρ, Φ, Ξ => ev Γ e ρ (fun ρ1 x => ∃ ds, x = .list ds ∧ Φ ρ1 (ds.zipIdx.map fun p => .tuple [.int (p.2 : Nat), p.1])) Ξ
  | .zip a b, ρ, Φ, Ξ => ev Γ a ρ (fun ρ1 x => ev Γ b ρ1 (fun ρ2 y => ∃ ds es, x = .list ds ∧ y = .list es ∧ Φ ρ2 ((ds.zip es).map fun p => .tuple [p.1, p.2])) Ξ) Ξ
end

/-! ### what statements do -/
structure Kt where
  nx : Env → Prop
  rt : Env → D → Prop
  ct : Env → Prop
  bk : Env → Prop
  xc : Px
/-- what comes next is another thing -/
def Kt.wn (κ : Kt) (N : Env → Prop) : Kt := ⟨N, κ.rt, κ.ct, κ.bk, κ.xc⟩
/-- within a loop -/
def Kt.lp (κ : Kt) (k : Env → Prop) : Kt := ⟨k, κ.rt, k, κ.nx, κ.xc⟩
def whW0 (c : Env → (Env → Bool → Prop) → Prop) (body : (Env → Prop) → Env → Prop) (nx : Env → Prop) : Nat → Env → Prop
  | 0, _ => False
  | n + 1, ρ => c ρ fun ρ1 b => sel b (body (whW0 c body nx n) ρ1) (nx ρ1)
@[irreducible] def whW (c : Env → (Env → Bool → Prop) → Prop) (body : (Env → Prop) → Env → Prop) (nx : Env → Prop) (n : Nat) (ρ : Env) : Prop := whW0 c body nx n ρ
theorem whW_0 {c : Env → (Env → Bool → Prop) → Prop} {body : (Env → Prop) → Env → Prop} {nx : Env → Prop} {ρ : Env} : whW c body nx 0 ρ = False := by unfold whW; rfl
theorem whW_e (c : Env → (Env → Bool → Prop) → Prop) (body : (Env → Prop) → Env → Prop) (nx : Env → Prop) (n : Nat) : whW c body nx n = whW0 c body nx n := by funext ρ; unfold whW; rfl
theorem whW_s {c : Env → (Env → Bool → Prop) → Prop} {body : (Env → Prop) → Env → Prop} {nx : Env → Prop} {n : Nat} {ρ : Env} : whW c body nx (n + 1) ρ = c ρ fun ρ1 b => sel b (body (whW c body nx n) ρ1) (nx ρ1) := by rw [whW_e c body nx n]; unfold whW; rfl
def forW0 (tg : Tg) (body : (Env → Prop) → Env → Prop) (nx : Env → Prop) : List D → Env → Prop
  | [], ρ => nx ρ
  | d :: ds, ρ => asg tg d ρ fun ρ1 => body (forW0 tg body nx ds) ρ1
@[irreducible] def forW (tg : Tg) (body : (Env → Prop) → Env → Prop) (nx : Env → Prop) (ds : List D) (ρ : Env) : Prop := forW0 tg body nx ds ρ
theorem forW_n {tg : Tg} {body : (Env → Prop) → Env → Prop} {nx : Env → Prop} {ρ : Env} : forW tg body nx [] ρ = nx ρ := by unfold forW; rfl
theorem forW_e (tg : Tg) (body : (Env → Prop) → Env → Prop) (nx : Env → Prop) (ds : List D) : forW tg body nx ds = forW0 tg body nx ds := by funext ρ; unfold forW; rfl
theorem forW_c {tg : Tg} {body : (Env → Prop) → Env → Prop} {nx : Env → Prop} {d : D} {ds : List D} {ρ : Env} : forW tg body nx (d :: ds) ρ = asg tg d ρ fun ρ1 => body (forW tg body nx ds) ρ1 := by rw [forW_e tg body nx ds]; unfold forW; rfl
def forlW0 (x k : Nat) (body : (Env → Prop) → Env → Prop) (nx : Env → Prop) : List D → Env → Prop
  | [], ρ => nx ρ
  | d :: ds, ρ => body (forlW0 x k body nx ds) (ρ.set x (.ow k d))
@[irreducible] def forlW (x k : Nat) (body : (Env → Prop) → Env → Prop) (nx : Env → Prop) (ds : List D) (ρ : Env) : Prop := forlW0 x k body nx ds ρ
theorem forlW_n {x k : Nat} {body : (Env → Prop) → Env → Prop} {nx : Env → Prop} {ρ : Env} : forlW x k body nx [] ρ = nx ρ := by unfold forlW; rfl
theorem forlW_e (x k : Nat) (body : (Env → Prop) → Env → Prop) (nx : Env → Prop) (ds : List D) : forlW x k body nx ds = forlW0 x k body nx ds := by funext ρ; unfold forlW; rfl
theorem forlW_c {x k : Nat} {body : (Env → Prop) → Env → Prop} {nx : Env → Prop} {d : D} {ds : List D} {ρ : Env} : forlW x k body nx (d :: ds) ρ = body (forlW x k body nx ds) (ρ.set x (.ow k d)) := by rw [forlW_e x k body nx ds]; unfold forlW; rfl
def appC (p : Nat) : Cell → D → (Cell → Prop) → Prop
  | .ow (j + 1) (.list ds), d, k => (j = 0 ∨ j = p ∨ flat d = true) ∧ ds.length < 16777216 ∧ k (.ow (j + 1) (.list (ds ++ [d])))
  | _, _, _ => False
def stiC : Cell → D → D → (Cell → Prop) → Prop
  | .ow 1 (.list ds), .int i, d, k => ∃ m, ixN ds.length i = some m ∧ k (.ow 1 (.list (ds.set m d)))
  | _, _, _, _ => False
/-- the lent item is put back -/
def pbW (x i k : Nat) (v : V) (pre post : List D) (Q : List D → Env → Prop) (ρ : Env) : Prop :=
  ∃ d, getC ρ i = .hol k v pre post ∧ getC ρ x = .ow k d ∧ Q (pre ++ [d]) ((ρ.set x .un).set i (.ow (k + 1) (.list (pre ++ d :: post))))
def forbW0 (en : Option Nat) (x i k : Nat) (κ : Kt) (body : Kt → Env → Prop) : List D → List D → Env → Prop
  | _, [], ρ => κ.nx ρ
  | pre, d :: post, ρ => ∀ v : V,
    let nx : Env → Prop := pbW x i k v pre post fun pre' ρ1 => forbW0 en x i k κ body pre' post ρ1
    let ρ0 := (ρ.set i (.hol k v pre post)).set x (.ow k d)
    body { nx := nx, ct := nx, bk := pbW x i k v pre post fun _ ρ1 => κ.nx ρ1, rt := fun ρ2 y => pbW x i k v pre post (fun _ ρ1 => κ.rt ρ1 y) ρ2, xc := fun ρ2 z => pbW x i k v pre post (fun _ ρ1 => κ.xc ρ1 z) ρ2 }
      (match en with
        | none => ρ0
        | some j => ρ0.set j (.va (.int (pre.length : Nat))))
@[irreducible] def forbW (en : Option Nat) (x i k : Nat) (κ : Kt) (body : Kt → Env → Prop) (pre ds : List D) (ρ : Env) : Prop := forbW0 en x i k κ body pre ds ρ
theorem forbW_n {en : Option Nat} {x i k : Nat} {κ : Kt} {body : Kt → Env → Prop} {pre : List D} {ρ : Env} : forbW en x i k κ body pre [] ρ = κ.nx ρ := by unfold forbW; rfl
theorem forbW_e (en : Option Nat) (x i k : Nat) (κ : Kt) (body : Kt → Env → Prop) : forbW en x i k κ body = forbW0 en x i k κ body := by funext p ds ρ; unfold forbW; rfl
theorem forbW_c {en : Option Nat} {x i k : Nat} {κ : Kt} {body : Kt → Env → Prop} {pre post : List D} {d : D} {ρ : Env} : forbW en x i k κ body pre (d :: post) ρ = (∀ v : V,
    let nx : Env → Prop := pbW x i k v pre post fun pre' ρ1 => forbW en x i k κ body pre' post ρ1
    let ρ0 := (ρ.set i (.hol k v pre post)).set x (.ow k d)
    body { nx := nx, ct := nx, bk := pbW x i k v pre post fun _ ρ1 => κ.nx ρ1, rt := fun ρ2 y => pbW x i k v pre post (fun _ ρ1 => κ.rt ρ1 y) ρ2, xc := fun ρ2 z => pbW x i k v pre post (fun _ ρ1 => κ.xc ρ1 z) ρ2 }
      (match en with
        | none => ρ0
        | some j => ρ0.set j (.va (.int (pre.length : Nat))))) := by rw [forbW_e]; rfl
def extC (p : Nat) : Cell → D → (Cell → Prop) → Prop
  | .ow (j + 1) (.list ds), .list es, k => p = j + 1 ∧ ds.length + es.length ≤ 16777216 ∧ k (.ow (j + 1) (.list (ds ++ es)))
  | _, _, _ => False
def Es.len : Es → Nat
  | .nil => 0
  | .cons _ es => es.len + 1
mutual
def sv (Γ : List Ent) : S → Kt → Env → Prop
  | .set i e, κ, ρ => ev Γ e ρ (fun ρ1 d => κ.nx (ρ1.set i (.va d))) κ.xc
  | .seto i k e, κ, ρ => ev Γ e ρ (fun ρ1 d => κ.nx (ρ1.set i (.ow k d))) κ.xc
  | .par i j a b, κ, ρ => ev Γ a ρ (fun ρ1 x => ev Γ b ρ1 (fun ρ2 y => κ.nx ((ρ2.set i (.va x)).set j (.va y))) κ.xc) κ.xc
  | .unp ts e, κ, ρ => ev Γ e ρ (fun ρ1 d => asg (.tp ts) d ρ1 κ.nx) κ.xc
  | .ret e, κ, ρ => ev Γ e ρ κ.rt κ.xc
  | .expr e, κ, ρ => ev Γ e ρ (fun ρ1 _ => κ.nx ρ1) κ.xc
  | .ite c a b, κ, ρ => ev Γ c ρ (fun ρ1 x => ∃ t, x = .bool t ∧ sel t (svs Γ a κ ρ1) (svs Γ b κ ρ1)) κ.xc
  | .whl c b, κ, ρ => ∃ n, whW (fun ρ k => ev Γ c ρ (fun ρ1 x => ∃ t, x = .bool t ∧ k ρ1 t) κ.xc) (fun k ρ => svs Γ b (κ.lp k) ρ) κ.nx n ρ
  | .for tg it b, κ, ρ => evIt Γ it ρ (fun ρ1 ds => forW tg (fun k ρ => svs Γ b (κ.lp k) ρ) κ.nx ds ρ1) κ.xc
  | .pass, κ, ρ => κ.nx ρ
  | .cont, κ, ρ => κ.ct ρ
  | .brk, κ, ρ => κ.bk ρ
  | .app i e, κ, ρ => isOw (getC ρ i) ∧ ev Γ e ρ (fun ρ1 d => appC e.dep (getC ρ1 i) d fun c => κ.nx (ρ1.set i c)) κ.xc
  | .sti i b e, κ, ρ => ev Γ e ρ (fun ρ1 d => isOw (getC ρ1 i) ∧ ev Γ b ρ1 (fun ρ2 y => stiC (getC ρ2 i) y d fun c => κ.nx (ρ2.set i c)) κ.xc) κ.xc
  | .never, _, _ => False
  | .raise x _, κ, ρ => κ.xc ρ x
  | .stp i q bs b e, κ, ρ => ev Γ e ρ (fun ρ1 d => ∃ D0, getC ρ1 i = .ow (bs.len + (q + 1)) D0 ∧ evPa Γ bs D0 [] (lent ρ1) fun ρ2 is => ev Γ b ρ2 (fun _ y => ∃ D1, pset D0 (is ++ [y]) d = some D1 ∧ κ.nx (ρ1.set i (.ow (bs.len + (q + 1)) D1))) xNo) κ.xc
  | .aug i bs b o e, κ, ρ => ∃ D0, getC ρ i = .ow (bs.len + 1) D0 ∧ evPa Γ bs D0 [] (lent ρ) fun ρ2 is => ev Γ b ρ2 (fun ρ3 y => (∃ j, y = .int j ∧ 0 ≤ j) ∧ ∃ a, pget D0 (is ++ [y]) = some (.int a) ∧ ev Γ e ρ3 (fun _ w => ∃ b z D1, w = .int b ∧ augI o a b = some z ∧ pset D0 (is ++ [y]) (.int z) = some D1 ∧ κ.nx (ρ.set i (.ow (bs.len + 1) D1))) xNo) xNo
  | .forb en x i b, κ, ρ => ∃ k ds, getC ρ i = .ow (k + 2) (.list ds) ∧ forbW en x i (k + 1) κ (svs Γ b) [] ds ρ
  | .forl x k e b, κ, ρ => ev Γ e ρ (fun ρ1 d => ∃ ds, d = .list ds ∧ forlW x k (fun K ρ => svs Γ b (κ.lp K) ρ) κ.nx ds ρ1) κ.xc
  | .ext i e, κ, ρ => isOw (getC ρ i) ∧ ev Γ e ρ (fun ρ1 d => extC e.dep (getC ρ1 i) d fun c => κ.nx (ρ1.set i c)) κ.xc
  | .augv i o e, κ, ρ => ∃ a, getC ρ i = .va (.int a) ∧ ev Γ e ρ (fun ρ1 y => ∃ b z, y = .int b ∧ augI o a b = some z ∧ κ.nx (ρ1.set i (.va (.int z)))) κ.xc
def svs (Γ : List Ent) : Ss → Kt → Env → Prop
  | .nil, κ, ρ => κ.nx ρ
  | .cons s ss, κ, ρ => sv Γ s (κ.wn fun ρ1 => svs Γ ss κ ρ1) ρ
end
end Q

/-! ## What the language does is what the model does -/
namespace Q
open PySem PySem.Spec PyProof.Rows L2

/-- an exception of a class without fields -/
def XR (mg : Str → Option Value) (x : XD) (cls : Value) (dd : Option Addr) : Prop := mg x = some cls ∧ dd = none
/-- a def's promise, over heaps -/
def cellsOf (own : Option Nat) : List D → Env
  | [] => []
  | d :: ds => (match own with | none => Cell.va d | some k => Cell.ow k d) :: ds.map Cell.va
/-- the arguments behind a call -/
def outDs (own : Option Nat) (ds : List D) (d' : D) : List D := match own with
  | none => ds
  | some _ => ds.set 0 d'
def toSp (K : PySem.W.Frag) (mg : Str → Option Value) (g : Ent) : Sp := fun vs H Q E => vs.length = g.sig.np ∧ ∃ (ds : List D) (F : Foot) (G : Hp) (Φ : D → D → Prop) (Ξ : D → XD → Prop),
  En K (vs.map some) (cellsOf g.sig.own ds) F G H ∧ g.sp ds Φ Ξ ∧
  (∀ d d' v A F' G' H', Φ d d' → En K (vs.map some) (cellsOf g.sig.own (outDs g.sig.own ds d')) F' G' H' → Res K F G H F' G' H' g.sig.rk A v d → Stp F G H F' G' H' → Q v H') ∧
  (∀ x d' F' G' H' cls dd, Ξ d' x → En K (vs.map some) (cellsOf g.sig.own (outDs g.sig.own ds d')) F' G' H' → Stp F G H F' G' H' → XR mg x cls dd → E cls dd H')

/-- what the contexts of a def's code have in common -/
structure Ctx where
  P : Program
  w : World
  K : PySem.W.Frag
  mg : Str → Option Value
  base : Heap
  A : Around
  N : List Str
structure Is (c : Ctx) (sc : Scope) (W : WX) (X : Cx) : Prop where
  P : X.prog = c.P
  w : X.w = c.w
  K : X.K = c.K
  mg : X.mg = c.mg
  base : X.base = c.base
  A : X.A = c.A
  N : X.N = c.N
  sc : X.env.scope = sc
  calm : X.calm = true
  takes : L2N.Takes X W
/-- the outer names that code uses: built-in ones, classes of errors -/
structure Bl where
  b : List Str
  x : List Str
  /-- the modules' own constants -/
  c : List (Str × D)
/-- a constant of a module -/
def COk (K : PySem.W.Frag) (mg : Str → Option Value) (x : Str) (d : D) : Prop := ∃ (u : Value) (v : V), mg x = some u ∧ RelV v u ∧ ∀ H : Hp, Dp K H v d
/-- an error's class without fields -/
def XOk (K : PySem.W.Frag) (mg : Str → Option Value) (x : Str) : Prop := ∃ (C : Addr) (B newId initId : String) (bmB : List Value), mg x = some (.ref C) ∧ PySem.W.keepIn K (.ref C) = true ∧ ExcBaseFacts B newId initId bmB ∧ PySem.W.excIn K C bmB newId = true ∧
  PySem.W.subIn K (.ref C) (.type "BaseException") = some true ∧ PySem.W.typeIn K (.ref C) = some (.type "type")
/-- what holds where code runs -/
structure Sd (c : Ctx) (Γ : List Ent) (bl : Bl) : Prop where
  nd : c.N.Nodup
  hu : c.A.units + 64 < cLine
  hu2 : c.A.units + 65 < cLine
  /-- no list is being shown -/
  gd : c.A.guards = some []
  gok : ∀ (f : Nat) g, Γ[f]? = some g → ∃ (a : Addr) (fd : FuncData) (ps : List Str) (k : Nat), FnG c.P c.w c.K c.mg c.base (L2N.CX c.P c.w) k a fd ps (toSp c.K c.mg g) ∧ Room k c.A ∧
    c.mg g.sig.name = some (.ref a) ∧ PySem.W.keepIn c.K (.ref a) = true ∧ Binds c.K fd ps []
  bok : ∀ x ∈ bl.b, c.mg x = none
  xok : ∀ x ∈ bl.x, XOk c.K c.mg x
  cok : ∀ p ∈ bl.c, COk c.K c.mg p.1 p.2
def GlS (sc : Scope) (x : Str) : Prop := sc.names.lookup x = some .globalImplicit
theorem Is.gl {c : Ctx} {sc : Scope} {W : WX} {X : Cx} {x : Str} (h : Is c sc W X) (g : GlS sc x) : Gl X x := by
  show X.env.scope.names.lookup x = some .globalImplicit
  rw [h.sc]; exact g
theorem Is.vis {c : Ctx} {sc : Scope} {W : WX} {X : Cx} {x : Str} (h : Is c sc W X) (g : Vis sc x) : Vis X.env.scope x := by rw [h.sc]; exact g
theorem Is.ix {c : Ctx} {sc : Scope} {W : WX} {X : Cx} {i : Nat} {x : Str} (h : Is c sc W X) (g : c.N[i]? = some x) : X.N[i]? = some x := by rw [h.N]; exact g
theorem Is.no {c : Ctx} {sc : Scope} {W : WX} {X : Cx} {x : Str} (h : Is c sc W X) (g : c.mg x = none) : X.mg x = none := by rw [h.mg]; exact g

abbrev TrE := Env → (Env → D → Prop) → Px → Prop
abbrev TrT := Env → (Env → Bool → Prop) → Px → Prop
abbrev TrL := Env → (Env → List D → Prop) → Px → Prop
variable {c : Ctx} {sc : Scope} {W : WX} {Γ : List Ent} {bl : Bl}

/-- the exceptions' part -/
def Xc (c : Ctx) (W : WX) (σ : Sg) (F : Foot) (G H : Hp) (Ξ : Px) : Prop :=
  ∀ ρ' x F' G' H' cls dd, Ξ ρ' x → En c.K σ ρ' F' G' H' → Stp F G H F' G' H' → XR c.mg x cls dd → W cls dd σ H'
theorem Xc.stp {σ : Sg} {F F' : Foot} {G H G' H' : Hp} {Ξ : Px} (xc : Xc c W σ F G H Ξ) (s : Stp F G H F' G' H') : Xc c W σ F' G' H' Ξ :=
  fun ρ' x F2 G2 H2 cls dd hx e s2 r => xc ρ' x F2 G2 H2 cls dd hx e (s.trans s2) r
def AE (c : Ctx) (sc : Scope) (W : WX) (e : Expr) (k : Nat) (T : TrE) : Prop := ∃ t : TE, (∀ X, Is c sc W X → PE X e t) ∧ ∀ (ρ : Env) (Φ : Env → D → Prop) (Ξ : Px) (σ : Sg) (F : Foot) (G H : Hp) (Q : VK), En c.K σ ρ F G H → T ρ Φ Ξ →
  (∀ ρ' d v A F' G' H', Φ ρ' d → En c.K σ ρ' F' G' H' → Res c.K F G H F' G' H' k A v d → Stp F G H F' G' H' → Q v H') → Xc c W σ F G H Ξ → t σ H Q
def AT (c : Ctx) (sc : Scope) (W : WX) (e : Expr) (T : TrT) : Prop := ∃ t : TT, (∀ X, Is c sc W X → PT X e t) ∧ ∀ (ρ : Env) (Φ : Env → Bool → Prop) (Ξ : Px) (σ : Sg) (F : Foot) (G H : Hp) (Q : Bool → Hp → Prop), En c.K σ ρ F G H → T ρ Φ Ξ →
  (∀ ρ' b F' G' H', Φ ρ' b → En c.K σ ρ' F' G' H' → Stp F G H F' G' H' → Q b H') → Xc c W σ F G H Ξ → t σ H Q
def AW (c : Ctx) (sc : Scope) (W : WX) (e : Expr) (T : TrT) : Prop := ∃ t : TT, (∀ X, Is c sc W X → PW X e t) ∧ ∀ (ρ : Env) (Φ : Env → Bool → Prop) (Ξ : Px) (σ : Sg) (F : Foot) (G H : Hp) (Q : Bool → Hp → Prop), En c.K σ ρ F G H → T ρ Φ Ξ →
  (∀ ρ' b F' G' H', Φ ρ' b → En c.K σ ρ' F' G' H' → Stp F G H F' G' H' → Q b H') → Xc c W σ F G H Ξ → t σ H Q
/-- several values, with the places that they own -/
structure Ress (K : PySem.W.Frag) (F : Foot) (G H : Hp) (F' : Foot) (G' H' : Hp) (k : Nat) (A : List Addr) (vs : List V) (ds : List D) : Prop where
  ow : Ows K G' H' k A vs ds
  nod : A.Nodup
  out : ∀ a ∈ A, G' a = none
  dis : ∀ a ∈ A, ∀ i, a ∉ F' i
  new : ∀ a ∈ A, (∃ j, a ∈ F j) ∨ H a = none
def AL (c : Ctx) (sc : Scope) (W : WX) (es : List Expr) (m n : Nat) (T : TrL) : Prop := ∃ t : TA, (∀ X, Is c sc W X → PA X es t) ∧ ∀ (ρ : Env) (Φ : Env → List D → Prop) (Ξ : Px) (σ : Sg) (F : Foot) (G H : Hp) (Q : List V → Hp → Prop), En c.K σ ρ F G H → T ρ Φ Ξ →
  (∀ ρ' ds vs A F' G' H', Φ ρ' ds → ds.length = n → En c.K σ ρ' F' G' H' → Ress c.K F G H F' G' H' m A vs ds → Stp F G H F' G' H' → Q vs H') → Xc c W σ F G H Ξ → t σ H Q

theorem Res.dp {K : PySem.W.Frag} {F F' : Foot} {G H G' H' : Hp} {A : List Addr} {v : V} {d : D} (r : Res K F G H F' G' H' 0 A v d) : Dp K G' v d := by
  cases r.ow with
  | frz h => exact h
theorem Ress.dp {K : PySem.W.Frag} {F F' : Foot} {G H G' H' : Hp} {A : List Addr} {vs : List V} {ds : List D} (r : Ress K F G H F' G' H' 0 A vs ds) : DpAll K G' vs ds := (Ows.to_frz r.ow).2
/-- what is frozen is forgotten -/
theorem AE.frz {e : Expr} {k : Nat} {T : TrE} (h : AE c sc W e k T) : AE c sc W e 0 T := by
  obtain ⟨t, ht, hs⟩ := h
  refine ⟨t, ht, fun ρ Φ Ξ σ F G H Q e0 hT hQ hx => hs ρ Φ Ξ σ F G H Q e0 hT (fun ρ' d v A F' G' H' q e1 r s => ?_) hx⟩
  obtain ⟨h1, h2, h3⟩ := r.freeze e1
  exact hQ ρ' d v [] F' _ H' q h2 (.frz h1) (h3 s)
theorem AE.to {e : Expr} {k m : Nat} {T : TrE} (h : AE c sc W e k T) (hm : m ≤ k) : AE c sc W e m T := by
  obtain ⟨t, ht, hs⟩ := h
  refine ⟨t, ht, fun ρ Φ Ξ σ F G H Q e0 hT hQ hx => hs ρ Φ Ξ σ F G H Q e0 hT (fun ρ' d v A F' G' H' q e1 r s => ?_) hx⟩
  obtain ⟨A', B, h1, h2, h3, h4⟩ := r.weak e1 hm
  exact hQ ρ' d v A' F' _ H' q h2 h4 (h3 s)

theorem getC_some {ρ : Env} {i : Nat} {c : Cell} (h : getC ρ i = c) (hn : c ≠ .un) : ρ[i]? = some c := by
  unfold getC at h
  rw [List.getD_eq_getElem?_getD] at h
  cases q : ρ[i]? with
  | none => rw [q] at h; exact absurd h.symm hn
  | some d => rw [q] at h; exact congrArg some h
/-- an owned cell is frozen -/
theorem En.freeze {K : PySem.W.Frag} {σ : Sg} {ρ : Env} {F : Foot} {G H : Hp} {i k : Nat} {d : D} (e : En K σ ρ F G H) (h : ρ[i]? = some (.ow k d)) :
    ∃ v G', σ[i]? = some (some v) ∧ Dp K G' v d ∧ En K σ (ρ.set i (.va d)) (put F i []) G' H ∧ Stp F G H (put F i []) G' H := by
  obtain ⟨v, hv, ho⟩ : ∃ v, σ[i]? = some (some v) ∧ Ow K G H k (F i) v d := e.cell i _ h
  have n : ∀ a ∈ F i, G a = none := e.out i
  have g := same_grow (H := H) n
  have hd : Dp K (grow G H (F i)) v d := Ow.freeze g (fun _ h => h) ho
  refine ⟨v, grow G H (F i), hv, hd, ⟨grow_same e.same, by simp [e.len], fun j c hc => ?_, fun j => ?_, fun j l a hj hl => ?_, fun j a hj => ?_, fun j a hj => ?_, e.ln, fz_grow e.fz fun a ha => Ow.there ho a ha⟩, ⟨g, fun b o _ q => q, fun j b hb => ?_, fun b hb hs => ?_, fun _ q => q⟩⟩
  · by_cases q : i = j
    · subst q
      have hl : i < ρ.length := (List.getElem?_eq_some_iff.mp h).1
      rw [List.getElem?_set_self hl] at hc
      cases hc
      exact ⟨v, hv, hd⟩
    · rw [List.getElem?_set_ne q] at hc
      rw [put_ne (Ne.symm q)]
      exact CellOk.mono g (fun _ _ _ q => q) (e.cell j c hc)
  · by_cases q : j = i
    · subst q; rw [put_same]; exact .nil
    · rw [put_ne q]; exact e.nod j
  · by_cases q : j = i
    · subst q; rw [put_same] at hj; cases hj
    · rw [put_ne q] at hj
      by_cases q2 : l = i
      · subst q2; rw [put_same] at hl; cases hl
      · rw [put_ne q2] at hl; exact e.dis j l a hj hl
  · by_cases q : j = i
    · subst q; rw [put_same] at hj; cases hj
    · rw [put_ne q] at hj
      unfold grow
      rw [if_neg (fun z => q (e.dis j i a hj z))]
      exact e.out j a hj
  · by_cases q : j = i
    · subst q; rw [put_same] at hj; cases hj
    · rw [put_ne q] at hj; exact e.th j a hj
  · by_cases q : j = i
    · subst q; rw [put_same] at hb; cases hb
    · rw [put_ne q] at hb; exact .inl ⟨j, hb⟩
  · unfold grow at hs
    by_cases q : b ∈ F i
    · exact .inl ⟨i, q⟩
    · rw [if_neg q] at hs; exact absurd hb hs
/-- an owned cell is moved out -/
theorem En.move {K : PySem.W.Frag} {σ : Sg} {ρ : Env} {F : Foot} {G H : Hp} {i k : Nat} {d : D} (e : En K σ ρ F G H) (h : ρ[i]? = some (.ow k d)) :
    ∃ v, σ[i]? = some (some v) ∧ En K σ (ρ.set i .un) (put F i []) G H ∧ Stp F G H (put F i []) G H ∧ Res K F G H (put F i []) G H k (F i) v d := by
  obtain ⟨v, hv, ho⟩ : ∃ v, σ[i]? = some (some v) ∧ Ow K G H k (F i) v d := e.cell i _ h
  refine ⟨v, hv, ⟨e.same, by simp [e.len], fun j c hc => ?_, fun j => ?_, fun j l a hj hl => ?_, fun j a hj => ?_, fun j a hj => ?_, e.ln, e.fz⟩, ⟨Same.refl _, fun b o _ q => q, fun j b hb => ?_, fun b hb hs => absurd hb hs, fun _ q => q⟩, ⟨ho, e.nod i, e.out i, fun a ha j hj => ?_, fun a ha => .inl ⟨i, ha⟩⟩⟩
  · by_cases q : i = j
    · subst q
      have hl : i < ρ.length := (List.getElem?_eq_some_iff.mp h).1
      rw [List.getElem?_set_self hl] at hc
      cases hc
      trivial
    · rw [List.getElem?_set_ne q] at hc
      rw [put_ne (Ne.symm q)]
      exact e.cell j c hc
  · by_cases q : j = i
    · subst q; rw [put_same]; exact .nil
    · rw [put_ne q]; exact e.nod j
  · by_cases q : j = i
    · subst q; rw [put_same] at hj; cases hj
    · rw [put_ne q] at hj
      by_cases q2 : l = i
      · subst q2; rw [put_same] at hl; cases hl
      · rw [put_ne q2] at hl; exact e.dis j l a hj hl
  · by_cases q : j = i
    · subst q; rw [put_same] at hj; cases hj
    · rw [put_ne q] at hj; exact e.out j a hj
  · by_cases q : j = i
    · subst q; rw [put_same] at hj; cases hj
    · rw [put_ne q] at hj; exact e.th j a hj
  · by_cases q : j = i
    · subst q; rw [put_same] at hb; cases hb
    · rw [put_ne q] at hb; exact .inl ⟨j, hb⟩
  · by_cases q : j = i
    · subst q; rw [put_same] at hj; cases hj
    · rw [put_ne q] at hj; exact q (e.dis j i a hj ha)

/-! ### names and constants -/
theorem ae_var {i : Nat} {x : Str} {pos : Pos} (h : c.N[i]? = some x) (hv : Vis sc x) (hd : (x == ("__debug__" : Str)) = false) (hcd : (x == ("__classdict__" : Str)) = false) : AE c sc W (.Name x pos) 0 (ev Γ (.var i)) := by
  refine ⟨_, fun X hX => pe_var (hX.ix h) (hX.vis hv) hd hcd, fun ρ Φ Ξ σ F G H Q e hT hQ _ => ?_⟩
  unfold ev at hT
  cases q : getC ρ i with
  | un => rw [q] at hT; exact hT.elim
  | hol k v a b => rw [q] at hT; exact hT.elim
  | ln n => rw [q] at hT; exact hT.elim
  | va d =>
    rw [q] at hT
    obtain ⟨v, h1, h2⟩ : ∃ v, σ[i]? = some (some v) ∧ Dp c.K G v d := e.cell i _ (getC_some q (by simp))
    exact ⟨v, h1, hQ ρ d v [] F G H hT e (.frz h2) (.refl _ _ _)⟩
  | ow k d =>
    rw [q] at hT
    obtain ⟨v, G', h1, h2, h3, h4⟩ := e.freeze (getC_some q (by simp))
    exact ⟨v, h1, hQ _ d v [] _ G' H hT h3 (.frz h2) h4⟩
theorem ae_mv {i k : Nat} {x : Str} {pos : Pos} (h : c.N[i]? = some x) (hv : Vis sc x) (hd : (x == ("__debug__" : Str)) = false) (hcd : (x == ("__classdict__" : Str)) = false) : AE c sc W (.Name x pos) k (ev Γ (.mv i k)) := by
  refine ⟨_, fun X hX => pe_var (hX.ix h) (hX.vis hv) hd hcd, fun ρ Φ Ξ σ F G H Q e hT hQ _ => ?_⟩
  unfold ev at hT
  obtain ⟨d, q, hT⟩ := hT
  obtain ⟨v, h1, h2, h3, h4⟩ := e.move (getC_some q (by simp))
  exact ⟨v, h1, hQ _ d v _ _ G H hT h2 h4 h3⟩
theorem ae_const {e : Expr} {v : V} {d : D} {T : TrE} (h : ∀ X, PE X e (tC v)) (hd : ∀ G : Hp, Dp c.K G v d) (hT : ∀ ρ Φ Ξ, T ρ Φ Ξ → Φ ρ d) : AE c sc W e 0 T :=
  ⟨_, fun X _ => h X, fun ρ Φ Ξ σ F G H Q e q hQ _ => hQ ρ d v [] F G H (hT _ _ _ q) e (.frz (hd G)) (.refl _ _ _)⟩
/-- two expressions in a row, both frozen -/
theorem ae_two {a b : Expr} {ta tb : TE} {Ta Tb : TrE} {ρ : Env} {Ξ : Px} {σ : Sg} {F : Foot} {G H : Hp} {R : V → V → Hp → Prop} {Φ : Env → D → D → Prop}
    (ha : ∀ (ρ : Env) (Φ : Env → D → Prop) (Ξ : Px) (σ : Sg) (F : Foot) (G H : Hp) (Q : VK), En c.K σ ρ F G H → Ta ρ Φ Ξ → (∀ ρ' d v A F' G' H', Φ ρ' d → En c.K σ ρ' F' G' H' → Res c.K F G H F' G' H' 0 A v d → Stp F G H F' G' H' → Q v H') → Xc c W σ F G H Ξ → ta σ H Q)
    (hb : ∀ (ρ : Env) (Φ : Env → D → Prop) (Ξ : Px) (σ : Sg) (F : Foot) (G H : Hp) (Q : VK), En c.K σ ρ F G H → Tb ρ Φ Ξ → (∀ ρ' d v A F' G' H', Φ ρ' d → En c.K σ ρ' F' G' H' → Res c.K F G H F' G' H' 0 A v d → Stp F G H F' G' H' → Q v H') → Xc c W σ F G H Ξ → tb σ H Q)
    (e : En c.K σ ρ F G H) (hx : Xc c W σ F G H Ξ) (hT : Ta ρ (fun ρ1 x => Tb ρ1 (fun ρ2 y => Φ ρ2 x y) Ξ) Ξ)
    (k : ∀ ρ2 x y v u F2 G2 H2, Φ ρ2 x y → En c.K σ ρ2 F2 G2 H2 → Dp c.K G2 v x → Dp c.K G2 u y → Stp F G H F2 G2 H2 → R v u H2) :
    ta σ H fun v H1 => tb σ H1 fun u H2 => R v u H2 :=
  ha ρ _ Ξ σ F G H _ e hT (fun ρ1 x v A F1 G1 H1 q1 e1 r1 s1 => hb ρ1 _ Ξ σ F1 G1 H1 _ e1 q1 (fun ρ2 y u B F2 G2 H2 q2 e2 r2 s2 =>
    k ρ2 x y v u F2 G2 H2 q2 e2 (Dp.mono s2.g r1.dp) r2.dp (s1.trans s2)) (hx.stp s1)) hx
/-- an operator whose reading holds where its data allow it -/
theorem ae_bin {e a b : Expr} {Ta Tb : TrE} {r : R2} {f : D → D → (D → Prop) → Prop} (ha : AE c sc W a 0 Ta) (hb : AE c sc W b 0 Tb) (hp : ∀ X, Is c sc W X → ∀ {ta tb : TE}, PE X a ta → PE X b tb → PE X e (tOp r ta tb))
    (hr : ∀ x y v u (Φ : D → Prop) (G H : Hp) (Q : VK), Same G H → f x y Φ → Dp c.K G v x → Dp c.K G u y → (∀ d z, Φ d → (∀ G : Hp, Dp c.K G z d) → Q z H) → r v u H Q) :
    AE c sc W e 0 (fun ρ Φ Ξ => Ta ρ (fun ρ1 x => Tb ρ1 (fun ρ2 y => f x y (Φ ρ2)) Ξ) Ξ) := by
  obtain ⟨ta, pa, sa⟩ := ha
  obtain ⟨tb, pb, sb⟩ := hb
  refine ⟨_, fun X hX => hp X hX (pa X hX) (pb X hX), fun ρ Φ Ξ σ F G H Q e0 hT hQ hx => ?_⟩
  refine ae_two (a := a) (b := b) (Φ := fun ρ2 x y => f x y (Φ ρ2)) sa sb e0 hx hT fun ρ2 x y v u F2 G2 H2 q e2 dv du s2 => ?_
  exact hr x y v u (Φ ρ2) G2 H2 Q e2.same q dv du fun d z hd hz => hQ ρ2 d z [] F2 G2 H2 hd e2 (.frz (hz G2)) s2
theorem ae_uni {e a : Expr} {Ta : TrE} {r : V → Hp → VK → Prop} {f : D → (D → Prop) → Prop} (ha : AE c sc W a 0 Ta) (hp : ∀ X, Is c sc W X → ∀ {ta : TE}, PE X a ta → PE X e (tUn r ta))
    (hr : ∀ x v (Φ : D → Prop) (G H : Hp) (Q : VK), Same G H → f x Φ → Dp c.K G v x → (∀ d z, Φ d → (∀ G : Hp, Dp c.K G z d) → Q z H) → r v H Q) :
    AE c sc W e 0 (fun ρ Φ Ξ => Ta ρ (fun ρ1 x => f x (Φ ρ1)) Ξ) := by
  obtain ⟨ta, pa, sa⟩ := ha
  refine ⟨_, fun X hX => hp X hX (pa X hX), fun ρ Φ Ξ σ F G H Q e0 hT hQ hx => ?_⟩
  refine sa ρ _ Ξ σ F G H _ e0 hT (fun ρ1 x v A F1 G1 H1 q1 e1 r1 s1 => ?_) hx
  exact hr x v (Φ ρ1) G1 H1 Q e1.same q1 r1.dp fun d z hd hz => hQ ρ1 d z [] F1 G1 H1 hd e1 (.frz (hz G1)) s1
end Q

namespace Q
open PySem PySem.Spec PyProof.Rows L2
variable {c : Ctx} {sc : Scope} {W : WX} {Γ : List Ent} {bl : Bl}

def Snd (c : Ctx) (W : WX) (k : Nat) (T : TrE) (t : TE) : Prop := ∀ (ρ : Env) (Φ : Env → D → Prop) (Ξ : Px) (σ : Sg) (F : Foot) (G H : Hp) (Q : VK), En c.K σ ρ F G H → T ρ Φ Ξ →
  (∀ ρ' d v A F' G' H', Φ ρ' d → En c.K σ ρ' F' G' H' → Res c.K F G H F' G' H' k A v d → Stp F G H F' G' H' → Q v H') → Xc c W σ F G H Ξ → t σ H Q
def testOf (T : TrE) : TrT := fun ρ Φ Ξ => T ρ (fun ρ1 x => ∃ b, x = .bool b ∧ Φ ρ1 b) Ξ
/-- as a value and as a test -/
def AB (c : Ctx) (sc : Scope) (W : WX) (e : Expr) (k : Nat) (T : TrE) : Prop := ∃ t : TE, (∀ X, Is c sc W X → PE X e t) ∧ (∀ X, Is c sc W X → PT X e (tB t)) ∧ Snd c W k T t
theorem AB.ae {e : Expr} {k : Nat} {T : TrE} (h : AB c sc W e k T) : AE c sc W e k T := let ⟨t, a, _, s⟩ := h; ⟨t, a, s⟩
theorem Res.bool {K : PySem.W.Frag} {F F' : Foot} {G H G' H' : Hp} {k : Nat} {A : List Addr} {v : V} {b : Bool} (r : Res K F G H F' G' H' k A v (.bool b)) : v = .bl b := by
  cases r.ow with
  | frz h => cases h; rfl
  | flt _ h => cases h; rfl
theorem AB.at {e : Expr} {k : Nat} {T : TrE} (h : AB c sc W e k T) : AT c sc W e (testOf T) := by
  obtain ⟨t, _, b, s0⟩ := h
  refine ⟨_, b, fun ρ Φ Ξ σ F G H Q e0 hT hQ hx => ?_⟩
  refine s0 ρ _ Ξ σ F G H _ e0 hT (fun ρ' d v A F' G' H' q e1 r s => ?_) hx
  obtain ⟨b, rfl, q⟩ := q
  exact ⟨b, r.bool, hQ ρ' b F' G' H' q e1 s⟩
theorem AE.ab {e : Expr} {k : Nat} {T : TrE} (h : AE c sc W e k T) (he : ∀ env whole, isTrue e env whole = (do let v ← whole; standAt e.pos; holding [v] (truthy v))) : AB c sc W e k T :=
  let ⟨t, a, s⟩ := h; ⟨t, a, fun X hX => pt_val (a X hX) (he _), s⟩

/-! ### operators -/
theorem opQ_mul {X : Cx} : OpR X (binaryOp .Mult) (rI IntMulOk fun i j => .int (i * j)) := opI fun _ _ _ _ _ _ _ hc q => mul_int q hc
theorem opQ_div {X : Cx} : OpR X (binaryOp .FloorDiv) (rI (fun i j => j ≠ 0 ∧ Builtin.divisionGoesByPylong i j = false) fun i j => .int (i.fdiv j)) := opI fun _ _ _ _ _ _ _ hc q => floordiv_int hc.1 q (.inl hc.2)
theorem opQ_pow {X : Cx} : OpR X (binaryOp .Pow) (rI (fun i j => 0 ≤ j ∧ (Builtin.Int.intBits i : Int) * j ≤ 2 ^ 27) fun i j => .int (i ^ j.toNat)) := opI fun _ _ _ _ _ _ _ hc q => pow_int hc.1 hc.2 q
def okOp : Operator → Bool
  | .Add | .Sub | .Mult | .FloorDiv | .Mod | .Pow => true
  | _ => false
theorem ae_op {o : Operator} {a b : Expr} {Ta Tb : TrE} {pos : Pos} (ho : okOp o = true) (ha : AE c sc W a 0 Ta) (hb : AE c sc W b 0 Tb) : AE c sc W (.BinOp a o b pos) 0 (fun ρ Φ Ξ => Ta ρ (fun ρ1 x => Tb ρ1 (fun ρ2 y => opD o x y (Φ ρ2)) Ξ) Ξ) := by
  cases o <;> first | (cases ho; done) | skip
  · refine ae_bin ha hb (fun _ _ _ _ h1 h2 => pe_op (op_add.or op_add_str) h1 h2) fun x y v u Φ G H Q g f dv du k => ?_
    cases x <;> cases y <;> simp only [opD] at f <;> first | exact f.elim | skip
    · cases dv; cases du; exact .inl ⟨_, _, rfl, rfl, k _ _ f fun G => .int _⟩
    · cases dv; cases du; exact .inr ⟨_, _, rfl, rfl, f.1, k _ _ f.2 fun G => .str _⟩
  · refine ae_bin ha hb (fun _ _ _ _ h1 h2 => pe_op op_sub h1 h2) fun x y v u Φ G H Q g f dv du k => ?_
    cases x <;> cases y <;> simp only [opD] at f <;> first | exact f.elim | skip
    cases dv; cases du; exact ⟨_, _, rfl, rfl, k _ _ f fun G => .int _⟩
  · refine ae_bin ha hb (fun _ _ _ _ h1 h2 => pe_op opQ_mul h1 h2) fun x y v u Φ G H Q g f dv du k => ?_
    cases x <;> cases y <;> simp only [opD] at f <;> first | exact f.elim | skip
    cases dv; cases du; exact ⟨_, _, rfl, rfl, f.1, k _ _ f.2 fun G => .int _⟩
  · refine ae_bin ha hb (fun _ _ _ _ h1 h2 => pe_op op_modN h1 h2) fun x y v u Φ G H Q g f dv du k => ?_
    cases x <;> cases y <;> simp only [opD] at f <;> first | exact f.elim | skip
    cases dv; cases du; exact ⟨_, _, rfl, rfl, f.1, k _ _ f.2 fun G => .int _⟩
  · refine ae_bin ha hb (fun _ _ _ _ h1 h2 => pe_op opQ_pow h1 h2) fun x y v u Φ G H Q g f dv du k => ?_
    cases x <;> cases y <;> simp only [opD] at f <;> first | exact f.elim | skip
    cases dv; cases du; exact ⟨_, _, rfl, rfl, ⟨f.1, f.2.1⟩, k _ _ f.2.2 fun G => .int _⟩
  · refine ae_bin ha hb (fun _ _ _ _ h1 h2 => pe_op opQ_div h1 h2) fun x y v u Φ G H Q g f dv du k => ?_
    cases x <;> cases y <;> simp only [opD] at f <;> first | exact f.elim | skip
    cases dv; cases du; exact ⟨_, _, rfl, rfl, ⟨f.1, f.2.1⟩, k _ _ f.2.2 fun G => .int _⟩
theorem ae_neg {a : Expr} {Ta : TrE} {pos : Pos} (ha : AE c sc W a 0 Ta) : AE c sc W (.UnaryOp .USub a pos) 0 (fun ρ Φ Ξ => Ta ρ (fun ρ1 x => ∃ i, x = .int i ∧ Φ ρ1 (.int (-i))) Ξ) := by
  refine ae_uni (f := fun x k => ∃ i, x = .int i ∧ k (.int (-i))) ha (fun _ _ _ h => pe_un un_neg h) fun x v Φ G H Q g f dv k => ?_
  obtain ⟨i, rfl, f⟩ := f
  cases dv
  exact ⟨_, rfl, k _ _ f fun G => .int _⟩

/-! ### comparisons -/
def okCmp : CmpOp → Bool
  | .Lt | .LtE | .Gt | .GtE | .Eq | .NotEq | .Is | .IsNot => true
  | _ => false
/-- the reading of a comparison -/
def cmpR (K : PySem.W.Frag) : CmpOp → R2
  | .Eq => rEqD K
  | .NotEq => rNeD K
  | .Lt => rI0 fun i j => .bl (decide (i < j))
  | .LtE => rI0 fun i j => .bl (decide (i ≤ j))
  | .Gt => rI0 fun i j => .bl (decide (j < i))
  | .GtE => rI0 fun i j => .bl (decide (j ≤ i))
  | .Is => fun x y H Q => y = .non ∧ Q (.bl (decide (x = .non))) H
  | .IsNot => fun x y H Q => y = .non ∧ Q (.bl (!decide (x = .non))) H
  | _ => fun _ _ _ _ => False
theorem cmp_ok {X : Cx} (hX : Is c sc W X) (hu : c.A.units + 64 < cLine) {o : CmpOp} (ho : okCmp o = true) : OpR X (compareOp o) (cmpR c.K o) := by
  have hu' : X.A.units + 64 < cLine := by rw [hX.A]; exact hu
  cases o <;> first | (cases ho; done) | skip
  · exact hX.K ▸ op_eqD hu'
  · exact hX.K ▸ op_neD hu'
  · exact op_lt
  · exact op_le
  · exact op_gt
  · exact op_ge
  · exact op_isN
  · exact op_notN
theorem cmp_ne {o : CmpOp} (ho : okCmp o = true) : o ≠ .In ∧ o ≠ .NotIn := by cases o <;> first | (cases ho; done) | decide
theorem cmp_rd {K : PySem.W.Frag} {o : CmpOp} (x y : D) (v u : V) (Φ : D → Prop) (G H : Hp) (Q : VK) (g : Same G H) (f : cmpD o x y Φ) (dv : Dp K G v x) (du : Dp K G u y) (k : ∀ d z, Φ d → (∀ G : Hp, Dp K G z d) → Q z H) : cmpR K o v u H Q := by
  cases o
  · obtain ⟨f1, f2, f3⟩ := f
    exact ⟨x, y, Dp.mono g dv, Dp.mono g du, f1, f2, k _ _ f3 fun G => .bl _⟩
  · obtain ⟨f1, f2, f3⟩ := f
    exact ⟨x, y, Dp.mono g dv, Dp.mono g du, f1, f2, k _ _ f3 fun G => .bl _⟩
  · cases x <;> cases y <;> simp only [cmpD] at f <;> first | exact f.elim | skip
    cases dv; cases du; exact ⟨_, _, rfl, rfl, k _ _ f fun G => .bl _⟩
  · cases x <;> cases y <;> simp only [cmpD] at f <;> first | exact f.elim | skip
    cases dv; cases du; exact ⟨_, _, rfl, rfl, k _ _ f fun G => .bl _⟩
  · cases x <;> cases y <;> simp only [cmpD] at f <;> first | exact f.elim | skip
    cases dv; cases du; exact ⟨_, _, rfl, rfl, k _ _ f fun G => .bl _⟩
  · cases x <;> cases y <;> simp only [cmpD] at f <;> first | exact f.elim | skip
    cases dv; cases du; exact ⟨_, _, rfl, rfl, k _ _ f fun G => .bl _⟩
  · cases x <;> cases y <;> simp only [cmpD] at f <;> first | exact f.elim | skip
    all_goals (cases dv; cases du; exact ⟨rfl, k _ _ f fun G => .bl _⟩)
  · cases x <;> cases y <;> simp only [cmpD] at f <;> first | exact f.elim | skip
    all_goals (cases dv; cases du; exact ⟨rfl, k _ _ f fun G => .bl _⟩)
  · cases x <;> cases y <;> simp only [cmpD] at f
  · cases x <;> cases y <;> simp only [cmpD] at f
theorem ab_cmp (hu : c.A.units + 64 < cLine) {o : CmpOp} {a b : Expr} {Ta Tb : TrE} {pos : Pos} (ho : okCmp o = true) (ha : AE c sc W a 0 Ta) (hb : AE c sc W b 0 Tb) : AB c sc W (.Compare a [o] [b] pos) 0 (fun ρ Φ Ξ => Ta ρ (fun ρ1 x => Tb ρ1 (fun ρ2 y => cmpD o x y (Φ ρ2)) Ξ) Ξ) := by
  obtain ⟨n1, n2⟩ := cmp_ne ho
  obtain ⟨ta, pa, sa⟩ := ha
  obtain ⟨tb, pb, sb⟩ := hb
  refine ⟨_, fun X hX => pe_cmpR (cmp_ok hX hu ho) (pa X hX) (pb X hX) (nobehind b n1 n2), fun X hX => pt_cmpR (cmp_ok hX hu ho) (pa X hX) (pb X hX) (nobehind b n1 n2), fun ρ Φ Ξ σ F G H Q e0 hT hQ hx => ?_⟩
  refine ae_two (a := a) (b := b) (Φ := fun ρ2 x y => cmpD o x y (Φ ρ2)) sa sb e0 hx hT fun ρ2 x y v u F2 G2 H2 q e2 dv du s2 => ?_
  exact cmp_rd x y v u (Φ ρ2) G2 H2 Q e2.same q dv du fun d z hd hz => hQ ρ2 d z [] F2 G2 H2 hd e2 (.frz (hz G2)) s2
theorem cmps_op {X : Cx} {neg : Bool} : OpR X (compareOp (if neg then CmpOp.NotEq else CmpOp.Eq)) (fun x y H Q => scal x y = true ∧ Q (.bl (xor neg (decide (x = y)))) H) := by
  cases neg
  · intro pins s σ H x y v u Q I rx ry h
    exact op_eq pins s σ H x y v u Q I rx ry (by simpa [rEq] using h)
  · intro pins s σ H x y v u Q I rx ry h
    exact op_ne pins s σ H x y v u Q I rx ry (by simpa [rNe] using h)
theorem ab_cmps {neg : Bool} {a b : Expr} {Ta Tb : TrE} {pos : Pos} (ha : AE c sc W a 0 Ta) (hb : AE c sc W b 0 Tb) : AB c sc W (.Compare a [if neg then CmpOp.NotEq else CmpOp.Eq] [b] pos) 0 (fun ρ Φ Ξ => Ta ρ (fun ρ1 x => Tb ρ1 (fun ρ2 y => cmpsD neg x y (Φ ρ2)) Ξ) Ξ) := by
  have n1 : (if neg then CmpOp.NotEq else CmpOp.Eq) ≠ .In := by cases neg <;> decide
  have n2 : (if neg then CmpOp.NotEq else CmpOp.Eq) ≠ .NotIn := by cases neg <;> decide
  obtain ⟨ta, pa, sa⟩ := ha
  obtain ⟨tb, pb, sb⟩ := hb
  refine ⟨_, fun X hX => pe_cmpR cmps_op (pa X hX) (pb X hX) (nobehind b n1 n2), fun X hX => pt_cmpR cmps_op (pa X hX) (pb X hX) (nobehind b n1 n2), fun ρ Φ Ξ σ F G H Q e0 hT hQ hx => ?_⟩
  refine ae_two (a := a) (b := b) (Φ := fun ρ2 x y => cmpsD neg x y (Φ ρ2)) sa sb e0 hx hT fun ρ2 x y v u F2 G2 H2 q e2 dv du s2 => ?_
  cases x <;> cases y <;> simp only [cmpsD] at q <;> first | exact q.elim | skip
  cases dv; cases du
  rename_i s t
  refine ⟨rfl, ?_⟩
  have e : decide (V.str s = V.str t) = decide (s = t) := by simp
  rw [e]
  exact hQ ρ2 _ _ [] F2 G2 H2 q e2 (.frz (.bl _)) s2
theorem ab_chn (hu : c.A.units + 64 < cLine) {o o' : CmpOp} {a b e3 : Expr} {Ta Tb Tc : TrE} {pos : Pos} (ho : okCmp o = true) (ho' : okCmp o' = true) (ha : AE c sc W a 0 Ta) (hb : AE c sc W b 0 Tb) (hc : AE c sc W e3 0 Tc) :
    AB c sc W (.Compare a [o, o'] [b, e3] pos) 0 (fun ρ Φ Ξ => Ta ρ (fun ρ1 x => Tb ρ1 (fun ρ2 y => cmpD o x y fun z => ∃ t, z = .bool t ∧ sel t (Tc ρ2 (fun ρ3 w => cmpD o' y w (Φ ρ3)) Ξ) (Φ ρ2 (.bool false))) Ξ) Ξ) := by
  obtain ⟨n1, n2⟩ := cmp_ne ho
  obtain ⟨n1', n2'⟩ := cmp_ne ho'
  obtain ⟨ta, pa, sa⟩ := ha
  obtain ⟨tb, pb, sb⟩ := hb
  obtain ⟨tc, pc, sc⟩ := hc
  refine ⟨_, fun X hX => pe_chain (cmp_ok hX hu ho) (cmp_ok hX hu ho') (pa X hX) (pb X hX) (pc X hX) (show lastMarks [o, o'] [b, e3] = false from nobehind e3 n1' n2'), fun X hX => pt_chain (cmp_ok hX hu ho) (cmp_ok hX hu ho') (pa X hX) (pb X hX) (pc X hX) (show lastMarks [o, o'] [b, e3] = false from nobehind e3 n1' n2'), fun ρ Φ Ξ σ F G H Q e0 hT hQ hx => ?_⟩
  show ta σ H fun v H1 => tb σ H1 fun u H2 => cmpR c.K o v u H2 fun z H3 => ∃ t, z = .bl t ∧ if t = true then tc σ H3 fun w' H4 => cmpR c.K o' u w' H4 Q else Q (.bl false) H3
  refine ae_two (a := a) (b := b) (R := fun v u H2 => cmpR c.K o v u H2 fun z H3 => ∃ t, z = .bl t ∧ if t = true then tc σ H3 fun w' H4 => cmpR c.K o' u w' H4 Q else Q (.bl false) H3)
    (Φ := fun ρ2 x y => cmpD o x y fun z => ∃ t, z = .bool t ∧ sel t (Tc ρ2 (fun ρ3 w => cmpD o' y w (Φ ρ3)) Ξ) (Φ ρ2 (.bool false))) sa sb e0 hx hT fun ρ2 x y v u F2 G2 H2 q e2 dv du s2 => ?_
  refine cmp_rd x y v u _ G2 H2 _ e2.same q dv du fun d z hd hz => ?_
  obtain ⟨t, rfl, hd⟩ := hd
  cases hz (fun _ => none)
  refine ⟨t, rfl, ?_⟩
  cases t with
  | true =>
    rw [sel_t] at hd; rw [if_pos rfl]
    refine sc ρ2 _ Ξ σ F2 G2 H2 _ e2 hd (fun ρ3 w w' A F3 G3 H3 q3 e3 r3 s3 => ?_) (hx.stp s2)
    exact cmp_rd y w u w' (Φ ρ3) G3 H3 Q e3.same q3 (Dp.mono s3.g du) r3.dp fun d z hd hz => hQ ρ3 d z [] F3 G3 H3 hd e3 (.frz (hz G3)) (s2.trans s3)
  | false =>
    rw [sel_f] at hd; rw [if_neg (by decide)]
    exact hQ ρ2 _ _ [] F2 G2 H2 hd e2 (.frz (.bl false)) s2

/-! ### and, or, not, if -/
theorem AE.toB {e : Expr} {T : TrE} (h : AE c sc W e 0 T) : ∃ t : TE, (∀ X, Is c sc W X → PE X e t) ∧ ∀ (ρ : Env) (Φ : Env → Bool → Prop) (Ξ : Px) (σ : Sg) (F : Foot) (G H : Hp) (Q : VK), En c.K σ ρ F G H → testOf T ρ Φ Ξ →
    (∀ ρ' b F' G' H', Φ ρ' b → En c.K σ ρ' F' G' H' → Stp F G H F' G' H' → Q (.bl b) H') → Xc c W σ F G H Ξ → t σ H Q := by
  obtain ⟨t, a, s0⟩ := h
  refine ⟨t, a, fun ρ Φ Ξ σ F G H Q e0 hT hQ hx => ?_⟩
  refine s0 ρ _ Ξ σ F G H _ e0 hT (fun ρ' d v A F' G' H' q e1 r s => ?_) hx
  obtain ⟨b, rfl, q⟩ := q
  rw [r.bool]
  exact hQ ρ' b F' G' H' q e1 s
def andT (Ta Tb : TrE) : TrE := fun ρ Φ Ξ => Ta ρ (fun ρ1 x => ∃ t, x = .bool t ∧ sel t (Tb ρ1 Φ Ξ) (Φ ρ1 (.bool false))) Ξ
def orT (Ta Tb : TrE) : TrE := fun ρ Φ Ξ => Ta ρ (fun ρ1 x => ∃ t, x = .bool t ∧ sel t (Φ ρ1 (.bool true)) (Tb ρ1 Φ Ξ)) Ξ
theorem ae_and {a b : Expr} {rest : List Expr} {Ta Tb : TrE} {pos : Pos} (ha : AE c sc W a 0 Ta) (hb : AE c sc W (.BoolOp .And (b :: rest) pos) 0 Tb) : AE c sc W (.BoolOp .And (a :: b :: rest) pos) 0 (andT Ta Tb) := by
  obtain ⟨ta, pa, sa⟩ := ha.toB
  obtain ⟨tb, pb, sb⟩ := hb
  refine ⟨_, fun X hX => pe_and (pa X hX) (pb X hX), fun ρ Φ Ξ σ F G H Q e0 hT hQ hx => ?_⟩
  refine sa ρ _ Ξ σ F G H _ e0 hT (fun ρ1 c F1 G1 H1 q e1 s1 => ⟨c, rfl, ?_⟩) hx
  cases c with
  | true =>
    rw [sel_t] at q; rw [if_pos rfl]
    exact sb ρ1 Φ Ξ σ F1 G1 H1 Q e1 q (fun ρ2 d v A F2 G2 H2 q2 e2 r2 s2 => hQ ρ2 d v A F2 G2 H2 q2 e2 (r2.from s1) (s1.trans s2)) (hx.stp s1)
  | false =>
    rw [sel_f] at q; rw [if_neg (by decide)]
    exact hQ ρ1 _ _ [] F1 G1 H1 q e1 (.frz (.bl false)) s1
theorem ae_or {a b : Expr} {rest : List Expr} {Ta Tb : TrE} {pos : Pos} (ha : AE c sc W a 0 Ta) (hb : AE c sc W (.BoolOp .Or (b :: rest) pos) 0 Tb) : AE c sc W (.BoolOp .Or (a :: b :: rest) pos) 0 (orT Ta Tb) := by
  obtain ⟨ta, pa, sa⟩ := ha.toB
  obtain ⟨tb, pb, sb⟩ := hb
  refine ⟨_, fun X hX => pe_or (pa X hX) (pb X hX), fun ρ Φ Ξ σ F G H Q e0 hT hQ hx => ?_⟩
  refine sa ρ _ Ξ σ F G H _ e0 hT (fun ρ1 c F1 G1 H1 q e1 s1 => ⟨c, rfl, ?_⟩) hx
  cases c with
  | false =>
    rw [sel_f] at q; rw [if_neg (by decide)]
    exact sb ρ1 Φ Ξ σ F1 G1 H1 Q e1 q (fun ρ2 d v A F2 G2 H2 q2 e2 r2 s2 => hQ ρ2 d v A F2 G2 H2 q2 e2 (r2.from s1) (s1.trans s2)) (hx.stp s1)
  | true =>
    rw [sel_t] at q; rw [if_pos rfl]
    exact hQ ρ1 _ _ [] F1 G1 H1 q e1 (.frz (.bl true)) s1
theorem ae_one {a : Expr} {op : BoolOp} {Ta : TrE} {pos : Pos} (ha : AE c sc W a 0 Ta) : AE c sc W (.BoolOp op [a] pos) 0 Ta := let ⟨t, p, s⟩ := ha; ⟨t, fun X hX => pe_one (p X hX), s⟩
theorem ae_not {a : Expr} {Ta : TrE} {pos : Pos} (ha : AE c sc W a 0 Ta) : AE c sc W (.UnaryOp .Not a pos) 0 (fun ρ Φ Ξ => Ta ρ (fun ρ1 x => ∃ t, x = .bool t ∧ Φ ρ1 (.bool (!t))) Ξ) := by
  obtain ⟨ta, pa, sa⟩ := ha.toB
  refine ⟨_, fun X hX => pe_not (pa X hX), fun ρ Φ Ξ σ F G H Q e0 hT hQ hx => ?_⟩
  exact sa ρ _ Ξ σ F G H _ e0 hT (fun ρ1 c F1 G1 H1 q e1 s1 => ⟨c, rfl, hQ ρ1 _ _ [] F1 G1 H1 q e1 (.frz (.bl _)) s1⟩) hx
theorem ae_ite {e1 a b : Expr} {Tc Ta Tb : TrE} {pos : Pos} (hc : AT c sc W e1 (testOf Tc)) (ha : AE c sc W a 0 Ta) (hb : AE c sc W b 0 Tb) :
    AE c sc W (.IfExp e1 a b pos) 0 (fun ρ Φ Ξ => Tc ρ (fun ρ1 x => ∃ t, x = .bool t ∧ sel t (Ta ρ1 Φ Ξ) (Tb ρ1 Φ Ξ)) Ξ) := by
  obtain ⟨tc, pc, sc⟩ := hc
  obtain ⟨ta, pa, sa⟩ := ha
  obtain ⟨tb, pb, sb⟩ := hb
  refine ⟨_, fun X hX => pe_ifExp (pc X hX) (pa X hX) (pb X hX), fun ρ Φ Ξ σ F G H Q e0 hT hQ hx => ?_⟩
  refine sc ρ _ Ξ σ F G H _ e0 hT (fun ρ1 c F1 G1 H1 q e1 s1 => ?_) hx
  cases c with
  | true =>
    rw [sel_t] at q; rw [if_pos rfl]
    exact sa ρ1 Φ Ξ σ F1 G1 H1 Q e1 q (fun ρ2 d v A F2 G2 H2 q2 e2 r2 s2 => hQ ρ2 d v A F2 G2 H2 q2 e2 (r2.from s1) (s1.trans s2)) (hx.stp s1)
  | false =>
    rw [sel_f] at q; rw [if_neg (by decide)]
    exact sb ρ1 Φ Ξ σ F1 G1 H1 Q e1 q (fun ρ2 d v A F2 G2 H2 q2 e2 r2 s2 => hQ ρ2 d v A F2 G2 H2 q2 e2 (r2.from s1) (s1.trans s2)) (hx.stp s1)
/-- as tests -/
theorem aw_and {a b : Expr} {rest : List Expr} {Ta Tb : TrE} {pos : Pos} (ha : AT c sc W a (testOf Ta)) (hb : AW c sc W (.BoolOp .And (b :: rest) pos) (testOf Tb)) : AW c sc W (.BoolOp .And (a :: b :: rest) pos) (testOf (andT Ta Tb)) := by
  obtain ⟨ta, pa, sa⟩ := ha
  obtain ⟨tb, pb, sb⟩ := hb
  refine ⟨_, fun X hX => pw_and (pa X hX) (pb X hX), fun ρ Φ Ξ σ F G H Q e0 hT hQ hx => ?_⟩
  refine sa ρ _ Ξ σ F G H _ e0 hT (fun ρ1 c F1 G1 H1 q e1 s1 => ?_) hx
  cases c with
  | true =>
    rw [sel_t] at q; rw [if_pos rfl]
    exact sb ρ1 Φ Ξ σ F1 G1 H1 Q e1 q (fun ρ2 d F2 G2 H2 q2 e2 s2 => hQ ρ2 d F2 G2 H2 q2 e2 (s1.trans s2)) (hx.stp s1)
  | false =>
    rw [sel_f] at q; rw [if_neg (by decide)]
    obtain ⟨b, hb, q⟩ := q
    cases hb
    exact hQ ρ1 _ F1 G1 H1 q e1 s1
theorem aw_or {a b : Expr} {rest : List Expr} {Ta Tb : TrE} {pos : Pos} (ha : AT c sc W a (testOf Ta)) (hb : AW c sc W (.BoolOp .Or (b :: rest) pos) (testOf Tb)) : AW c sc W (.BoolOp .Or (a :: b :: rest) pos) (testOf (orT Ta Tb)) := by
  obtain ⟨ta, pa, sa⟩ := ha
  obtain ⟨tb, pb, sb⟩ := hb
  refine ⟨_, fun X hX => pw_or (pa X hX) (pb X hX), fun ρ Φ Ξ σ F G H Q e0 hT hQ hx => ?_⟩
  refine sa ρ _ Ξ σ F G H _ e0 hT (fun ρ1 c F1 G1 H1 q e1 s1 => ?_) hx
  cases c with
  | false =>
    rw [sel_f] at q; rw [if_neg (by decide)]
    exact sb ρ1 Φ Ξ σ F1 G1 H1 Q e1 q (fun ρ2 d F2 G2 H2 q2 e2 s2 => hQ ρ2 d F2 G2 H2 q2 e2 (s1.trans s2)) (hx.stp s1)
  | true =>
    rw [sel_t] at q; rw [if_pos rfl]
    obtain ⟨b, hb, q⟩ := q
    cases hb
    exact hQ ρ1 _ F1 G1 H1 q e1 s1
theorem aw_one {a : Expr} {op : BoolOp} {T : TrT} {pos : Pos} (ha : AT c sc W a T) : AW c sc W (.BoolOp op [a] pos) T := by
  obtain ⟨t, p, s⟩ := ha
  cases op with
  | And => exact ⟨_, fun X hX => pw_and1 (p X hX), s⟩
  | Or => exact ⟨_, fun X hX => pw_or1 (p X hX), s⟩
theorem AW.at {e : Expr} {T : TrT} (h : AW c sc W e T) : AT c sc W e T := let ⟨t, p, s⟩ := h; ⟨t, fun X hX => (p X hX).pt, s⟩
theorem at_not {a : Expr} {Ta : TrE} {pos : Pos} (ha : AT c sc W a (testOf Ta)) : AT c sc W (.UnaryOp .Not a pos) (testOf (fun ρ Φ Ξ => Ta ρ (fun ρ1 x => ∃ t, x = .bool t ∧ Φ ρ1 (.bool (!t))) Ξ)) := by
  obtain ⟨ta, pa, sa⟩ := ha
  refine ⟨_, fun X hX => pt_not (pa X hX), fun ρ Φ Ξ σ F G H Q e0 hT hQ hx => ?_⟩
  refine sa ρ _ Ξ σ F G H _ e0 hT (fun ρ1 c F1 G1 H1 q e1 s1 => ?_) hx
  obtain ⟨b, hb, q⟩ := q
  cases hb
  exact hQ ρ1 _ F1 G1 H1 q e1 s1
end Q

namespace Q
open PySem PySem.Spec PyProof.Rows L2
variable {c : Ctx} {sc : Scope} {W : WX} {Γ : List Ent} {bl : Bl}

/-! ### several expressions, displays -/
theorem al_nil {m : Nat} : AL c sc W [] m 0 (fun ρ Φ _ => Φ ρ []) :=
  ⟨_, fun _ _ => pa_nil, fun ρ Φ Ξ σ F G H Q e hT hQ _ => hQ ρ [] [] [] F G H hT rfl e ⟨.nil, .nil, (fun _ h => nomatch h), (fun _ h => nomatch h), (fun _ h => nomatch h)⟩ (.refl _ _ _)⟩
theorem al_cons {e : Expr} {es : List Expr} {m n : Nat} {Te : TrE} {Ts : TrL} (he : AE c sc W e m Te) (hs : AL c sc W es m n Ts) (h : ∀ env, starEach (e :: es) env = (false, eval e env) :: starEach es env) :
    AL c sc W (e :: es) m (n + 1) (fun ρ Φ Ξ => Te ρ (fun ρ1 d => Ts ρ1 (fun ρ2 ds => Φ ρ2 (d :: ds)) Ξ) Ξ) := by
  obtain ⟨te, pe, se⟩ := he
  obtain ⟨ts, ps, ss⟩ := hs
  refine ⟨_, fun X hX => pa_cons (pe X hX) (ps X hX) (h _), fun ρ Φ Ξ σ F G H Q e0 hT hQ hx => ?_⟩
  refine se ρ _ Ξ σ F G H _ e0 hT (fun ρ1 d v A F1 G1 H1 q1 e1 r1 s1 => ?_) hx
  refine ss ρ1 _ Ξ σ F1 G1 H1 _ e1 q1 (fun ρ2 ds vs B F2 G2 H2 q2 hl e2 r2 s2 => ?_) (hx.stp s1)
  have r1' := r1.stp s2
  refine hQ ρ2 (d :: ds) (v :: vs) (A ++ B) F2 G2 H2 q2 (by rw [List.length_cons, hl]) e2 ⟨.cons r1'.ow r2.ow, ?_, fun a ha => ?_, fun a ha => ?_, fun a ha => ?_⟩ (s1.trans s2)
  · refine List.nodup_append.mpr ⟨r1.nod, r2.nod, fun a ha b hb z => ?_⟩
    subst z
    rcases r2.new a hb with ⟨j, hj⟩ | hn
    · exact r1.dis a ha j hj
    · obtain ⟨vs, q⟩ := Ow.there r1.ow a ha
      rw [hn] at q; cases q
  · exact (List.mem_append.mp ha).elim (r1'.out a) (r2.out a)
  · exact (List.mem_append.mp ha).elim (r1'.dis a) (r2.dis a)
  · rcases List.mem_append.mp ha with ha | ha
    · exact r1'.new a ha
    · rcases r2.new a ha with ⟨j, hj⟩ | hn
      · exact s1.nf j a hj
      · refine .inr ?_
        cases q : H a with
        | none => rfl
        | some o => exact absurd hn (s1.th a (by rw [q]; simp))
theorem small_line {n : Nat} (h : n ≤ 16777216) : n ≤ sizeLine := by rw [sizeLine_eq]; exact h
theorem ae_tup {es : List Expr} {n : Nat} {x1 : Nat} {pos : Pos} {T : TrL} (h : AL c sc W es 0 n T) (hn : n ≤ 16777216) : AE c sc W (.Tuple es x1 pos) 0 (fun ρ Φ Ξ => T ρ (fun ρ1 ds => Φ ρ1 (.tuple ds)) Ξ) := by
  obtain ⟨t, p, s⟩ := h
  refine ⟨_, fun X hX => pe_tup (p X hX), fun ρ Φ Ξ σ F G H Q e0 hT hQ hx => ?_⟩
  refine s ρ _ Ξ σ F G H _ e0 hT (fun ρ1 ds vs A F1 G1 H1 q1 hl e1 r1 s1 => ⟨?_, fun p hp => ?_⟩) hx
  · rw [DpAll.length r1.dp, hl]; exact small_line hn
  · obtain ⟨e2, s2⟩ := e1.laid (o := .tup vs) hp trivial trivial
    exact hQ ρ1 _ (.ref p) [] F1 _ _ q1 e2 (.frz (.tup (.inl (.inl upd_same)) (DpAll.mono s2.g r1.dp))) (s1.trans s2)
/-- a new list at p, whose items are at hand -/
theorem Ress.list {K : PySem.W.Frag} {σ : Sg} {ρ : Env} {F F1 : Foot} {G H G1 H1 : Hp} {k : Nat} {A : List Addr} {vs : List V} {ds : List D} {p : Addr} (e : En K σ ρ F1 G1 H1) (r : Ress K F G H F1 G1 H1 k A vs ds) (s : Stp F G H F1 G1 H1) (hp : H1 p = none) (hl : vs.length ≤ 16777216) :
    En K σ ρ F1 G1 (upd H1 p (.lst vs)) ∧ Stp F G H F1 G1 (upd H1 p (.lst vs)) ∧ Res K F G H F1 G1 (upd H1 p (.lst vs)) (k + 1) (p :: A) (.ref p) (.list ds) := by
  obtain ⟨e2, s2⟩ := e.beside (o := .lst vs) hp hl
  have hpA : p ∉ A := fun z => by
    obtain ⟨ws, q⟩ := Ows.there r.ow p z
    rw [hp] at q; cases q
  refine ⟨e2, s.trans s2, ⟨.lst upd_same (Ows.mono (Same.refl _) (fun b hb o q => by rw [upd_ne (ne_of_none q hp)]; exact q) r.ow), List.nodup_cons.mpr ⟨hpA, r.nod⟩, fun a ha => ?_, fun a ha i hi => ?_, fun a ha => ?_⟩⟩
  · rcases List.mem_cons.mp ha with rfl | ha
    · exact e.same.free hp
    · exact r.out a ha
  · rcases List.mem_cons.mp ha with rfl | ha
    · exact e.th i a hi hp
    · exact r.dis a ha i hi
  · rcases List.mem_cons.mp ha with rfl | ha
    · refine .inr ?_
      cases q : H a with
      | none => rfl
      | some o => exact absurd hp (s.th a (by rw [q]; simp))
    · exact r.new a ha
theorem ae_lst {es : List Expr} {k n : Nat} {pos : Pos} {T : TrL} (h : AL c sc W es k n T) (hn : n ≤ 16777216) : AE c sc W (.List es pos) (k + 1) (fun ρ Φ Ξ => T ρ (fun ρ1 ds => Φ ρ1 (.list ds)) Ξ) := by
  obtain ⟨t, p, s⟩ := h
  refine ⟨_, fun X hX => pe_lst (p X hX), fun ρ Φ Ξ σ F G H Q e0 hT hQ hx => ?_⟩
  refine s ρ _ Ξ σ F G H _ e0 hT (fun ρ1 ds vs A F1 G1 H1 q1 hl e1 r1 s1 => ⟨?_, fun p hp => ?_⟩) hx
  · rw [Ows.length r1.ow, hl]; exact small_line hn
  · obtain ⟨e2, s2, r2⟩ := r1.list e1 s1 hp (by rw [Ows.length r1.ow, hl]; exact hn)
    exact hQ ρ1 _ (.ref p) _ F1 _ _ q1 e2 r2 s2

/-! ### subscripts -/
theorem atI_get {K : PySem.W.Frag} {H : Hp} {vs : List V} {ds : List D} {i : Int} {d : D} (r : DpAll K H vs ds) (h : atI ds i = some d) : ∃ v, atI vs i = some v ∧ Dp K H v d := by
  unfold atI at h ⊢
  rw [DpAll.length r]
  cases q : ixN ds.length i with
  | none => rw [q] at h; cases h
  | some j =>
    rw [q] at h
    exact DpAll.get r h
theorem ae_ix {a b : Expr} {Ta Tb : TrE} {pos : Pos} (ha : AE c sc W a 0 Ta) (hb : AE c sc W b 0 Tb) (hs : PlainIx b) : AE c sc W (.Subscript a b pos) 0 (fun ρ Φ Ξ => Ta ρ (fun ρ1 x => Tb ρ1 (fun ρ2 y => ixD x y (Φ ρ2)) Ξ) Ξ) := by
  obtain ⟨ta, pa, sa⟩ := ha
  obtain ⟨tb, pb, sb⟩ := hb
  refine ⟨_, fun X hX => pe_ix (r := fun x y H Q => rIxL c.K x y H Q ∨ rIxT c.K x y H Q) (hX.K ▸ (ix_list.or ix_tup)) (pa X hX) (pb X hX) hs, fun ρ Φ Ξ σ F G H Q e0 hT hQ hx => ?_⟩
  refine ae_two (a := a) (b := b) (Φ := fun ρ2 x y => ixD x y (Φ ρ2)) sa sb e0 hx hT fun ρ2 x y v u F2 G2 H2 q e2 dv du s2 => ?_
  have q := ixD_r q
  cases x <;> cases y <;> simp only [ixR] at q <;> first | exact q.elim | skip
  · obtain ⟨d, h1, h2⟩ := q
    cases du
    cases dv with
    | lst h r =>
      obtain ⟨z, hz, hd⟩ := atI_get r h1
      exact .inl ⟨_, _, _, z, rfl, rfl, e2.same.seq h, hz, hQ ρ2 d z [] F2 G2 H2 h2 e2 (.frz hd) s2⟩
  · obtain ⟨d, h1, h2⟩ := q
    cases du
    cases dv with
    | tup h r =>
      obtain ⟨z, hz, hd⟩ := atI_get r h1
      exact .inr ⟨_, _, _, z, rfl, rfl, SqT.mono e2.same h, hz, hQ ρ2 d z [] F2 G2 H2 h2 e2 (.frz hd) s2⟩
theorem isOw_some {c : Cell} (h : isOw c) : ∃ k ds, c = .ow (k + 1) (.list ds) := by
  cases c with
  | un => exact h.elim
  | va d => exact h.elim
  | hol _ _ _ _ => exact h.elim
  | ln _ => exact h.elim
  | ow k d => cases k <;> cases d <;> first | exact h.elim | exact ⟨_, _, rfl⟩
/-- an owned list at a name -/
theorem En.owned {K : PySem.W.Frag} {σ : Sg} {ρ : Env} {F : Foot} {G H : Hp} {i k : Nat} {ds : List D} (e : En K σ ρ F G H) (h : getC ρ i = .ow (k + 1) (.list ds)) :
    ∃ a A vs, σ[i]? = some (some (.ref a)) ∧ F i = a :: A ∧ H a = some (.lst vs) ∧ Ows K G H k A vs ds := by
  obtain ⟨v, hv, ho⟩ : ∃ v, σ[i]? = some (some v) ∧ Ow K G H (k + 1) (F i) v (.list ds) := e.cell i _ (getC_some h (by simp))
  generalize hA : F i = A at ho
  cases ho with
  | flt f _ => cases f
  | lst h r => exact ⟨_, _, _, hv, rfl, h, r⟩
theorem ae_pk {b : Expr} {Tb : TrE} {i : Nat} {x : Str} {p pos : Pos} (h : c.N[i]? = some x) (hv : Vis sc x) (hd : (x == ("__debug__" : Str)) = false) (hcd : (x == ("__classdict__" : Str)) = false) (hb : AE c sc W b 0 Tb) (hs : PlainIx b) :
    AE c sc W (.Subscript (.Name x p) b pos) 0 (fun ρ Φ Ξ => isOw (getC ρ i) ∧ Tb ρ (fun ρ1 y => pkD (getC ρ1 i) y (Φ ρ1)) Ξ) := by
  obtain ⟨tb, pb, sb⟩ := hb
  refine ⟨_, fun X hX => pe_ix (r := rIxL c.K) (hX.K ▸ ix_list) (pe_var (hX.ix h) (hX.vis hv) hd hcd) (pb X hX) hs, fun ρ Φ Ξ σ F G H Q e0 hT hQ hx => ?_⟩
  obtain ⟨ho, hT⟩ := hT
  obtain ⟨k, ds, hc⟩ := isOw_some ho
  obtain ⟨a, A, vs, h1, _⟩ := e0.owned hc
  refine ⟨_, h1, ?_⟩
  refine sb ρ _ Ξ σ F G H _ e0 hT (fun ρ1 y u B F1 G1 H1 q1 e1 r1 s1 => ?_) hx
  cases q : getC ρ1 i with
  | un => rw [q] at q1; exact q1.elim
  | va d => rw [q] at q1; exact q1.elim
  | hol _ _ _ _ => rw [q] at q1; exact q1.elim
  | ln _ => rw [q] at q1; exact q1.elim
  | ow k d =>
    rw [q] at q1
    match k, d, q with
    | 0, _, _ => exact q1.elim
    | k + 2, _, _ => exact q1.elim
    | 1, .none, _ => exact q1.elim
    | 1, .bool _, _ => exact q1.elim
    | 1, .int _, _ => exact q1.elim
    | 1, .str _, _ => exact q1.elim
    | 1, .tuple _, _ => exact q1.elim
    | 1, .dict _, _ => exact q1.elim
    | 1, .list ds, q =>
      cases y <;> first | exact q1.elim | skip
      obtain ⟨d, h3, h4⟩ := q1
      obtain ⟨a', A', vs', g1, g2, g3, g4⟩ := e1.owned q
      rw [h1] at g1
      cases g1
      obtain ⟨_, g5⟩ := Ows.to_frz g4
      obtain ⟨z, hz, hd⟩ := atI_get g5 h3
      cases r1.dp
      exact ⟨_, _, _, z, rfl, rfl, .inl (.inl g3), hz, hQ ρ1 d z [] F1 G1 H1 h4 e1 (.frz hd) s1⟩

/-! ### built-in functions -/
def Bi.name : Bi → Str
  | .len => "len" | .abs => "abs" | .mn => "min" | .mx => "max" | .int => "int" | .any => "any" | .all => "all" | .str => "str"
def bi1 : Bi → Nat
  | .mn => 2 | .mx => 2 | _ => 1
theorem bls_of {K : PySem.W.Frag} {H : Hp} : ∀ {bs : List Bool} {vs : List V}, DpAll K H vs (bs.map PyData.bool) → vs = bs.map V.bl
  | [], _, .nil => rfl
  | b :: bs, _, .cons h r => by
    cases h
    rw [bls_of r]
    rfl
theorem ae_blt {b : Bi} {e : Expr} {es : List Expr} {n : Nat} {p pos : Pos} {T : TrL} (h : AL c sc W (e :: es) 0 n T) (hg : GlS sc b.name) (hm : c.mg b.name = none)
    (he : ∀ env, starEach (e :: es) env = (false, eval e env) :: starEach es env) (hpl : ∀ env, (backTo pos (starEach es env)).any (·.1) = false) :
    AE c sc W (.Call (.Name b.name p) (e :: es) [] pos) 0 (fun ρ Φ Ξ => T ρ (fun ρ1 ds => bltD b ds (Φ ρ1)) Ξ) := by
  obtain ⟨t, pt, s⟩ := h
  have go : ∀ (r : List V → Hp → VK → Prop), (∀ X, Is c sc W X → PE X (.Call (.Name b.name p) (e :: es) [] pos) (tCB r t)) →
      (∀ ds vs (Φ : D → Prop) (G H : Hp) (Q : VK), Same G H → bltD b ds Φ → DpAll c.K G vs ds → (∀ d z, Φ d → (∀ G : Hp, Dp c.K G z d) → Q z H) → r vs H Q) →
      AE c sc W (.Call (.Name b.name p) (e :: es) [] pos) 0 (fun ρ Φ Ξ => T ρ (fun ρ1 ds => bltD b ds (Φ ρ1)) Ξ) := fun r hp hr => by
    refine ⟨_, hp, fun ρ Φ Ξ σ F G H Q e0 hT hQ hx => ?_⟩
    refine s ρ _ Ξ σ F G H _ e0 hT (fun ρ1 ds vs A F1 G1 H1 q1 hl e1 r1 s1 => ?_) hx
    exact hr ds vs (Φ ρ1) G1 H1 Q e1.same q1 r1.dp fun d z hd hz => hQ ρ1 d z [] F1 G1 H1 hd e1 (.frz (hz G1)) s1
  cases b
  · refine go _ (fun X hX => pe_callB (r := fun xs H Q => ∃ p ys, xs = [V.ref p] ∧ (SqL c.K H p ys ∨ SqT c.K H p ys) ∧ Q (.int ys.length) H) (hX.K ▸ call_len_seq) (hX.gl hg) (hX.no hm) (by decide +kernel) (pt X hX) (by decide +kernel) (by decide +kernel) (he _) (hpl _)) fun ds vs Φ G H Q g f r k => ?_
    match ds, r with
    | [], _ => exact f.elim
    | [.list xs], .cons (.lst h _r) .nil => exact ⟨_, _, rfl, .inl (g.seq h), by rw [DpAll.length _r]; exact k _ _ f fun G => .int _⟩
    | [.tuple xs], .cons (.tup h _r) .nil => exact ⟨_, _, rfl, .inr (SqT.mono g h), by rw [DpAll.length _r]; exact k _ _ f fun G => .int _⟩
    | [.none], _ => exact f.elim
    | [.bool _], _ => exact f.elim
    | [.int _], _ => exact f.elim
    | [.str _], _ => exact f.elim
    | [.dict _], _ => exact f.elim
    | _ :: _ :: _, _ => simp [bltD] at f
  · refine go _ (fun X hX => pe_callB call_abs (hX.gl hg) (hX.no hm) (by decide +kernel) (pt X hX) (by decide +kernel) (by decide +kernel) (he _) (hpl _)) fun ds vs Φ G H Q g f r k => ?_
    match ds, r with
    | [], _ => exact f.elim
    | [.int i], .cons (.int _) .nil => exact ⟨_, rfl, k _ _ f fun G => .int _⟩
    | [.list xs], _ => exact f.elim
    | [.tuple xs], _ => exact f.elim
    | [.none], _ => exact f.elim
    | [.bool _], _ => exact f.elim
    | [.str _], _ => exact f.elim
    | [.dict _], _ => exact f.elim
    | _ :: _ :: _, _ => simp [bltD] at f
  · refine go _ (fun X hX => pe_callB (call_min2 hX.calm) (hX.gl hg) (hX.no hm) (by decide +kernel) (pt X hX) (by decide +kernel) (by decide +kernel) (he _) (hpl _)) fun ds vs Φ G H Q g f r k => ?_
    match ds, r with
    | [], _ => exact f.elim
    | [.int i, .int j], .cons (.int _) (.cons (.int _) .nil) => exact ⟨_, _, rfl, k _ _ f fun G => .int _⟩
    | [_], _ => simp [bltD] at f
    | a :: b :: c :: r, _ => simp [bltD] at f
    | [a, b], _ => cases a <;> cases b <;> simp [bltD] at f <;> (rename_i r; cases r with | cons h1 h2 => cases h1; cases h2 with | cons h3 h4 => cases h3; cases h4; exact ⟨_, _, rfl, k _ _ f fun G => .int _⟩)
  · refine go _ (fun X hX => pe_callB (call_max2 hX.calm) (hX.gl hg) (hX.no hm) (by decide +kernel) (pt X hX) (by decide +kernel) (by decide +kernel) (he _) (hpl _)) fun ds vs Φ G H Q g f r k => ?_
    match ds, r with
    | [], _ => exact f.elim
    | [.int i, .int j], .cons (.int _) (.cons (.int _) .nil) => exact ⟨_, _, rfl, k _ _ f fun G => .int _⟩
    | [_], _ => simp [bltD] at f
    | a :: b :: c :: r, _ => simp [bltD] at f
    | [a, b], _ => cases a <;> cases b <;> simp [bltD] at f <;> (rename_i r; cases r with | cons h1 h2 => cases h1; cases h2 with | cons h3 h4 => cases h3; cases h4; exact ⟨_, _, rfl, k _ _ f fun G => .int _⟩)
  · refine go _ (fun X hX => pe_callTy call_int1 (hX.gl hg) (hX.no hm) (by decide +kernel) (pt X hX) (by decide +kernel) (by decide +kernel) (he _) (hpl _)) fun ds vs Φ G H Q g f r k => ?_
    match ds, r with
    | [], _ => exact f.elim
    | [.int i], .cons (.int _) .nil => exact .inl ⟨_, rfl, k _ _ f fun G => .int _⟩
    | [.bool i], .cons (.bl _) .nil => exact .inr ⟨_, rfl, k _ _ f fun G => .int _⟩
    | [.list xs], _ => exact f.elim
    | [.tuple xs], _ => exact f.elim
    | [.none], _ => exact f.elim
    | [.str _], _ => exact f.elim
    | [.dict _], _ => exact f.elim
    | _ :: _ :: _, _ => simp [bltD] at f
  · refine go _ (fun X hX => pe_callB (r := rAny c.K) (hX.K ▸ cr_any hX.calm) (hX.gl hg) (hX.no hm) (by decide +kernel) (pt X hX) (by decide +kernel) (by decide +kernel) (he _) (hpl _)) fun ds vs Φ G H Q g f r k => ?_
    match ds, r with
    | [], _ => exact f.elim
    | [.list xs], .cons (.lst h r) .nil =>
      obtain ⟨bs, rfl, f⟩ := f
      exact ⟨_, bs, rfl, by rw [← bls_of r]; exact g.seq h, k _ _ f fun G => .bl _⟩
    | [.tuple xs], _ => exact f.elim
    | [.none], _ => exact f.elim
    | [.bool _], _ => exact f.elim
    | [.int _], _ => exact f.elim
    | [.str _], _ => exact f.elim
    | [.dict _], _ => exact f.elim
    | _ :: _ :: _, _ => simp [bltD] at f
  · refine go _ (fun X hX => pe_callB (r := rAll c.K) (hX.K ▸ cr_all hX.calm) (hX.gl hg) (hX.no hm) (by decide +kernel) (pt X hX) (by decide +kernel) (by decide +kernel) (he _) (hpl _)) fun ds vs Φ G H Q g f r k => ?_
    match ds, r with
    | [], _ => exact f.elim
    | [.list xs], .cons (.lst h r) .nil =>
      obtain ⟨bs, rfl, f⟩ := f
      exact ⟨_, bs, rfl, by rw [← bls_of r]; exact g.seq h, k _ _ f fun G => .bl _⟩
    | [.tuple xs], _ => exact f.elim
    | [.none], _ => exact f.elim
    | [.bool _], _ => exact f.elim
    | [.int _], _ => exact f.elim
    | [.str _], _ => exact f.elim
    | [.dict _], _ => exact f.elim
    | _ :: _ :: _, _ => simp [bltD] at f
  · refine go _ (fun X hX => pe_callTy (CallR.or call_str_int SkE.call_str_str) (hX.gl hg) (hX.no hm) (by decide +kernel) (pt X hX) (by decide +kernel) (by decide +kernel) (he _) (hpl _)) fun ds vs Φ G H Q g f r k => ?_
    match ds, r with
    | [], _ => exact f.elim
    | [.int i], .cons (.int _) .nil => exact .inl ⟨_, rfl, f.1, k _ _ f.2 fun G => .str _⟩
    | [.str i], .cons (.str _) .nil => exact .inr ⟨_, rfl, k _ _ f fun G => .str _⟩
    | [.list xs], _ => exact f.elim
    | [.tuple xs], _ => exact f.elim
    | [.none], _ => exact f.elim
    | [.bool _], _ => exact f.elim
    | [.dict _], _ => exact f.elim
    | _ :: _ :: _, _ => simp [bltD] at f
/-! ### two lists in one -/
def rCatQ (K : PySem.W.Frag) : R2 := fun x y H Q => ∃ l b xs zs, x = .ref l ∧ y = .ref b ∧ SqL K H l xs ∧ SqL K H b zs ∧ xs.length + zs.length ≤ sizeLine ∧ ∀ p, H p = none → Q (.ref p) (upd H p (.lst (xs ++ zs)))
theorem op_catQ {X : Cx} : OpR X (binaryOp .Add) (rCatQ X.K) := by
  intro pins s σ H x y v u Q I rx ry h
  obtain ⟨l, b, xs, zs, rfl, rfl, hH, hB, hz, q⟩ := h
  cases rx
  cases ry
  obtain ⟨its, r, pl, z1⟩ := I.list hH
  obtain ⟨its2, r2, pl2, z2⟩ := I.list hB
  obtain ⟨⟨cls, dd, data, sl⟩, ho, hc, n, hd⟩ := pl.isList
  obtain ⟨⟨cls2, dd2, data2, sl2⟩, ho2, hc2, n2, hd2⟩ := pl2.isList
  simp only at hc hd hc2 hd2
  subst hc hd hc2 hd2
  have hl := r.length
  have hl2 := r2.length
  have e : its.toArray ++ its2.toArray = (its ++ its2).toArray := by simp
  refine concat_meets ⟨_, ho, rfl⟩ ⟨_, ho2, rfl⟩ noFill_list_add seq_list_add PySem.F.slot_list_add PySem.F.entry_list_add (PySem.F.args_list_add_2 _ _) (list_addW l b its.toArray its2.toArray n n2 dd dd2 sl sl2 (by rw [List.size_toArray, List.size_toArray]; omega)) ⟨ho, ho2, ?_⟩
  rw [e]
  exact ⟨.ref _, _, I.lnew (t' := s.toks) (r.append r2) (by rw [List.length_append]; omega), rfl, q _ I.fresh⟩
theorem ae_cat {a b : Expr} {Ta Tb : TrE} {pos : Pos} (ha : AE c sc W a 0 Ta) (hb : AE c sc W b 0 Tb) : AE c sc W (.BinOp a .Add b pos) 1 (fun ρ Φ Ξ => Ta ρ (fun ρ1 x => Tb ρ1 (fun ρ2 y => catD x y (Φ ρ2)) Ξ) Ξ) := by
  obtain ⟨ta, pa, sa⟩ := ha
  obtain ⟨tb, pb, sb⟩ := hb
  refine ⟨_, fun X hX => pe_op (r := rCatQ c.K) (hX.K ▸ op_catQ) (pa X hX) (pb X hX), fun ρ Φ Ξ σ F G H Q e0 hT hQ hx => ?_⟩
  show ta σ H fun v H1 => tb σ H1 fun u H2 => rCatQ c.K v u H2 Q
  refine ae_two (a := a) (b := b) (R := fun v u H2 => rCatQ c.K v u H2 Q) (Φ := fun ρ2 x y => catD x y (Φ ρ2)) sa sb e0 hx hT fun ρ2 x y v u F2 G2 H2 q e2 dv du s2 => ?_
  match x, y, dv, du, catD_r q with
  | .list ds, .list es, .lst h1 r1, .lst h2 r2, q =>
    have q : ds.length + es.length ≤ 16777216 ∧ Φ ρ2 (.list (ds ++ es)) := q
    have r := DpAll.append r1 r2
    have hl := DpAll.length r
    rw [List.length_append, List.length_append] at hl
    refine ⟨_, _, _, _, rfl, rfl, e2.same.seq h1, e2.same.seq h2, by rw [sizeLine_eq]; omega, fun p hp => ?_⟩
    have r0 : Ress c.K F2 G2 H2 F2 G2 H2 0 [] _ _ := ⟨Ows.of_frz r, .nil, (fun _ h => nomatch h), (fun _ h => nomatch h), (fun _ h => nomatch h)⟩
    obtain ⟨e3, s3, r3⟩ := r0.list e2 (.refl _ _ _) hp (by rw [List.length_append]; omega)
    exact hQ ρ2 _ (.ref p) _ F2 _ _ q.2 e3 (r3.from s2) (s2.trans s3)
  | .none, _, _, _, q => exact q.elim
  | .bool _, _, _, _, q => exact q.elim
  | .int _, _, _, _, q => exact q.elim
  | .str _, _, _, _, q => exact q.elim
  | .tuple _, _, _, _, q => exact q.elim
  | .dict _, _, _, _, q => exact q.elim
  | .list _, .none, _, _, q => exact q.elim
  | .list _, .bool _, _, _, q => exact q.elim
  | .list _, .int _, _, _, q => exact q.elim
  | .list _, .str _, _, _, q => exact q.elim
  | .list _, .tuple _, _, _, q => exact q.elim
  | .list _, .dict _, _, _, q => exact q.elim
theorem ae_lenv {i : Nat} {x : Str} {p p2 pos : Pos} (h : c.N[i]? = some x) (hv : Vis sc x) (hd : (x == ("__debug__" : Str)) = false) (hcd : (x == ("__classdict__" : Str)) = false) (hg : GlS sc "len") (hm : c.mg "len" = none) :
    AE c sc W (.Call (.Name "len" p) [.Name x p2] [] pos) 0 (fun ρ Φ _ => lenC (getC ρ i) (Φ ρ)) := by
  refine ⟨_, fun X hX => pe_callB (r := fun xs H Q => ∃ p ys, xs = [V.ref p] ∧ (SqL c.K H p ys ∨ SqT c.K H p ys) ∧ Q (.int ys.length) H) (hX.K ▸ call_len_seq) (hX.gl hg) (hX.no hm) (by decide +kernel) (pa_cons (pe_var (hX.ix h) (hX.vis hv) hd hcd) pa_nil), fun ρ Φ Ξ σ F G H Q e0 hT hQ hx => ?_⟩
  dsimp only at hT
  cases q : getC ρ i with
  | un => rw [q] at hT; exact hT.elim
  | hol k v a b =>
    rw [q] at hT
    obtain ⟨p, vs, ws, A1, A2, h1, h2, h3, h4, h5⟩ := e0.cell i _ (getC_some q (by simp))
    refine ⟨_, h1, _, _, rfl, .inl (.inl (.inl h2)), ?_⟩
    have hl : (vs ++ v :: ws).length = a.length + (1 + b.length) := by
      rw [List.length_append, List.length_cons, Ows.length h4, Ows.length h5]; omega
    rw [hl]
    exact hQ ρ _ _ [] F G H hT e0 (.frz (.int _)) (.refl _ _ _)
  | ln n =>
    rw [q] at hT
    obtain ⟨p, vs, h1, h2, h3⟩ := e0.cell i _ (getC_some q (by simp))
    refine ⟨_, h1, _, _, rfl, .inl (e0.same.seq h2), ?_⟩
    rw [h3]
    exact hQ ρ _ _ [] F G H hT e0 (.frz (.int _)) (.refl _ _ _)
  | va d =>
    rw [q] at hT
    cases d <;> first | exact hT.elim | skip
    obtain ⟨v, h1, h2⟩ : ∃ v, σ[i]? = some (some v) ∧ Dp c.K G v (.list _) := e0.cell i _ (getC_some q (by simp))
    cases h2 with
    | lst h3 r =>
      exact ⟨_, h1, _, _, rfl, .inl (e0.same.seq h3), by rw [DpAll.length r]; exact hQ ρ _ _ [] F G H hT e0 (.frz (.int _)) (.refl _ _ _)⟩
  | ow k d =>
    rw [q] at hT
    cases k with
    | zero => cases d <;> exact hT.elim
    | succ k =>
      cases d <;> first | exact hT.elim | skip
      obtain ⟨a, A, vs, h1, h2, h3, h4⟩ := e0.owned q
      exact ⟨_, h1, _, _, rfl, .inl (.inl (.inl h3)), by rw [Ows.length h4]; exact hQ ρ _ _ [] F G H hT e0 (.frz (.int _)) (.refl _ _ _)⟩

/-! ### isinstance -/
def Ty.name : Ty → Str
  | .int => "int" | .bool => "bool" | .str => "str" | .list => "list" | .tuple => "tuple"
def Ty.id : Ty → String
  | .int => "int" | .bool => "bool" | .str => "str" | .list => "list" | .tuple => "tuple"
theorem Dp.ty {K : PySem.W.Frag} {H : Hp} {v : V} {d : D} (h : Dp K H v d) : ∃ n : String, TyX K H v (.type n) ∧ ∀ (t : Ty) r, isiD d t = some r → kitB n t.id = some r := by
  cases h with
  | non => exact ⟨_, .base .non, fun t r e => by cases t <;> cases e <;> decide +kernel⟩
  | bl b => exact ⟨_, .base (.bl b), fun t r e => by cases t <;> cases e <;> decide +kernel⟩
  | int i => exact ⟨_, .base (.int i), fun t r e => by cases t <;> cases e <;> decide +kernel⟩
  | str x => exact ⟨_, .base (.str x), fun t r e => by cases t <;> cases e <;> decide +kernel⟩
  | lst h _ =>
    refine ⟨"list", ?_, fun t r e => by cases t <;> cases e <;> decide +kernel⟩
    rcases h with (h | ⟨o, h⟩) | ⟨o, its, n, h1, h2, _⟩
    · exact .base (.lst h)
    · exact .base (.frz h)
    · exact .kList h1 h2
  | tup h _ =>
    refine ⟨"tuple", ?_, fun t r e => by cases t <;> cases e <;> decide +kernel⟩
    rcases h with (h | ⟨o, h⟩) | ⟨o, its, n, h1, h2, _⟩
    · exact .base (.tup h)
    · exact .fTuple h
    · exact .kTuple h1 h2
theorem boot_ty (t : Ty) : bootBuiltins t.name = some (.type t.id) := by cases t <;> decide +kernel
theorem ae_isi {a : Expr} {Ta : TrE} {t : Ty} {p p2 pos : Pos} (ha : AE c sc W a 0 Ta) (hg : GlS sc "isinstance") (hm : c.mg "isinstance" = none) (hg2 : GlS sc t.name) (hm2 : c.mg t.name = none)
    (he : ∀ env, starEach [a, .Name t.name p2] env = (false, eval a env) :: starEach [.Name t.name p2] env) :
    AE c sc W (.Call (.Name "isinstance" p) [a, .Name t.name p2] [] pos) 0 (fun ρ Φ Ξ => Ta ρ (fun ρ1 x => ∃ r, isiD x t = some r ∧ Φ ρ1 (.bool r)) Ξ) := by
  obtain ⟨ta, pa, sa⟩ := ha
  have pt : ∀ X, Is c sc W X → PE X (.Name t.name p2) (tC (.ty t.id)) := fun X hX => pe_bltn (hX.gl hg2) (hX.no hm2) (boot_ty t) rfl (by cases t <;> decide +kernel) (by cases t <;> decide +kernel)
  refine ⟨_, fun X hX => pe_callB (r := rIsi c.K) (hX.K ▸ call_isi) (hX.gl hg) (hX.no hm) PyProof.Rows.boot_isinstance (pa_cons (pa X hX) (pa_cons (pt X hX) pa_nil (by rfl)) (he _)) (by decide +kernel) (by decide +kernel) (he _) (by rfl), fun ρ Φ Ξ σ F G H Q e0 hT hQ hx => ?_⟩
  refine sa ρ _ Ξ σ F G H _ e0 hT (fun ρ1 x v A F1 G1 H1 q1 e1 r1 s1 => ?_) hx
  obtain ⟨r, h1, h2⟩ := q1
  obtain ⟨n, hn, hk⟩ := Dp.ty (Dp.mono e1.same r1.dp)
  exact ⟨v, .ty t.id, _, _, r, rfl, .ty _, hn, kit_ty (hk t r h1), hQ ρ1 _ _ [] F1 G1 H1 h2 e1 (.frz (.bl _)) s1⟩
end Q

namespace Q
open PySem PySem.Spec PyProof.Rows L2
variable {c : Ctx} {sc : Scope} {W : WX} {Γ : List Ent} {bl : Bl}

/-! ### calls -/
def foot0 : Foot := fun _ => []
def foot1 (A : List Addr) : Foot := fun j => if j = 0 then A else []
theorem mem_foot1 {A : List Addr} {j : Nat} {a : Addr} (h : a ∈ foot1 A j) : j = 0 ∧ a ∈ A := by
  unfold foot1 at h
  by_cases q : j = 0
  · rw [if_pos q] at h; exact ⟨q, h⟩
  · rw [if_neg q] at h; cases h
theorem DpAll.cell {K : PySem.W.Frag} {G : Hp} : ∀ {vs : List V} {ds : List D} {i : Nat} {c : Cell}, DpAll K G vs ds → (ds.map Cell.va)[i]? = some c → ∃ d v, c = .va d ∧ vs[i]? = some v ∧ Dp K G v d
  | _, _, 0, _, .cons h _, e => by simp at e; exact ⟨_, _, e.symm, rfl, h⟩
  | _, _, i + 1, _, .cons _ r, e => by
    obtain ⟨d, v, h1, h2, h3⟩ := DpAll.cell (i := i) r (by simpa using e)
    exact ⟨d, v, h1, by simpa using h2, h3⟩
  | _, _, _, _, .nil, e => by simp at e
theorem cellsOf_none : ∀ ds : List D, cellsOf none ds = ds.map Cell.va
  | [] => rfl
  | _ :: _ => rfl
/-- the arguments of a call, all frozen -/
theorem En.args {K : PySem.W.Frag} {G H : Hp} {vs : List V} {ds : List D} (g : Same G H) (ln : ∀ a o, H a = some o → lenOk o) (fz : ∀ a o vs, G a = some (.frz o (.lst vs)) → vs.length ≤ 16777216) (r : DpAll K G vs ds) : En K (vs.map some) (cellsOf none ds) foot0 G H where
  ln := ln
  fz := fz
  same := g
  len := by rw [cellsOf_none, List.length_map, List.length_map, DpAll.length r]
  cell := fun i c hc => by
    rw [cellsOf_none] at hc
    obtain ⟨d, v, h1, h2, h3⟩ := DpAll.cell r hc
    subst h1
    exact ⟨v, by rw [List.getElem?_map, h2]; rfl, h3⟩
  nod := fun _ => .nil
  dis := fun _ _ _ h => nomatch h
  out := fun _ _ h => nomatch h
  th := fun _ _ h => nomatch h
/-- behind a call whose arguments are frozen -/
theorem En.called {K : PySem.W.Frag} {σ : Sg} {ρ : Env} {F F' : Foot} {G H G' H' : Hp} {k : Nat} {A : List Addr} {v : V} {d : D} (e : En K σ ρ F G H) (g : Same G' H') (ln : ∀ a o, H' a = some o → lenOk o) (fz : ∀ a o vs, G' a = some (.frz o (.lst vs)) → vs.length ≤ 16777216) (s : Stp foot0 G H F' G' H') :
    En K σ ρ F G' H' ∧ Stp F G H F G' H' ∧ (Res K foot0 G H F' G' H' k A v d → Res K F G H F G' H' k A v d) := by
  have hn : ∀ i a, a ∈ F i → G' a = none := fun i a ha => by
    cases q : G' a with
    | none => rfl
    | some o =>
      rcases s.ng a (e.out i a ha) (by rw [q]; simp) with ⟨j, hj⟩ | hn
      · cases hj
      · exact absurd hn (e.th i a ha)
  refine ⟨e.upto s.g (fun _ b _ o q => s.h b o (fun _ h => nomatch h) q) g hn ln fz, ⟨s.g, fun b o _ q => s.h b o (fun _ h => nomatch h) q, fun i b h => .inl ⟨i, h⟩, fun b hb hs => ?_, s.th⟩, fun r => ⟨r.ow, r.nod, r.out, fun a ha i hi => ?_, fun a ha => ?_⟩⟩
  · rcases s.ng b hb hs with ⟨j, hj⟩ | hn
    · cases hj
    · exact .inr hn
  · rcases r.new a ha with ⟨j, hj⟩ | hn
    · cases hj
    · exact e.th i a hi hn
  · rcases r.new a ha with ⟨j, hj⟩ | hn
    · cases hj
    · exact .inr hn
/-- the arguments of a call, the first one owned -/
theorem En.argsR {K : PySem.W.Frag} {σ : Sg} {ρ : Env} {F : Foot} {G H : Hp} {i k : Nat} {d : D} {v : V} {vs : List V} {ds : List D} (e : En K σ ρ F G H) (h : ρ[i]? = some (.ow k d)) (hv : σ[i]? = some (some v)) (r : DpAll K G vs ds) :
    En K ((v :: vs).map some) (cellsOf (some k) (d :: ds)) (foot1 (F i)) G H := by
  obtain ⟨v', hv', ho⟩ : ∃ v, σ[i]? = some (some v) ∧ Ow K G H k (F i) v d := e.cell i _ h
  have ev : v' = v := by rw [hv] at hv'; cases hv'; rfl
  subst ev
  refine ⟨e.same, by simp [cellsOf, DpAll.length r], fun j c hc => ?_, fun j => ?_, fun j l a hj hl => ?_, fun j a hj => e.out i a (mem_foot1 hj).2, fun j a hj => e.th i a (mem_foot1 hj).2, e.ln, e.fz⟩
  · cases j with
    | zero =>
      have hc' : c = .ow k d := by simpa [cellsOf] using hc.symm
      subst hc'
      exact ⟨v', rfl, ho⟩
    | succ j =>
      have hc' : (ds.map Cell.va)[j]? = some c := by simpa [cellsOf] using hc
      obtain ⟨d', v2, h1, h2, h3⟩ := DpAll.cell r hc'
      subst h1
      exact ⟨v2, by rw [List.map_cons, List.getElem?_cons_succ, List.getElem?_map, h2]; rfl, h3⟩
  · unfold foot1
    by_cases q : j = 0
    · rw [if_pos q]; exact e.nod i
    · rw [if_neg q]; exact .nil
  · rw [(mem_foot1 hj).1, (mem_foot1 hl).1]
/-- behind such a call -/
theorem En.calledR {K : PySem.W.Frag} {σ : Sg} {ρ : Env} {F F' : Foot} {G H G' H' : Hp} {i k : Nat} {d d' : D} {v : V} {vs : List V} {ds : List D} (e : En K σ ρ F G H) (h : ρ[i]? = some (.ow k d)) (hv : σ[i]? = some (some v))
    (e' : En K ((v :: vs).map some) (cellsOf (some k) (d' :: ds)) F' G' H') (s : Stp (foot1 (F i)) G H F' G' H') :
    En K σ (ρ.set i (.ow k d')) (put F i (F' 0)) G' H' ∧ Stp F G H (put F i (F' 0)) G' H' ∧ ∀ {m : Nat} {A : List Addr} {u : V} {z : D}, Res K (foot1 (F i)) G H F' G' H' m A u z → Res K F G H (put F i (F' 0)) G' H' m A u z := by
  have hl : i < ρ.length := (List.getElem?_eq_some_iff.mp h).1
  obtain ⟨v', hv', ho⟩ : ∃ v', ((v :: vs).map some)[0]? = some (some v') ∧ Ow K G' H' k (F' 0) v' d' := e'.cell 0 (.ow k d') rfl
  have ev : v' = v := by cases hv'; rfl
  subst ev
  have inv : ∀ a j, a ∈ F' j → a ∈ F i ∨ H a = none := fun a j ha => by
    rcases s.nf j a ha with ⟨l, hl⟩ | hn
    · exact .inl (mem_foot1 hl).2
    · exact .inr hn
  have hn : ∀ j a, j ≠ i → a ∈ F j → G' a = none := fun j a hji ha => by
    cases q : G' a with
    | none => rfl
    | some o =>
      rcases s.ng a (e.out j a ha) (by rw [q]; simp) with ⟨l, hl⟩ | hn
      · exact absurd (e.dis j i a ha (mem_foot1 hl).2) hji
      · exact absurd hn (e.th j a ha)
  have kept : ∀ j, j ≠ i → ∀ b ∈ F j, ∀ o, H b = some o → H' b = some o := fun j hji b hb o q => s.h b o (fun l hl => hji (e.dis j i b hb (mem_foot1 hl).2)) q
  refine ⟨⟨e'.same, by simp [e.len], fun j c hc => ?_, fun j => ?_, fun j l a hj hl => ?_, fun j a hj => ?_, fun j a hj => ?_, e'.ln, e'.fz⟩, ⟨s.g, fun b o n q => s.h b o (fun l hl => n i (mem_foot1 hl).2) q, fun j b hb => ?_, fun b hb hs => ?_, s.th⟩, fun {m A u z} r => ⟨r.ow, r.nod, r.out, fun a ha j hj => ?_, fun a ha => ?_⟩⟩
  · by_cases q : i = j
    · subst q
      rw [List.getElem?_set_self hl] at hc
      cases hc
      rw [put_same]
      exact ⟨v', hv, ho⟩
    · rw [List.getElem?_set_ne q] at hc
      rw [put_ne (Ne.symm q)]
      exact CellOk.mono s.g (kept j (Ne.symm q)) (e.cell j c hc)
  · by_cases q : j = i
    · subst q; rw [put_same]; exact e'.nod 0
    · rw [put_ne q]; exact e.nod j
  · by_cases q : j = i
    · subst q
      rw [put_same] at hj
      by_cases q2 : l = j
      · exact q2.symm
      · rw [put_ne q2] at hl
        rcases inv a 0 hj with z | z
        · exact absurd (e.dis l j a hl z) q2
        · exact absurd z (e.th l a hl)
    · rw [put_ne q] at hj
      by_cases q2 : l = i
      · subst q2
        rw [put_same] at hl
        rcases inv a 0 hl with z | z
        · exact absurd (e.dis j l a hj z) q
        · exact absurd z (e.th j a hj)
      · rw [put_ne q2] at hl
        exact e.dis j l a hj hl
  · by_cases q : j = i
    · subst q; rw [put_same] at hj; exact e'.out 0 a hj
    · rw [put_ne q] at hj; exact hn j a q hj
  · by_cases q : j = i
    · subst q; rw [put_same] at hj; exact e'.th 0 a hj
    · rw [put_ne q] at hj; exact s.th a (e.th j a hj)
  · by_cases q : j = i
    · subst q
      rw [put_same] at hb
      rcases inv b 0 hb with z | z
      · exact .inl ⟨j, z⟩
      · exact .inr z
    · rw [put_ne q] at hb; exact .inl ⟨j, hb⟩
  · rcases s.ng b hb hs with ⟨l, hl⟩ | z
    · exact .inl ⟨i, (mem_foot1 hl).2⟩
    · exact .inr z
  · by_cases q : j = i
    · subst q; rw [put_same] at hj; exact r.dis a ha 0 hj
    · rw [put_ne q] at hj
      rcases r.new a ha with ⟨l, hl⟩ | z
      · exact q (e.dis j i a hj (mem_foot1 hl).2)
      · exact e.th j a hj z
  · rcases r.new a ha with ⟨l, hl⟩ | z
    · exact .inl ⟨i, (mem_foot1 hl).2⟩
    · exact .inr z
theorem Is.fn {X : Cx} {k : Nat} {a : Addr} {fd : FuncData} {ps : List Str} {sp : Sp} (h : Is c sc W X) (F : FnG c.P c.w c.K c.mg c.base (L2N.CX c.P c.w) k a fd ps sp) : FnG X.prog X.w X.K X.mg X.base (L2N.CX X.prog X.w) k a fd ps sp := by
  rw [h.P, h.w, h.K, h.mg, h.base]; exact F
theorem ae_call {f : Nat} {g : Ent} {e : Expr} {es : List Expr} {p pos : Pos} {T : TrL} (sd : Sd c Γ bl) (hg : Γ[f]? = some g) (ho : g.sig.own = none) (h : AL c sc W (e :: es) 0 g.sig.np T) (hgl : GlS sc g.sig.name)
    (hdb : (g.sig.name == ("__debug__" : Str)) = false) (he : ∀ env, starEach (e :: es) env = (false, eval e env) :: starEach es env) (hpl : ∀ env, (backTo pos (starEach es env)).any (·.1) = false) :
    AE c sc W (.Call (.Name g.sig.name p) (e :: es) [] pos) g.sig.rk (fun ρ Φ Ξ => T ρ (fun ρ1 ds => ∃ g, Γ[f]? = some g ∧ g.sp ds (fun d _ => Φ ρ1 d) (fun _ x => Ξ ρ1 x)) Ξ) := by
  obtain ⟨t, pt, s⟩ := h
  obtain ⟨a, fd, ps, k, hF, hr, hm, hk, hb⟩ := sd.gok f g hg
  refine ⟨_, fun X hX => pe_callG (E := fun σ => WE W σ) (hX.fn hF) (hX.A ▸ sd.gd) (hX.A ▸ hr) (hX.gl hgl) (by rw [hX.mg]; exact hm) (hX.K ▸ hk) (hX.K ▸ hb) (L2N.passAt hX.takes) (pt X hX) hdb (he _) (hpl _), fun ρ Φ Ξ σ F G H Q e0 hT hQ hx => ?_⟩
  refine s ρ _ Ξ σ F G H _ e0 hT (fun ρ1 ds vs A F1 G1 H1 q1 hl e1 r1 s1 => ?_) hx
  obtain ⟨g', hg', q1⟩ := q1
  rw [hg] at hg'
  cases hg'
  refine ⟨by rw [DpAll.length r1.dp, hl], ds, foot0, G1, _, _, by rw [ho]; exact En.args e1.same e1.ln e1.fz r1.dp, q1, fun d d' v A F' G' H' hd e' r s' => ?_, fun x d' F' G' H' cls dd hd e' s' hx' => ?_⟩
  · obtain ⟨e2, s2, r2⟩ := e1.called (k := g.sig.rk) (A := A) (v := v) (d := d) e'.same e'.ln e'.fz s'
    exact hQ ρ1 d v A F1 G' H' hd e2 ((r2 r).from s1) (s1.trans s2)
  · obtain ⟨e2, s2, _⟩ := e1.called (k := 0) (A := []) (v := .non) (d := .none) e'.same e'.ln e'.fz s'
    exact hx ρ1 x F1 G' H' cls dd hd e2 (s1.trans s2) hx'
theorem ae_callr {f i : Nat} {g : Ent} {y : Str} {es : List Expr} {p py pos : Pos} {T : TrL} {n : Nat} {kk : Nat} (sd : Sd c Γ bl) (hg : Γ[f]? = some g) (ho : g.sig.own = some kk) (h : AL c sc W es 0 n T) (hn : n + 1 = g.sig.np) (hgl : GlS sc g.sig.name)
    (hN : c.N[i]? = some y) (hv : Vis sc y) (hd : (y == ("__debug__" : Str)) = false) (hcd : (y == ("__classdict__" : Str)) = false)
    (hdb : (g.sig.name == ("__debug__" : Str)) = false) (hpl : ∀ env, (backTo pos (starEach es env)).any (·.1) = false) :
    AE c sc W (.Call (.Name g.sig.name p) (.Name y py :: es) [] pos) g.sig.rk (fun ρ Φ Ξ => isOw (getC ρ i) ∧ T ρ (fun ρ1 ds => ∃ g k d, Γ[f]? = some g ∧ g.sig.own = some k ∧ getC ρ1 i = .ow k d ∧ g.sp (d :: ds) (fun e d' => Φ (ρ1.set i (.ow k d')) e) (fun d' x => Ξ (ρ1.set i (.ow k d')) x)) Ξ) := by
  obtain ⟨t, pt, s⟩ := h
  obtain ⟨a, fd, ps, k, hF, hr, hm, hk, hb⟩ := sd.gok f g hg
  refine ⟨_, fun X hX => pe_callG (E := fun σ => WE W σ) (hX.fn hF) (hX.A ▸ sd.gd) (hX.A ▸ hr) (hX.gl hgl) (by rw [hX.mg]; exact hm) (hX.K ▸ hk) (hX.K ▸ hb) (L2N.passAt hX.takes) (pa_cons (pe_var (hX.ix hN) (hX.vis hv) hd hcd) (pt X hX) (by rfl)) hdb (by rfl) (hpl _), fun ρ Φ Ξ σ F G H Q e0 hT hQ hx => ?_⟩
  obtain ⟨how, hT⟩ := hT
  obtain ⟨k0, ds0, hc⟩ := isOw_some how
  obtain ⟨a0, A0, vs0, h1, _⟩ := e0.owned hc
  refine ⟨_, h1, ?_⟩
  refine s ρ _ Ξ σ F G H _ e0 hT (fun ρ1 ds vs A F1 G1 H1 q1 hl e1 r1 s1 => ?_) hx
  obtain ⟨g', k', d, hg', ho', hc', q1⟩ := q1
  rw [hg] at hg'
  cases hg'
  have hc1 := getC_some hc' (by simp)
  refine ⟨by rw [List.length_cons, DpAll.length r1.dp, hl, hn], d :: ds, foot1 (F1 i), G1, _, _, by rw [ho']; exact e1.argsR hc1 h1 r1.dp, q1, fun z d' v A F' G' H' hd e' r s' => ?_, fun x d' F' G' H' cls dd hd e' s' hx' => ?_⟩
  · rw [ho'] at e'
    obtain ⟨e2, s2, r2⟩ := e1.calledR hc1 h1 (d' := d') e' s'
    exact hQ _ z v A _ G' H' hd e2 ((r2 r).from s1) (s1.trans s2)
  · rw [ho'] at e'
    obtain ⟨e2, s2, _⟩ := e1.calledR hc1 h1 (d' := d') e' s'
    exact hx _ x _ G' H' cls dd hd e2 (s1.trans s2) hx'
end Q

namespace Q
open PySem PySem.Spec PyProof.Rows L2
variable {c : Ctx} {sc : Scope} {W : WX} {Γ : List Ent} {bl : Bl}

/-! ### what is owned, looked at as if it were frozen -/
mutual
theorem Ow.view {K : PySem.W.Frag} {G H G1 : Hp} (g : Same G G1) : ∀ {k : Nat} {A : List Addr} {v : V} {d : D}, (∀ a ∈ A, ∀ vs, H a = some (.lst vs) → G1 a = some (.lst vs)) → Ow K G H k A v d → Dp K G1 v d
  | _, _, _, _, _, .frz h => Dp.mono g h
  | _, _, _, _, _, .flt _ h => Dp.mono g h
  | _, _, _, _, m, .lst h r => .lst (.inl (.inl (m _ (by simp) _ h))) (Ows.view g (fun b hb => m b (by simp [hb])) r)
theorem Ows.view {K : PySem.W.Frag} {G H G1 : Hp} (g : Same G G1) : ∀ {k : Nat} {A : List Addr} {vs : List V} {ds : List D}, (∀ a ∈ A, ∀ vs, H a = some (.lst vs) → G1 a = some (.lst vs)) → Ows K G H k A vs ds → DpAll K G1 vs ds
  | _, _, _, _, _, .nil => .nil
  | _, _, _, _, m, .cons h r => .cons (Ow.view g (fun b hb => m b (by simp [hb])) h) (Ows.view g (fun b hb => m b (by simp [hb])) r)
end
mutual
theorem Dp.noL {K : PySem.W.Frag} {G G2 : Hp} (t : ∀ a xs, SqT K G a xs → SqT K G2 a xs) : ∀ {v : V} {d : D}, Q.noL d = true → Dp K G v d → Dp K G2 v d
  | _, _, _, .non => .non
  | _, _, _, .bl b => .bl b
  | _, _, _, .int i => .int i
  | _, _, _, .str x => .str x
  | _, _, l, .lst h r => by simp [Q.noL] at l
  | _, _, l, .tup h r => .tup (t _ _ h) (DpAll.noL t (by simpa [Q.noL] using l) r)
theorem DpAll.noL {K : PySem.W.Frag} {G G2 : Hp} (t : ∀ a xs, SqT K G a xs → SqT K G2 a xs) : ∀ {vs : List V} {ds : List D}, Q.noL.noLs ds = true → DpAll K G vs ds → DpAll K G2 vs ds
  | _, _, _, .nil => .nil
  | _, _, l, .cons h r => by
    simp only [Q.noL.noLs, Bool.and_eq_true] at l
    exact .cons (Dp.noL t l.1 h) (DpAll.noL t l.2 r)
end
theorem Dp.flatTo {K : PySem.W.Frag} {G G2 : Hp} {v : V} {d : D} (f : flat d = true) (h : Dp K G v d) : Dp K G2 v d := by
  cases h <;> first | (simp [Q.flat] at f; done) | constructor
mutual
theorem Ow.leaf {K : PySem.W.Frag} {G G2 H : Hp} (t : ∀ a xs, SqT K G a xs → SqT K G2 a xs) : ∀ {k : Nat} {A : List Addr} {v : V} {d : D}, Q.leaf k d = true → Ow K G H k A v d → Ow K G2 H k A v d
  | _, _, _, _, l, .frz h => .frz (Dp.noL t (by simpa [Q.leaf] using l) h)
  | _, _, _, _, l, .flt f h => .flt f (Dp.flatTo f h)
  | _, _, _, _, l, .lst h r => .lst h (Ows.leaf t (by simpa [Q.leaf] using l) r)
theorem Ows.leaf {K : PySem.W.Frag} {G G2 H : Hp} (t : ∀ a xs, SqT K G a xs → SqT K G2 a xs) : ∀ {k : Nat} {A : List Addr} {vs : List V} {ds : List D}, (∀ d ∈ ds, Q.leaf k d = true) → Ows K G H k A vs ds → Ows K G2 H k A vs ds
  | _, _, _, _, l, .nil => .nil
  | _, _, _, _, l, .cons h r => .cons (Ow.leaf t (l _ (by simp)) h) (Ows.leaf t (fun d hd => l d (by simp [hd])) r)
end
open Classical in
/-- frozen, and all owned lists -/
noncomputable def Gv (F : Foot) (G H : Hp) : Hp := fun b => if (∃ i, b ∈ F i) ∧ (∃ vs, H b = some (.lst vs)) then H b else G b
open Classical in
noncomputable def Gw (F : Foot) (G' : Hp) : Hp := fun b => if ∃ i, b ∈ F i then none else G' b
theorem lent_get {ρ : Env} {i : Nat} {cl : Cell} (h : (lent ρ)[i]? = some cl) : ∃ c0, ρ[i]? = some c0 ∧ cl = lentC c0 := by
  unfold lent at h
  rw [List.getElem?_map] at h
  cases q : ρ[i]? with
  | none => rw [q] at h; cases h
  | some c0 => rw [q] at h; cases h; exact ⟨c0, rfl, rfl⟩
theorem En.lent {K : PySem.W.Frag} {σ : Sg} {ρ : Env} {F : Foot} {G H : Hp} (e : En K σ ρ F G H) : En K σ (Q.lent ρ) foot0 (Gv F G H) H := by
  have g : Same G (Gv F G H) := fun b o q => by
    unfold Gv
    by_cases z : (∃ i, b ∈ F i) ∧ (∃ vs, H b = some (.lst vs))
    · obtain ⟨⟨i, hi⟩, _⟩ := z
      rw [e.out i b hi] at q; cases q
    · rw [if_neg z]; exact q
  have m : ∀ i, ∀ a ∈ F i, ∀ vs, H a = some (.lst vs) → Gv F G H a = some (.lst vs) := fun i a ha vs q => by
    unfold Gv
    rw [if_pos ⟨⟨i, ha⟩, vs, q⟩]; exact q
  refine ⟨fun b o q => ?_, by rw [Q.lent, List.length_map]; exact e.len, fun i cl hc => ?_, fun _ => .nil, (fun _ _ _ h => nomatch h), (fun _ _ h => nomatch h), (fun _ _ h => nomatch h), e.ln, fun a o vs q => ?_⟩
  · unfold Gv at q
    by_cases z : (∃ i, b ∈ F i) ∧ (∃ vs, H b = some (.lst vs))
    · rw [if_pos z] at q; exact q
    · rw [if_neg z] at q; exact e.same b o q
  · obtain ⟨c0, h0, rfl⟩ := lent_get hc
    have hk := e.cell i c0 h0
    cases c0 with
    | un => exact True.intro
    | va d => obtain ⟨v, h1, h2⟩ := hk; exact ⟨v, h1, Dp.mono g h2⟩
    | ow k d => obtain ⟨v, h1, h2⟩ := hk; exact ⟨v, h1, Ow.view g (m i) h2⟩
    | hol k v a b =>
      obtain ⟨p, vs, ws, A1, A2, h1, h2, h3, h4, h5⟩ := hk
      refine ⟨p, _, h1, .inl (.inl (m i p (by rw [h3]; simp) _ h2)), ?_⟩
      rw [List.length_append, List.length_cons, Ows.length h4, Ows.length h5]; omega
    | ln n => obtain ⟨p, vs, h1, h2, h3⟩ := hk; exact ⟨p, vs, h1, g.seq h2, h3⟩
  · unfold Gv at q
    by_cases z : (∃ i, a ∈ F i) ∧ (∃ vs, H a = some (.lst vs))
    · rw [if_pos z] at q
      obtain ⟨_, ws, z⟩ := z
      rw [z] at q; cases q
    · rw [if_neg z] at q; exact e.fz a o vs q
theorem En.unlent {K : PySem.W.Frag} {σ : Sg} {ρ ρ' : Env} {F F' : Foot} {G H G' H' : Hp} (e : En K σ ρ F G H) (e' : En K σ ρ' F' G' H') (s : Stp foot0 (Gv F G H) H F' G' H') :
    En K σ ρ F (Gw F G') H' ∧ Stp F G H F (Gw F G') H' ∧ ∀ {k : Nat} {A : List Addr} {v : V} {d : D}, leaf k d = true → Res K foot0 (Gv F G H) H F' G' H' k A v d → Res K F G H F (Gw F G') H' k A v d := by
  have keep : ∀ b o, H b = some o → H' b = some o := fun b o q => s.h b o (fun _ h => nomatch h) q
  have gvG : ∀ b, (¬ ∃ i, b ∈ F i) → Gv F G H b = G b := fun b n => by
    unfold Gv
    rw [if_neg (fun z => n z.1)]
  have gwN : ∀ b, (¬ ∃ i, b ∈ F i) → Gw F G' b = G' b := fun b n => by unfold Gw; rw [if_neg n]
  have gwF : ∀ i b, b ∈ F i → Gw F G' b = none := fun i b h => by unfold Gw; rw [if_pos ⟨i, h⟩]
  have g : Same G (Gw F G') := fun b o q => by
    have n : ¬ ∃ i, b ∈ F i := fun ⟨i, hi⟩ => by rw [e.out i b hi] at q; cases q
    rw [gwN b n]
    exact s.g b o (by rw [gvG b n]; exact q)
  have sub : ∀ b o, Gw F G' b = some o → G' b = some o ∧ ¬ ∃ i, b ∈ F i := fun b o q => by
    by_cases n : ∃ i, b ∈ F i
    · obtain ⟨i, hi⟩ := n; rw [gwF i b hi] at q; cases q
    · rw [gwN b n] at q; exact ⟨q, n⟩
  have tup : ∀ a xs, SqT K G' a xs → SqT K (Gw F G') a xs := fun a xs q => by
    have no : ∀ o, G' a = some o → (∀ vs, o ≠ .lst vs) → Gw F G' a = some o := fun o q n => by
      rw [gwN a ?_]; exact q
      rintro ⟨i, hi⟩
      have hH : H a ≠ none := e.th i a hi
      cases z : H a with
      | none => exact hH z
      | some u =>
        by_cases l : ∃ vs, u = .lst vs
        · obtain ⟨vs, rfl⟩ := l
          have : Gv F G H a = some (.lst vs) := by unfold Gv; rw [if_pos ⟨⟨i, hi⟩, vs, z⟩]; exact z
          have := s.g a _ this
          rw [q] at this
          cases this
          exact n vs rfl
        · have gn : Gv F G H a = none := by
            unfold Gv
            rw [if_neg (fun y => l ?_)]
            · exact e.out i a hi
            · obtain ⟨_, vs, y⟩ := y
              rw [z] at y; cases y; exact ⟨vs, rfl⟩
          rcases s.ng a gn (by rw [q]; simp) with ⟨j, hj⟩ | hn
          · cases hj
          · exact hH hn
    rcases q with (q | ⟨o, q⟩) | q
    · exact .inl (.inl (no _ q (fun _ z => nomatch z)))
    · exact .inl (.inr ⟨o, no _ q (fun _ z => nomatch z)⟩)
    · exact .inr q
  refine ⟨e.upto g (fun i b _ o q => keep b o q) (fun b o q => e'.same b o (sub b o q).1) (fun i a ha => gwF i a ha) e'.ln (fun a o vs q => e'.fz a o vs (sub a _ q).1), ⟨g, fun b o _ q => keep b o q, fun i b h => .inl ⟨i, h⟩, fun b hb hs => ?_, s.th⟩, fun {k A v d} l r => ⟨Ow.leaf tup l r.ow, r.nod, fun a ha => ?_, fun a ha i hi => ?_, fun a ha => ?_⟩⟩
  · cases q : Gw F G' b with
    | none => exact absurd q hs
    | some o =>
      obtain ⟨q1, n⟩ := sub b o q
      rcases s.ng b (by rw [gvG b n]; exact hb) (by rw [q1]; simp) with ⟨j, hj⟩ | hn
      · cases hj
      · exact .inr hn
  · cases q : Gw F G' a with
    | none => rfl
    | some o => have := (sub a o q).1; rw [r.out a ha] at this; cases this
  · rcases r.new a ha with ⟨j, hj⟩ | hn
    · cases hj
    · exact e.th i a hi hn
  · rcases r.new a ha with ⟨j, hj⟩ | hn
    · cases hj
    · exact .inr hn
theorem Xc.lent {σ : Sg} {ρ : Env} {F : Foot} {G H : Hp} {Ξ : Px} (e : En c.K σ ρ F G H) (xc : Xc c W σ F G H Ξ) : Xc c W σ foot0 (Gv F G H) H (fun _ x => Ξ ρ x) := fun ρ' x F' G' H' cls dd hx e' s r => by
  obtain ⟨h1, h2, _⟩ := e.unlent e' s
  exact xc ρ x F _ H' cls dd hx h1 h2 r
def lendT (k : Nat) (T : TrE) : TrE := fun ρ Φ Ξ => T (lent ρ) (fun _ d => leaf k d = true ∧ Φ ρ d) (fun _ x => Ξ ρ x)
theorem ae_lend {e : Expr} {k : Nat} {T : TrE} (h : AE c sc W e k T) : AE c sc W e k (lendT k T) := by
  obtain ⟨t, ht, hs⟩ := h
  refine ⟨t, ht, fun ρ Φ Ξ σ F G H Q e0 hT hQ hx => ?_⟩
  refine hs (lent ρ) _ (fun _ x => Ξ ρ x) σ foot0 (Gv F G H) H Q e0.lent hT (fun ρ' d v A F' G' H' q e1 r s => ?_) (hx.lent e0)
  obtain ⟨h1, h2, h3⟩ := e0.unlent e1 s
  exact hQ ρ d v A F _ H' q.2 h1 (h3 q.1 r) h2
theorem leaf_bl (k : Nat) (b : Bool) : leaf k (.bool b) = true := by cases k <;> rfl
theorem testOf_lend (k : Nat) (T : TrE) : testOf (lendT k T) = fun ρ Φ Ξ => testOf T (lent ρ) (fun _ b => Φ ρ b) (fun _ x => Ξ ρ x) := by
  funext ρ Φ Ξ
  unfold testOf lendT
  congr 1
  funext _ d
  refine propext ⟨fun ⟨_, h⟩ => h, fun ⟨b, h1, h2⟩ => ⟨by rw [h1]; exact leaf_bl k b, b, h1, h2⟩⟩
theorem at_lend {e : Expr} {k : Nat} {T : TrE} (h : AT c sc W e (testOf T)) : AT c sc W e (testOf (lendT k T)) := by
  rw [testOf_lend]
  obtain ⟨t, ht, hs⟩ := h
  refine ⟨t, ht, fun ρ Φ Ξ σ F G H Q e0 hT hQ hx => ?_⟩
  refine hs (lent ρ) _ (fun _ x => Ξ ρ x) σ foot0 (Gv F G H) H Q e0.lent hT (fun ρ' b F' G' H' q e1 s => ?_) (hx.lent e0)
  obtain ⟨h1, h2, h3⟩ := e0.unlent e1 s
  exact hQ ρ b F _ H' q h1 h2
theorem aw_lend {e : Expr} {k : Nat} {T : TrE} (h : AW c sc W e (testOf T)) : AW c sc W e (testOf (lendT k T)) := by
  rw [testOf_lend]
  obtain ⟨t, ht, hs⟩ := h
  refine ⟨t, ht, fun ρ Φ Ξ σ F G H Q e0 hT hQ hx => ?_⟩
  refine hs (lent ρ) _ (fun _ x => Ξ ρ x) σ foot0 (Gv F G H) H Q e0.lent hT (fun ρ' b F' G' H' q e1 s => ?_) (hx.lent e0)
  obtain ⟨h1, h2, h3⟩ := e0.unlent e1 s
  exact hQ ρ b F _ H' q h1 h2

/-! ### lists made of lists -/
theorem DpAll.rep {K : PySem.W.Frag} {G : Hp} {vs : List V} {ds : List D} (r : DpAll K G vs ds) : ∀ n : Nat, DpAll K G (List.replicate n vs).flatten (List.replicate n ds).flatten
  | 0 => .nil
  | n + 1 => by
    rw [List.replicate_succ, List.replicate_succ, List.flatten_cons, List.flatten_cons]
    exact DpAll.append r (DpAll.rep r n)
/-- a new list of frozen things -/
theorem newList {K : PySem.W.Frag} {σ : Sg} {ρ : Env} {F F2 : Foot} {G H G2 H2 : Hp} {vs : List V} {ds : List D} {p : Addr} (e : En K σ ρ F2 G2 H2) (s : Stp F G H F2 G2 H2) (r : DpAll K G2 vs ds) (hp : H2 p = none) (hl : vs.length ≤ 16777216) :
    ∃ A, En K σ ρ F2 G2 (upd H2 p (.lst vs)) ∧ Stp F G H F2 G2 (upd H2 p (.lst vs)) ∧ Res K F G H F2 G2 (upd H2 p (.lst vs)) 1 A (.ref p) (.list ds) := by
  have r0 : Ress K F2 G2 H2 F2 G2 H2 0 [] _ _ := ⟨Ows.of_frz r, .nil, (fun _ h => nomatch h), (fun _ h => nomatch h), (fun _ h => nomatch h)⟩
  obtain ⟨e3, s3, r3⟩ := r0.list e (.refl _ _ _) hp hl
  exact ⟨_, e3, s.trans s3, r3.from s⟩
theorem flatten_rep_length {α : Type} (n : Nat) (xs : List α) : (List.replicate n xs).flatten.length = n * xs.length := by
  induction n with
  | zero => simp
  | succ n ih => rw [List.replicate_succ, List.flatten_cons, List.length_append, ih, Nat.succ_mul, Nat.add_comm]
theorem Res.openL {K : PySem.W.Frag} {F F' : Foot} {G H G' H' : Hp} {k : Nat} {A : List Addr} {v : V} {ds : List D} (r : Res K F G H F' G' H' (k + 1) A v (.list ds)) :
    ∃ p A0 vs, v = .ref p ∧ A = p :: A0 ∧ H' p = some (.lst vs) ∧ Ows K G' H' k A0 vs ds := by
  have h := r.ow
  generalize hd : PyData.list ds = d at h
  cases h with
  | flt f _ => subst hd; cases f
  | lst h r => cases hd; exact ⟨_, _, _, rfl, rfl, h, r⟩
theorem ae_rep {a b : Expr} {Ta Tb : TrE} {pos : Pos} (ha : AE c sc W a 1 Ta) (hb : AE c sc W b 0 Tb) : AE c sc W (.BinOp a .Mult b pos) 1 (fun ρ Φ Ξ => Ta ρ (fun ρ1 x => Tb ρ1 (fun ρ2 y => repD x y (Φ ρ2)) Ξ) Ξ) := by
  obtain ⟨ta, pa, sa⟩ := ha
  obtain ⟨tb, pb, sb⟩ := hb
  refine ⟨_, fun X hX => pe_op op_rep (pa X hX) (pb X hX), fun ρ Φ Ξ σ F G H Q e0 hT hQ hx => ?_⟩
  refine sa ρ _ Ξ σ F G H _ e0 hT (fun ρ1 x v A F1 G1 H1 q1 e1 r1 s1 => ?_) hx
  refine sb ρ1 _ Ξ σ F1 G1 H1 _ e1 q1 (fun ρ2 y u B F2 G2 H2 q2 e2 r2 s2 => ?_) (hx.stp s1)
  have r1' := r1.stp s2
  replace q2 := repD_r q2
  cases x <;> first | exact q2.elim | skip
  cases y <;> first | exact q2.elim | skip
  rename_i ds n
  obtain ⟨q3, q4, q5, q6⟩ := q2
  obtain ⟨p, A0, vs, rfl, rfl, hp, hr⟩ := r1'.openL
  obtain ⟨_, hd⟩ := Ows.to_frz hr
  cases r2.dp
  have hl := DpAll.length hd
  refine ⟨p, n, vs, rfl, rfl, hp, q3, q4, by rw [sizeLine_eq, hl]; exact q5, fun l hl' => ?_⟩
  obtain ⟨A, e3, s3, r3⟩ := newList e2 (s1.trans s2) (DpAll.rep hd n.toNat) hl' (by rw [flatten_rep_length, hl, Nat.mul_comm]; exact q5)
  exact hQ ρ2 _ (.ref l) A F2 _ _ q6 e3 r3 s3
theorem ae_lof {e : Expr} {T : TrE} {p pos : Pos} (h : AE c sc W e 0 T) (hg : GlS sc "list") (hm : c.mg "list" = none) (he : ∀ env, starEach [e] env = [(false, eval e env)]) :
    AE c sc W (.Call (.Name "list" p) [e] [] pos) 1 (fun ρ Φ Ξ => T ρ (fun ρ1 x => lofD x (Φ ρ1)) Ξ) := by
  obtain ⟨t, pt, s⟩ := h
  refine ⟨_, fun X hX => pe_callTy (r := fun xs H Q => ∃ p ys, xs = [V.ref p] ∧ (SqL c.K H p ys ∨ SqT c.K H p ys) ∧ ∀ l, H l = none → Q (.ref l) (upd H l (.lst ys))) (hX.K ▸ call_list_of) (hX.gl hg) (hX.no hm) (by decide +kernel) (pa_cons (pt X hX) pa_nil (by rw [he]; rfl)) (by decide +kernel) (by decide +kernel) (he _) (by rfl), fun ρ Φ Ξ σ F G H Q e0 hT hQ hx => ?_⟩
  refine s ρ _ Ξ σ F G H _ e0 hT (fun ρ1 x v A F1 G1 H1 q1 e1 r1 s1 => ?_) hx
  have go : ∀ (ds : List D) (vs : List V) (a : Addr), DpAll c.K G1 vs ds → ds.length ≤ 16777216 → Φ ρ1 (.list ds) → v = .ref a → (SqL c.K H1 a vs ∨ SqT c.K H1 a vs) → ∃ p ys, [v] = [V.ref p] ∧ (SqL c.K H1 p ys ∨ SqT c.K H1 p ys) ∧ ∀ l, H1 l = none → Q (.ref l) (upd H1 l (.lst ys)) := fun ds vs a hd hl hΦ hv hs => by
    refine ⟨a, vs, by rw [hv], hs, fun l hl' => ?_⟩
    obtain ⟨A, e3, s3, r3⟩ := newList e1 s1 hd hl' (by rw [DpAll.length hd]; exact hl)
    exact hQ ρ1 _ (.ref l) A F1 _ _ hΦ e3 r3 s3
  have hd := r1.dp
  replace q1 := lofD_r q1
  cases x <;> first | exact q1.elim | skip
  · cases hd with
    | lst h r => exact go _ _ _ r (by rw [← DpAll.length r]; exact e1.lenL h) q1 rfl (.inl (e1.same.seq h))
  · cases hd with
    | tup h r => exact go _ _ _ r q1.1 q1.2 rfl (.inr (SqT.mono e1.same h))
theorem ae_idx {a b : Expr} {Ta Tb : TrE} {pa pc : Pos} (hu' : c.A.units + 65 < cLine) (ha : AE c sc W a 0 Ta) (hb : AE c sc W b 0 Tb) (hba : ∀ env, attributeBase a "index" env (eval a env) = eval a env)
    (he : ∀ env, starEach [b] env = (false, eval b env) :: starEach [] env) (hl : (pa.endLine == pc.line) = true) :
    AE c sc W (.Call (.Attribute a "index" pa) [b] [] pc) 0 (fun ρ Φ Ξ => Ta ρ (fun ρ1 x => (∃ ds, x = .list ds) ∧ Tb ρ1 (fun ρ2 y => idxD x y (Φ ρ2)) Ξ) Ξ) := by
  obtain ⟨ta, pta, sa⟩ := ha
  obtain ⟨tb, ptb, sb⟩ := hb
  refine ⟨tBM c.K "list" (rIndexD c.K) ta (tCons tb tNil), fun X hX => ?_, fun ρ Φ Ξ σ F G H Q e0 hT hQ hx => ?_⟩
  · have hu2 : X.A.units + 65 < cLine := by rw [hX.A]; exact hu'
    have := pe_bm (cpos := pc) (apos := pa) PySem.F.plainAttrs_list PySem.F.slot_list_index PySem.F.type_list_index (mt_indexD hu2) (pta X hX) (pa_cons (ptb X hX) pa_nil (he _)) (hbase := hba _) (hs := he _) (hfew := by rw [he]; rfl) (hline := hl)
    rw [hX.K] at this
    exact this
  · refine sa ρ _ Ξ σ F G H _ e0 hT (fun ρ1 x v A F1 G1 H1 q1 e1 r1 s1 => ?_) hx
    obtain ⟨⟨ds, rfl⟩, q1⟩ := q1
    obtain ⟨a, vs, rfl, h, r⟩ : ∃ a vs, v = .ref a ∧ SqL c.K G1 a vs ∧ DpAll c.K G1 vs ds := by
      cases r1.dp with
      | lst h r => exact ⟨_, _, rfl, h, r⟩
    refine ⟨.inl ⟨rfl, _, e1.same.seq h⟩, ?_⟩
    refine sb ρ1 _ Ξ σ F1 G1 H1 _ e1 q1 (fun ρ2 y u B F2 G2 H2 q2 e2 r2 s2 => ?_) (hx.stp s1)
    replace q2 := idxD_r q2
    obtain ⟨l1, l2, j, z, l3, l4, l5, q2⟩ := q2
    exact ⟨a, u, y, ds, j, z, rfl, rfl, Dp.mono e2.same (Dp.mono s2.g (.lst h r)), Dp.mono e2.same r2.dp, l1, l2, l3, l4, l5, hQ ρ2 _ _ [] F2 G2 H2 q2 e2 (.frz (.int _)) (s1.trans s2)⟩
def rInQ (K : PySem.W.Frag) (neg : Bool) : R2 := fun x y H Q => (∃ d ds, Dp K H x d ∧ Dp K H y (.list ds) ∧ SeqAt.shaped d = true ∧ SeqAt.shaped (.list ds) = true ∧ Q (.bl (xor neg (ds.any fun z => PyData.eqv z d))) H) ∨ rIn K neg x y H Q
theorem op_inQ {X : Cx} {neg : Bool} (hu : X.A.units + 65 < cLine) : OpR X (compareOp (if neg then .NotIn else .In)) (rInQ X.K neg) := by
  cases neg with
  | false =>
    refine fun pins s σ H x y v u Q I rx ry h => ?_
    rcases h with ⟨d, ds, h1, h2, h3, h4, h5⟩ | h
    · exact op_inD hu pins s σ H x y v u Q I rx ry ⟨d, ds, h1, h2, h3, h4, by simpa using h5⟩
    · exact op_in_seq pins s σ H x y v u Q I rx ry h
  | true =>
    refine fun pins s σ H x y v u Q I rx ry h => ?_
    rcases h with ⟨d, ds, h1, h2, h3, h4, h5⟩ | h
    · exact op_notInD hu pins s σ H x y v u Q I rx ry ⟨d, ds, h1, h2, h3, h4, by simpa using h5⟩
    · exact op_notIn_seq pins s σ H x y v u Q I rx ry h
theorem ints_of {K : PySem.W.Frag} {H : Hp} : ∀ {ns : List Int} {vs : List V}, DpAll K H vs (ns.map PyData.int) → vs = ns.map V.int
  | [], _, .nil => rfl
  | n :: ns, _, .cons h r => by
    cases h
    rw [ints_of r]
    rfl
theorem inV_ints (i : Int) : ∀ ns : List Int, inV (.int i) (ns.map V.int) = decide (i ∈ ns)
  | [] => by simp [inV]
  | n :: ns => by
    have ih := inV_ints i ns
    unfold inV at ih ⊢
    rw [List.map_cons, List.any_cons, ih]
    show ((n == i) || _) = _
    by_cases h : n = i
    · simp [h]
    · have : ¬ i = n := fun z => h z.symm
      simp [h, this]
theorem tame_in {b : Expr} {op : CmpOp} (h : ∀ es k p, b ≠ .Set es k p) : behindInMarks op b = false := by
  cases b <;> first | rfl | exact absurd rfl (h _ _ _)
theorem ab_inn {neg : Bool} {o : CmpOp} {a b : Expr} {Ta Tb : TrE} {pos : Pos} (hu' : c.A.units + 65 < cLine) (ho : o = if neg then .NotIn else .In) (ha : AE c sc W a 0 Ta) (hb : AE c sc W b 0 Tb) (hm : ∀ es k p, b ≠ .Set es k p) :
    AB c sc W (.Compare a [o] [b] pos) 0 (fun ρ Φ Ξ => Ta ρ (fun ρ1 x => Tb ρ1 (fun ρ2 y => inD x y fun t => Φ ρ2 (.bool (xor neg t))) Ξ) Ξ) := by
  subst ho
  obtain ⟨ta, pa, sa⟩ := ha
  obtain ⟨tb, pb, sb⟩ := hb
  have op : ∀ X, Is c sc W X → OpR X (compareOp (if neg then .NotIn else .In)) (rInQ c.K neg) := fun X hX => hX.K ▸ op_inQ (by rw [hX.A]; exact hu')
  refine ⟨_, fun X hX => pe_cmpR (op X hX) (pa X hX) (pb X hX) (tame_in hm), fun X hX => pt_cmpR (op X hX) (pa X hX) (pb X hX) (tame_in hm), fun ρ Φ Ξ σ F G H Q e0 hT hQ hx => ?_⟩
  refine ae_two (a := a) (b := b) (R := fun v u H2 => rInQ c.K neg v u H2 Q) (Φ := fun ρ2 x y => inD x y fun t => Φ ρ2 (.bool (xor neg t))) sa sb e0 hx hT fun ρ2 x y v u F2 G2 H2 q e2 dv du s2 => ?_
  have lst : ∀ ds, y = .list ds → (SeqAt.shaped x = true ∧ SeqAt.shaped (.list ds) = true ∧ Φ ρ2 (.bool (xor neg (ds.any fun z => PyData.eqv z x)))) → rInQ c.K neg v u H2 Q := fun ds hy h => by
    subst hy
    exact .inl ⟨x, ds, Dp.mono e2.same dv, Dp.mono e2.same du, h.1, h.2.1, hQ ρ2 _ _ [] F2 G2 H2 h.2.2 e2 (.frz (.bl _)) s2⟩
  cases y <;> first | (cases x <;> exact q.elim) | skip
  · cases x <;> exact lst _ rfl q
  · cases x <;> first | exact q.elim | skip
    obtain ⟨ns, rfl, q⟩ := q
    cases dv
    cases du with
    | tup h r =>
      refine .inr ⟨_, _, rfl, .inr (SqT.mono e2.same h), rfl, ?_, ?_⟩
      · rw [ints_of r]; simp [flatV]
      · have hq := hQ ρ2 _ _ [] F2 G2 H2 q e2 (.frz (.bl _)) s2
        rw [ints_of r, inV_ints]
        cases neg <;> simpa using hq
/-- a module's own constant -/
theorem ae_gl {x : Str} {d : D} {pos : Pos} (hg : GlS sc x) (hd : (x == ("__debug__" : Str)) = false) (h : COk c.K c.mg x d) : AE c sc W (.Name x pos) 0 (fun ρ Φ _ => Φ ρ d) := by
  obtain ⟨u, v, h1, h2, h3⟩ := h
  exact ⟨_, fun X hX => pe_glob (hX.gl hg) (by rw [hX.mg]; exact h1) h2 hd, fun ρ Φ Ξ σ F G H Q e hT hQ _ => hQ ρ d v [] F G H hT e (.frz (h3 G)) (.refl _ _ _)⟩
/-- two lists in one, items and all -/
theorem ae_catK {k : Nat} {a b : Expr} {Ta Tb : TrE} {pos : Pos} (ha : AE c sc W a (k + 1) Ta) (hb : AE c sc W b (k + 1) Tb) : AE c sc W (.BinOp a .Add b pos) (k + 1) (fun ρ Φ Ξ => Ta ρ (fun ρ1 x => Tb ρ1 (fun ρ2 y => catD x y (Φ ρ2)) Ξ) Ξ) := by
  obtain ⟨ta, pa, sa⟩ := ha
  obtain ⟨tb, pb, sb⟩ := hb
  refine ⟨_, fun X hX => pe_op op_cat (pa X hX) (pb X hX), fun ρ Φ Ξ σ F G H Q e0 hT hQ hx => ?_⟩
  refine sa ρ _ Ξ σ F G H _ e0 hT (fun ρ1 x v A F1 G1 H1 q1 e1 r1 s1 => ?_) hx
  refine sb ρ1 _ Ξ σ F1 G1 H1 _ e1 q1 (fun ρ2 y u B F2 G2 H2 q2 e2 r2 s2 => ?_) (hx.stp s1)
  have r1' := r1.stp s2
  have dAB : ∀ a ∈ A, ∀ b ∈ B, a ≠ b := fun a ha b hb z => by
    subst z
    rcases r2.new a hb with ⟨j, hj⟩ | hn
    · exact r1.dis a ha j hj
    · obtain ⟨vs, q⟩ := Ow.there r1.ow a ha
      rw [hn] at q; cases q
  replace q2 := catD_r q2
  cases x <;> first | exact q2.elim | skip
  cases y <;> first | exact q2.elim | skip
  obtain ⟨q3, q4⟩ := q2
  obtain ⟨p, A0, vs, rfl, rfl, hp, hr⟩ := r1'.openL
  obtain ⟨p2, B0, ws, rfl, rfl, hp2, hr2⟩ := r2.openL
  have hl := Ows.length hr
  have hl2 := Ows.length hr2
  refine ⟨p, p2, vs, ws, rfl, rfl, hp, hp2, by rw [sizeLine_eq, hl, hl2]; exact q3, fun l hl' => ?_⟩
  have rr : Ress c.K F G H F2 G2 H2 k (A0 ++ B0) (vs ++ ws) _ := ⟨Ows.append hr hr2, List.nodup_append.mpr ⟨(List.nodup_cons.mp r1'.nod).2, (List.nodup_cons.mp r2.nod).2, fun a ha b hb => dAB a (by simp [ha]) b (by simp [hb])⟩,
    fun a ha => (List.mem_append.mp ha).elim (fun z => r1'.out a (by simp [z])) (fun z => r2.out a (by simp [z])),
    fun a ha => (List.mem_append.mp ha).elim (fun z => r1'.dis a (by simp [z])) (fun z => r2.dis a (by simp [z])),
    fun a ha => (List.mem_append.mp ha).elim (fun z => r1'.new a (by simp [z])) (fun z => (r2.from s1).new a (by simp [z]))⟩
  obtain ⟨e3, s3, r3⟩ := rr.list e2 (s1.trans s2) hl' (by rw [List.length_append, hl, hl2]; exact q3)
  exact hQ ρ2 _ (.ref l) _ F2 _ _ q4 e3 r3 s3
/-! ### parts of lists -/
abbrev TrP := Env → (Env → Option Int → Prop) → Px → Prop
def APo (c : Ctx) (sc : Scope) (W : WX) (o : Option Expr) (T : TrP) : Prop := ∃ t : TO, (∀ X, Is c sc W X → PO X o t) ∧ ∀ (ρ : Env) (Φ : Env → Option Int → Prop) (Ξ : Px) (σ : Sg) (F : Foot) (G H : Hp) (Q : Option Int → Hp → Prop), En c.K σ ρ F G H → T ρ Φ Ξ →
  (∀ ρ' i F' G' H', Φ ρ' i → En c.K σ ρ' F' G' H' → Stp F G H F' G' H' → Q i H') → Xc c W σ F G H Ξ → t σ H Q
theorem apo_none : APo c sc W none (fun ρ Φ _ => Φ ρ none) := ⟨_, fun _ _ => po_none, fun ρ Φ Ξ σ F G H Q e hT hQ _ => hQ ρ none F G H hT e (.refl _ _ _)⟩
theorem apo_some {e : Expr} {T : TrE} (h : AE c sc W e 0 T) : APo c sc W (some e) (fun ρ Φ Ξ => T ρ (fun ρ1 x => ∃ i, x = .int i ∧ Φ ρ1 (some i)) Ξ) := by
  obtain ⟨t, p, s⟩ := h
  refine ⟨_, fun X hX => po_some (p X hX), fun ρ Φ Ξ σ F G H Q e hT hQ hx => ?_⟩
  refine s ρ _ Ξ σ F G H _ e hT (fun ρ1 x v A F1 G1 H1 q1 e1 r1 s1 => ?_) hx
  obtain ⟨i, rfl, q⟩ := q1
  cases r1.dp
  exact ⟨i, rfl, hQ ρ1 _ F1 G1 H1 q e1 s1⟩
theorem ae_slc {e : Expr} {lo hi : Option Expr} {pos p2 : Pos} {T : TrE} {Tl Th : TrP} (he : AE c sc W e 0 T) (hl : APo c sc W lo Tl) (hh : APo c sc W hi Th) :
    AE c sc W (.Subscript e (.Slice lo hi none p2) pos) 1 (fun ρ Φ Ξ => T ρ (fun ρ1 x => Tl ρ1 (fun ρ2 l => Th ρ2 (fun ρ3 h => slcD x l h (Φ ρ3)) Ξ) Ξ) Ξ) := by
  obtain ⟨t, pt, s⟩ := he
  obtain ⟨tl, ptl, sl⟩ := hl
  obtain ⟨th, pth, sh⟩ := hh
  refine ⟨_, fun X hX => pe_slice (r := rSlL c.K) (hX.K ▸ sl_list) (pt X hX) (ptl X hX) (pth X hX), fun ρ Φ Ξ σ F G H Q e0 hT hQ hx => ?_⟩
  refine s ρ _ Ξ σ F G H _ e0 hT (fun ρ1 x v A F1 G1 H1 q1 e1 r1 s1 => ?_) hx
  refine sl ρ1 _ Ξ σ F1 G1 H1 _ e1 q1 (fun ρ2 l F2 G2 H2 q2 e2 s2 => ?_) (hx.stp s1)
  refine sh ρ2 _ Ξ σ F2 G2 H2 _ e2 q2 (fun ρ3 h F3 G3 H3 q3 e3 s3 => ?_) (hx.stp (s1.trans s2))
  replace q3 := slcD_r q3
  cases x <;> first | exact q3.elim | skip
  have hd := Dp.mono (s2.g.trans s3.g) r1.dp
  cases hd with
  | lst hs r =>
    rename_i ds a vs
    refine ⟨a, vs, rfl, e3.same.seq hs, fun p hp => ?_⟩
    have hlen := DpAll.length r
    have hv : vs.length ≤ 16777216 := e3.lenL hs
    obtain ⟨A, e4, s4, r4⟩ := newList e3 (s1.trans (s2.trans s3)) (DpAll.take (HT.sIx ds.length ds.length h - HT.sIx ds.length 0 l) (DpAll.drop (HT.sIx ds.length 0 l) r)) hp (by rw [List.length_take, List.length_drop]; omega)
    unfold cutV
    rw [hlen]
    exact hQ ρ3 _ (.ref p) A F3 _ _ q3 e4 r4 s4
/-! ### the greatest and the least of three -/
theorem ae_mm3 {mx : Bool} {e : Expr} {es : List Expr} {p pos : Pos} {x : Str} {T : TrL} (hx : x = if mx then "max" else "min") (h : AL c sc W (e :: es) 0 3 T) (hg : GlS sc x) (hm : c.mg x = none)
    (he : ∀ env, starEach (e :: es) env = (false, eval e env) :: starEach es env) (hpl : ∀ env, (backTo pos (starEach es env)).any (·.1) = false) :
    AE c sc W (.Call (.Name x p) (e :: es) [] pos) 0 (fun ρ Φ Ξ => T ρ (fun ρ1 ds => mm3D mx ds (Φ ρ1)) Ξ) := by
  obtain ⟨t, pt, s⟩ := h
  have num : ∀ (f : V → V → V → Option V) (g : Int → Int → Int → Int), (∀ i j l, f (.int i) (.int j) (.int l) = some (.int (g i j l))) → ∀ (i j l : Int) vs (Φ : D → Prop) (G H : Hp) (Q : VK), Φ (.int (g i j l)) → DpAll c.K G vs [.int i, .int j, .int l] → (∀ i, Φ (.int i) → Q (.int i) H) → rNuC3 f vs H Q := fun f g hf i j l vs Φ G H Q q r k => by
    cases r with
    | cons h1 r => cases h1; cases r with
      | cons h2 r => cases h2; cases r with
        | cons h3 r => cases h3; cases r; exact ⟨_, _, _, _, rfl, hf i j l, k _ q⟩
  have three : ∀ ds (k : D → Prop), mm3D mx ds k → ∃ i j l, ds = [.int i, .int j, .int l] ∧ k (.int (if mx then max3 i j l else min3 i j l)) := fun ds k q => by
    unfold mm3D at q
    split at q
    · exact ⟨_, _, _, rfl, q⟩
    · exact q.elim
  cases mx with
  | true =>
    subst hx
    refine ⟨_, fun X hX => pe_callB (call_max3Nu hX.calm) (hX.gl hg) (hX.no hm) (by decide +kernel) (pt X hX) (by decide +kernel) (by decide +kernel) (he _) (hpl _), fun ρ Φ Ξ σ F G H Q e0 hT hQ hx => ?_⟩
    refine s ρ _ Ξ σ F G H _ e0 hT (fun ρ1 ds vs A F1 G1 H1 q1 hl e1 r1 s1 => ?_) hx
    obtain ⟨i, j, l, rfl, q⟩ := three ds _ q1
    refine num _ max3 (fun i j l => ?_) i j l vs (Φ ρ1) G1 H1 Q (by simpa using q) r1.dp fun i h => hQ ρ1 _ _ [] F1 G1 H1 h e1 (.frz (.int _)) s1
    unfold nuMax3 nuMax2 nuLt max3
    by_cases h : i < j <;> by_cases h2 : j < l <;> by_cases h3 : i < l <;> simp [nuCB, h, h2, h3]
  | false =>
    subst hx
    refine ⟨_, fun X hX => pe_callB (call_min3Nu hX.calm) (hX.gl hg) (hX.no hm) (by decide +kernel) (pt X hX) (by decide +kernel) (by decide +kernel) (he _) (hpl _), fun ρ Φ Ξ σ F G H Q e0 hT hQ hx => ?_⟩
    refine s ρ _ Ξ σ F G H _ e0 hT (fun ρ1 ds vs A F1 G1 H1 q1 hl e1 r1 s1 => ?_) hx
    obtain ⟨i, j, l, rfl, q⟩ := three ds _ q1
    refine num _ min3 (fun i j l => ?_) i j l vs (Φ ρ1) G1 H1 Q (by simpa using q) r1.dp fun i h => hQ ρ1 _ _ [] F1 G1 H1 h e1 (.frz (.int _)) s1
    unfold nuMin3 nuMin2 nuLt min3
    by_cases h : j < i <;> by_cases h2 : l < j <;> by_cases h3 : l < i <;> simp [nuCB, h, h2, h3]
end Q

/-! ## str of a list or a tuple -/
namespace Q
open PySem PySem.Spec PyProof.Rows L2
theorem call_shw {X : Cx} (hG : X.A.guards = some []) (hu : X.A.units + 65 < cLine) : CallR X (.type "str") (fun xs H Q => ∃ a d, xs = [.ref a] ∧ Dp X.K H (.ref a) d ∧ ShwOk d ∧ Q (.str d.shown) H) := by
  intro pins s σ H xs us Q I r h
  obtain ⟨a, d, rfl, hd, ⟨h1, h2, h3, h4⟩, q⟩ := h
  obtain ⟨u, rfl, rx⟩ := vals1 r
  obtain ⟨as, hr⟩ := Dp.reads I d (.ref a) u hd rx
  cases rx
  exact str_of_reads hr h1 (fun z => by rw [h2] at z; cases z) hG (by omega) (fun _ _ e => e) (fun h' u tk kp => ⟨.str d.shown, H, I.kept kp, ⟨u, rfl⟩, q⟩) h4
variable {c : Ctx} {sc : Scope} {W : WX}
theorem ae_shw {e : Expr} {T : TrE} {p pos : Pos} (hG : c.A.guards = some []) (hu : c.A.units + 65 < cLine) (h : AE c sc W e 0 T) (hg : GlS sc "str") (hm : c.mg "str" = none) (he : ∀ env, starEach [e] env = [(false, eval e env)]) :
    AE c sc W (.Call (.Name "str" p) [e] [] pos) 0 (fun ρ Φ Ξ => T ρ (fun ρ1 x => shwD x (Φ ρ1)) Ξ) := by
  obtain ⟨t, pt, s⟩ := h
  refine ⟨_, fun X hX => pe_callTy (T := "str") (r := fun xs H Q => ∃ a d, xs = [V.ref a] ∧ Dp c.K H (.ref a) d ∧ ShwOk d ∧ Q (.str d.shown) H) (hX.K ▸ call_shw (hX.A ▸ hG) (hX.A ▸ hu)) (hX.gl hg) (hX.no hm) (by decide +kernel) (pa_cons (pt X hX) pa_nil (by rw [he]; rfl)) (by decide +kernel) (by decide +kernel) (by rw [he]; rfl), fun ρ Φ Ξ σ F G H Q e0 hT hQ hx => ?_⟩
  refine s ρ _ Ξ σ F G H _ e0 hT (fun ρ1 x v A F1 G1 H1 q1 e1 r1 s1 => ?_) hx
  obtain ⟨q0, q2, q3⟩ := q1
  obtain ⟨a, rfl⟩ : ∃ a, v = .ref a := by
    cases r1.dp <;> first | exact ⟨_, rfl⟩ | cases q0
  exact ⟨a, x, rfl, Dp.mono e1.same r1.dp, q2, hQ ρ1 _ _ [] F1 G1 H1 q3 e1 (.frz (.str _)) s1⟩
end Q

namespace Q
open PySem PySem.Spec PyProof.Rows L2
variable {c : Ctx} {sc so : Scope} {W : WX} {Γ : List Ent} {bl : Bl}

/-! ### targets -/
def LocS (sc : Scope) (x : Str) : Prop := sc.names.lookup x = some .local ∨ sc.names.lookup x = some .cell
/-- contexts in which the names of so may be stored -/
structure IsS (c : Ctx) (sc so : Scope) (W : WX) (X : Cx) : Prop where
  is : Is c sc W X
  st : ∀ x, LocS so x → Loc X.env.scope x ∧ (X.fn x = true ∨ X.env.scope.names.lookup x = some .local)
def locB (sc : Scope) (x : Str) : Bool := match sc.names.lookup x with
  | some .local => true
  | some .cell => true
  | _ => false
theorem locB_ok {x : Str} (h : locB so x = true) : LocS so x := by
  unfold locB at h
  split at h
  · exact .inl (by assumption)
  · exact .inr (by assumption)
  · cases h
mutual
def chkTg (N : List Str) (so : Scope) : Tg → Expr → Bool
  | .nm i, .Name x _ => decide (N[i]? = some x) && locB so x
  | .tp ts, .Tuple es _ _ => chkTgs N so ts es
  | _, _ => false
def chkTgs (N : List Str) (so : Scope) : Tgs → List Expr → Bool
  | .nil, [] => true
  | .cons t ts, e :: es => chkTg N so t e && chkTgs N so ts es
  | _, _ => false
end
mutual
def Tg.slots : Tg → List Nat
  | .nm i => [i]
  | .tp ts => ts.slots
def Tgs.slots : Tgs → List Nat
  | .nil => []
  | .cons t ts => t.slots ++ ts.slots
end
/-- what a store of frozen data into a target does -/
def SndG (c : Ctx) (sl : List Nat) (T : D → Env → (Env → Prop) → Prop) (g : TG) : Prop := ∀ (d : D) (ρ : Env) (k : Env → Prop) (σ : Sg) (F : Foot) (G H : Hp) (v : V) (Q : Sg → Hp → Prop), En c.K σ ρ F G H → Dp c.K G v d → T d ρ k →
  (∀ σ' ρ' F', k ρ' → En c.K σ' ρ' F' G H → Stp F G H F' G H → (∀ j, j ∉ sl → σ'[j]? = σ[j]?) → σ'.length = σ.length → Q σ' H) → g v σ H Q
def SndGs (c : Ctx) (sl : List Nat) (T : List D → Env → (Env → Prop) → Prop) (g : TGs) : Prop := ∀ (ds : List D) (ρ : Env) (k : Env → Prop) (σ : Sg) (F : Foot) (G H : Hp) (vs : List V) (Q : Sg → Hp → Prop), En c.K σ ρ F G H → DpAll c.K G vs ds → T ds ρ k →
  (∀ σ' ρ' F', k ρ' → En c.K σ' ρ' F' G H → Stp F G H F' G H → (∀ j, j ∉ sl → σ'[j]? = σ[j]?) → σ'.length = σ.length → Q σ' H) → g vs σ H Q
theorem assign_plain : ∀ (t : Tg) (e : Expr) (N : List Str) (so : Scope), chkTg N so t e = true → ∀ env es, assignEach (e :: es) env = (false, assign e env) :: assignEach es env
  | .nm _, .Name .., _, _, _ => fun _ _ => rfl
  | .tp _, .Tuple .., _, _, _ => fun _ _ => rfl
  | .nm i, e, N, so, h => by cases e <;> first | (intro _ _; rfl) | (simp [chkTg] at h)
  | .tp i, e, N, so, h => by cases e <;> first | (intro _ _; rfl) | (simp [chkTg] at h)
mutual
theorem snd_tg (hN : c.N.Nodup) : ∀ (t : Tg) (e : Expr), chkTg c.N so t e = true → ∃ g : TG, (∀ X, IsS c sc so W X → PG X e g) ∧ SndG c t.slots (asg t) g
  | .nm i, e, h => by
    cases e <;> first | (simp [chkTg] at h; done) | skip
    rename_i x pos
    simp only [chkTg, Bool.and_eq_true, decide_eq_true_eq] at h
    obtain ⟨h1, h2⟩ := h
    refine ⟨gName i, fun X hX => ?_, fun d ρ k σ F G H v Q e0 dv hT hQ => ?_⟩
    · obtain ⟨q1, q2⟩ := hX.st x (locB_ok h2)
      exact pg_name (by rw [hX.is.N]; exact hN) (hX.is.ix h1) q1 q2
    · have r : Res c.K F G H F G H 0 [] v d := .frz dv
      have e1 := e0.set (i := i) r (.inr (.inl ⟨rfl, rfl⟩))
      refine hQ _ _ _ hT e1 (Stp.put (.refl _ _ _) r) (fun j hj => ?_) (by simp)
      have hj' : j ≠ i := by simpa [Tg.slots] using hj
      exact List.getElem?_set_ne (Ne.symm hj')
  | .tp ts, e, h => by
    cases e <;> first | (simp [chkTg] at h; done) | skip
    rename_i es kk pos
    simp only [chkTg] at h
    obtain ⟨n, g, h1, h2, h3, h4⟩ := snd_tgs hN ts es h
    refine ⟨fun v σ H Q => gTup c.K n g v σ H Q ∨ gLst c.K n g v σ H Q, fun X hX => ?_, fun d ρ k σ F G H v Q e0 dv hT hQ => ?_⟩
    · have t1 := pg_tup (pos := pos) (k := kk) hX.is.calm (h1 X hX) (h2 _).1 (h2 _).2
      have t2 := pg_lst (pos := pos) (k := kk) hX.is.calm (h1 X hX) (h2 _).1 (h2 _).2
      rw [hX.is.K] at t1 t2
      exact ⟨fun pins s σ H v u Q I r h => h.elim (t1.run pins s σ H v u Q I r) (t2.run pins s σ H v u Q I r)⟩
    · cases d <;> first | exact hT.elim | skip
      · cases dv with
        | lst hs r =>
          have hT : asgs ts _ ρ k := hT
          exact .inr ⟨_, _, rfl, e0.same.seq hs, by rw [DpAll.length r]; exact h4 _ _ _ hT, h3 _ ρ k σ F G H _ Q e0 r hT hQ⟩
      · cases dv with
        | tup hs r =>
          have hT : asgs ts _ ρ k := hT
          exact .inl ⟨_, _, rfl, SqT.mono e0.same hs, by rw [DpAll.length r]; exact h4 _ _ _ hT, h3 _ ρ k σ F G H _ Q e0 r hT hQ⟩
theorem snd_tgs (hN : c.N.Nodup) : ∀ (ts : Tgs) (es : List Expr), chkTgs c.N so ts es = true → ∃ (n : Nat) (g : TGs), (∀ X, IsS c sc so W X → PGs X es g) ∧ (∀ env, (assignEach es env).length = n ∧ (assignEach es env).findIdx? (·.1) = none) ∧ SndGs c ts.slots (asgs ts) g ∧ ∀ ds ρ k, asgs ts ds ρ k → ds.length = n
  | .nil, es, h => by
    cases es with
    | cons e es => simp [chkTgs] at h
    | nil =>
      refine ⟨0, gNil, fun X _ => pgs_nil, fun _ => ⟨rfl, rfl⟩, fun ds ρ k σ F G H vs Q e0 r hT hQ => ?_, fun ds ρ k hT => ?_⟩
      · cases ds with
        | cons d ds => exact hT.elim
        | nil =>
          cases r
          exact ⟨rfl, hQ σ ρ F hT e0 (.refl _ _ _) (fun _ _ => rfl) rfl⟩
      · cases ds with
        | cons d ds => exact hT.elim
        | nil => rfl
  | .cons t ts, es, h => by
    cases es with
    | nil => simp [chkTgs] at h
    | cons e es =>
      simp only [chkTgs, Bool.and_eq_true] at h
      obtain ⟨ha, hb⟩ := h
      obtain ⟨g, h1, h2⟩ := snd_tg hN t e ha
      obtain ⟨n, gs, h3, h4, h5, h6⟩ := snd_tgs hN ts es hb
      have hp := assign_plain t e _ _ ha
      refine ⟨n + 1, gCons g gs, fun X hX => pgs_cons (h1 X hX) (h3 X hX) (by rw [hp]; rfl), fun env => ?_, fun ds ρ k σ F G H vs Q e0 r hT hQ => ?_, fun ds ρ k hT => ?_⟩
      · obtain ⟨q1, q2⟩ := h4 env
        rw [hp]
        refine ⟨by rw [List.length_cons, q1], ?_⟩
        rw [List.findIdx?_cons, q2]
        rfl
      · cases ds with
        | nil => exact hT.elim
        | cons d ds =>
          cases r with
          | cons r1 r2 =>
            have hT : asg t d ρ fun ρ1 => asgs ts ds ρ1 k := hT
            refine ⟨_, _, rfl, h2 d ρ _ σ F G H _ _ e0 r1 hT fun σ1 ρ1 F1 q1 e1 s1 a1 l1 => ?_⟩
            refine h5 ds ρ1 k σ1 F1 G H _ Q e1 r2 q1 fun σ2 ρ2 F2 q2 e2 s2 a2 l2 => hQ σ2 ρ2 F2 q2 e2 (s1.trans s2) (fun j hj => ?_) (l2.trans l1)
            have hj' : j ∉ t.slots ∧ j ∉ ts.slots := by simpa [Tgs.slots] using hj
            exact (a2 j hj'.2).trans (a1 j hj'.1)
      · cases ds with
        | nil => exact hT.elim
        | cons d ds =>
          have hT : asg t d ρ fun ρ1 => asgs ts ds ρ1 k := hT
          obtain ⟨ρ1, hT⟩ := asg_some t d ρ _ hT
          rw [List.length_cons, h6 ds _ _ hT]
theorem asg_some : ∀ (t : Tg) (d : D) (ρ : Env) (k : Env → Prop), asg t d ρ k → ∃ ρ1, k ρ1
  | .nm i, d, ρ, k, h => ⟨_, h⟩
  | .tp ts, d, ρ, k, h => by
    cases d <;> first | exact h.elim | exact asgs_some ts _ ρ k h
theorem asgs_some : ∀ (ts : Tgs) (ds : List D) (ρ : Env) (k : Env → Prop), asgs ts ds ρ k → ∃ ρ1, k ρ1
  | .nil, [], ρ, k, h => ⟨_, h⟩
  | .nil, _ :: _, ρ, k, h => h.elim
  | .cons _ _, [], ρ, k, h => h.elim
  | .cons t ts, d :: ds, ρ, k, h => by
    obtain ⟨ρ1, h⟩ := asg_some t d ρ _ h
    exact asgs_some ts ds ρ1 k h
end

/-! ### what is walked -/
def ItOk (K : PySem.W.Frag) (J : L2.It) (ds : List D) (GI : Hp) : Prop := ∀ (i : Nat) (G H : Hp), Same GI G → Same G H → (ds.length ≤ i → J.stop i H) ∧
  ∀ d, ds[i]? = some d → J.go i H ∧ ∀ x H', J.yld i H x H' → (H' = H ∧ Dp K G x d) ∨ ∃ T o, (lenOk o ∧ notFrz o) ∧ H T = none ∧ H' = upd H T o ∧ Dp K (upd G T o) x d
def AI (c : Ctx) (sc : Scope) (W : WX) (tg iter : Expr) (T : TrL) : Prop := ∃ wi : TI, (∀ X, Is c sc W X → PI X tg iter wi) ∧ ∀ (ρ : Env) (Φ : Env → List D → Prop) (Ξ : Px) (σ : Sg) (F : Foot) (G H : Hp) (R : L2.It → Hp → Prop), En c.K σ ρ F G H → T ρ Φ Ξ →
  (∀ ρ' ds J F' G' H', Φ ρ' ds → En c.K σ ρ' F' G' H' → Stp F G H F' G' H' → ItOk c.K J ds G' → ds.length ≤ 16777216 → R J H') → Xc c W σ F G H Ξ → wi σ H R
theorem DpAll.at {K : PySem.W.Frag} {G : Hp} {vs : List V} {ds : List D} {i : Nat} {d : D} {x : V} (r : DpAll K G vs ds) (h : ds[i]? = some d) (hx : vs[i]? = some x) : Dp K G x d := by
  obtain ⟨v, h1, h2⟩ := DpAll.get r h
  rw [hx] at h1; cases h1; exact h2
theorem itOk_list {K : PySem.W.Frag} {GI : Hp} {a : Addr} {vs : List V} {ds : List D} (h : SqL K GI a vs) (r : DpAll K GI vs ds) : ItOk K (Itl K a) ds GI := fun i G H g gh => by
  have hH : SqL K H a vs := gh.seq (g.seq h)
  refine ⟨fun hi => ⟨vs, hH, by rw [DpAll.length r]; exact hi⟩, fun d hd => ?_⟩
  obtain ⟨v, h1, h2⟩ := DpAll.get r hd
  refine ⟨⟨vs, v, hH, h1⟩, fun x H' hy => .inl ⟨hy.1, ?_⟩⟩
  have hx := hy.2 vs hH
  rw [h1] at hx; cases hx
  exact Dp.mono g h2
theorem itOk_range {K : PySem.W.Frag} {GI : Hp} (lo : Int) (n : Nat) : ItOk K (Itr lo n) ((List.range n).map fun i => .int (lo + (i : Nat))) GI := fun i G H g gh => by
  refine ⟨fun hi => ?_, fun d hd => ?_⟩
  · have hi' : n ≤ i := by simpa using hi
    exact hi'
  · have hlt : i < n := by
      have := (List.getElem?_eq_some_iff.mp hd).1
      simpa using this
    have hd' : d = .int (lo + (i : Nat)) := by
      rw [List.getElem?_map, List.getElem?_range hlt] at hd
      exact (Option.some.inj hd).symm
    subst hd'
    exact ⟨hlt, fun x H' hy => .inl ⟨hy.1, by rw [hy.2]; exact .int _⟩⟩
theorem itOk_enum {K : PySem.W.Frag} {GI : Hp} {a : Addr} {vs : List V} {ds : List D} (h : SqL K GI a vs) (r : DpAll K GI vs ds) : ItOk K (Ite K a) (ds.zipIdx.map fun p => .tuple [.int (p.2 : Nat), p.1]) GI := fun i G H g gh => by
  have hH : SqL K H a vs := gh.seq (g.seq h)
  refine ⟨fun hi => ⟨vs, hH, by rw [DpAll.length r]; simpa using hi⟩, fun d hd => ?_⟩
  rw [List.getElem?_map, List.getElem?_zipIdx] at hd
  cases q : ds[i]? with
  | none => rw [q] at hd; cases hd
  | some d0 =>
    rw [q] at hd
    have hd' : d = .tuple [.int (i : Nat), d0] := by simpa using hd.symm
    subst hd'
    obtain ⟨v, h1, h2⟩ := DpAll.get r q
    refine ⟨⟨vs, v, hH, h1⟩, fun x H' hy => .inr ?_⟩
    obtain ⟨T, y, rfl, hT, rfl, hy⟩ := hy
    have hx := hy vs hH
    rw [h1] at hx; cases hx
    have sg : Same G (upd G T (.tup [.int (i : Nat), v])) := fun b u q => by rw [upd_ne (ne_of_none q (gh.free hT))]; exact q
    exact ⟨T, .tup _, ⟨True.intro, True.intro⟩, hT, rfl, .tup (.inl (.inl upd_same)) (.cons (.int _) (.cons (Dp.mono (g.trans sg) h2) .nil))⟩
theorem itOk_zip {K : PySem.W.Frag} {GI : Hp} {a b : Addr} {vs ws : List V} {ds es : List D} (h : SqL K GI a vs) (r : DpAll K GI vs ds) (h' : SqL K GI b ws) (r' : DpAll K GI ws es) : ItOk K (Itz K a b) ((ds.zip es).map fun p => .tuple [p.1, p.2]) GI := fun i G H g gh => by
  have hH : SqL K H a vs := gh.seq (g.seq h)
  have hH' : SqL K H b ws := gh.seq (g.seq h')
  refine ⟨fun hi => ⟨vs, ws, hH, hH', ?_⟩, fun d hd => ?_⟩
  · rw [DpAll.length r, DpAll.length r']
    rw [List.length_map, List.length_zip] at hi
    omega
  · rw [List.getElem?_map] at hd
    cases q : (ds.zip es)[i]? with
    | none => rw [q] at hd; cases hd
    | some p =>
      rw [q] at hd
      have hd' : d = .tuple [p.1, p.2] := (Option.some.inj hd).symm
      subst hd'
      obtain ⟨q1, q2⟩ := List.getElem?_zip_eq_some.mp q
      obtain ⟨v, h1, h2⟩ := DpAll.get r q1
      obtain ⟨u, g1, g2⟩ := DpAll.get r' q2
      refine ⟨⟨vs, ws, v, u, hH, hH', h1, g1⟩, fun x H' hy => .inr ?_⟩
      obtain ⟨T, y, z, rfl, hT, rfl, hy, hz⟩ := hy
      have hx := hy vs hH
      rw [h1] at hx; cases hx
      have hx := hz ws hH'
      rw [g1] at hx; cases hx
      have sg : Same G (upd G T (.tup [v, u])) := fun b u q => by rw [upd_ne (ne_of_none q (gh.free hT))]; exact q
      exact ⟨T, .tup _, ⟨True.intro, True.intro⟩, hT, rfl, .tup (.inl (.inl upd_same)) (.cons (Dp.mono (g.trans sg) h2) (.cons (Dp.mono (g.trans sg) g2) .nil))⟩
theorem ai_lst {tg e : Expr} {T : TrE} (h : AE c sc W e 0 T) : AI c sc W tg e (fun ρ Φ Ξ => T ρ (fun ρ1 x => ∃ ds, x = .list ds ∧ Φ ρ1 ds) Ξ) := by
  obtain ⟨t, pt, s⟩ := h
  refine ⟨iList c.K t, fun X hX => by have := pi_list (tg := tg) (pt X hX); rw [hX.K] at this; exact this, fun ρ Φ Ξ σ F G H R e0 hT hR hx => ?_⟩
  refine s ρ _ Ξ σ F G H _ e0 hT (fun ρ1 x v A F1 G1 H1 q1 e1 r1 s1 => ?_) hx
  obtain ⟨ds, rfl, q⟩ := q1
  cases r1.dp with
  | lst h r => exact ⟨_, rfl, ⟨_, e1.same.seq h⟩, hR ρ1 ds _ F1 G1 H1 q e1 s1 (itOk_list h r) (by rw [← DpAll.length r]; exact e1.lenL h)⟩
theorem itOk_tup {K : PySem.W.Frag} {GI : Hp} {a : Addr} {vs : List V} {ds : List D} (h : SqT K GI a vs) (r : DpAll K GI vs ds) : ItOk K (Itt K a) ds GI := fun i G H g gh => by
  have hH : SqT K H a vs := SqT.mono gh (SqT.mono g h)
  refine ⟨fun hi => ⟨vs, hH, by rw [DpAll.length r]; exact hi⟩, fun d hd => ?_⟩
  obtain ⟨v, h1, h2⟩ := DpAll.get r hd
  refine ⟨⟨vs, v, hH, h1⟩, fun x H' hy => .inl ⟨hy.1, ?_⟩⟩
  have hx := hy.2 vs hH
  rw [h1] at hx; cases hx
  exact Dp.mono g h2
theorem ai_tup {tg e : Expr} {T : TrE} (h : AE c sc W e 0 T) : AI c sc W tg e (fun ρ Φ Ξ => T ρ (fun ρ1 x => ∃ ds, x = .tuple ds ∧ ds.length ≤ 16777216 ∧ Φ ρ1 ds) Ξ) := by
  obtain ⟨t, pt, s⟩ := h
  refine ⟨iTup c.K t, fun X hX => by have := pi_tup (tg := tg) (pt X hX); rw [hX.K] at this; exact this, fun ρ Φ Ξ σ F G H R e0 hT hR hx => ?_⟩
  refine s ρ _ Ξ σ F G H _ e0 hT (fun ρ1 x v A F1 G1 H1 q1 e1 r1 s1 => ?_) hx
  obtain ⟨ds, rfl, hl, q⟩ := q1
  cases r1.dp with
  | tup h r => exact ⟨_, rfl, ⟨_, SqT.mono e1.same h⟩, hR ρ1 ds _ F1 G1 H1 q e1 s1 (itOk_tup h r) hl⟩
theorem ai_rng {tg e : Expr} {T : TrE} {p pos : Pos} (hg : GlS sc "range") (hm : c.mg "range" = none) (h : AE c sc W e 0 T) (he : ∀ env, starEach [e] env = [(false, eval e env)]) :
    AI c sc W tg (.Call (.Name "range" p) [e] [] pos) (fun ρ Φ Ξ => T ρ (fun ρ1 x => ∃ n : Int, x = .int n ∧ (-16777216 ≤ n ∧ n ≤ 16777216) ∧ Φ ρ1 ((List.range n.toNat).map fun i => .int (i : Nat))) Ξ) := by
  obtain ⟨t, pt, s⟩ := h
  refine ⟨iRng1 (tCons t tNil), fun X hX => pi_range1 (hX.gl hg) (hX.no hm) (pa_cons (pt X hX) pa_nil (by rw [he]; rfl)) (he _), fun ρ Φ Ξ σ F G H R e0 hT hR hx => ?_⟩
  refine s ρ _ Ξ σ F G H _ e0 hT (fun ρ1 x v A F1 G1 H1 q1 e1 r1 s1 => ?_) hx
  obtain ⟨n, rfl, ⟨hn0, hn⟩, q⟩ := q1
  cases r1.dp
  refine ⟨n, rfl, by omega, by omega, hR ρ1 _ _ F1 G1 H1 q e1 s1 ?_ (by rw [List.length_map, List.length_range]; omega)⟩
  have := itOk_range (K := c.K) (GI := G1) 0 n.toNat
  simpa using this
theorem ai_rng2 {tg a b : Expr} {Ta Tb : TrE} {p pos : Pos} (hg : GlS sc "range") (hm : c.mg "range" = none) (ha : AE c sc W a 0 Ta) (hb : AE c sc W b 0 Tb) (he : ∀ env, starEach [a, b] env = [(false, eval a env), (false, eval b env)]) (he2 : ∀ env, starEach [b] env = [(false, eval b env)]) :
    AI c sc W tg (.Call (.Name "range" p) [a, b] [] pos) (fun ρ Φ Ξ => Ta ρ (fun ρ1 x => Tb ρ1 (fun ρ2 y => ∃ m n : Int, x = .int m ∧ y = .int n ∧ (-16777216 ≤ m ∧ m ≤ 16777216 ∧ -16777216 ≤ n ∧ n - m ≤ 16777216 ∧ n ≤ 16777216) ∧ Φ ρ2 ((List.range (n - m).toNat).map fun i => .int (m + (i : Nat)))) Ξ) Ξ) := by
  obtain ⟨ta, pa, sa⟩ := ha
  obtain ⟨tb, pb, sb⟩ := hb
  refine ⟨iRng2 (tCons ta (tCons tb tNil)), fun X hX => pi_range2 (hX.gl hg) (hX.no hm) (pa_cons (pa X hX) (pa_cons (pb X hX) pa_nil (by rw [he2]; rfl)) (by rw [he, he2])) (he _) (he2 _), fun ρ Φ Ξ σ F G H R e0 hT hR hx => ?_⟩
  refine ae_two (a := a) (b := b) (R := fun v u H2 => ∃ i j : Int, [v, u] = [.int i, .int j] ∧ (-(2 ^ 62) ≤ i ∧ i < 2 ^ 62 ∧ -(2 ^ 62) ≤ j ∧ j < 2 ^ 62) ∧ R (Itr i (j - i).toNat) H2)
    (Φ := fun ρ2 x y => ∃ m n : Int, x = .int m ∧ y = .int n ∧ (-16777216 ≤ m ∧ m ≤ 16777216 ∧ -16777216 ≤ n ∧ n - m ≤ 16777216 ∧ n ≤ 16777216) ∧ Φ ρ2 ((List.range (n - m).toNat).map fun i => .int (m + (i : Nat)))) sa sb e0 hx hT fun ρ2 x y v u F2 G2 H2 q e2 dv du s2 => ?_
  obtain ⟨m, n, rfl, rfl, hb, q⟩ := q
  cases dv; cases du
  exact ⟨m, n, rfl, by omega, hR ρ2 _ _ F2 G2 H2 q e2 s2 (itOk_range m _) (by rw [List.length_map, List.length_range]; omega)⟩
theorem ai_enum {e : Expr} {elts : List Expr} {kk : Nat} {tpos : Pos} {T : TrE} {p pos : Pos} (hg : GlS sc "enumerate") (hm : c.mg "enumerate" = none) (h : AE c sc W e 0 T) (he : ∀ env, starEach [e] env = [(false, eval e env)]) :
    AI c sc W (.Tuple elts kk tpos) (.Call (.Name "enumerate" p) [e] [] pos) (fun ρ Φ Ξ => T ρ (fun ρ1 x => ∃ ds, x = .list ds ∧ Φ ρ1 (ds.zipIdx.map fun p => .tuple [.int (p.2 : Nat), p.1])) Ξ) := by
  obtain ⟨t, pt, s⟩ := h
  refine ⟨iEnum c.K (tCons t tNil), fun X hX => by have := pi_enum (elts := elts) (kk := kk) (tpos := tpos) (p := p) (pos := pos) (hX.gl hg) (hX.no hm) (pa_cons (pt X hX) pa_nil (by rw [he]; rfl)) (he _); rw [hX.K] at this; exact this, fun ρ Φ Ξ σ F G H R e0 hT hR hx => ?_⟩
  refine s ρ _ Ξ σ F G H _ e0 hT (fun ρ1 x v A F1 G1 H1 q1 e1 r1 s1 => ?_) hx
  obtain ⟨ds, rfl, q⟩ := q1
  cases r1.dp with
  | lst h r => exact ⟨_, _, rfl, e1.same.seq h, hR ρ1 _ _ F1 G1 H1 q e1 s1 (itOk_enum h r) (by rw [List.length_map, List.length_zipIdx, ← DpAll.length r]; exact e1.lenL h)⟩
theorem ai_zip {a b : Expr} {elts : List Expr} {kk : Nat} {tpos : Pos} {Ta Tb : TrE} {p pos : Pos} (hg : GlS sc "zip") (hm : c.mg "zip" = none) (ha : AE c sc W a 0 Ta) (hb : AE c sc W b 0 Tb) (he : ∀ env, starEach [a, b] env = (false, eval a env) :: starEach [b] env) (he2 : ∀ env, starEach [b] env = [(false, eval b env)]) :
    AI c sc W (.Tuple elts kk tpos) (.Call (.Name "zip" p) [a, b] [] pos) (fun ρ Φ Ξ => Ta ρ (fun ρ1 x => Tb ρ1 (fun ρ2 y => ∃ ds es, x = .list ds ∧ y = .list es ∧ Φ ρ2 ((ds.zip es).map fun p => .tuple [p.1, p.2])) Ξ) Ξ) := by
  obtain ⟨ta, pa, sa⟩ := ha
  obtain ⟨tb, pb, sb⟩ := hb
  refine ⟨iZip c.K (tCons ta (tCons tb tNil)), fun X hX => by have := pi_zip (elts := elts) (kk := kk) (tpos := tpos) (p := p) (pos := pos) (hX.gl hg) (hX.no hm) (pa_cons (pa X hX) (pa_cons (pb X hX) pa_nil (by rw [he2]; rfl)) (he _)) (he _) (by rw [he2]; rfl); rw [hX.K] at this; exact this, fun ρ Φ Ξ σ F G H R e0 hT hR hx => ?_⟩
  refine ae_two (a := a) (b := b) (R := fun v u H2 => ∃ a b xs ys, [v, u] = [.ref a, .ref b] ∧ SqL c.K H2 a xs ∧ SqL c.K H2 b ys ∧ R (Itz c.K a b) H2)
    (Φ := fun ρ2 x y => ∃ ds es, x = .list ds ∧ y = .list es ∧ Φ ρ2 ((ds.zip es).map fun p => .tuple [p.1, p.2])) sa sb e0 hx hT fun ρ2 x y v u F2 G2 H2 q e2 dv du s2 => ?_
  obtain ⟨ds, es, rfl, rfl, q⟩ := q
  cases dv with
  | lst h r =>
    cases du with
    | lst h' r' =>
      refine ⟨_, _, _, _, rfl, e2.same.seq h, e2.same.seq h', hR ρ2 _ _ F2 G2 H2 q e2 s2 (itOk_zip h r h' r') ?_⟩
      have := e2.lenL h
      rw [DpAll.length r] at this
      rw [List.length_map, List.length_zip]
      omega
end Q

namespace Q
open PySem PySem.Spec PyProof.Rows L2
variable {c : Ctx} {sc so : Scope} {W : WX} {Γ : List Ent} {bl : Bl}

/-! ### comprehensions -/
abbrev WF : WX := fun _ _ _ _ => False
theorem takes_F {X : Cx} : L2N.Takes X WF := fun u s' ⟨_, _, _, _, _, _, _, _, _, _, _, _, _, _, _, _, w⟩ => w.elim
theorem Is.blk {X : Cx} (hX : Is c sc W X) (s : Shared) (H : Hp) (scope : Scope) (cl : List (Str × Addr)) (C : Addr) (fp : List Addr) : Is c (relS scope sc) WF (X.blk s H scope (compEnvC scope cl C X.env) fp) where
  P := hX.P
  w := hX.w
  K := hX.K
  mg := hX.mg
  base := hX.base
  A := hX.A
  N := hX.N
  sc := by rw [← hX.sc]; rfl
  calm := hX.calm
  takes := takes_F
theorem Is.blkS {X : Cx} (hX : Is c sc W X) (s : Shared) (H : Hp) (scope : Scope) (cl : List (Str × Addr)) (C : Addr) (fp : List Addr) : IsS c (relS scope sc) scope WF (X.blk s H scope (compEnvC scope cl C X.env) fp) := by
  refine ⟨hX.blk s H scope cl C fp, fun x hx => ?_⟩
  have e : (X.blk s H scope (compEnvC scope cl C X.env) fp).env.scope = relS scope sc := (hX.blk s H scope cl C fp).sc
  rw [e]
  rcases hx with hx | hx
  · have q : (relS scope sc).names.lookup x = some .local := lookup_relS_keep (by decide) hx
    exact ⟨.inl q, .inr q⟩
  · have q : (relS scope sc).names.lookup x = some .cell := lookup_relS_keep (by decide) hx
    refine ⟨.inr q, .inl ?_⟩
    show (scope.names.lookup x == some .cell) = true
    rw [hx]; rfl
theorem xc_no {σ : Sg} {F : Foot} {G H : Hp} : Xc c WF σ F G H xNo := fun _ _ _ _ _ _ _ h => h.elim
abbrev TrO := Env → (Env → Bool → Prop) → Prop
def AO (c : Ctx) (sc : Scope) (ifs : List Expr) (T : TrO) : Prop := ∃ tt : TT, (∀ X, Is c sc WF X → PTs X ifs tt) ∧ ∀ (ρ : Env) (Φ : Env → Bool → Prop) (σ : Sg) (F : Foot) (G H : Hp) (Q : Bool → Hp → Prop), En c.K σ ρ F G H → T ρ Φ →
  (∀ ρ' b F' G' H', Φ ρ' b → En c.K σ ρ' F' G' H' → Stp F G H F' G' H' → Q b H') → tt σ H Q
theorem ao_none : AO c sc [] (fun ρ Φ => Φ ρ true) := ⟨tYes, fun _ _ => pts_nil, fun ρ Φ σ F G H Q e hT hQ => hQ ρ true F G H hT e (.refl _ _ _)⟩
theorem ao_some {e : Expr} {T : TrE} (h : AT c sc WF e (testOf T)) : AO c sc [e] (fun ρ Φ => T ρ (fun ρ1 x => ∃ t, x = .bool t ∧ Φ ρ1 t) xNo) := by
  obtain ⟨t, p, s⟩ := h
  exact ⟨t, fun X hX => pts_one (p X hX), fun ρ Φ σ F G H Q e hT hQ => s ρ Φ xNo σ F G H Q e hT hQ xc_no⟩

theorem wip_length (ρ : Env) : ∀ is : List Nat, (wip ρ is).length = ρ.length
  | [] => rfl
  | i :: is => by unfold wip; rw [List.length_set, wip_length ρ is]
theorem wip_in {ρ : Env} {j : Nat} {cl : Cell} : ∀ {is : List Nat}, (wip ρ is)[j]? = some cl → (j ∈ is ∧ cl = .un) ∨ (j ∉ is ∧ ρ[j]? = some cl)
  | [], h => .inr ⟨by simp, h⟩
  | i :: is, h => by
    unfold wip at h
    by_cases q : i = j
    · subst q
      rw [List.getElem?_set] at h
      rw [if_pos rfl] at h
      split at h
      · cases h; exact .inl ⟨by simp, rfl⟩
      · cases h
    · rw [List.getElem?_set_ne q] at h
      rcases wip_in h with ⟨a, b⟩ | ⟨a, b⟩
      · exact .inl ⟨by simp [a], b⟩
      · exact .inr ⟨by simp [a, Ne.symm q], b⟩
theorem back_length (ρ ρ' : Env) : ∀ is : List Nat, (back ρ ρ' is).length = ρ'.length
  | [] => rfl
  | i :: is => by unfold back; rw [List.length_set, back_length ρ ρ' is]
theorem back_in {ρ ρ' : Env} {j : Nat} {cl : Cell} : ∀ {is : List Nat}, (back ρ ρ' is)[j]? = some cl → (j ∈ is ∧ cl = ρ.getD j .un) ∨ (j ∉ is ∧ ρ'[j]? = some cl)
  | [], h => .inr ⟨by simp, h⟩
  | i :: is, h => by
    unfold back at h
    by_cases q : i = j
    · subst q
      rw [List.getElem?_set] at h
      rw [if_pos rfl] at h
      split at h
      · cases h; exact .inl ⟨by simp, rfl⟩
      · cases h
    · rw [List.getElem?_set_ne q] at h
      rcases back_in h with ⟨a, b⟩ | ⟨a, b⟩
      · exact .inl ⟨by simp [a], b⟩
      · exact .inr ⟨by simp [a, Ne.symm q], b⟩
theorem En.wipe {K : PySem.W.Frag} {σ : Sg} {ρ : Env} {F : Foot} {G H : Hp} (e : En K σ ρ F G H) (is : List Nat) : En K (L2.wipe σ is) (wip ρ is) F G H where
  same := e.same
  len := by rw [wip_length, wipe_length, e.len]
  cell := fun j cl hj => by
    rcases wip_in hj with ⟨_, rfl⟩ | ⟨hn, hj⟩
    · trivial
    · rw [wipe_out hn]; exact e.cell j cl hj
  nod := e.nod
  dis := e.dis
  out := e.out
  th := e.th
  ln := e.ln
  fz := e.fz
theorem En.back {K : PySem.W.Frag} {σ : Sg} {ρ ρ' : Env} {F F' : Foot} {G H G' H' : Hp} {is : List Nat} (e : En K σ ρ F G H) (e' : En K (L2.wipe σ is) ρ' F' G' H') (g : Same G G') (hn : notOw ρ is) : En K σ (Q.back ρ ρ' is) F' G' H' where
  same := e'.same
  len := by rw [back_length, e'.len, wipe_length]
  cell := fun j cl hj => by
    rcases back_in hj with ⟨hi, rfl⟩ | ⟨hi, hj⟩
    · rw [List.getD_eq_getElem?_getD]
      cases q : ρ[j]? with
      | none => exact trivial
      | some cl =>
        have hpl : plainC cl = true := by
          have := List.all_eq_true.mp hn j hi
          rw [List.getD_eq_getElem?_getD, q] at this
          exact this
        cases cl with
        | un => exact trivial
        | hol _ _ _ _ => cases hpl
        | ln _ => cases hpl
        | va d => exact CellOk.mono (A := []) (H := H) (H' := H) g (fun _ h => nomatch h) (show CellOk K G H [] _ (.va d) from e.cell j _ q)
        | ow k d => cases hpl
    · have := e'.cell j cl hj
      rw [wipe_out hi] at this
      exact this
  nod := e'.nod
  dis := e'.dis
  out := e'.out
  th := e'.th
  ln := e'.ln
  fz := e'.fz
theorem wipe_eq {σ σ' : Sg} {is : List Nat} (hl : σ'.length = σ.length) (h : ∀ j, j ∉ is → σ'[j]? = σ[j]?) : L2.wipe σ' is = L2.wipe σ is := by
  refine List.ext_getElem? fun j => ?_
  by_cases q : j ∈ is
  · have key : ∀ (τ : Sg), τ.length = σ.length → (L2.wipe τ is)[j]? = if j < σ.length then some none else none := fun τ ht => by
      cases z : (L2.wipe τ is)[j]? with
      | none =>
        have := List.getElem?_eq_none_iff.mp z
        rw [wipe_length, ht] at this
        rw [if_neg (by omega)]
      | some o =>
        have := (List.getElem?_eq_some_iff.mp z).1
        rw [wipe_length, ht] at this
        rw [if_pos this]
        cases o with
        | none => rfl
        | some v => exact absurd q (wipe_some z).2
    rw [key σ' hl, key σ rfl]
  · rw [wipe_out q, wipe_out q]; exact h j q
theorem wipe_wipe {σ : Sg} {is : List Nat} : L2.wipe (L2.wipe σ is) is = L2.wipe σ is := wipe_eq (wipe_length σ is) fun j hj => wipe_out hj
/-- one more item at the end of a list that is a result -/
theorem Res.push {K : PySem.W.Frag} {σ : Sg} {ρ : Env} {F1 F4 F5 : Foot} {G1 H1 G4 H4 G5 H5 : Hp} {k : Nat} {A B : List Addr} {p : Addr} {u : V} {y : D} {acc : List D}
    (e : En K σ ρ F5 G5 H5) (s4 : Stp F1 G1 H1 F4 G4 H4) (r4 : Res K F1 G1 H1 F4 G4 H4 (k + 1) A (.ref p) (.list acc)) (s45 : Stp F4 G4 H4 F5 G5 H5) (r5 : Res K F4 G4 H4 F5 G5 H5 k B u y) (hl : acc.length < 16777216) :
    ∃ vs, H5 p = some (.lst vs) ∧ vs.length = acc.length ∧ ∃ A', En K σ ρ F5 G5 (upd H5 p (.lst (vs ++ [u]))) ∧ Stp F1 G1 H1 F5 G5 (upd H5 p (.lst (vs ++ [u]))) ∧ Res K F1 G1 H1 F5 G5 (upd H5 p (.lst (vs ++ [u]))) (k + 1) A' (.ref p) (.list (acc ++ [y])) := by
  have rr := r4.stp s45
  have s := s4.trans s45
  obtain ⟨A0, vs, hA, hp, hr⟩ : ∃ A0 vs, A = p :: A0 ∧ H5 p = some (.lst vs) ∧ Ows K G5 H5 k A0 vs acc := by
    have h := rr.ow
    generalize hv : V.ref p = v at h
    generalize hd : PyData.list acc = d at h
    cases h with
    | flt f _ => subst hd; cases f
    | lst h r => cases hv; cases hd; exact ⟨_, _, rfl, h, r⟩
  subst hA
  have hpG : G5 p = none := rr.out p (by simp)
  have hpF : ∀ i, p ∉ F5 i := fun i => rr.dis p (by simp) i
  have hne : ∀ b, H1 b ≠ none → (∀ i, b ∉ F1 i) → b ≠ p := fun b hb hF z => by
    subst z
    rcases rr.new b (by simp) with ⟨j, hj⟩ | hn
    · exact hF j hj
    · exact hb hn
  have dB : ∀ b ∈ B, b ∉ p :: A0 := fun b hb z => by
    rcases r5.new b hb with ⟨j, hj⟩ | hn
    · exact r4.dis b z j hj
    · obtain ⟨ws, q⟩ := Ow.there r4.ow b z
      rw [hn] at q; cases q
  have hpB : p ∉ B := fun z => dB p z (by simp)
  have hpA : p ∉ A0 := (List.nodup_cons.mp rr.nod).1
  have hvl : vs.length = acc.length := Ows.length hr
  refine ⟨vs, hp, hvl, p :: (A0 ++ (B ++ [])), ?_, ⟨s.g, fun b o n q => ?_, s.nf, s.ng, fun b hb => ?_⟩, ⟨.lst upd_same (Ows.append (Ows.mono (Same.refl _) (fun b hb o q => ?_) hr) (.cons (Ow.mono (Same.refl _) (fun b hb o q => ?_) r5.ow) .nil)), ?_, fun a ha => ?_, fun a ha => ?_, fun a ha => ?_⟩⟩
  · refine e.upto (Same.refl _) (fun i b hb o q => ?_) (fun b o q => ?_) e.out (ln_upd e.ln ?_) e.fz
    · rw [upd_ne (show b ≠ p from fun z => by subst z; exact hpF i hb)]; exact q
    · rw [upd_ne (fun z => by rw [z, hpG] at q; cases q)]; exact e.same b o q
    · show (vs ++ [u]).length ≤ 16777216
      rw [List.length_append, List.length_singleton, hvl]
      omega
  · rw [upd_ne (hne b (by rw [q]; simp) n)]; exact s.h b o n q
  · by_cases z : b = p
    · rw [z, upd_same]; simp
    · rw [upd_ne z]; exact s.th b hb
  · rw [upd_ne (show b ≠ p from fun z => by subst z; exact hpA hb)]; exact q
  · rw [upd_ne (show b ≠ p from fun z => by subst z; exact hpB hb)]; exact q
  · rw [List.append_nil]
    refine List.nodup_cons.mpr ⟨fun z => ?_, List.nodup_append.mpr ⟨(List.nodup_cons.mp rr.nod).2, r5.nod, fun a ha b hb z => dB b hb (by rw [← z]; simp [ha])⟩⟩
    rcases List.mem_append.mp z with z | z
    · exact hpA z
    · exact hpB z
  · rw [List.append_nil] at ha
    rcases List.mem_cons.mp ha with rfl | ha
    · exact hpG
    · rcases List.mem_append.mp ha with ha | ha
      · exact rr.out a (by simp [ha])
      · exact r5.out a ha
  · rw [List.append_nil] at ha
    rcases List.mem_cons.mp ha with rfl | ha
    · exact hpF
    · rcases List.mem_append.mp ha with ha | ha
      · exact rr.dis a (by simp [ha])
      · exact r5.dis a ha
  · rw [List.append_nil] at ha
    rcases List.mem_cons.mp ha with rfl | ha
    · exact rr.new a (by simp)
    · rcases List.mem_append.mp ha with ha | ha
      · exact rr.new a (by simp [ha])
      · exact (r5.from s4).new a ha
theorem comp_core {elt tg' iter' : Expr} {ifs : List Expr} {scope : Scope} {own : List (Str × Nat)} {pos : Pos} {k : Nat} {tg : Tg} {Ti : TrL} {To : TrO} {Te : TrE}
    (hN : c.N.Nodup) (hi : AI c sc W tg' iter' Ti) (ok : BlkOk c.N sc scope own) (hg : chkTg c.N scope tg tg' = true) (hsl : ∀ j ∈ tg.slots, j ∈ own.map (·.2))
    (ho : AO c (relS scope sc) ifs To) (he : AE c (relS scope sc) WF elt k Te) :
    ∃ wi g tt te, (∀ X, Is c sc W X → PI X tg' iter' wi ∧ BlkOk X.N X.env.scope scope own ∧ (∀ (s : Shared) (H : Hp) (C : Addr) (cl : List (Str × Addr)) (fp : List Addr), PG (X.blk s H scope (compEnvC scope cl C X.env) fp) tg' g) ∧
      (∀ (s : Shared) (H : Hp) (C : Addr) (cl : List (Str × Addr)) (fp : List Addr), PTs (X.blk s H scope (compEnvC scope cl C X.env) fp) ifs tt) ∧ (∀ (s : Shared) (H : Hp) (C : Addr) (cl : List (Str × Addr)) (fp : List Addr), PE (X.blk s H scope (compEnvC scope cl C X.env) fp) elt te)) ∧
    Snd c W (k + 1) (fun ρ Φ Ξ => Ti ρ (fun ρ1 ds => notOw ρ1 (own.map (·.2)) ∧ compW (own.map (·.2)) tg To (fun ρ k => Te ρ k xNo) ds [] (wip ρ1 (own.map (·.2))) fun ρ2 ys => Φ (back ρ1 ρ2 (own.map (·.2))) (.list ys)) Ξ) (tLc wi g tt te (own.map (·.2))) := by
  obtain ⟨wi, pi, si⟩ := hi
  obtain ⟨g, pg, sg⟩ := snd_tg (so := scope) (sc := relS scope sc) (W := WF) hN tg tg' hg
  obtain ⟨tt, pt, st⟩ := ho
  obtain ⟨te, pe, se⟩ := he
  refine ⟨wi, g, tt, te, fun X hX => ⟨pi X hX, by rw [hX.N, hX.sc]; exact ok, fun s H C cl fp => pg _ (hX.blkS s H scope cl C fp), fun s H C cl fp => pt _ (hX.blk s H scope cl C fp), fun s H C cl fp => pe _ (hX.blk s H scope cl C fp)⟩, ?_⟩
  generalize how : own.map (·.2) = ow at *
  intro ρ Φ Ξ σ F G H Q e0 hT hQ hx
  refine si ρ _ Ξ σ F G H _ e0 hT (fun ρ1 ds J F1 G1 H1 q1 e1 s1 hJ hl => ?_) hx
  obtain ⟨hno, hw⟩ := q1
  intro p hp
  have r0 : Ress c.K F1 G1 H1 F1 G1 H1 k [] [] [] := ⟨.nil, .nil, (fun _ h => nomatch h), (fun _ h => nomatch h), (fun _ h => nomatch h)⟩
  obtain ⟨e2, s2, r2⟩ := r0.list e1 (.refl _ _ _) hp (Nat.zero_le _)
  obtain ⟨Nx, hNx⟩ : ∃ Nx : Nat → Hp → Prop, Nx = fun i Hc => i ≤ ds.length ∧ ∃ ρc Fc Gc acc A, compW ow tg To (fun ρ k => Te ρ k xNo) (ds.drop i) acc ρc (fun ρ2 ys => Φ (back ρ1 ρ2 ow) (.list ys)) ∧ En c.K (L2.wipe σ ow) ρc Fc Gc Hc ∧ Stp F1 G1 H1 Fc Gc Hc ∧
    Res c.K F1 G1 H1 Fc Gc Hc (k + 1) A (.ref p) (.list acc) ∧ acc.length ≤ i := ⟨_, rfl⟩
  refine ⟨fun i m Hc => m = ds.length - i ∧ Nx i Hc, ⟨ds.length, by simp, by rw [hNx]; exact ⟨Nat.zero_le _, wip ρ1 ow, F1, G1, [], _, hw, e2.wipe ow, s2, r2, Nat.le_refl 0⟩⟩, ?_⟩
  rintro i m Hc ⟨rfl, hh⟩
  rw [hNx] at hh
  obtain ⟨hi, ρc, Fc, Gc, acc, A, hw, ec, sc', rc, hal⟩ := hh
  obtain ⟨hstop, hgo⟩ := hJ i Gc Hc sc'.g ec.same
  by_cases hlt : i < ds.length
  · obtain ⟨go, hy⟩ := hgo ds[i] (List.getElem?_eq_getElem hlt)
    refine .inr ⟨go, Nx (i + 1), fun H' q => ⟨ds.length - (i + 1), by omega, rfl, q⟩, fun x H' y => ?_⟩
    rw [List.drop_eq_getElem_cons hlt] at hw
    rw [compW_c] at hw
    have turn : ∀ G2 H2, En c.K (L2.wipe σ ow) ρc Fc G2 H2 → Stp Fc Gc Hc Fc G2 H2 → Dp c.K G2 x ds[i] → g x (L2.wipe σ ow) H2 (fun σ2 H3 => L2.wipe σ2 ow = L2.wipe σ ow ∧ tt σ2 H3 fun b H4 =>
        if b = true then te σ2 H4 fun y H5 => ∃ acc, H5 p = some (.lst acc) ∧ acc.length < sizeLine ∧ Nx (i + 1) (upd H5 p (.lst (acc ++ [y]))) else Nx (i + 1) H4) := fun G2 H2 e3 s3 dx => by
      refine sg _ ρc _ (L2.wipe σ ow) Fc G2 H2 x _ e3 dx hw fun σ3 ρ3 F3 q3 e4 s4 a3 l3 => ?_
      have hwq : L2.wipe σ3 ow = L2.wipe σ ow := (wipe_eq l3 fun j hj => a3 j fun z => hj (hsl j z)).trans wipe_wipe
      refine ⟨hwq, st ρ3 _ σ3 F3 G2 H2 _ e4 q3 fun ρ4 b F4 G4 H4 q4 e5 s5 => ?_⟩
      have s14 := sc'.trans (s3.trans (s4.trans s5))
      have rc4 := rc.stp (s3.trans (s4.trans s5))
      cases b with
      | false =>
        rw [sel_f] at q4; rw [if_neg (by decide)]
        rw [hNx]
        exact ⟨hlt, wip ρ4 ow, F4, G4, acc, A, q4, hwq ▸ e5.wipe ow, s14, rc4, by omega⟩
      | true =>
        rw [sel_t] at q4; rw [if_pos rfl]
        refine se ρ4 _ xNo σ3 F4 G4 H4 _ e5 q4 (fun ρ5 y u B F5 G5 H5 q5 e6 r5 s6 => ?_) xc_no
        obtain ⟨vs, h1, h2, A', h3, h4, h5⟩ := Res.push e6 s14 rc4 s6 r5 (by omega)
        refine ⟨vs, h1, by rw [h2, sizeLine_eq]; omega, ?_⟩
        rw [hNx]
        exact ⟨hlt, wip ρ5 ow, F5, G5, acc ++ [y], A', q5, hwq ▸ h3.wipe ow, h4, h5, by rw [List.length_append, List.length_singleton]; omega⟩
    rcases hy x H' y with ⟨rfl, dx⟩ | ⟨T, o, hov, hT, rfl, dx⟩
    · exact turn Gc _ ec (.refl _ _ _) dx
    · obtain ⟨e3, s3⟩ := ec.laid hT hov.1 hov.2
      exact turn _ _ e3 s3 dx
  · have hi' : i = ds.length := by omega
    subst hi'
    rw [List.drop_length] at hw
    rw [compW_n] at hw
    have hw : Φ (back ρ1 ρc ow) (.list acc) := hw
    exact .inl ⟨hstop (Nat.le_refl _), hQ _ _ (.ref p) A Fc Gc Hc hw (e1.back ec sc'.g hno) (rc.from s1) (s1.trans sc')⟩
theorem ae_comp {elt tg' iter' : Expr} {ifs : List Expr} {scope : Scope} {own : List (Str × Nat)} {pos : Pos} {k : Nat} {tg : Tg} {Ti : TrL} {To : TrO} {Te : TrE}
    (hN : c.N.Nodup) (hi : AI c sc W tg' iter' Ti) (ok : BlkOk c.N sc scope own) (hg : chkTg c.N scope tg tg' = true) (hsl : ∀ j ∈ tg.slots, j ∈ own.map (·.2))
    (ho : AO c (relS scope sc) ifs To) (he : AE c (relS scope sc) WF elt k Te) (hs : ∀ env x, foldedSetIterable iter' env x = pure x) :
    AE c sc W (.ListComp elt [⟨tg', iter', ifs, 0⟩] scope pos) (k + 1) (fun ρ Φ Ξ => Ti ρ (fun ρ1 ds => notOw ρ1 (own.map (·.2)) ∧ compW (own.map (·.2)) tg To (fun ρ k => Te ρ k xNo) ds [] (wip ρ1 (own.map (·.2))) fun ρ2 ys => Φ (back ρ1 ρ2 (own.map (·.2))) (.list ys)) Ξ) := by
  obtain ⟨wi, g, tt, te, h, s⟩ := comp_core (W := W) (pos := pos) hN hi ok hg hsl ho he
  refine ⟨_, fun X hX => ?_, s⟩
  obtain ⟨h1, h2, h3, h4, h5⟩ := h X hX
  exact pe_lc hX.calm (by rw [hX.N]; exact hN) h1 h2 h3 h4 h5 (hs _)
end Q

namespace Q
open PySem PySem.Spec PyProof.Rows L2
variable {c : Ctx} {sc so : Scope} {W : WX} {Γ : List Ent} {bl : Bl} {P : List Nat} {rk : Nat}

/-! ### statements -/
def Kp (P : List Nat) (σ σ' : Sg) : Prop := ∀ i ∈ P, σ'[i]? = σ[i]?
theorem Kp.refl {σ : Sg} : Kp P σ σ := fun _ _ => rfl
theorem Kp.trans {σ σ' σ'' : Sg} (a : Kp P σ σ') (b : Kp P σ' σ'') : Kp P σ σ'' := fun i h => (b i h).trans (a i h)
theorem Kp.set {σ : Sg} {i : Nat} {x : Option V} (h : i ∉ P) : Kp P σ (σ.set i x) := fun j hj => List.getElem?_set_ne (show i ≠ j from fun z => by subst z; exact h hj)
structure KOk (c : Ctx) (W : WX) (P : List Nat) (rk : Nat) (σ : Sg) (F : Foot) (G H : Hp) (κ : Kt) (D : Ends) : Prop where
  nx : ∀ σ' ρ' F' G' H', κ.nx ρ' → En c.K σ' ρ' F' G' H' → Stp F G H F' G' H' → Kp P σ σ' → D.nx σ' H'
  ct : ∀ σ' ρ' F' G' H', κ.ct ρ' → En c.K σ' ρ' F' G' H' → Stp F G H F' G' H' → Kp P σ σ' → D.ct σ' H'
  bk : ∀ σ' ρ' F' G' H', κ.bk ρ' → En c.K σ' ρ' F' G' H' → Stp F G H F' G' H' → Kp P σ σ' → D.bk σ' H'
  rt : ∀ σ' ρ' d v A F' G' H', κ.rt ρ' d → En c.K σ' ρ' F' G' H' → Res c.K F G H F' G' H' rk A v d → Stp F G H F' G' H' → Kp P σ σ' → D.rt v H'
  xc : ∀ σ' ρ' x F' G' H' cls dd, κ.xc ρ' x → En c.K σ' ρ' F' G' H' → Stp F G H F' G' H' → Kp P σ σ' → XR c.mg x cls dd → W cls dd σ' H'
theorem KOk.stp {σ σ' : Sg} {F F' : Foot} {G H G' H' : Hp} {κ : Kt} {D : Ends} (k : KOk c W P rk σ F G H κ D) (s : Stp F G H F' G' H') (p : Kp P σ σ') : KOk c W P rk σ' F' G' H' κ D where
  nx := fun σ2 ρ2 F2 G2 H2 h e s2 p2 => k.nx σ2 ρ2 F2 G2 H2 h e (s.trans s2) (p.trans p2)
  ct := fun σ2 ρ2 F2 G2 H2 h e s2 p2 => k.ct σ2 ρ2 F2 G2 H2 h e (s.trans s2) (p.trans p2)
  bk := fun σ2 ρ2 F2 G2 H2 h e s2 p2 => k.bk σ2 ρ2 F2 G2 H2 h e (s.trans s2) (p.trans p2)
  rt := fun σ2 ρ2 d v A F2 G2 H2 h e r s2 p2 => k.rt σ2 ρ2 d v A F2 G2 H2 h e (r.from s) (s.trans s2) (p.trans p2)
  xc := fun σ2 ρ2 x F2 G2 H2 cls dd h e s2 p2 => k.xc σ2 ρ2 x F2 G2 H2 cls dd h e (s.trans s2) (p.trans p2)
theorem KOk.toX {σ : Sg} {F : Foot} {G H : Hp} {κ : Kt} {D : Ends} (k : KOk c W P rk σ F G H κ D) : Xc c W σ F G H κ.xc :=
  fun ρ' x F' G' H' cls dd h e s r => k.xc σ ρ' x F' G' H' cls dd h e s Kp.refl r
abbrev TrS := Kt → Env → Prop
structure IsT (c : Ctx) (sc : Scope) (W : WX) (X : Cx) : Prop where
  is : IsS c sc sc W X
  hp : PassesOwn (model X.prog X.w) X.A X.env X.xe
  kind : X.env.scope.kind = .function
  stk : X.stack = X.env :: X.outer
  frm : X.env.frame = some X.env.locals
def SndS (c : Ctx) (W : WX) (P : List Nat) (rk : Nat) (T : TrS) (t : TS) : Prop := ∀ (κ : Kt) (ρ : Env) (σ : Sg) (F : Foot) (G H : Hp) (D : Ends), En c.K σ ρ F G H → T κ ρ → KOk c W P rk σ F G H κ D → t D σ H
def AP (c : Ctx) (sc : Scope) (W : WX) (P : List Nat) (rk : Nat) (st : Stmt) (T : TrS) : Prop := ∃ t : TS, (∀ X, IsT c sc W X → PS X st t) ∧ SndS c W P rk T t
def APs (c : Ctx) (sc : Scope) (W : WX) (P : List Nat) (rk : Nat) (st : List Stmt) (T : TrS) : Prop := ∃ t : TS, (∀ X, IsT c sc W X → PSs X st t) ∧ SndS c W P rk T t

theorem aps_nil : APs c sc W P rk [] (fun κ ρ => κ.nx ρ) := ⟨_, fun _ _ => pss_nil, fun κ ρ σ F G H D e hT k => k.nx σ ρ F G H hT e (.refl _ _ _) Kp.refl⟩
theorem aps_cons {st : Stmt} {rest : List Stmt} {T U : TrS} (h1 : AP c sc W P rk st T) (h2 : APs c sc W P rk rest U) : APs c sc W P rk (st :: rest) (fun κ ρ => T { κ with nx := fun ρ1 => U κ ρ1 } ρ) := by
  obtain ⟨t, pt, s⟩ := h1
  obtain ⟨u, pu, s'⟩ := h2
  refine ⟨_, fun X hX => pss_cons (pt X hX) (pu X hX), fun κ ρ σ F G H D e hT k => ?_⟩
  refine s { κ with nx := fun ρ1 => U κ ρ1 } ρ σ F G H { D with nx := u D } e hT ⟨fun σ' ρ' F' G' H' q e' s1 p => ?_, k.ct, k.bk, k.rt, k.xc⟩
  exact s' κ ρ' σ' F' G' H' D e' q (k.stp s1 p)
theorem ap_pass {pos : Pos} : AP c sc W P rk (.Pass pos) (fun κ ρ => κ.nx ρ) := ⟨_, fun _ _ => ps_pass, fun κ ρ σ F G H D e hT k => k.nx σ ρ F G H hT e (.refl _ _ _) Kp.refl⟩
theorem ap_cont {pos : Pos} : AP c sc W P rk (.Continue pos) (fun κ ρ => κ.ct ρ) := ⟨_, fun _ _ => ps_continue, fun κ ρ σ F G H D e hT k => k.ct σ ρ F G H hT e (.refl _ _ _) Kp.refl⟩
theorem ap_brk {pos : Pos} : AP c sc W P rk (.Break pos) (fun κ ρ => κ.bk ρ) := ⟨_, fun _ _ => ps_break, fun κ ρ σ F G H D e hT k => k.bk σ ρ F G H hT e (.refl _ _ _) Kp.refl⟩
theorem ap_never {st : Stmt} : AP c sc W P rk st (fun _ _ => False) := ⟨_, fun _ _ => ps_never, fun κ ρ σ F G H D e hT k => hT.elim⟩
theorem ap_raise {Γ : List Ent} {bl : Bl} {x m : Str} {j : Nat} {p p2 pos pos' : Pos} (sd : Sd c Γ bl) (hg : GlS sc x) (hdb : (x == ("__debug__" : Str)) = false) (hx : x ∈ bl.x) : AP c sc W P rk (.Raise (some (.Call (.Name x p) [.Constant (.str m) j p2] [] pos)) none pos') (fun κ ρ => κ.xc ρ x) := by
  obtain ⟨C, B, n1, n2, bm, h1, h2, h3, h4, h5, h6⟩ := sd.xok x hx
  refine ⟨_, fun X hX => L2N.ps_raise hX.is.is.calm hX.is.is.takes (L2N.pmk_own (C := C) h3 (hX.is.is.K ▸ h4) (by rw [hX.is.is.mg]; exact h1) (hX.is.is.K ▸ h2) (raises_own (hX.is.is.K ▸ h5) (hX.is.is.K ▸ h6)) (hX.is.is.gl hg) hdb), fun κ ρ σ F G H D e hT k => ?_⟩
  exact k.xc σ ρ x F G H (.ref C) none hT e (.refl _ _ _) Kp.refl ⟨h1, rfl⟩
theorem ap_ret {e : Expr} {T : TrE} {pos : Pos} (h : AE c sc W e rk T) : AP c sc W P rk (.Return (some e) pos) (fun κ ρ => T ρ κ.rt κ.xc) := by
  obtain ⟨t, pt, s⟩ := h
  refine ⟨_, fun X hX => ps_ret (pt X hX.is.is), fun κ ρ σ F G H D e hT k => ?_⟩
  exact s ρ κ.rt κ.xc σ F G H D.rt e hT (fun ρ' d v A F' G' H' q e' r s' => k.rt σ ρ' d v A F' G' H' q e' r s' Kp.refl) k.toX
theorem ap_expr {e : Expr} {m : Nat} {T : TrE} {pos : Pos} (h : AE c sc W e m T) (hs : ∀ l env, swapsWith e none l env = pure false) : AP c sc W P rk (.Expr e pos) (fun κ ρ => T ρ (fun ρ1 _ => κ.nx ρ1) κ.xc) := by
  obtain ⟨t, pt, s⟩ := h
  refine ⟨_, fun X hX => ps_expr (pt X hX.is.is) (hs _ _), fun κ ρ σ F G H D e hT k => ?_⟩
  exact s ρ _ κ.xc σ F G H _ e hT (fun ρ' d v A F' G' H' q e' r s' => k.nx σ ρ' F' G' H' q e' s' Kp.refl) k.toX
theorem ap_ite {e : Expr} {a b : List Stmt} {Tc : TrE} {Ta Tb : TrS} {pos : Pos} (hc : AT c sc W e (testOf Tc)) (ha : APs c sc W P rk a Ta) (hb : APs c sc W P rk b Tb) :
    AP c sc W P rk (.If e a b pos) (fun κ ρ => Tc ρ (fun ρ1 x => ∃ t, x = .bool t ∧ sel t (Ta κ ρ1) (Tb κ ρ1)) κ.xc) := by
  obtain ⟨tc, pc, s⟩ := hc
  obtain ⟨ta, pa, sa⟩ := ha
  obtain ⟨tb, pb, sb⟩ := hb
  refine ⟨_, fun X hX => ps_if (pc X hX.is.is) (pa X hX) (pb X hX), fun κ ρ σ F G H D e hT k => ?_⟩
  refine s ρ _ κ.xc σ F G H _ e hT (fun ρ1 b F1 G1 H1 q e1 s1 => ?_) k.toX
  cases b with
  | true => rw [sel_t] at q; rw [if_pos rfl]; exact sa κ ρ1 σ F1 G1 H1 D e1 q (k.stp s1 Kp.refl)
  | false => rw [sel_f] at q; rw [if_neg (by decide)]; exact sb κ ρ1 σ F1 G1 H1 D e1 q (k.stp s1 Kp.refl)
/-- a value put into a name's slot -/
theorem put_name {σ : Sg} {ρ : Env} {F F1 : Foot} {G H G1 H1 : Hp} {κ : Kt} {D : Ends} {i m : Nat} {A : List Addr} {v : V} {d : PyData} {cl : Cell} (k : KOk c W P rk σ F G H κ D) (hi : i ∉ P) (e1 : En c.K σ ρ F1 G1 H1) (r : Res c.K F G H F1 G1 H1 m A v d) (s1 : Stp F G H F1 G1 H1)
    (hc : cl = .un ∨ (m = 0 ∧ cl = .va d) ∨ cl = .ow m d) (q : κ.nx (ρ.set i cl)) : D.nx (σ.set i (some v)) H1 :=
  k.nx _ _ _ _ _ q (e1.set r hc) (Stp.put s1 r) (Kp.set hi)
theorem ap_set {e : Expr} {i m : Nat} {x : Str} {T : TrE} {px pos : Pos} {cl : D → Cell} (hN : c.N.Nodup) (h : AE c sc W e m T) (hi : c.N[i]? = some x) (hx : LocS sc x) (hP : i ∉ P) (hs : ∀ X, IsT c sc W X → swapsWith e (some (.Name x px)) pos.line X.env = pure false) (hc : ∀ d, (m = 0 ∧ cl d = .va d) ∨ cl d = .ow m d) :
    AP c sc W P rk (.Assign [.Name x px] e pos) (fun κ ρ => T ρ (fun ρ1 d => κ.nx (ρ1.set i (cl d))) κ.xc) := by
  obtain ⟨t, pt, s⟩ := h
  refine ⟨tAsg t (gName i), fun X hX => ?_, fun κ ρ σ F G H D e hT k => ?_⟩
  · obtain ⟨q1, q2⟩ := hX.is.st x hx
    exact ps_set (by rw [hX.is.is.N]; exact hN) (hX.is.is.ix hi) q1 (pt X hX.is.is) (hs X hX) q2
  · exact s ρ _ κ.xc σ F G H _ e hT (fun ρ' d v A F' G' H' q e' r s' => put_name k hP e' r s' (.inr (hc d)) q) k.toX
theorem ap_setc {elt tg' iter' : Expr} {ifs : List Expr} {scope : Scope} {own : List (Str × Nat)} {pos px ps : Pos} {k i : Nat} {x : Str} {tg : Tg} {Ti : TrL} {To : TrO} {Te : TrE} {cl : D → Cell}
    (hN : c.N.Nodup) (hi : AI c sc W tg' iter' Ti) (ok : BlkOk c.N sc scope own) (hg : chkTg c.N scope tg tg' = true) (hsl : ∀ j ∈ tg.slots, j ∈ own.map (·.2))
    (ho : AO c (relS scope sc) ifs To) (he : AE c (relS scope sc) WF elt k Te) (hs : ∀ env x, foldedSetIterable iter' env x = pure x)
    (hix : c.N[i]? = some x) (hx : sc.names.lookup x = some .local) (hP : i ∉ P) (hl : (px.line == pos.line) = true) (hn : (scope.names.any fun (n, k) => n == x && (k == .local || k == .cell)) = false) (m : Nat) (hm : m ≤ k + 1) (hc : ∀ d, (m = 0 ∧ cl d = .va d) ∨ cl d = .ow m d) :
    AP c sc W P rk (.Assign [.Name x px] (.ListComp elt [⟨tg', iter', ifs, 0⟩] scope pos) ps) (fun κ ρ => Ti ρ (fun ρ1 ds => notOw ρ1 (own.map (·.2)) ∧ compW (own.map (·.2)) tg To (fun ρ k => Te ρ k xNo) ds [] (wip ρ1 (own.map (·.2))) fun ρ2 ys => κ.nx ((back ρ1 ρ2 (own.map (·.2))).set i (cl (.list ys)))) κ.xc) := by
  obtain ⟨wi, g, tt, te, h, s⟩ := comp_core (W := W) (pos := pos) hN hi ok hg hsl ho he
  refine ⟨tAsg (tLc wi g tt te (own.map (·.2))) (gName i), fun X hX => ?_, fun κ ρ σ F G H D e hT kk => ?_⟩
  · obtain ⟨h1, h2, h3, h4, h5⟩ := h X hX.is.is
    exact ps_setLc hX.is.is.calm (by rw [hX.is.is.N]; exact hN) (hX.is.is.ix hix) (by rw [hX.is.is.sc]; exact hx) (sw_true hX.kind (by rw [hX.is.is.sc]; exact hx) hl hn) h1 h2 h3 h4 h5 (hs _)
  · refine s ρ (fun ρ1 d => κ.nx (ρ1.set i (cl d))) κ.xc σ F G H _ e hT (fun ρ' d v A F' G' H' q e' r s' => ?_) kk.toX
    obtain ⟨A', B, h1, h2, h3, h4⟩ := r.weak e' hm
    exact put_name kk hP h2 h4 (h3 s') (.inr (hc d)) q
theorem ap_par {a b : Expr} {i j : Nat} {x y : Str} {Ta Tb : TrE} {px py pt pos : Pos} {kt k2 : Nat} {pt2 : Pos} (hN : c.N.Nodup) (ha : AE c sc W a 0 Ta) (hb : AE c sc W b 0 Tb) (hi : c.N[i]? = some x) (hj : c.N[j]? = some y) (hij : i ≠ j)
    (hx : sc.names.lookup x = some .local) (hy : sc.names.lookup y = some .local) (hPi : i ∉ P) (hPj : j ∉ P)
    (h1 : ∀ env, starEach [a, b] env = (false, eval a env) :: starEach [b] env) (h2 : ∀ env, starEach [b] env = (false, eval b env) :: starEach [] env)
    (hw : ∀ X, IsT c sc W X → swappedStores [.Tuple [.Name x px, .Name y py] kt pt] (.Tuple [a, b] k2 pt2) X.env = pure (some [x, y])) :
    AP c sc W P rk (.Assign [.Tuple [.Name x px, .Name y py] kt pt] (.Tuple [a, b] k2 pt2) pos) (fun κ ρ => Ta ρ (fun ρ1 x => Tb ρ1 (fun ρ2 y => κ.nx ((ρ2.set i (.va x)).set j (.va y))) κ.xc) κ.xc) := by
  obtain ⟨ta, pa, sa⟩ := ha
  obtain ⟨tb, pb, sb⟩ := hb
  refine ⟨_, fun X hX => ps_par hX.is.is.calm (by rw [hX.is.is.N]; exact hN) (hX.is.is.ix hi) (hX.is.is.ix hj) hij (by rw [hX.is.is.sc]; exact hx) (by rw [hX.is.is.sc]; exact hy) (pa_cons (pa X hX.is.is) (pa_cons (pb X hX.is.is) pa_nil (h2 _)) (h1 _)) (hw X hX), fun κ ρ σ F G H D e hT k => ?_⟩
  refine ae_two (a := a) (b := b) (R := fun v u H2 => ∃ v' w, [v, u] = [v', w] ∧ D.nx ((σ.set i (some v')).set j (some w)) H2) (Φ := fun ρ2 x y => κ.nx ((ρ2.set i (.va x)).set j (.va y))) sa sb e k.toX hT fun ρ2 x y v u F2 G2 H2 q e2 dv du s2 => ?_
  have r1 : Res c.K F2 G2 H2 F2 G2 H2 0 [] v x := .frz dv
  have e3 := e2.set (i := i) r1 (.inr (.inl ⟨rfl, rfl⟩))
  have s3 := Stp.put (i := i) (.refl _ _ _) r1
  have r2 : Res c.K F2 G2 H2 (put F2 i []) G2 H2 0 [] u y := .frz du
  have e4 := e3.set (i := j) r2 (.inr (.inl ⟨rfl, rfl⟩))
  have s4 := Stp.put (i := j) s3 r2
  exact ⟨v, u, rfl, k.nx _ _ _ _ _ q e4 (s2.trans s4) ((Kp.set hPi).trans (Kp.set hPj))⟩
theorem ap_unp {e : Expr} {es : List Expr} {kk : Nat} {tp pos : Pos} {m : Nat} {ts : Tgs} {T : TrE} (hN : c.N.Nodup) (h : AE c sc W e 0 T) (hg : chkTgs c.N sc ts es = true) (hP : ∀ j ∈ ts.slots, j ∉ P)
    (hs : ∀ l env, swapsWithSole [.Tuple es kk tp] e l env = pure false) (hw : ∀ env, swappedStores [.Tuple es kk tp] e env = pure none) :
    AP c sc W P rk (.Assign [.Tuple es kk tp] e pos) (fun κ ρ => T ρ (fun ρ1 d => asg (.tp ts) d ρ1 κ.nx) κ.xc) := by
  obtain ⟨t, pt, s⟩ := h
  obtain ⟨g, pg, sg⟩ := snd_tg (so := sc) (sc := sc) (W := W) hN (.tp ts) (.Tuple es kk tp) (by simpa [chkTg] using hg)
  refine ⟨_, fun X hX => ps_asg (pt X hX.is.is) (pg X hX.is) (hs _ _) (hw _) (by rfl), fun κ ρ σ F G H D e hT k => ?_⟩
  refine s ρ _ κ.xc σ F G H _ e hT (fun ρ1 d v A F1 G1 H1 q e1 r s1 => ?_) k.toX
  exact sg d ρ1 κ.nx σ F1 G1 H1 v D.nx e1 r.dp q fun σ' ρ' F' q' e' s' a l => k.nx σ' ρ' F' G1 H1 q' e' (s1.trans s') fun j hj => a j fun z => hP j z hj
theorem ap_whl {e : Expr} {body : List Stmt} {Tc : TrE} {Tb : TrS} {pos : Pos} (hc : AT c sc W e (testOf Tc)) (hb : APs c sc W P rk body Tb) :
    AP c sc W P rk (.While e body [] pos) (fun κ ρ => ∃ n, whW (fun ρ k => Tc ρ (fun ρ1 x => ∃ t, x = .bool t ∧ k ρ1 t) κ.xc) (fun k ρ => Tb { κ with nx := k, ct := k, bk := κ.nx } ρ) κ.nx n ρ) := by
  obtain ⟨tc, pc, sc'⟩ := hc
  obtain ⟨tb, pb, sb⟩ := hb
  refine ⟨_, fun X hX => ps_while hX.hp (pc X hX.is.is) (pb X hX), fun κ ρ σ F G H D e hT k => ?_⟩
  obtain ⟨n, hT⟩ := hT
  refine ⟨fun m σ' H' => ∃ ρ' F' G', whW (fun ρ k => Tc ρ (fun ρ1 x => ∃ t, x = .bool t ∧ k ρ1 t) κ.xc) (fun k ρ => Tb { κ with nx := k, ct := k, bk := κ.nx } ρ) κ.nx m ρ' ∧ En c.K σ' ρ' F' G' H' ∧ Stp F G H F' G' H' ∧ Kp P σ σ', ⟨n, ρ, F, G, hT, e, .refl _ _ _, Kp.refl⟩, ?_⟩
  rintro m σ1 H1 ⟨ρ1, F1, G1, hw, e1, s1, p1⟩
  cases m with
  | zero =>
    rw [whW_0] at hw
    exact hw.elim
  | succ m =>
    have k1 := k.stp s1 p1
    rw [whW_s] at hw
    refine sc' ρ1 _ κ.xc σ1 F1 G1 H1 _ e1 hw (fun ρ2 b F2 G2 H2 q e2 s2 => ?_) k1.toX
    have k2 := k1.stp s2 Kp.refl
    cases b with
    | true =>
      rw [sel_t] at q; rw [if_pos rfl]
      refine ⟨_, fun σ' H' w => ⟨m, Nat.lt_succ_self _, w⟩, ?_⟩
      refine sb _ ρ2 σ1 F2 G2 H2 _ e2 q ⟨fun σ3 ρ3 F3 G3 H3 q3 e3 s3 p3 => ?_, fun σ3 ρ3 F3 G3 H3 q3 e3 s3 p3 => ?_, k2.nx, k2.rt, k2.xc⟩
      · exact ⟨ρ3, F3, G3, q3, e3, s1.trans (s2.trans s3), p1.trans p3⟩
      · exact ⟨ρ3, F3, G3, q3, e3, s1.trans (s2.trans s3), p1.trans p3⟩
    | false =>
      rw [sel_f] at q; rw [if_neg (by decide)]
      exact k2.nx σ1 ρ2 F2 G2 H2 q e2 (.refl _ _ _) Kp.refl
theorem ap_for {tg' iter : Expr} {body : List Stmt} {tg : Tg} {Ti : TrL} {Tb : TrS} {pos : Pos} (hN : c.N.Nodup) (hi : AI c sc W tg' iter Ti) (hg : chkTg c.N sc tg tg' = true) (hP : ∀ j ∈ tg.slots, j ∉ P) (hb : APs c sc W P rk body Tb) (hs : ∀ env x, foldedSetIterable iter env x = pure x) :
    AP c sc W P rk (.For tg' iter body [] pos) (fun κ ρ => Ti ρ (fun ρ1 ds => forW tg (fun k ρ => Tb { κ with nx := k, ct := k, bk := κ.nx } ρ) κ.nx ds ρ1) κ.xc) := by
  obtain ⟨wi, pi, si⟩ := hi
  obtain ⟨g, pg, sg⟩ := snd_tg (so := sc) (sc := sc) (W := W) hN tg tg' hg
  obtain ⟨tb, pb, sb⟩ := hb
  refine ⟨_, fun X hX => ps_for hX.hp hX.is.is.calm (pi X hX.is.is) (pg X hX.is) (pb X hX) (hs _), fun κ ρ σ F G H D e hT k => ?_⟩
  refine si ρ _ κ.xc σ F G H _ e hT (fun ρ1 ds J F1 G1 H1 hw e1 s1 hJ hl => ?_) k.toX
  have k1 := k.stp s1 Kp.refl
  obtain ⟨Nx, hNx⟩ : ∃ Nx : Nat → Sg → Hp → Prop, Nx = fun i σ' H' => i ≤ ds.length ∧ ∃ ρ' F' G', forW tg (fun k ρ => Tb { κ with nx := k, ct := k, bk := κ.nx } ρ) κ.nx (ds.drop i) ρ' ∧ En c.K σ' ρ' F' G' H' ∧ Stp F1 G1 H1 F' G' H' ∧ Kp P σ σ' := ⟨_, rfl⟩
  refine ⟨fun i m σ' H' => m = ds.length - i ∧ Nx i σ' H', ⟨ds.length, by simp, by rw [hNx]; exact ⟨Nat.zero_le _, ρ1, F1, G1, hw, e1, .refl _ _ _, Kp.refl⟩⟩, ?_⟩
  rintro i m σ2 H2 ⟨rfl, hh⟩
  rw [hNx] at hh
  obtain ⟨hi, ρ2, F2, G2, hw, e2, s2, p2⟩ := hh
  obtain ⟨hstop, hgo⟩ := hJ i G2 H2 s2.g e2.same
  by_cases hlt : i < ds.length
  · obtain ⟨go, hy⟩ := hgo ds[i] (List.getElem?_eq_getElem hlt)
    refine .inr ⟨go, Nx (i + 1), fun σ' H' q => ⟨ds.length - (i + 1), by omega, rfl, q⟩, fun x H' y => ?_⟩
    rw [List.drop_eq_getElem_cons hlt] at hw
    rw [forW_c] at hw
    have turn : ∀ G3 H3, En c.K σ2 ρ2 F2 G3 H3 → Stp F2 G2 H2 F2 G3 H3 → Dp c.K G3 x ds[i] → g x σ2 H3 (fun σ4 H4 => tb { D with nx := Nx (i + 1), ct := Nx (i + 1), bk := D.nx } σ4 H4) := fun G3 H3 e3 s3 dx => by
      refine sg _ ρ2 _ σ2 F2 G3 H3 x _ e3 dx hw fun σ4 ρ4 F4 q4 e4 s4 a4 l4 => ?_
      have p4 : Kp P σ2 σ4 := fun j hj => a4 j fun z => hP j z hj
      have s14 := s2.trans (s3.trans s4)
      have k4 := k1.stp s14 (p2.trans p4)
      refine sb _ ρ4 σ4 F4 G3 H3 _ e4 q4 ⟨fun σ5 ρ5 F5 G5 H5 q5 e5 s5 p5 => ?_, fun σ5 ρ5 F5 G5 H5 q5 e5 s5 p5 => ?_, k4.nx, k4.rt, k4.xc⟩
      · rw [hNx]; exact ⟨hlt, ρ5, F5, G5, q5, e5, s14.trans s5, (p2.trans p4).trans p5⟩
      · rw [hNx]; exact ⟨hlt, ρ5, F5, G5, q5, e5, s14.trans s5, (p2.trans p4).trans p5⟩
    rcases hy x H' y with ⟨rfl, dx⟩ | ⟨T, o, hov, hT, rfl, dx⟩
    · exact turn G2 _ e2 (.refl _ _ _) dx
    · obtain ⟨e3, s3⟩ := e2.laid hT hov.1 hov.2
      exact turn _ _ e3 s3 dx
  · have hi' : i = ds.length := by omega
    subst hi'
    rw [List.drop_length] at hw
    rw [forW_n] at hw
    have hw : κ.nx ρ2 := hw
    exact .inl ⟨hstop (Nat.le_refl _), k1.nx σ2 ρ2 F2 G2 H2 hw e2 s2 p2⟩
end Q

namespace Q
open PySem PySem.Spec PyProof.Rows L2
variable {c : Ctx} {sc so : Scope} {W : WX} {Γ : List Ent} {bl : Bl} {P : List Nat} {rk : Nat}

/-! ### changes of owned lists -/
theorem Res.open {K : PySem.W.Frag} {F F' : Foot} {G H G' H' : Hp} {k : Nat} {A : List Addr} {p : Addr} {ds : List D} (r : Res K F G H F' G' H' (k + 1) A (.ref p) (.list ds)) :
    ∃ A0 vs, A = p :: A0 ∧ H' p = some (.lst vs) ∧ Ows K G' H' k A0 vs ds := by
  have h := r.ow
  generalize hv : V.ref p = v at h
  generalize hd : PyData.list ds = d at h
  cases h with
  | flt f _ => subst hd; cases f
  | lst h r => cases hv; cases hd; exact ⟨_, _, rfl, h, r⟩
/-- the owned list at p gets other items -/
theorem Res.write {K : PySem.W.Frag} {σ : Sg} {ρ : Env} {F F1 : Foot} {G H G1 H1 : Hp} {k : Nat} {A B : List Addr} {p : Addr} {ds es : List D} {vs : List V}
    (e : En K σ ρ F1 G1 H1) (s : Stp F G H F1 G1 H1) (r : Res K F G H F1 G1 H1 (k + 1) A (.ref p) (.list ds)) (w : Ows K G1 H1 k B vs es) (hB : (p :: B).Nodup) (out : ∀ a ∈ B, G1 a = none) (dis : ∀ a ∈ B, ∀ i, a ∉ F1 i) (new : ∀ a ∈ B, (∃ j, a ∈ F j) ∨ H a = none) (hl : vs.length ≤ 16777216) :
    En K σ ρ F1 G1 (upd H1 p (.lst vs)) ∧ Stp F G H F1 G1 (upd H1 p (.lst vs)) ∧ Res K F G H F1 G1 (upd H1 p (.lst vs)) (k + 1) (p :: B) (.ref p) (.list es) := by
  obtain ⟨A0, ws, hA, hp, _⟩ := r.open
  have hm : p ∈ A := by rw [hA]; simp
  have hpG : G1 p = none := r.out p hm
  have hpF : ∀ i, p ∉ F1 i := r.dis p hm
  have hpB : p ∉ B := (List.nodup_cons.mp hB).1
  refine ⟨e.upto (Same.refl _) (fun i b hb o q => ?_) (fun b o q => ?_) e.out (ln_upd e.ln hl) e.fz, ⟨s.g, fun b o n q => ?_, s.nf, s.ng, fun b hb => ?_⟩, ⟨.lst upd_same (Ows.mono (Same.refl _) (fun b hb o q => ?_) w), hB, fun a ha => ?_, fun a ha => ?_, fun a ha => ?_⟩⟩
  · rw [upd_ne (show b ≠ p from fun z => by subst z; exact hpF i hb)]; exact q
  · rw [upd_ne (fun z => by rw [z, hpG] at q; cases q)]; exact e.same b o q
  · have hne : b ≠ p := fun z => by
      subst z
      rcases r.new b hm with ⟨j, hj⟩ | hn
      · exact n j hj
      · rw [hn] at q; cases q
    rw [upd_ne hne]; exact s.h b o n q
  · by_cases z : b = p
    · rw [z, upd_same]; simp
    · rw [upd_ne z]; exact s.th b hb
  · rw [upd_ne (show b ≠ p from fun z => by subst z; exact hpB hb)]; exact q
  · rcases List.mem_cons.mp ha with rfl | ha
    · exact hpG
    · exact out a ha
  · rcases List.mem_cons.mp ha with rfl | ha
    · exact hpF
    · exact dis a ha
  · rcases List.mem_cons.mp ha with rfl | ha
    · exact r.new a hm
    · exact new a ha
theorem put_put {F : Foot} {i : Nat} {A B : List Addr} : put (put F i A) i B = put F i B := by
  funext j; unfold put; split <;> rfl
theorem set_self {σ : Sg} {i : Nat} {v : V} (h : σ[i]? = some (some v)) : σ.set i (some v) = σ := by
  refine List.ext_getElem? fun j => ?_
  by_cases q : i = j
  · subst q
    rw [List.getElem?_set_self (List.getElem?_eq_some_iff.mp h).1, h]
  · rw [List.getElem?_set_ne q]
/-- .. at a name -/
theorem En.write {K : PySem.W.Frag} {σ : Sg} {ρ : Env} {F F1 : Foot} {G H G1 H1 : Hp} {k i : Nat} {B : List Addr} {ds es : List D} {vs : List V} {p : Addr}
    (e : En K σ ρ F1 G1 H1) (s : Stp F G H F1 G1 H1) (hc : ρ[i]? = some (.ow (k + 1) (.list ds))) (hp : σ[i]? = some (some (.ref p))) (w : Ows K G1 H1 k B vs es) (hB : (p :: B).Nodup) (out : ∀ a ∈ B, G1 a = none) (dis : ∀ a ∈ B, ∀ j, j ≠ i → a ∉ F1 j) (new : ∀ a ∈ B, (∃ j, a ∈ F j) ∨ H a = none) (hl : vs.length ≤ 16777216) :
    ∃ F2, En K σ (ρ.set i (.ow (k + 1) (.list es))) F2 G1 (upd H1 p (.lst vs)) ∧ Stp F G H F2 G1 (upd H1 p (.lst vs)) := by
  obtain ⟨v, hv, e2, s2, r2⟩ := e.move hc
  have ev : v = .ref p := by rw [hp] at hv; cases hv; rfl
  subst ev
  have r3 := r2.from s
  obtain ⟨e4, s4, r4⟩ := Res.write e2 (s.trans s2) r3 w hB out (fun a ha j hj => by
    by_cases q : j = i
    · subst q; rw [put_same] at hj; cases hj
    · rw [put_ne q] at hj; exact dis a ha j q hj) new hl
  have e5 := e4.set (i := i) r4 (.inr (.inr rfl))
  have s5 := Stp.put (i := i) s4 r4
  rw [set_self hp, List.set_set] at e5
  exact ⟨_, e5, s5⟩
theorem ap_app {e : Expr} {i m : Nat} {x : Str} {T : TrE} {px pa pc pos : Pos} (h : AE c sc W e m T) (hi : c.N[i]? = some x) (hv : Vis sc x) (hd : (x == ("__debug__" : Str)) = false) (hcd : (x == ("__classdict__" : Str)) = false)
    (he : ∀ env, starEach [e] env = (false, eval e env) :: starEach [] env) (hl : (pa.endLine == pc.line) = true) :
    AP c sc W P rk (.Expr (.Call (.Attribute (.Name x px) "append" pa) [e] [] pc) pos) (fun κ ρ => isOw (getC ρ i) ∧ T ρ (fun ρ1 d => appC m (getC ρ1 i) d fun cl => κ.nx (ρ1.set i cl)) κ.xc) := by
  obtain ⟨t, pt, s⟩ := h
  refine ⟨tDrop (tBM c.K "list" rAppend (tVar i) (tCons t tNil)), fun X hX => ?_, fun κ ρ σ F G H D e0 hT k => ?_⟩
  · have := pe_bm (cpos := pc) (apos := pa) PySem.F.plainAttrs_list PySem.F.slot_list_append PySem.F.type_list_append mt_append (pe_var (pos := px) (hX.is.is.ix hi) (hX.is.is.vis hv) hd hcd) (pa_cons (pt X hX.is.is) pa_nil (he _)) (hs := he _) (hfew := by rw [he]; rfl) (hline := hl)
    rw [hX.is.is.K] at this
    exact ps_expr this
  · obtain ⟨ho, hT⟩ := hT
    obtain ⟨k0, ds0, hc0⟩ := isOw_some ho
    obtain ⟨a, A, vs0, h1, h2, h3, h4⟩ := e0.owned hc0
    refine ⟨_, h1, .inl ⟨rfl, _, .inl (.inl h3)⟩, ?_⟩
    refine s ρ _ κ.xc σ F G H _ e0 hT (fun ρ1 d u B F1 G1 H1 q e1 r1 s1 => ?_) k.toX
    cases hc : getC ρ1 i with
    | un => rw [hc] at q; exact q.elim
    | va d => rw [hc] at q; exact q.elim
    | hol _ _ _ _ => rw [hc] at q; exact q.elim
    | ln _ => rw [hc] at q; exact q.elim
    | ow j z =>
      rw [hc] at q
      match j, z, hc, q with
      | 0, _, _, q => exact q.elim
      | j + 1, .none, _, q => exact q.elim
      | j + 1, .bool _, _, q => exact q.elim
      | j + 1, .int _, _, q => exact q.elim
      | j + 1, .str _, _, q => exact q.elim
      | j + 1, .tuple _, _, q => exact q.elim
      | j + 1, .dict _, _, q => exact q.elim
      | j + 1, .list ds, hc, q =>
        obtain ⟨hj, hlen, q⟩ := q
        obtain ⟨a', A', vs, g1, g2, g3, g4⟩ := e1.owned hc
        rw [h1] at g1
        cases g1
        have hvl := Ows.length g4
        have fin : ∀ (B : List Addr) (G2 : Hp), En c.K σ ρ1 F1 G2 H1 → Stp F G H F1 G2 H1 → Res c.K F G H F1 G2 H1 j B u d → (∀ b, Same G1 G2) → ∃ l xs y, V.ref a = .ref l ∧ [u] = [y] ∧ H1 l = some (.lst xs) ∧ xs.length < sizeLine ∧ (fun _ H2 => D.nx σ H2) V.non (upd H1 l (.lst (xs ++ [y]))) := fun B G2 e2 s2 r2 g12 => by
          refine ⟨a, vs, u, rfl, rfl, g3, by rw [hvl, sizeLine_eq]; exact hlen, ?_⟩
          have c1 : (a :: (A' ++ (B ++ []))).Nodup := by
            have nd := e2.nod i
            rw [g2] at nd
            rw [List.append_nil]
            refine List.nodup_cons.mpr ⟨fun z => ?_, List.nodup_append.mpr ⟨(List.nodup_cons.mp nd).2, r2.nod, fun x hx y hy z => ?_⟩⟩
            · rcases List.mem_append.mp z with z | z
              · exact (List.nodup_cons.mp nd).1 z
              · exact r2.dis _ z i (by rw [g2]; simp)
            · subst z; exact r2.dis x hy i (by rw [g2]; simp [hx])
          have c2 : ∀ b ∈ A' ++ (B ++ []), G2 b = none := fun b hb => by
            rw [List.append_nil] at hb
            rcases List.mem_append.mp hb with hb | hb
            · exact e2.out i b (by rw [g2]; simp [hb])
            · exact r2.out b hb
          have c3 : ∀ b ∈ A' ++ (B ++ []), ∀ l, l ≠ i → b ∉ F1 l := fun b hb l hl => by
            rw [List.append_nil] at hb
            rcases List.mem_append.mp hb with hb | hb
            · exact fun z => hl (e2.dis l i b z (by rw [g2]; simp [hb]))
            · exact r2.dis b hb l
          have c4 : ∀ b ∈ A' ++ (B ++ []), (∃ j, b ∈ F j) ∨ H b = none := fun b hb => by
            rw [List.append_nil] at hb
            rcases List.mem_append.mp hb with hb | hb
            · exact s2.nf i b (by rw [g2]; simp [hb])
            · exact r2.new b hb
          obtain ⟨F2, e3, s3⟩ := En.write e2 s2 (getC_some hc (by simp)) h1 (vs := vs ++ [u]) (es := ds ++ [d]) (B := A' ++ (B ++ [])) (Ows.append (Ows.mono (g12 a) (fun _ _ _ q => q) g4) (.cons r2.ow .nil)) c1 c2 c3 c4 (by rw [List.length_append, List.length_singleton, hvl]; omega)
          exact k.nx σ _ F2 G2 _ q e3 s3 Kp.refl
        rcases hj with rfl | rfl | hf
        · obtain ⟨z1, z2, z3⟩ := r1.freeze e1
          exact fin [] _ z2 (z3 s1) (.frz z1) (fun _ => same_grow r1.out)
        · exact fin B G1 e1 s1 r1 (fun _ => Same.refl _)
        · obtain ⟨z1, z2, z3⟩ := r1.freeze e1
          refine fin [] _ z2 (z3 s1) ⟨?_, .nil, (fun _ h => nomatch h), (fun _ h => nomatch h), (fun _ h => nomatch h)⟩ (fun _ => same_grow r1.out)
          cases j with
          | zero => exact .frz z1
          | succ j => exact .flt hf z1
theorem ap_sti {e b : Expr} {i : Nat} {x : Str} {T Tb : TrE} {px pb pos : Pos} (h : AE c sc W e 0 T) (hb : AE c sc W b 0 Tb) (hi : c.N[i]? = some x) (hv : Vis sc x) (hd : (x == ("__debug__" : Str)) = false) (hcd : (x == ("__classdict__" : Str)) = false)
    (hs : ∀ o p l env, swapsWithSole [.Subscript o b p] e l env = pure false) (hw : ∀ o p env, swappedStores [.Subscript o b p] e env = pure none)
    (ha : ∀ (o : Expr) env v, assign (.Subscript o b pb) env v = (do
      let ov ← holding [v] (eval o env)
      let iv ← holding [v, ov] (eval b env)
      standAt pb
      holding [v, ov, iv] (setItem ov iv v)
      release [v, ov, iv] [])) :
    AP c sc W P rk (.Assign [.Subscript (.Name x px) b pb] e pos) (fun κ ρ => T ρ (fun ρ1 d => isOw (getC ρ1 i) ∧ Tb ρ1 (fun ρ2 y => stiC (getC ρ2 i) y d fun cl => κ.nx (ρ2.set i cl)) κ.xc) κ.xc) := by
  obtain ⟨t, pt, s⟩ := h
  obtain ⟨tb, ptb, sb⟩ := hb
  refine ⟨_, fun X hX => ps_asg (pt X hX.is.is) (pg_sub (pe_var (hX.is.is.ix hi) (hX.is.is.vis hv) hd hcd) (ptb X hX.is.is) set_list (ha _ _)) (hs _ _ _ _) (hw _ _ _) (by rfl), fun κ ρ σ F G H D e0 hT k => ?_⟩
  refine s ρ _ κ.xc σ F G H _ e0 hT (fun ρ1 d u B F1 G1 H1 q e1 r1 s1 => ?_) k.toX
  obtain ⟨ho, q⟩ := q
  obtain ⟨k0, ds0, hc0⟩ := isOw_some ho
  obtain ⟨a, A, vs0, h1, _⟩ := e1.owned hc0
  refine ⟨_, h1, ?_⟩
  refine sb ρ1 _ κ.xc σ F1 G1 H1 _ e1 q (fun ρ2 y w B2 F2 G2 H2 q2 e2 r2 s2 => ?_) (k.stp s1 Kp.refl).toX
  cases hc : getC ρ2 i with
  | un => rw [hc] at q2; exact q2.elim
  | va d => rw [hc] at q2; exact q2.elim
  | hol _ _ _ _ => rw [hc] at q2; exact q2.elim
  | ln _ => rw [hc] at q2; exact q2.elim
  | ow j z =>
    rw [hc] at q2
    match j, z, hc, q2 with
    | 0, _, _, q => exact q.elim
    | j + 2, _, _, q => exact q.elim
    | 1, .none, _, q => exact q.elim
    | 1, .bool _, _, q => exact q.elim
    | 1, .int _, _, q => exact q.elim
    | 1, .str _, _, q => exact q.elim
    | 1, .tuple _, _, q => exact q.elim
    | 1, .dict _, _, q => exact q.elim
    | 1, .list ds, hc, q2 =>
      cases y <;> first | exact q2.elim | skip
      obtain ⟨m, hm, q2⟩ := q2
      obtain ⟨a', A', vs, g1, g2, g3, g4⟩ := e2.owned hc
      rw [h1] at g1
      cases g1
      obtain ⟨z1, z2⟩ := Ows.to_frz g4
      subst z1
      cases r2.dp
      have hvl := DpAll.length z2
      refine ⟨a, vs, _, m, rfl, rfl, g3, by rw [hvl]; exact hm, ?_⟩
      obtain ⟨F3, e3, s3⟩ := En.write e2 (s1.trans s2) (getC_some hc (by simp)) h1 (vs := vs.set m u) (es := ds.set m d) (B := []) (Ows.of_frz (DpAll.set m z2 (Dp.mono s2.g r1.dp))) (by simp) (fun _ h => nomatch h) (fun _ h => nomatch h) (fun _ h => nomatch h) (by rw [List.length_set]; exact e2.ln a _ g3)
      exact k.nx σ _ F3 G2 _ q2 e3 s3 Kp.refl
end Q

namespace Q
open PySem PySem.Spec PyProof.Rows L2
variable {c : Ctx} {sc so : Scope} {W : WX} {Γ : List Ent} {bl : Bl} {P : List Nat} {rk : Nat}

/-! ### paths into owned lists -/
/-- one item of owned ones -/
theorem Ows.split {K : PySem.W.Frag} {G H : Hp} {k : Nat} : ∀ {vs : List V} {ds : List D} {A : List Addr} (m : Nat) {d : D}, Ows K G H k A vs ds → ds[m]? = some d →
    ∃ A1 Am A2 v, A = A1 ++ (Am ++ A2) ∧ vs[m]? = some v ∧ Ow K G H k Am v d ∧
      ∀ (G' H' : Hp) (B : List Addr) (v' : V) (d' : D), Same G G' → (∀ b ∈ A1 ++ A2, ∀ o, H b = some o → H' b = some o) → Ow K G' H' k B v' d' → Ows K G' H' k (A1 ++ (B ++ A2)) (vs.set m v') (ds.set m d')
  | _, _, _, m, d, .nil, h => by simp at h
  | _, _, _, 0, d, .cons (A := A) (B := B) (v := v) hd r, h => by
    simp at h; subst h
    exact ⟨[], A, B, v, rfl, rfl, hd, fun G' H' C v' d' g k hn => Ows.cons (A := C) (B := B) hn (Ows.mono g (fun b hb => k b hb) r)⟩
  | _, _, _, m + 1, d, .cons (A := A) (B := B) hd r, h => by
    obtain ⟨A1, Am, A2, v, e, h1, h2, h3⟩ := Ows.split m r (by simpa using h)
    refine ⟨A ++ A1, Am, A2, v, by rw [e]; simp, by simpa using h1, h2, fun G' H' C v' d' g k hn => ?_⟩
    have := Ows.cons (Ow.mono g (fun b hb => k b (by simp [hb])) hd) (h3 G' H' C v' d' g (fun b hb => k b (by
      rcases List.mem_append.mp hb with z | z
      · simp [z]
      · simp [z])) hn)
    rw [List.append_assoc]
    exact this
/-- from a thing along a path -/
def NavV (H : Hp) : V → List D → V → Prop
  | v, [], u => u = v
  | v, .int i :: is, u => ∃ p vs w, v = .ref p ∧ H p = some (.lst vs) ∧ atI vs i = some w ∧ NavV H w is u
  | _, _, _ => False
theorem ixN_lt {n m : Nat} {i : Int} (h : ixN n i = some m) : m < n := by
  unfold ixN at h
  split at h
  · split at h
    · cases h; omega
    · cases h
  · split at h
    · cases h; omega
    · cases h
/-- what stands at a path, and what comes of it when something else is put there -/
theorem Ow.nav {K : PySem.W.Frag} {G H : Hp} {k : Nat} : ∀ (is : List D) (n : Nat) {A : List Addr} {v : V} {d e : D}, n = is.length + k → Ow K G H n A v d → A.Nodup → pget d is = some e →
    ∃ u B, NavV H v is u ∧ Ow K G H k B u e ∧ (∀ b ∈ B, b ∈ A) ∧ B.Nodup ∧
      ∀ (G' H' : Hp) (B' : List Addr) (e' : D), Same G G' → (∀ b ∈ A, b ∉ B → ∀ o, H b = some o → H' b = some o) → Ow K G' H' k B' u e' → B'.Nodup → (∀ b ∈ B', b ∈ A → b ∈ B) →
        ∃ A' d', pset d is e' = some d' ∧ Ow K G' H' n A' v d' ∧ A'.Nodup ∧ (∀ b ∈ A', b ∈ A ∨ b ∈ B')
  | [], n, A, v, d, e, hn, h, nd, hp => by
    have hp : some d = some e := hp
    cases hp
    have hn : n = k := by simpa using hn
    subst hn
    exact ⟨v, A, rfl, h, fun _ h => h, nd, fun G' H' B' e' g kp ho nd' _ => ⟨B', e', rfl, ho, nd', fun b hb => .inr hb⟩⟩
  | i :: is, n, A, v, d, e, hn, h, nd, hp => by
    have hn' : n = is.length + k + 1 := by rw [hn, List.length_cons]; omega
    cases d <;> first | (simp [pget] at hp; done) | skip
    cases i <;> first | (simp [pget] at hp; done) | skip
    rename_i ds i
    cases h with
    | frz h => omega
    | flt f _ => cases f
    | lst ha r =>
      rename_i k' a A0 vs
      have hk : k' = is.length + k := by omega
      simp only [pget] at hp
      cases q : ixN ds.length i with
      | none => rw [q] at hp; cases hp
      | some m =>
        rw [q] at hp
        dsimp only at hp
        cases q2 : ds[m]? with
        | none => rw [q2] at hp; cases hp
        | some d1 =>
          rw [q2] at hp
          dsimp only at hp
          obtain ⟨A1, Am, A2, w, rfl, h1, h2, h3⟩ := Ows.split m r q2
          have na := (List.nodup_cons.mp nd).1
          obtain ⟨n1, n2, n3⟩ := List.nodup_append.mp (List.nodup_cons.mp nd).2
          obtain ⟨n4, n5, n6⟩ := List.nodup_append.mp n2
          obtain ⟨u, B, g1, g2, g3, g4, g5⟩ := Ow.nav is k' hk h2 n4 hp
          have hat : atI vs i = some w := by
            unfold atI
            rw [Ows.length r, q]
            exact h1
          refine ⟨u, B, ⟨a, vs, w, rfl, ha, hat, g1⟩, g2, fun b hb => by simp [g3 b hb], g4, fun G' H' B' e' g kp ho nd' ov => ?_⟩
          have ovm : ∀ b ∈ B', b ∈ Am → b ∈ B := fun b hb hm => ov b hb (by simp [hm])
          obtain ⟨A', d', f1, f2, f3, f4⟩ := g5 G' H' B' e' g (fun b hb hnb => kp b (by simp [hb]) hnb) ho nd' ovm
          have out1 : ∀ b ∈ A1 ++ A2, b ∉ B := fun b hb z => by
            have z := g3 b z
            rcases List.mem_append.mp hb with y | y
            · exact n3 b y b (by simp [z]) rfl
            · exact n6 b z b y rfl
          have newA : ∀ b ∈ A', b ∉ a :: (A1 ++ A2) := fun b hb z => by
            rcases f4 b hb with y | y
            · rcases List.mem_cons.mp z with rfl | z
              · exact na (by simp [y])
              · rcases List.mem_append.mp z with z | z
                · exact n3 b z b (by simp [y]) rfl
                · exact n6 b y b z rfl
            · have zA : b ∈ a :: (A1 ++ (Am ++ A2)) := by
                rcases List.mem_cons.mp z with rfl | z
                · simp
                · rcases List.mem_append.mp z with z | z <;> simp [z]
              have yB := ov b y zA
              have yB' := g3 b yB
              rcases List.mem_cons.mp z with rfl | z
              · exact na (by simp [yB'])
              · exact out1 b z yB
          have hv : vs.set m w = vs := by
            refine List.ext_getElem? fun j => ?_
            by_cases z : m = j
            · subst z
              rw [List.getElem?_set_self (List.getElem?_eq_some_iff.mp h1).1, h1]
            · rw [List.getElem?_set_ne z]
          have ws := h3 G' H' A' w d' g (fun b hb o q => kp b (by
            rcases List.mem_append.mp hb with z | z <;> simp [z]) (out1 b hb) o q) f2
          rw [hv] at ws
          have ha' : H' a = some (.lst vs) := kp a (by simp) (fun z => na (by simp [g3 a z])) _ ha
          refine ⟨a :: (A1 ++ (A' ++ A2)), .list (ds.set m d'), by simp only [pset, q, q2, f1], .lst ha' ws, ?_, fun b hb => ?_⟩
          · refine List.nodup_cons.mpr ⟨fun z => ?_, List.nodup_append.mpr ⟨n1, List.nodup_append.mpr ⟨f3, n5, fun x hx y hy z => ?_⟩, fun x hx y hy z => ?_⟩⟩
            · rcases List.mem_append.mp z with z | z
              · exact na (by simp [z])
              · rcases List.mem_append.mp z with z | z
                · exact newA a z (by simp)
                · exact na (by simp [z])
            · subst z; exact newA x hx (by simp [hy])
            · subst z
              rcases List.mem_append.mp hy with hy | hy
              · exact newA x hy (by simp [hx])
              · exact n3 x hx x (by simp [hy]) rfl
          · rcases List.mem_cons.mp hb with rfl | hb
            · simp
            · rcases List.mem_append.mp hb with hb | hb
              · simp [hb]
              · rcases List.mem_append.mp hb with hb | hb
                · rcases f4 b hb with z | z
                  · simp [z]
                  · simp [z]
                · simp [hb]
theorem NavV.mono {H H' : Hp} (k : ∀ b o, H b = some o → H' b = some o) : ∀ (is : List D) {v u : V}, NavV H v is u → NavV H' v is u
  | [], v, u, h => h
  | .int i :: is, v, u, ⟨p, vs, w, h1, h2, h3, h4⟩ => ⟨p, vs, w, h1, k _ _ h2, h3, NavV.mono k is h4⟩
  | .none :: _, _, _, h => h.elim
  | .bool _ :: _, _, _, h => h.elim
  | .str _ :: _, _, _, h => h.elim
  | .list _ :: _, _, _, h => h.elim
  | .tuple _ :: _, _, _, h => h.elim
  | .dict _ :: _, _, _, h => h.elim
theorem pset_snoc : ∀ (is : List D) (d x D1 : D) (i : D), pset d (is ++ [i]) x = some D1 → ∃ es j m y, pget d is = some (.list es) ∧ i = .int j ∧ ixN es.length j = some m ∧ es[m]? = some y ∧ pset d is (.list (es.set m x)) = some D1
  | [], d, x, D1, i, h => by
    rw [List.nil_append] at h
    cases d <;> first | (simp [pset] at h; done) | skip
    cases i <;> first | (simp [pset] at h; done) | skip
    rename_i ds j
    simp only [pset] at h
    cases q : ixN ds.length j with
    | none => rw [q] at h; cases h
    | some m =>
      rw [q] at h
      dsimp only at h
      cases q2 : ds[m]? with
      | none => rw [q2] at h; cases h
      | some y =>
        rw [q2] at h
        dsimp only at h
        exact ⟨ds, j, m, y, rfl, rfl, q, q2, h⟩
  | a :: is, d, x, D1, i, h => by
    rw [List.cons_append] at h
    cases d <;> first | (simp [pset] at h; done) | skip
    cases a <;> first | (simp [pset] at h; done) | skip
    rename_i ds j
    simp only [pset] at h
    cases q : ixN ds.length j with
    | none => rw [q] at h; cases h
    | some m =>
      rw [q] at h
      dsimp only at h
      cases q2 : ds[m]? with
      | none => rw [q2] at h; cases h
      | some y =>
        rw [q2] at h
        dsimp only at h
        cases q3 : pset y (is ++ [i]) x with
        | none => rw [q3] at h; cases h
        | some y' =>
          rw [q3] at h
          dsimp only at h
          obtain ⟨es, j2, m2, z, h1, h2, h3, h4, h5⟩ := pset_snoc is y x y' i q3
          refine ⟨es, j2, m2, z, ?_, h2, h3, h4, ?_⟩
          · simp only [pget, q, q2]; exact h1
          · simp only [pset, q, q2, h5]; exact h
/-- along places, by values -/
def walkI (K : PySem.W.Frag) : List TE → V → Sg → Hp → VK → Prop
  | [], v, _, H, Q => Q v H
  | tb :: tbs, v, σ, H, Q => tb σ H fun u H1 => rIxL K v u H1 fun w H2 => walkI K tbs w σ H2 Q
def mkPath : Expr → List (Expr × Pos) → Expr
  | e, [] => e
  | e, (b, p) :: l => mkPath (.Subscript e b p) l
inductive PEs (X : Cx) : List (Expr × Pos) → List TE → Prop
  | nil : PEs X [] []
  | cons {b : Expr} {p : Pos} {l : List (Expr × Pos)} {t : TE} {ts : List TE} : PE X b t → PlainIx b → PEs X l ts → PEs X ((b, p) :: l) (t :: ts)
theorem pe_path {X : Cx} : ∀ {l : List (Expr × Pos)} {tbs : List TE}, PEs X l tbs → ∀ {e : Expr} {t : TE}, PE X e t → PE X (mkPath e l) (fun σ H Q => t σ H fun v H1 => walkI X.K tbs v σ H1 Q)
  | _, _, .nil => fun h => h
  | _, _, .cons hb hp r => fun h => pe_path r (pe_ix ix_list h hb hp)
/-- the indices of a path, each looked at in the lent view -/
abbrev TrPa := D → List D → Env → (Env → List D → Prop) → Prop
def APa (c : Ctx) (sc : Scope) (W : WX) (l : List (Expr × Pos)) (n : Nat) (T : TrPa) : Prop := ∃ tbs : List TE, (∀ X, Is c sc W X → PEs X l tbs) ∧
  ∀ (d0 d : D) (acc : List D) (v0 v : V) (ρ : Env) (Φ : Env → List D → Prop) (σ : Sg) (F0 : Foot) (G0 H0 : Hp) (F : Foot) (G H : Hp) (Q : VK) (Gs : Hp) (A : List Addr) (k : Nat), Ow c.K Gs H0 (n + k) A v d → (∀ u is, NavV H0 v is u → NavV H0 v0 (acc ++ is) u) → (∀ is e, pget d is = some e → pget d0 (acc ++ is) = some e) → En c.K σ ρ F G H → Stp foot0 G0 H0 F G H → T d acc ρ Φ →
    (∀ ρ' is u e B F' G' H', Φ ρ' is → pget d0 is = some e → is.length = acc.length + n → NavV H0 v0 is u → Ow c.K Gs H0 k B u e → En c.K σ ρ' F' G' H' → Stp foot0 G0 H0 F' G' H' → Q u H') → walkI c.K tbs v σ H Q
theorem apa_nil : APa c sc W [] 0 (fun _ acc ρ Φ => Φ ρ acc) :=
  ⟨[], fun _ _ => .nil, fun d0 d acc v0 v ρ Φ σ F0 G0 H0 F G H Q Gs A k ho hn hp e s hT hQ => hQ ρ acc v d A F G H hT (by simpa using hp [] d rfl) rfl (by simpa using hn v [] rfl) (by simpa using ho) e s⟩
theorem Ow.at {K : PySem.W.Frag} {G H : Hp} {n : Nat} {A : List Addr} {v : V} {d d' y : D} (h : Ow K G H (n + 1) A v d) (hp : pget d [y] = some d') : ∃ p vs w i ds B, v = .ref p ∧ d = .list ds ∧ y = .int i ∧ H p = some (.lst vs) ∧ atI vs i = some w ∧ Ow K G H n B w d' := by
  cases d <;> first | (simp [pget] at hp; done) | skip
  cases y <;> first | (simp [pget] at hp; done) | skip
  rename_i ds i
  cases h with
  | flt f _ => cases f
  | lst ha r =>
    simp only [pget] at hp
    cases q : ixN ds.length i with
    | none => rw [q] at hp; cases hp
    | some m =>
      rw [q] at hp
      dsimp only at hp
      cases q2 : ds[m]? with
      | none => rw [q2] at hp; cases hp
      | some d1 =>
        rw [q2] at hp
        cases hp
        obtain ⟨A1, Am, A2, w, _, h1, h2, _⟩ := Ows.split m r q2
        refine ⟨_, _, w, i, ds, Am, rfl, rfl, rfl, ha, ?_, h2⟩
        unfold atI
        rw [Ows.length r, q]
        exact h1
theorem pget_cons {d d' y : D} {is : List D} (h : pget d [y] = some d') : pget d (y :: is) = pget d' is := by
  cases d <;> first | (simp [pget] at h; done) | skip
  cases y <;> first | (simp [pget] at h; done) | skip
  rename_i ds i
  simp only [pget] at h ⊢
  cases q : ixN ds.length i with
  | none => rw [q] at h; cases h
  | some m =>
    rw [q] at h
    dsimp only at h ⊢
    cases q2 : ds[m]? with
    | none => rw [q2] at h; cases h
    | some d1 => rw [q2] at h; cases h; rfl
theorem xc_noW {σ : Sg} {F : Foot} {G H : Hp} : Xc c W σ F G H xNo := fun _ _ _ _ _ _ _ h => h.elim
theorem apa_cons {b : Expr} {p : Pos} {l : List (Expr × Pos)} {n : Nat} {Tb : TrE} {T : TrPa} (hb : AE c sc W b 0 Tb) (hs : PlainIx b) (h : APa c sc W l n T) :
    APa c sc W ((b, p) :: l) (n + 1) (fun d acc ρ Φ => Tb ρ (fun ρ1 y => ∃ d', pget d [y] = some d' ∧ T d' (acc ++ [y]) ρ1 Φ) xNo) := by
  obtain ⟨tb, pb, sb⟩ := hb
  obtain ⟨tbs, pbs, ss⟩ := h
  refine ⟨tb :: tbs, fun X hX => .cons (pb X hX) hs (pbs X hX), fun d0 d acc v0 v ρ Φ σ F0 G0 H0 F G H Q Gs A k ho hn hp e s hT hQ => ?_⟩
  refine sb ρ _ xNo σ F G H _ e hT (fun ρ1 y u B F1 G1 H1 q1 e1 r1 s1 => ?_) xc_noW
  obtain ⟨d', h1, q1⟩ := q1
  obtain ⟨p, vs, w, i, ds, B', rfl, rfl, rfl, h4, h5, h6⟩ := Ow.at (n := n + k) (by rw [show n + 1 + k = n + k + 1 by omega] at ho; exact ho) h1
  have s2 := s.trans s1
  have kp : ∀ b o, H0 b = some o → H1 b = some o := fun b o q => s2.h b o (fun _ h => nomatch h) q
  cases r1.dp
  refine ⟨p, vs, i, w, rfl, rfl, .inl (.inl (kp _ _ h4)), h5, ?_⟩
  refine ss d0 d' (acc ++ [.int i]) v0 w ρ1 Φ σ F0 G0 H0 F1 G1 H1 Q Gs B' k h6 (fun u is hu => ?_) (fun is e' he => ?_) e1 s2 q1 (fun ρ' is u e B F' G' H' a1 a2 a3 a4 a5 a6 a7 => hQ ρ' is u e B F' G' H' a1 a2 (by rw [a3, List.length_append, List.length_singleton]; omega) a4 a5 a6 a7)
  · rw [List.append_assoc]
    exact hn u (.int i :: is) ⟨p, vs, w, rfl, h4, h5, hu⟩
  · rw [List.append_assoc]
    exact hp (.int i :: is) e' (by rw [pget_cons h1]; exact he)
theorem NavV.fun_ {H : Hp} : ∀ (is : List D) {v u u' : V}, NavV H v is u → NavV H v is u' → u = u'
  | [], v, u, u', h, h' => by
    have h : u = v := h
    have h' : u' = v := h'
    rw [h, h']
  | .int i :: is, v, u, u', ⟨p, vs, w, h1, h2, h3, h4⟩, ⟨p', vs', w', g1, g2, g3, g4⟩ => by
    rw [h1] at g1; cases g1
    rw [h2] at g2; cases g2
    rw [h3] at g3; cases g3
    exact NavV.fun_ is h4 g4
  | .none :: _, _, _, _, h, _ => h.elim
  | .bool _ :: _, _, _, _, h, _ => h.elim
  | .str _ :: _, _, _, _, h, _ => h.elim
  | .list _ :: _, _, _, _, h, _ => h.elim
  | .tuple _ :: _, _, _, _, h, _ => h.elim
  | .dict _ :: _, _, _, _, h, _ => h.elim
theorem store_core {K : PySem.W.Frag} {σ : Sg} {ρ1 ρ3 : Env} {F F1 F3 : Foot} {G G1 G3 H H1 H3 : Hp} {i n q : Nat} {B : List Addr} {u v w : V} {D0 D1 d es y : D} {is : List D}
    (e1 : En K σ ρ1 F1 G1 H1) (s1 : Stp F G H F1 G1 H1) (hc : getC ρ1 i = .ow (n + (q + 1)) D0) (hv0 : σ[i]? = some (some v)) (hl : is.length = n) (hg : pget D0 is = some es) (hn : NavV H1 v is w)
    (e3 : En K σ ρ3 F3 G3 H3) (s23 : Stp foot0 (Gv F1 G1 H1) H1 F3 G3 H3) (r1' : Res K F G H F1 (Gw F1 G3) H3 q B u d) (hset : pset D0 (is ++ [y]) d = some D1) :
    ∃ p vs j m F4, w = .ref p ∧ y = .int j ∧ H3 p = some (.lst vs) ∧ ixN vs.length j = some m ∧ En K σ (ρ1.set i (.ow (n + (q + 1)) D1)) F4 (Gw F1 G3) (upd H3 p (.lst (vs.set m u))) ∧ Stp F G H F4 (Gw F1 G3) (upd H3 p (.lst (vs.set m u))) := by
  obtain ⟨v', hv', ho⟩ : ∃ v, σ[i]? = some (some v) ∧ Ow K G1 H1 (n + (q + 1)) (F1 i) v D0 := e1.cell i _ (getC_some hc (by simp))
  obtain rfl : v' = v := by rw [hv0] at hv'; cases hv'; rfl
  obtain ⟨ds, j, m, y0, g1, rfl, g3, g4, g5⟩ := pset_snoc is D0 d D1 y hset
  rw [hg] at g1
  cases g1
  obtain ⟨f1, f2, _⟩ := e1.unlent e3 s23
  have s13 := s1.trans f2
  have kp : ∀ b o, H1 b = some o → H3 b = some o := fun b o q => s23.h b o (fun _ h => nomatch h) q
  have kpG : Same G1 (Gw F1 G3) := f2.g
  -- the tree, where it is opened
  obtain ⟨w', Bw, n1, n2, n3, n4, n5⟩ := Ow.nav (k := q + 1) is (n + (q + 1)) (by rw [hl]) ho (e1.nod i) hg
  have ew := NavV.fun_ is n1 hn
  subst ew
  obtain ⟨p, vs, A0, rfl, rfl, hp, hr⟩ : ∃ p vs A0, w' = .ref p ∧ Bw = p :: A0 ∧ H1 p = some (.lst vs) ∧ Ows K G1 H1 q A0 vs ds := by
    generalize hz : PyData.list ds = z at n2
    cases n2 with
    | flt f _ => subst hz; cases f
    | lst h r => cases hz; exact ⟨_, _, _, rfl, rfl, h, r⟩
  have hvl := Ows.length hr
  obtain ⟨A1, Am, A2, v0, rfl, z1, z2, z3⟩ := Ows.split m hr g4
  refine ⟨p, vs, j, m, ?_⟩
  have hix : ixN vs.length j = some m := by rw [hvl]; exact g3
  have np := (List.nodup_cons.mp n4).1
  obtain ⟨o1, o2, o3⟩ := List.nodup_append.mp (List.nodup_cons.mp n4).2
  obtain ⟨o4, o5, o6⟩ := List.nodup_append.mp o2
  have hB : ∀ b ∈ B, b ∉ F1 i := fun b hb => r1'.dis b hb i
  have pF : p ∈ F1 i := n3 p (by simp)
  have ne : ∀ b, b ∈ F1 i → b ∉ p :: (A1 ++ (Am ++ A2)) → b ≠ p := fun b _ hb z => hb (by simp [z])
  have upk : ∀ b, b ≠ p → ∀ o, H1 b = some o → upd H3 p (.lst (vs.set m u)) b = some o := fun b hb o q => by rw [upd_ne hb]; exact kp b o q
  have newL : Ow K (Gw F1 G3) (upd H3 p (.lst (vs.set m u))) (q + 1) (p :: (A1 ++ (B ++ A2))) (.ref p) (.list (ds.set m d)) := by
    refine .lst upd_same ?_
    refine z3 (Gw F1 G3) (upd H3 p (.lst (vs.set m u))) B u d kpG (fun b hb o q => upk b (fun z => ?_) o q) ?_
    · subst z
      rcases List.mem_append.mp hb with y | y
      · exact np (by simp [y])
      · exact np (by simp [y])
    · refine Ow.mono (Same.refl _) (fun b hb o q => ?_) r1'.ow
      rw [upd_ne (fun z => hB b hb (by rw [z]; exact pF))]; exact q
  have nB : (p :: (A1 ++ (B ++ A2))).Nodup := by
    refine List.nodup_cons.mpr ⟨fun z => ?_, List.nodup_append.mpr ⟨o1, List.nodup_append.mpr ⟨r1'.nod, o5, fun x hx y hy z => ?_⟩, fun x hx y hy z => ?_⟩⟩
    · rcases List.mem_append.mp z with z | z
      · exact np (by simp [z])
      · rcases List.mem_append.mp z with z | z
        · exact hB p z pF
        · exact np (by simp [z])
    · subst z; exact hB x hx (n3 x (by simp [hy]))
    · subst z
      rcases List.mem_append.mp hy with hy | hy
      · exact hB x hy (n3 x (by simp [hx]))
      · exact o3 x hx x (by simp [hy]) rfl
  obtain ⟨A', D1', t1, t2, t3, t4⟩ := n5 (Gw F1 G3) (upd H3 p (.lst (vs.set m u))) _ (.list (ds.set m d)) kpG (fun b hb hnb o q => upk b (fun z => hnb (by rw [z]; simp)) o q) newL nB (fun b hb hbF => by
    rcases List.mem_cons.mp hb with rfl | hb
    · simp
    · rcases List.mem_append.mp hb with hb | hb
      · simp [hb]
      · rcases List.mem_append.mp hb with hb | hb
        · exact absurd hbF (hB b hb)
        · simp [hb])
  rw [g5] at t1
  cases t1
  -- the state behind the store
  obtain ⟨v2, hv2, e4, s4, r4⟩ := f1.move (getC_some hc (by simp))
  have inA : ∀ b ∈ A', b ∈ F1 i ∨ b ∈ B := fun b hb => by
    rcases t4 b hb with z | z
    · exact .inl z
    · rcases List.mem_cons.mp z with rfl | z
      · exact .inl pF
      · rcases List.mem_append.mp z with z | z
        · exact .inl (n3 b (by simp [z]))
        · rcases List.mem_append.mp z with z | z
          · exact .inr z
          · exact .inl (n3 b (by simp [z]))
  have pG : Gw F1 G3 p = none := f1.out i p pF
  have pl : (vs.set m u).length ≤ 16777216 := by rw [List.length_set]; exact e1.ln p _ hp
  have pO : ∀ j, p ∉ put F1 i [] j := fun j hj => by
    by_cases z : j = i
    · subst z; rw [put_same] at hj; cases hj
    · rw [put_ne z] at hj; exact z (f1.dis j i p hj pF)
  have e5 : En K σ (ρ1.set i .un) (put F1 i []) (Gw F1 G3) (upd H3 p (.lst (vs.set m u))) := by
    refine e4.upto (Same.refl _) (fun j b hb o q => ?_) (fun b o q => ?_) e4.out (ln_upd e4.ln pl) e4.fz
    · rw [upd_ne (fun z => by subst z; exact pO j hb)]; exact q
    · rw [upd_ne (fun z => by rw [z, pG] at q; cases q)]; exact e4.same b o q
  have r5 : Res K F G H (put F1 i []) (Gw F1 G3) (upd H3 p (.lst (vs.set m u))) (n + (q + 1)) A' v' D1 := by
    refine ⟨t2, t3, fun a ha => ?_, fun a ha j hj => ?_, fun a ha => ?_⟩
    · rcases inA a ha with z | z
      · exact f1.out i a z
      · exact r1'.out a z
    · by_cases y : j = i
      · subst y; rw [put_same] at hj; cases hj
      · rw [put_ne y] at hj
        rcases inA a ha with z | z
        · exact y (f1.dis j i a hj z)
        · exact r1'.dis a z j hj
    · rcases inA a ha with z | z
      · exact s13.nf i a z
      · exact r1'.new a z
  have s5 : Stp F G H (put F1 i []) (Gw F1 G3) (upd H3 p (.lst (vs.set m u))) := by
    have s6 := s13.trans s4
    refine ⟨s6.g, fun b o nb q => ?_, s6.nf, s6.ng, fun b hb => ?_⟩
    · have hbp : b ≠ p := fun z => by
        subst z
        rcases s13.nf i b pF with ⟨j, hj⟩ | hn
        · exact nb j hj
        · rw [hn] at q; cases q
      rw [upd_ne hbp]; exact s6.h b o nb q
    · by_cases z : b = p
      · rw [z, upd_same]; simp
      · rw [upd_ne z]; exact s6.th b hb
  have e6 := e5.set (i := i) (c := .ow (n + (q + 1)) D1) r5 (.inr (.inr rfl))
  have s7 := Stp.put (i := i) s5 r5
  rw [set_self hv0, List.set_set] at e6
  exact ⟨_, rfl, rfl, kp _ _ hp, hix, e6, s7⟩
/-- STORE at a path -/
theorem ap_stp {e b : Expr} {i n q : Nat} {x : Str} {l : List (Expr × Pos)} {T Tb : TrE} {Tp : TrPa} {px pb pos : Pos} (h : AE c sc W e q T) (hp : APa c sc W l n Tp) (hb : AE c sc W b 0 Tb) (hi : c.N[i]? = some x) (hv : Vis sc x) (hd : (x == ("__debug__" : Str)) = false) (hcd : (x == ("__classdict__" : Str)) = false)
    (hs : ∀ o p l env, swapsWithSole [.Subscript o b p] e l env = pure false) (hw : ∀ o p env, swappedStores [.Subscript o b p] e env = pure none)
    (ha : ∀ (o : Expr) env v, assign (.Subscript o b pb) env v = (do
      let ov ← holding [v] (eval o env)
      let iv ← holding [v, ov] (eval b env)
      standAt pb
      holding [v, ov, iv] (setItem ov iv v)
      release [v, ov, iv] [])) :
    AP c sc W P rk (.Assign [.Subscript (mkPath (.Name x px) l) b pb] e pos) (fun κ ρ => T ρ (fun ρ1 d => ∃ D0, getC ρ1 i = .ow (n + (q + 1)) D0 ∧ Tp D0 [] (lent ρ1) fun ρ2 is => Tb ρ2 (fun _ y => ∃ D1, pset D0 (is ++ [y]) d = some D1 ∧ κ.nx (ρ1.set i (.ow (n + (q + 1)) D1))) xNo) κ.xc) := by
  obtain ⟨t, pt, s⟩ := h
  obtain ⟨tbs, pbs, sp⟩ := hp
  obtain ⟨tb, ptb, sb⟩ := hb
  refine ⟨tAsg t (gSub (fun σ H Q => tVar i σ H fun v H1 => walkI c.K tbs v σ H1 Q) tb rSetL), fun X hX => ?_, fun κ ρ σ F G H D e0 hT k => ?_⟩
  · have pth := pe_path (pbs X hX.is.is) (pe_var (pos := px) (hX.is.is.ix hi) (hX.is.is.vis hv) hd hcd)
    rw [hX.is.is.K] at pth
    exact ps_asg (pt X hX.is.is) (pg_sub pth (ptb X hX.is.is) set_list (ha _ _)) (hs _ _ _ _) (hw _ _ _) (by rfl)
  · refine s ρ _ κ.xc σ F G H _ e0 hT (fun ρ1 d u B F1 G1 H1 q1 e1 r1 s1 => ?_) k.toX
    obtain ⟨D0, hc, q1⟩ := q1
    obtain ⟨v, hv0, ho⟩ : ∃ v, σ[i]? = some (some v) ∧ Ow c.K G1 H1 (n + (q + 1)) (F1 i) v D0 := e1.cell i _ (getC_some hc (by simp))
    refine ⟨v, hv0, ?_⟩
    refine sp D0 D0 [] v v (lent ρ1) _ σ F1 (Gv F1 G1 H1) H1 foot0 (Gv F1 G1 H1) H1 _ G1 (F1 i) (q + 1) ho (fun _ _ h => h) (fun _ _ h => h) e1.lent (.refl _ _ _) q1 (fun ρ2 is w es B2 F2 G2 H2 q2 hg hl hn hw e2 s2 => ?_)
    refine sb ρ2 _ xNo σ F2 G2 H2 _ e2 q2 (fun ρ3 y z B3 F3 G3 H3 q3 e3 r3 s3 => ?_) xc_noW
    obtain ⟨D1, hset, q3⟩ := q3
    have r1' : Res c.K F G H F1 (Gw F1 G3) H3 q B u d := r1.stp (e1.unlent e3 (s2.trans s3)).2.1
    obtain ⟨p, vs, j, m, F4, rfl, rfl, a1, a2, a3, a4⟩ := store_core e1 s1 hc hv0 (by rw [hl]; simp) hg hn e3 (s2.trans s3) r1' hset
    cases r3.dp
    exact ⟨p, vs, j, m, rfl, rfl, a1, a2, k.nx σ _ _ _ _ q3 a3 a4 Kp.refl⟩
theorem get_list {X : Cx} : PGet X (fun o i H Q => ∃ p xs j w, o = .ref p ∧ i = .int j ∧ 0 ≤ j ∧ SqL X.K H p xs ∧ atI xs j = some w ∧ Q w H) := by
  intro pins s σ H o i ov iv Q I ro ri h
  obtain ⟨p, xs, j, w, rfl, rfl, hj, hq, hw, q⟩ := h
  cases ro
  obtain ⟨t, rfl⟩ := ri
  obtain ⟨its, r, pl, hz⟩ := I.list hq
  obtain ⟨m, g1, g2, g3, g4, g5⟩ := L2.atI_get hw
  obtain ⟨z, ez, rz⟩ := r.get g2
  have hl := r.length
  have hn := line63
  have hm : j.toNat = m := by
    rw [seqIndex_of hj g5] at g1
    exact Option.some.inj g1
  exact PySem.wpAny_getItem_list pl.isList hj (by omega) (by rw [hm]; simpa using ez) ⟨w, H, I, rz, q⟩
theorem pget_snoc : ∀ (is : List D) (d e : D) (i : D), pget d (is ++ [i]) = some e → ∃ es j m, pget d is = some (.list es) ∧ i = .int j ∧ ixN es.length j = some m ∧ es[m]? = some e
  | [], d, e, i, h => by
    rw [List.nil_append] at h
    cases d <;> first | (simp [pget] at h; done) | skip
    cases i <;> first | (simp [pget] at h; done) | skip
    rename_i ds j
    simp only [pget] at h
    cases q : ixN ds.length j with
    | none => rw [q] at h; cases h
    | some m =>
      rw [q] at h
      dsimp only at h
      cases q2 : ds[m]? with
      | none => rw [q2] at h; cases h
      | some y => rw [q2] at h; cases h; exact ⟨ds, j, m, rfl, rfl, q, q2⟩
  | a :: is, d, e, i, h => by
    rw [List.cons_append] at h
    cases d <;> first | (simp [pget] at h; done) | skip
    cases a <;> first | (simp [pget] at h; done) | skip
    rename_i ds j
    simp only [pget] at h
    cases q : ixN ds.length j with
    | none => rw [q] at h; cases h
    | some m =>
      rw [q] at h
      dsimp only at h
      cases q2 : ds[m]? with
      | none => rw [q2] at h; cases h
      | some y =>
        rw [q2] at h
        obtain ⟨es, j2, m2, h1, h2, h3, h4⟩ := pget_snoc is y e i h
        exact ⟨es, j2, m2, by simp only [pget, q, q2]; exact h1, h2, h3, h4⟩
def okAug : Operator → Bool
  | .Add | .Sub => true
  | _ => false
theorem ip_aug {X : Cx} {o : Operator} (ho : okAug o = true) : PIp X o (fun x y H Q => ∃ i j z, x = .int i ∧ y = .int j ∧ augI o i j = some z ∧ Q (.int z) H) := by
  cases o <;> first | (cases ho; done) | skip
  · exact fun pins s σ H x y v u Q I r1 r2 ⟨i, j, z, h1, h2, h3, q⟩ => by cases h3; exact ip_add pins s σ H x y v u Q I r1 r2 ⟨i, j, h1, h2, q⟩
  · exact fun pins s σ H x y v u Q I r1 r2 ⟨i, j, z, h1, h2, h3, q⟩ => by cases h3; exact ip_sub pins s σ H x y v u Q I r1 r2 ⟨i, j, h1, h2, q⟩
theorem unl_int {K : PySem.W.Frag} {F F1 : Foot} {G H G' H' : Hp} {k : Nat} (z : Int) : Res K F G H F1 G' H' k [] (.int z) (.int z) := ⟨by cases k; exact .frz (.int z); exact .flt rfl (.int z), .nil, (fun _ h => nomatch h), (fun _ h => nomatch h), (fun _ h => nomatch h)⟩
/-- a whole number at a path changed -/
theorem ap_aug {e b : Expr} {i n : Nat} {o : Operator} {x : Str} {l : List (Expr × Pos)} {T Tb : TrE} {Tp : TrPa} {px pb pos : Pos} (h : AE c sc W e 0 T) (hp : APa c sc W l n Tp) (hb : AE c sc W b 0 Tb) (hi : c.N[i]? = some x) (hv : Vis sc x) (hd : (x == ("__debug__" : Str)) = false) (hcd : (x == ("__classdict__" : Str)) = false) (ho : okAug o = true)
    (ha : ∀ ov iv new, augStore b ov iv new = (do holding [new, ov, iv] (setItem ov iv new); release [new, ov, iv] []; pure .next)) :
    AP c sc W P rk (.AugAssign (.Subscript (mkPath (.Name x px) l) b pb) o e pos) (fun κ ρ => ∃ D0, getC ρ i = .ow (n + 1) D0 ∧ Tp D0 [] (lent ρ) fun ρ2 is => Tb ρ2 (fun ρ3 y => (∃ j, y = .int j ∧ 0 ≤ j) ∧ ∃ a, pget D0 (is ++ [y]) = some (.int a) ∧ T ρ3 (fun _ w => ∃ b z D1, w = .int b ∧ augI o a b = some z ∧ pset D0 (is ++ [y]) (.int z) = some D1 ∧ κ.nx (ρ.set i (.ow (n + 1) D1))) xNo) xNo) := by
  obtain ⟨t, pt, s⟩ := h
  obtain ⟨tbs, pbs, sp⟩ := hp
  obtain ⟨tb, ptb, sb⟩ := hb
  refine ⟨tAugS (fun σ H Q => tVar i σ H fun v H1 => walkI c.K tbs v σ H1 Q) tb t (fun o i H Q => ∃ p xs j w, o = .ref p ∧ i = .int j ∧ 0 ≤ j ∧ SqL c.K H p xs ∧ atI xs j = some w ∧ Q w H) (fun x y H Q => ∃ i j z, x = .int i ∧ y = .int j ∧ augI o i j = some z ∧ Q (.int z) H) rSetL, fun X hX => ?_, fun κ ρ σ F G H D e0 hT k => ?_⟩
  · have pth := pe_path (pbs X hX.is.is) (pe_var (pos := px) (hX.is.is.ix hi) (hX.is.is.vis hv) hd hcd)
    rw [hX.is.is.K] at pth
    have gl := get_list (X := X)
    rw [hX.is.is.K] at gl
    exact ps_augS pth (ptb X hX.is.is) gl (pt X hX.is.is) (ip_aug ho) set_list ha
  · obtain ⟨D0, hc, q1⟩ := hT
    obtain ⟨v, hv0, hown⟩ : ∃ v, σ[i]? = some (some v) ∧ Ow c.K G H (n + 1) (F i) v D0 := e0.cell i _ (getC_some hc (by simp))
    refine ⟨v, hv0, ?_⟩
    refine sp D0 D0 [] v v (lent ρ) _ σ F (Gv F G H) H foot0 (Gv F G H) H _ G (F i) 1 hown (fun _ _ h => h) (fun _ _ h => h) e0.lent (.refl _ _ _) q1 (fun ρ2 is w es B2 F2 G2 H2 q2 hg hl hn hw e2 s2 => ?_)
    refine sb ρ2 _ xNo σ F2 G2 H2 _ e2 q2 (fun ρ3 y z B3 F3 G3 H3 q3 e3 r3 s3 => ?_) xc_noW
    obtain ⟨⟨j, rfl, hj0⟩, a, hga, q3⟩ := q3
    obtain ⟨ds, j', m, g1, g2, g3, g4⟩ := pget_snoc is D0 _ _ hga
    cases g2
    rw [hg] at g1
    cases g1
    cases r3.dp
    obtain ⟨p, vs, A0, rfl, rfl, hp, hr⟩ : ∃ p vs A0, w = .ref p ∧ B2 = p :: A0 ∧ H p = some (.lst vs) ∧ Ows c.K G H 0 A0 vs ds := by
      generalize hz : PyData.list ds = z at hw
      cases hw with
      | flt f _ => subst hz; cases f
      | lst h r => cases hz; exact ⟨_, _, _, rfl, rfl, h, r⟩
    have kp3 : ∀ b o, H b = some o → H3 b = some o := fun b o q => (s2.trans s3).h b o (fun _ h => nomatch h) q
    obtain ⟨_, hdp⟩ := Ows.to_frz hr
    have hvl := DpAll.length hdp
    obtain ⟨w0, w1, w2⟩ := DpAll.get hdp g4
    cases w2
    refine ⟨p, vs, j, .int a, rfl, rfl, hj0, .inl (.inl (kp3 _ _ hp)), by unfold atI; rw [hvl, g3]; exact w1, ?_⟩
    refine s ρ3 _ xNo σ F3 G3 H3 _ e3 q3 (fun ρ4 w4 z4 B4 F4 G4 H4 q4 e4 r4 s4 => ?_) xc_noW
    obtain ⟨b', z', D1, rfl, h1, hset, q4⟩ := q4
    cases r4.dp
    refine ⟨a, b', z', rfl, rfl, h1, ?_⟩
    have s24 := s2.trans (s3.trans s4)
    obtain ⟨p', vs', j', m', F5, a0, a01, a1, a2, a3, a4⟩ := store_core (n := n) (q := 0) e0 (.refl F G H) hc hv0 (by rw [hl]; simp) hg hn e4 s24 (unl_int z') hset
    cases a0
    cases a01
    exact ⟨p, vs', j, m', rfl, rfl, a1, a2, k.nx σ _ _ _ _ q4 a3 a4 Kp.refl⟩
end Q

namespace Q
open PySem PySem.Spec PyProof.Rows L2
variable {c : Ctx} {sc so : Scope} {W : WX} {Γ : List Ent} {bl : Bl} {P : List Nat} {rk : Nat}

/-! ### a loop over an owned list, its items lent one by one -/
theorem Ows.cut {K : PySem.W.Frag} {G H : Hp} {k : Nat} {post : List D} {d : D} : ∀ {pre : List D} {vs : List V} {A : List Addr}, Ows K G H k A vs (pre ++ d :: post) →
    ∃ A1 Am A2 vs1 v vs2, A = A1 ++ (Am ++ A2) ∧ vs = vs1 ++ v :: vs2 ∧ vs1.length = pre.length ∧ Ows K G H k A1 vs1 pre ∧ Ow K G H k Am v d ∧ Ows K G H k A2 vs2 post
  | [], _, _, .cons (A := A) (B := B) (v := v) (vs := vs) h r => ⟨[], A, B, [], v, vs, rfl, rfl, rfl, .nil, h, r⟩
  | e :: pre, _, _, .cons (A := A) (v := v) h r => by
    obtain ⟨A1, Am, A2, vs1, w, vs2, h1, h2, h3, h4, h5, h6⟩ := Ows.cut (pre := pre) r
    exact ⟨A ++ A1, Am, A2, v :: vs1, w, vs2, by rw [h1, List.append_assoc], by rw [h2]; rfl, by simp [h3], .cons h h4, h5, h6⟩
theorem En.borrow {K : PySem.W.Frag} {σ : Sg} {ρ : Env} {F : Foot} {G H : Hp} {i x k : Nat} {pre post : List D} {d : D} (e : En K σ ρ F G H) (hc : ρ[i]? = some (.ow (k + 1) (.list (pre ++ d :: post)))) (hne : x ≠ i) :
    ∃ a vs v F', σ[i]? = some (some (.ref a)) ∧ H a = some (.lst vs) ∧ vs[pre.length]? = some v ∧ vs.length = (pre ++ d :: post).length ∧ En K (σ.set x (some v)) ((ρ.set i (.hol k v pre post)).set x (.ow k d)) F' G H ∧ Stp F G H F' G H := by
  obtain ⟨a, A, vs, h1, h2, h3, h4⟩ := e.owned (i := i) (k := k) (ds := pre ++ d :: post) (by unfold getC; rw [List.getD_eq_getElem?_getD, hc]; rfl)
  have hlen := Ows.length h4
  obtain ⟨A1, Am, A2, vs1, v, vs2, rfl, rfl, g3, g4, g5, g6⟩ := h4.cut
  have nd := e.nod i
  rw [h2] at nd
  have na := (List.nodup_cons.mp nd).1
  obtain ⟨n1, n2, n3⟩ := List.nodup_append.mp (List.nodup_cons.mp nd).2
  obtain ⟨n4, n5, n6⟩ := List.nodup_append.mp n2
  let F' : Foot := fun j => if j = x then Am else if j = i then a :: (A1 ++ A2) else F j
  have fx : F' x = Am := if_pos rfl
  have fi : F' i = a :: (A1 ++ A2) := by show (if i = x then Am else if i = i then _ else _) = _; rw [if_neg (Ne.symm hne), if_pos rfl]
  have fo : ∀ j, j ≠ x → j ≠ i → F' j = F j := fun j h1 h2 => by show (if j = x then Am else if j = i then _ else _) = _; rw [if_neg h1, if_neg h2]
  have mem : ∀ j b, b ∈ F' j → (j = x ∧ b ∈ Am) ∨ (j = i ∧ b ∈ a :: (A1 ++ A2)) ∨ (j ≠ x ∧ j ≠ i ∧ b ∈ F j) := fun j b hb => by
    by_cases q : j = x
    · subst q; rw [fx] at hb; exact .inl ⟨rfl, hb⟩
    · by_cases q2 : j = i
      · subst q2; rw [fi] at hb; exact .inr (.inl ⟨rfl, hb⟩)
      · rw [fo j q q2] at hb; exact .inr (.inr ⟨q, q2, hb⟩)
  have sub : ∀ j b, b ∈ F' j → ∃ l, b ∈ F l := fun j b hb => by
    rcases mem j b hb with ⟨_, h⟩ | ⟨_, h⟩ | ⟨_, _, h⟩
    · exact ⟨i, by rw [h2]; simp [h]⟩
    · refine ⟨i, ?_⟩
      rw [h2]
      rcases List.mem_cons.mp h with rfl | h
      · simp
      · rcases List.mem_append.mp h with h | h <;> simp [h]
    · exact ⟨j, h⟩
  have apart : ∀ b, b ∈ Am → b ∉ a :: (A1 ++ A2) := fun b hb z => by
    rcases List.mem_cons.mp z with rfl | z
    · exact na (by simp [hb])
    · rcases List.mem_append.mp z with z | z
      · exact n3 b z b (by simp [hb]) rfl
      · exact n6 b hb b z rfl
  have inI : ∀ b, b ∈ Am ∨ b ∈ a :: (A1 ++ A2) → b ∈ F i := fun b hb => by
    rw [h2]
    rcases hb with hb | hb
    · simp [hb]
    · rcases List.mem_cons.mp hb with rfl | hb
      · simp
      · rcases List.mem_append.mp hb with hb | hb <;> simp [hb]
  refine ⟨a, _, v, F', h1, h3, by rw [← g3]; simp, hlen, ⟨e.same, by simp [e.len], fun j cl hj => ?_, fun j => ?_, fun j l b hj hl => ?_, fun j b hj => ?_, fun j b hj => ?_, e.ln, e.fz⟩, ⟨Same.refl _, fun b o _ q => q, fun j b hb => .inl (sub j b hb), fun b hb hs => absurd hb hs, fun _ q => q⟩⟩
  · by_cases q : x = j
    · subst q
      have hl : x < (ρ.set i (.hol k v pre post)).length := by
        have := (List.getElem?_eq_some_iff.mp hj).1
        simpa using this
      rw [List.getElem?_set_self hl] at hj
      cases hj
      have hs : (σ.set x (some v))[x]? = some (some v) := List.getElem?_set_self (by rw [← e.len]; simpa using hl)
      rw [hs, fx]
      exact ⟨v, rfl, g5⟩
    · rw [List.getElem?_set_ne q] at hj
      rw [List.getElem?_set_ne q]
      by_cases q2 : i = j
      · subst q2
        have hl : i < ρ.length := (List.getElem?_eq_some_iff.mp hc).1
        rw [List.getElem?_set_self hl] at hj
        cases hj
        rw [fi]
        exact ⟨a, vs1, vs2, A1, A2, h1, h3, rfl, g4, g6⟩
      · rw [List.getElem?_set_ne q2] at hj
        rw [fo j (Ne.symm q) (Ne.symm q2)]
        exact e.cell j cl hj
  · by_cases q : j = x
    · subst q; rw [fx]; exact n4
    · by_cases q2 : j = i
      · subst q2
        rw [fi]
        exact List.nodup_cons.mpr ⟨fun z => na (by rcases List.mem_append.mp z with z | z <;> simp [z]), List.nodup_append.mpr ⟨n1, n5, fun y hy w hw => n3 y hy w (by simp [hw])⟩⟩
      · rw [fo j q q2]; exact e.nod j
  · rcases mem j b hj with ⟨rfl, h⟩ | ⟨rfl, h⟩ | ⟨q1, q2, h⟩
    · rcases mem l b hl with ⟨rfl, g⟩ | ⟨rfl, g⟩ | ⟨_, q, g⟩
      · rfl
      · exact absurd g (apart b h)
      · exact absurd (e.dis l i b g (inI b (.inl h))) q
    · rcases mem l b hl with ⟨rfl, g⟩ | ⟨rfl, g⟩ | ⟨_, q, g⟩
      · exact absurd h (apart b g)
      · rfl
      · exact absurd (e.dis l j b g (inI b (.inr h))) q
    · rcases mem l b hl with ⟨rfl, g⟩ | ⟨rfl, g⟩ | ⟨_, q, g⟩
      · exact absurd (e.dis j i b h (inI b (.inl g))) q2
      · exact absurd (e.dis j l b h (inI b (.inr g))) q2
      · exact e.dis j l b h g
  · obtain ⟨l, hl⟩ := sub j b hj; exact e.out l b hl
  · obtain ⟨l, hl⟩ := sub j b hj; exact e.th l b hl
theorem Res.sub {K : PySem.W.Frag} {F F' F'' : Foot} {G H G' H' : Hp} {k : Nat} {A : List Addr} {v : V} {d : D} (r : Res K F G H F' G' H' k A v d) (h : ∀ j b, b ∈ F'' j → ∃ l, b ∈ F' l) : Res K F G H F'' G' H' k A v d :=
  ⟨r.ow, r.nod, r.out, fun a ha i hi => by obtain ⟨l, hl⟩ := h i a hi; exact r.dis a ha l hl, r.new⟩
theorem En.unborrow {K : PySem.W.Frag} {σ : Sg} {ρ : Env} {F : Foot} {G H : Hp} {i x k : Nat} {pre post : List D} {d : D} {v : V} (e : En K σ ρ F G H) (hi : getC ρ i = .hol k v pre post) (hx : getC ρ x = .ow k d) (hv : σ[x]? = some (some v)) :
    ∃ F', En K σ ((ρ.set x .un).set i (.ow (k + 1) (.list (pre ++ d :: post)))) F' G H ∧ Stp F G H F' G H ∧ ∀ j b, b ∈ F' j → ∃ l, b ∈ F l := by
  have hne : x ≠ i := fun z => by rw [z, hi] at hx; cases hx
  obtain ⟨p, vs, ws, A1, A2, h1, h2, h3, h4, h5⟩ : ∃ (p : Addr) (vs ws : List V) (A1 A2 : List Addr), σ[i]? = some (some (.ref p)) ∧ H p = some (.lst (vs ++ v :: ws)) ∧ F i = p :: (A1 ++ A2) ∧ Ows K G H k A1 vs pre ∧ Ows K G H k A2 ws post := e.cell i _ (getC_some hi (by simp))
  obtain ⟨v', g1, g2⟩ : ∃ v, σ[x]? = some (some v) ∧ Ow K G H k (F x) v d := e.cell x _ (getC_some hx (by simp))
  obtain rfl : v' = v := by rw [hv] at g1; cases g1; rfl
  let F' : Foot := fun j => if j = i then p :: (A1 ++ (F x ++ A2)) else if j = x then [] else F j
  have fi : F' i = p :: (A1 ++ (F x ++ A2)) := if_pos rfl
  have fx : F' x = [] := by show (if x = i then _ else if x = x then _ else _) = _; rw [if_neg hne, if_pos rfl]
  have fo : ∀ j, j ≠ i → j ≠ x → F' j = F j := fun j h1 h2 => by show (if j = i then _ else if j = x then _ else _) = _; rw [if_neg h1, if_neg h2]
  have mi : ∀ b, b ∈ p :: (A1 ++ (F x ++ A2)) → b ∈ F i ∨ b ∈ F x := fun b hb => by
    rw [h3]
    rcases List.mem_cons.mp hb with rfl | hb
    · exact .inl (by simp)
    · rcases List.mem_append.mp hb with hb | hb
      · exact .inl (by simp [hb])
      · rcases List.mem_append.mp hb with hb | hb
        · exact .inr hb
        · exact .inl (by simp [hb])
  have mem : ∀ j b, b ∈ F' j → (j = i ∧ (b ∈ F i ∨ b ∈ F x)) ∨ (j ≠ i ∧ j ≠ x ∧ b ∈ F j) := fun j b hb => by
    by_cases q : j = i
    · subst q; rw [fi] at hb; exact .inl ⟨rfl, mi b hb⟩
    · by_cases q2 : j = x
      · subst q2; rw [fx] at hb; cases hb
      · rw [fo j q q2] at hb; exact .inr ⟨q, q2, hb⟩
  have sub : ∀ j b, b ∈ F' j → ∃ l, b ∈ F l := fun j b hb => by
    rcases mem j b hb with ⟨_, h | h⟩ | ⟨_, _, h⟩
    · exact ⟨i, h⟩
    · exact ⟨x, h⟩
    · exact ⟨j, h⟩
  have ndi := e.nod i
  rw [h3] at ndi
  have na := (List.nodup_cons.mp ndi).1
  obtain ⟨n1, n2, n3⟩ := List.nodup_append.mp (List.nodup_cons.mp ndi).2
  have xi : ∀ b, b ∈ F x → b ∉ F i := fun b hb z => hne (e.dis x i b hb z)
  refine ⟨F', ⟨e.same, by simp [e.len], fun j cl hj => ?_, fun j => ?_, fun j l b hj hl => ?_, fun j b hj => ?_, fun j b hj => ?_, e.ln, e.fz⟩, ⟨Same.refl _, fun b o _ q => q, fun j b hb => .inl (sub j b hb), fun b hb hs => absurd hb hs, fun _ q => q⟩, sub⟩
  · by_cases q : i = j
    · subst q
      have hl : i < (ρ.set x .un).length := by
        have := (List.getElem?_eq_some_iff.mp hj).1
        simpa using this
      rw [List.getElem?_set_self hl] at hj
      cases hj
      rw [fi]
      refine ⟨.ref p, h1, .lst h2 (Ows.append h4 (.cons g2 h5))⟩
    · rw [List.getElem?_set_ne q] at hj
      by_cases q2 : x = j
      · subst q2
        have hl : x < ρ.length := by
          have := (List.getElem?_eq_some_iff.mp hj).1
          simpa using this
        rw [List.getElem?_set_self hl] at hj
        cases hj
        exact True.intro
      · rw [List.getElem?_set_ne q2] at hj
        rw [fo j (Ne.symm q) (Ne.symm q2)]
        exact e.cell j cl hj
  · by_cases q : j = i
    · subst q
      rw [fi]
      refine List.nodup_cons.mpr ⟨fun z => ?_, List.nodup_append.mpr ⟨n1, List.nodup_append.mpr ⟨e.nod x, n2, fun y hy w hw z => ?_⟩, fun y hy w hw z => ?_⟩⟩
      · rcases List.mem_append.mp z with z | z
        · exact na (by simp [z])
        · rcases List.mem_append.mp z with z | z
          · exact xi p z (by rw [h3]; simp)
          · exact na (by simp [z])
      · subst z; exact xi y hy (by rw [h3]; simp [hw])
      · subst z
        rcases List.mem_append.mp hw with hw | hw
        · exact xi y hw (by rw [h3]; simp [hy])
        · exact n3 y hy y hw rfl
    · by_cases q2 : j = x
      · subst q2; rw [fx]; exact .nil
      · rw [fo j q q2]; exact e.nod j
  · rcases mem j b hj with ⟨rfl, h⟩ | ⟨q1, q2, h⟩
    · rcases mem l b hl with ⟨rfl, g⟩ | ⟨q3, q4, g⟩
      · rfl
      · rcases h with h | h
        · exact absurd (e.dis l j b g h) q3
        · exact absurd (e.dis l x b g h) q4
    · rcases mem l b hl with ⟨rfl, g⟩ | ⟨q3, q4, g⟩
      · rcases g with g | g
        · exact absurd (e.dis j l b h g) q1
        · exact absurd (e.dis j x b h g) q2
      · exact e.dis j l b h g
  · obtain ⟨l, hl⟩ := sub j b hj; exact e.out l b hl
  · obtain ⟨l, hl⟩ := sub j b hj; exact e.th l b hl
theorem ap_forb {x i : Nat} {y z : Str} {body : List Stmt} {Tb : TrS} {py px pos : Pos} (hN : c.N.Nodup) (hx : c.N[x]? = some z) (hi : c.N[i]? = some y) (hlz : LocS sc z) (hv : Vis sc y) (hd : (y == ("__debug__" : Str)) = false) (hcd : (y == ("__classdict__" : Str)) = false) (hne : x ≠ i) (hP : x ∉ P) (hb : APs c sc W (x :: i :: P) rk body Tb) :
    AP c sc W P rk (.For (.Name z px) (.Name y py) body [] pos) (fun κ ρ => ∃ k ds, getC ρ i = .ow (k + 2) (.list ds) ∧ forbW none x i (k + 1) κ Tb [] ds ρ) := by
  obtain ⟨tb, pb, sb⟩ := hb
  refine ⟨tFor (iList c.K (tVar i)) (gName x) tb, fun X hX => ?_, fun κ ρ σ F G H D e0 hT k => ?_⟩
  · have pl := pi_list (tg := .Name z px) (pe_var (pos := py) (hX.is.is.ix hi) (hX.is.is.vis hv) hd hcd)
    rw [hX.is.is.K] at pl
    exact ps_for hX.hp hX.is.is.calm pl (pg_name (by rw [hX.is.is.N]; exact hN) (hX.is.is.ix hx) (hX.is.st z hlz).1 (hX.is.st z hlz).2) (pb X hX) (fun _ => rfl)
  · obtain ⟨k0, ds0, hc0, hw0⟩ := hT
    obtain ⟨a, A0, vs0, h1, h2, h3, h4⟩ := e0.owned hc0
    refine ⟨.ref a, h1, a, rfl, ⟨vs0, .inl (.inl h3)⟩, ?_⟩
    obtain ⟨Nx, hNx⟩ : ∃ Nx : Nat → Sg → Hp → Prop, Nx = fun n σ' H' => ∃ pre post ρ' F' G', pre.length = n ∧ pre.length + post.length = ds0.length ∧ getC ρ' i = .ow (k0 + 2) (.list (pre ++ post)) ∧ forbW none x i (k0 + 1) κ Tb pre post ρ' ∧ En c.K σ' ρ' F' G' H' ∧ Stp F G H F' G' H' ∧ Kp P σ σ' ∧ σ'[i]? = σ[i]? := ⟨_, rfl⟩
    refine ⟨fun n m σ' H' => m = ds0.length - n ∧ Nx n σ' H', ⟨ds0.length, by simp, by rw [hNx]; exact ⟨[], ds0, ρ, F, G, rfl, by simp, hc0, hw0, e0, .refl _ _ _, Kp.refl, rfl⟩⟩, ?_⟩
    rintro n m σ1 H1 ⟨rfl, hh⟩
    rw [hNx] at hh
    obtain ⟨pre, post, ρ1, F1, G1, hl, hlen, hc, hw, e1, s1, p1, hσ⟩ := hh
    obtain ⟨a1, A1, vs1, g1, g2, g3, g4⟩ := e1.owned hc
    have ea : a1 = a := by rw [hσ, h1] at g1; cases g1; rfl
    subst ea
    have hvl := Ows.length g4
    cases post with
    | nil =>
      rw [forbW_n] at hw
      refine .inl ⟨⟨vs1, .inl (.inl g3), ?_⟩, k.nx σ1 ρ1 F1 G1 H1 hw e1 s1 p1⟩
      rw [hvl, List.append_nil]; omega
    | cons d post =>
      have hci := getC_some hc (by simp)
      obtain ⟨a2, vs2, v, F2, b1, b2, b3, b4, e2, s2⟩ := e1.borrow (x := x) hci hne
      have ea : a2 = a1 := by rw [g1] at b1; cases b1; rfl
      subst ea
      refine .inr ⟨⟨vs2, v, .inl (.inl b2), by rw [← hl]; exact b3⟩, Nx (n + 1), fun σ' H' q => ⟨ds0.length - (n + 1), by simp at hlen; omega, rfl, q⟩, fun y H' hy => ?_⟩
      obtain ⟨rfl, hy⟩ := hy
      have hyv : y = v := by
        have := hy vs2 (.inl (.inl b2))
        rw [← hl, b3] at this
        cases this; rfl
      subst hyv
      rw [forbW_c] at hw
      replace hw := hw y
      have key : Kp P σ1 (σ1.set x (some y)) := Kp.set hP
      have k2 := k.stp (s1.trans s2) (p1.trans key)
      have hxl : x < ρ1.length ∨ ¬ x < ρ1.length := Nat.lt_or_ge x ρ1.length |>.imp id Nat.not_lt.mpr
      have back : ∀ (Q : List PyData → Env → Prop) (ρ5 : Env) (σ5 : Sg) (F5 : Foot) (G5 H5 : Hp), pbW x i (k0 + 1) y pre post Q ρ5 → En c.K σ5 ρ5 F5 G5 H5 → Kp (x :: i :: P) (σ1.set x (some y)) σ5 →
          ∃ d' F6, Q (pre ++ [d']) ((ρ5.set x .un).set i (.ow (k0 + 2) (.list (pre ++ d' :: post)))) ∧ getC ((ρ5.set x .un).set i (.ow (k0 + 2) (.list (pre ++ d' :: post)))) i = .ow (k0 + 2) (.list ((pre ++ [d']) ++ post)) ∧ En c.K σ5 ((ρ5.set x .un).set i (.ow (k0 + 2) (.list (pre ++ d' :: post)))) F6 G5 H5 ∧ Stp F5 G5 H5 F6 G5 H5 ∧ (∀ j b, b ∈ F6 j → ∃ l, b ∈ F5 l) ∧ Kp P (σ1.set x (some y)) σ5 ∧ σ5[i]? = σ1[i]? := fun Q ρ5 σ5 F5 G5 H5 q5 e5 p5 => by
        obtain ⟨d', c1, c2, c3⟩ := q5
        have hxl5 := (List.getElem?_eq_some_iff.mp (getC_some c2 (by simp))).1
        have hsx : σ5[x]? = some (some y) := by
          have := p5 x (by simp)
          rw [this]
          refine List.getElem?_set_self ?_
          have z := e5.len
          have z2 : x < σ5.length := by rw [← z]; exact hxl5
          have z3 : σ5[x]? = some σ5[x] := List.getElem?_eq_getElem z2
          rw [this] at z3
          have := (List.getElem?_eq_some_iff.mp z3).1
          simpa using this
        obtain ⟨F6, e6, s6, sb6⟩ := e5.unborrow c1 c2 hsx
        have hil := (List.getElem?_eq_some_iff.mp (getC_some c1 (by simp))).1
        refine ⟨d', F6, c3, ?_, e6, s6, sb6, fun j hj => p5 j (by simp [hj]), ?_⟩
        · unfold getC
          rw [List.getD_eq_getElem?_getD, List.getElem?_set_self (by simpa using hil)]
          simp
        · rw [p5 i (by simp), List.getElem?_set_ne hne]
      have nxt : ∀ (ρ5 : Env) (σ5 : Sg) (F5 : Foot) (G5 H5 : Hp), pbW x i (k0 + 1) y pre post (fun pre' ρ1 => forbW none x i (k0 + 1) κ Tb pre' post ρ1) ρ5 → En c.K σ5 ρ5 F5 G5 H5 → Stp F2 G1 H' F5 G5 H5 → Kp (x :: i :: P) (σ1.set x (some y)) σ5 → Nx (n + 1) σ5 H5 := fun ρ5 σ5 F5 G5 H5 q5 e5 s5 p5 => by
        obtain ⟨d', F6, c3, c4, e6, s6, _, p6, hs6⟩ := back _ ρ5 σ5 F5 G5 H5 q5 e5 p5
        rw [hNx]
        exact ⟨pre ++ [d'], post, _, F6, G5, by simp [hl], by simp at hlen ⊢; omega, c4, c3, e6, (s1.trans s2).trans (s5.trans s6), (p1.trans key).trans p6, hs6.trans hσ⟩
      show tb _ (σ1.set x (some y)) H'
      refine sb _ _ (σ1.set x (some y)) F2 G1 H' _ e2 hw ⟨fun σ5 ρ5 F5 G5 H5 q5 e5 s5 p5 => nxt ρ5 σ5 F5 G5 H5 q5 e5 s5 p5, fun σ5 ρ5 F5 G5 H5 q5 e5 s5 p5 => nxt ρ5 σ5 F5 G5 H5 q5 e5 s5 p5, fun σ5 ρ5 F5 G5 H5 q5 e5 s5 p5 => ?_, fun σ5 ρ5 d5 v5 A5 F5 G5 H5 q5 e5 r5 s5 p5 => ?_, fun σ5 ρ5 x5 F5 G5 H5 cls dd q5 e5 s5 p5 xr => ?_⟩
      · obtain ⟨d', F6, c3, c4, e6, s6, _, p6, _⟩ := back (fun _ ρ1 => κ.nx ρ1) ρ5 σ5 F5 G5 H5 q5 e5 p5
        exact k2.nx σ5 _ F6 G5 H5 c3 e6 (s5.trans s6) p6
      · obtain ⟨d', F6, c3, c4, e6, s6, sub, p6, _⟩ := back (fun _ ρ1 => κ.rt ρ1 d5) ρ5 σ5 F5 G5 H5 q5 e5 p5
        exact k2.rt σ5 _ d5 v5 A5 F6 G5 H5 c3 e6 (r5.sub sub) (s5.trans s6) p6
      · obtain ⟨d', F6, c3, c4, e6, s6, _, p6, _⟩ := back (fun _ ρ1 => κ.xc ρ1 x5) ρ5 σ5 F5 G5 H5 q5 e5 p5
        exact k2.xc σ5 _ x5 F6 G5 H5 cls dd c3 e6 (s5.trans s6) p6 xr
end Q

/-! ## A loop over a new list of owned lists -/
namespace Q
open PySem PySem.Spec PyProof.Rows L2
variable {c : Ctx} {sc : Scope} {W : WX} {P : List Nat} {rk : Nat}
/-- what no name holds stays as it is -/
theorem Stp.hid {F F' : Foot} {G H G' H' : Hp} (s : Stp F G H F' G' H') {b : Addr} {o : HO} (h1 : ∀ j, b ∉ F j) (h2 : H b = some o) (h3 : G b = none) : H' b = some o ∧ (∀ j, b ∉ F' j) ∧ G' b = none := by
  refine ⟨s.h b o h1 h2, fun j hj => ?_, ?_⟩
  · rcases s.nf j b hj with ⟨l, hl⟩ | hn
    · exact h1 l hl
    · rw [h2] at hn; cases hn
  · cases q : G' b with
    | none => rfl
    | some u =>
      rcases s.ng b h3 (by rw [q]; simp) with ⟨l, hl⟩ | hn
      · exact absurd hl (h1 l)
      · rw [h2] at hn; cases hn
theorem ap_forl {x k : Nat} {z : Str} {e : Expr} {body : List Stmt} {T : TrE} {Tb : TrS} {px pos : Pos} (hN : c.N.Nodup) (hx : c.N[x]? = some z) (hlz : LocS sc z) (he : AE c sc W e (k + 1) T) (hP : x ∉ P) (hb : APs c sc W P rk body Tb) (hs : ∀ env y, foldedSetIterable e env y = pure y) :
    AP c sc W P rk (.For (.Name z px) e body [] pos) (fun κ ρ => T ρ (fun ρ1 d => ∃ ds, d = .list ds ∧ forlW x k (fun K ρ => Tb (κ.lp K) ρ) κ.nx ds ρ1) κ.xc) := by
  obtain ⟨te, pe, se⟩ := he
  obtain ⟨tb, pb, sb⟩ := hb
  refine ⟨tFor (iList c.K te) (gName x) tb, fun X hX => ?_, fun κ ρ σ F G H D e0 hT kk => ?_⟩
  · have pl := pi_list (tg := .Name z px) (pe X hX.is.is)
    rw [hX.is.is.K] at pl
    exact ps_for hX.hp hX.is.is.calm pl (pg_name (by rw [hX.is.is.N]; exact hN) (hX.is.is.ix hx) (hX.is.st z hlz).1 (hX.is.st z hlz).2) (pb X hX) (hs _)
  · refine se ρ _ κ.xc σ F G H _ e0 hT (fun ρ1 d v A F1 G1 H1 q e1 r1 s1 => ?_) kk.toX
    obtain ⟨ds, rfl, hw⟩ := q
    obtain ⟨a, A0, vs, rfl, rfl, ha, hr⟩ := r1.openL
    refine ⟨a, rfl, ⟨vs, .inl (.inl ha)⟩, ?_⟩
    have hvl := Ows.length hr
    obtain ⟨Nx, hNx⟩ : ∃ Nx : Nat → Sg → Hp → Prop, Nx = fun n σ' H' => ∃ post vs2 A2 ρ' F' G', n + post.length = ds.length ∧ vs.drop n = vs2 ∧ Ows c.K G' H' k A2 vs2 post ∧ (a :: A2).Nodup ∧ (∀ b ∈ a :: A2, G' b = none ∧ (∀ j, b ∉ F' j) ∧ ((∃ j, b ∈ F j) ∨ H b = none)) ∧ H' a = some (.lst vs) ∧
        forlW x k (fun K ρ => Tb (κ.lp K) ρ) κ.nx post ρ' ∧ En c.K σ' ρ' F' G' H' ∧ Stp F G H F' G' H' ∧ Kp P σ σ' := ⟨_, rfl⟩
    refine ⟨fun n m σ' H' => m = ds.length - n ∧ Nx n σ' H', ⟨ds.length, by simp, by rw [hNx]; exact ⟨ds, vs, A0, ρ1, F1, G1, by simp, rfl, hr, r1.nod, fun b hb => ⟨r1.out b hb, r1.dis b hb, r1.new b hb⟩, ha, hw, e1, s1, Kp.refl⟩⟩, ?_⟩
    rintro n m σ1 H2 ⟨rfl, hh⟩
    rw [hNx] at hh
    obtain ⟨post, vs2, A2, ρ2, F2, G2, hl, hdr, ho, hnd, hid, ha2, hw, e2, s2, p2⟩ := hh
    cases post with
    | nil =>
      rw [forlW_n] at hw
      refine .inl ⟨⟨vs, .inl (.inl ha2), ?_⟩, kk.nx σ1 ρ2 F2 G2 H2 hw e2 s2 p2⟩
      rw [hvl]
      simp at hl; omega
    | cons d post =>
      cases ho with
      | cons hd hrest =>
        rename_i Am B v vs3
        have hn : vs[n]? = some v := by
          have := congrArg List.head? hdr
          rw [List.head?_drop] at this
          exact this
        refine .inr ⟨⟨vs, v, .inl (.inl ha2), hn⟩, Nx (n + 1), fun σ' H' q => ⟨ds.length - (n + 1), by simp at hl; omega, rfl, q⟩, fun y H' hy => ?_⟩
        obtain ⟨rfl, hy⟩ := hy
        have hyv : y = v := by
          have := hy vs (.inl (.inl ha2))
          rw [hn] at this
          cases this; rfl
        subst hyv
        rw [forlW_c] at hw
        obtain ⟨na, nd2⟩ := List.nodup_cons.mp hnd
        obtain ⟨n1, n2, n3⟩ := List.nodup_append.mp nd2
        have r : Res c.K F G H F2 G2 H' k Am y d := ⟨hd, n1, fun b hb => (hid b (by simp [hb])).1, fun b hb => (hid b (by simp [hb])).2.1, fun b hb => (hid b (by simp [hb])).2.2⟩
        have e3 := En.set (i := x) e2 r (.inr (.inr rfl))
        have s3 := Stp.put (i := x) s2 r
        have key : Kp P σ1 (σ1.set x (some y)) := Kp.set hP
        have k3 := kk.stp s3 (p2.trans key)
        have off : ∀ b ∈ a :: B, ∀ j, b ∉ Q.put F2 x Am j := fun b hb j hj => by
          by_cases q : j = x
          · subst q
            rw [put_same] at hj
            rcases List.mem_cons.mp hb with rfl | hb
            · exact na (by simp [hj])
            · exact n3 b hj b hb rfl
          · rw [put_ne q] at hj
            exact (hid b (by rcases List.mem_cons.mp hb with rfl | hb <;> simp [*])).2.1 j hj
        have there : ∀ b ∈ a :: B, ∃ o, H' b = some o := fun b hb => by
          rcases List.mem_cons.mp hb with rfl | hb
          · exact ⟨_, ha2⟩
          · obtain ⟨w, hw⟩ := Ows.there hrest b hb
            exact ⟨_, hw⟩
        have outG : ∀ b ∈ a :: B, G2 b = none ∧ ((∃ j, b ∈ F j) ∨ H b = none) := fun b hb => by
          have := hid b (by rcases List.mem_cons.mp hb with rfl | hb <;> simp [*])
          exact ⟨this.1, this.2.2⟩
        have nxt : ∀ (ρ5 : Env) (σ5 : Sg) (F5 : Foot) (G5 H5 : Hp), forlW x k (fun K ρ => Tb (κ.lp K) ρ) κ.nx post ρ5 → En c.K σ5 ρ5 F5 G5 H5 → Stp (Q.put F2 x Am) G2 H' F5 G5 H5 → Kp P (σ1.set x (some y)) σ5 → Nx (n + 1) σ5 H5 := fun ρ5 σ5 F5 G5 H5 q5 e5 s5 p5 => by
          rw [hNx]
          refine ⟨post, vs3, B, ρ5, F5, G5, by simp at hl; omega, ?_, Ows.mono s5.g (fun b hb o ho => s5.h b o (off b (by simp [hb])) ho) hrest, ?_, fun b hb => ?_, s5.h a _ (off a (by simp)) ha2, q5, e5, s3.trans s5, (p2.trans key).trans p5⟩
          · rw [← List.drop_drop, hdr]; rfl
          · exact List.nodup_cons.mpr ⟨fun z => na (by simp [z]), n2⟩
          · obtain ⟨o, ho⟩ := there b hb
            obtain ⟨_, g2, g3⟩ := s5.hid (off b hb) ho (outG b hb).1
            exact ⟨g3, g2, (outG b hb).2⟩
        show tb _ (σ1.set x (some y)) H'
        exact sb _ _ (σ1.set x (some y)) _ G2 H' _ e3 hw ⟨fun σ5 ρ5 F5 G5 H5 q5 e5 s5 p5 => nxt ρ5 σ5 F5 G5 H5 q5 e5 s5 p5, fun σ5 ρ5 F5 G5 H5 q5 e5 s5 p5 => nxt ρ5 σ5 F5 G5 H5 q5 e5 s5 p5, k3.nx, k3.rt, k3.xc⟩
end Q

namespace Q
open PySem PySem.Spec PyProof.Rows L2
variable {c : Ctx} {sc so : Scope} {W : WX} {Γ : List Ent} {bl : Bl} {P : List Nat} {rk : Nat}

/-! ## The check: that a text is what the small language says -/
def okN (x : Str) : Bool := !(x == ("__debug__" : Str)) && !(x == ("__classdict__" : Str))
def visB (sc : Scope) (x : Str) : Bool := match sc.names.lookup x with
  | some .local => true
  | some .cell => true
  | some .free => true
  | _ => false
def glB (sc : Scope) (x : Str) : Bool := match sc.names.lookup x with
  | some .globalImplicit => !(x == ("__debug__" : Str))
  | _ => false
def slotB (N : List Str) (sc : Scope) (i : Nat) (x : Str) : Bool := decide (N[i]? = some x) && visB sc x && okN x
def bltB (bl : Bl) (sc : Scope) (x : Str) : Bool := glB sc x && decide (x ∈ bl.b)
def Es.deps (k : Nat) : Es → Bool
  | .nil => true
  | .cons e es => decide (k ≤ e.dep) && es.deps k
def ownOf (N : List Str) (own : List Nat) : List (Str × Nat) := own.map fun i => (N.getD i "", i)
/-- the parts of the check's context -/
structure Cc where
  N : List Str
  sg : List Sig
  bl : Bl
mutual
def eqD : D → D → Bool
  | .int a, .int b => decide (a = b)
  | .bool a, .bool b => decide (a = b)
  | .str a, .str b => decide (a = b)
  | .none, .none => true
  | .tuple as, .tuple bs => eqDs as bs
  | _, _ => false
def eqDs : List D → List D → Bool
  | [], [] => true
  | a :: as, b :: bs => eqD a b && eqDs as bs
  | _, _ => false
end
mutual
theorem eqD_ok : ∀ {a b : D}, eqD a b = true → a = b
  | .int a, b, h => by cases b <;> simp [eqD] at h; rw [h]
  | .bool a, b, h => by cases b <;> simp [eqD] at h; rw [h]
  | .str a, b, h => by cases b <;> simp [eqD] at h; rw [h]
  | .none, b, h => by cases b <;> simp [eqD] at h; rfl
  | .tuple as, b, h => by
    cases b <;> first | (simp [eqD] at h; done) | skip
    rename_i bs
    have h' : eqDs as bs = true := by simpa [eqD] using h
    rw [eqDs_ok h']
  | .list as, b, h => by cases b <;> simp [eqD] at h
  | .dict as, b, h => by cases b <;> simp [eqD] at h
theorem eqDs_ok : ∀ {as bs : List D}, eqDs as bs = true → as = bs
  | [], bs, h => by cases bs <;> simp [eqDs] at h; rfl
  | a :: as, bs, h => by
    cases bs with
    | nil => simp [eqDs] at h
    | cons b bs =>
      simp only [eqDs, Bool.and_eq_true] at h
      rw [eqD_ok h.1, eqDs_ok h.2]
end
def inC (l : List (Str × D)) (x : Str) (d : D) : Bool := l.any fun p => decide (p.1 = x) && eqD p.2 d
theorem inC_ok {l : List (Str × D)} {x : Str} {d : D} (h : inC l x d = true) : (x, d) ∈ l := by
  unfold inC at h
  obtain ⟨p, hp, hq⟩ := List.any_eq_true.mp h
  simp only [Bool.and_eq_true, decide_eq_true_eq] at hq
  obtain ⟨a, b⟩ := p
  obtain ⟨h1, h2⟩ := hq
  have h2 := eqD_ok h2
  simp only at h1 h2
  rw [← h1, ← h2]; exact hp
def isNm : Expr → Bool
  | .Name .. => true
  | _ => false
def subB (a b : List Nat) : Bool := a.all fun i => decide (i ∈ b)
mutual
def chkE (C : Cc) (sc : Scope) : E → Expr → Bool
  | .var i, .Name x _ => slotB C.N sc i x
  | .mv i _, .Name x _ => slotB C.N sc i x
  | .int n, .Constant (.int m) _ _ => decide (n = m)
  | .bl b, .Constant (.bool d) _ _ => b == d
  | .non, .Constant .none _ _ => true
  | .str x, .Constant (.str y) _ _ => decide (x = y)
  | .op o a b, .BinOp a' o' b' _ => decide (o = o') && okOp o && chkE C sc a a' && chkE C sc b b'
  | .neg a, .UnaryOp .USub a' _ => chkE C sc a a'
  | .cmp o a b, .Compare a' [o'] [b'] _ => decide (o = o') && okCmp o && chkE C sc a a' && chkE C sc b b'
  | .cmps neg a b, .Compare a' [o'] [b'] _ => decide (o' = if neg then CmpOp.NotEq else CmpOp.Eq) && chkE C sc a a' && chkE C sc b b'
  | .chn o p a b d, .Compare a' [o', p'] [b', d'] _ => decide (o = o') && decide (p = p') && okCmp o && okCmp p && chkE C sc a a' && chkE C sc b b' && chkE C sc d d'
  | .and a b, .BoolOp .And (x :: y :: r) pos => chkE C sc a x && (match r with
    | [] => chkE C sc b y
    | _ :: _ => chkE C sc b (.BoolOp .And (y :: r) pos))
  | .or a b, .BoolOp .Or (x :: y :: r) pos => chkE C sc a x && (match r with
    | [] => chkE C sc b y
    | _ :: _ => chkE C sc b (.BoolOp .Or (y :: r) pos))
  | .not a, .UnaryOp .Not a' _ => chkE C sc a a'
  | .ite e a b, .IfExp e' a' b' _ => chkE C sc e e' && chkE C sc a a' && chkE C sc b b'
  | .tup es, .Tuple es' _ _ => chkEs C sc es es' && decide (es.len ≤ 1000)
  | .lst k es, .List es' _ => chkEs C sc es es' && decide (es.len ≤ 1000) && es.deps k
  | .cat k a b, .BinOp a' o' b' _ => decide (o' = Operator.Add) && chkE C sc a a' && chkE C sc b b' && (k == 0 || (decide (k + 1 ≤ a.dep) && decide (k + 1 ≤ b.dep)))
  | .rep a b, .BinOp a' o' b' _ => decide (o' = Operator.Mult) && chkE C sc a a' && chkE C sc b b' && decide (1 ≤ a.dep)
  | .lof e, .Call (.Name x _) [e'] [] _ => decide (x = "list") && bltB C.bl sc "list" && chkE C sc e e'
  | .shw e, .Call (.Name x _) [e'] [] _ => decide (x = "str") && bltB C.bl sc "str" && chkE C sc e e'
  | .idx a b, .Call (.Attribute a' m pa) [b'] [] pc => decide (m = "index") && (pa.endLine == pc.line) && isNm a' && chkE C sc a a' && chkE C sc b b'
  | .inn neg a b, .Compare a' [o'] [b'] _ => decide (o' = if neg then CmpOp.NotIn else CmpOp.In) && chkE C sc a a' && chkE C sc b b'
  | .slc a lo hi, .Subscript a' (.Slice lo' hi' none _) _ => chkE C sc a a' && chkP C sc lo lo' && chkP C sc hi hi'
  | .gl x d, .Name y _ => decide (y = x) && glB sc x && inC C.bl.c x d
  | .mm3 mx es, .Call (.Name x _) (e' :: es') [] _ => decide (x = if mx then "max" else "min") && bltB C.bl sc x && decide (es.len = 3) && chkEs C sc es (e' :: es')
  | .ix a b, .Subscript a' b' _ => chkE C sc a a' && chkE C sc b b'
  | .pk i b, .Subscript (.Name x _) b' _ => slotB C.N sc i x && chkE C sc b b'
  | .lenv i, .Call (.Name l _) [.Name x _] [] _ => decide (l = "len") && bltB C.bl sc "len" && slotB C.N sc i x
  | .call f rk es, .Call (.Name x _) (e' :: es') [] _ => (match C.sg[f]? with
    | some s => decide (x = s.name) && s.own.isNone && decide (rk = s.rk) && decide (es.len = s.np) && glB sc x
    | none => false) && chkEs C sc es (e' :: es')
  | .callr f rk i es, .Call (.Name x _) (.Name y _ :: es') [] _ => (match C.sg[f]? with
    | some s => decide (x = s.name) && s.own.isSome && decide (rk = s.rk) && decide (es.len + 1 = s.np) && glB sc x
    | none => false) && slotB C.N sc i y && chkEs C sc es es'
  | .blt b es, .Call (.Name x _) (e' :: es') [] _ => decide (x = b.name) && bltB C.bl sc x && chkEs C sc es (e' :: es')
  | .isi a t, .Call (.Name x _) [a', .Name y _] [] _ => decide (x = "isinstance") && decide (y = t.name) && bltB C.bl sc x && bltB C.bl sc y && chkE C sc a a'
  | .comp k own tg it ifs elt, .ListComp elt' [⟨tg', iter', ifs', n⟩] scope _ => decide (n = 0) && blkC C.N sc scope (ownOf C.N own) && chkTg C.N scope tg tg' && subB tg.slots own && chkIt C sc it tg' iter' &&
      chkO C (relS scope sc) ifs ifs' && chkE C (relS scope sc) elt elt' && decide (k ≤ elt.dep)
  | .lend e, e' => chkE C sc e e'
  | _, _ => false
def chkEs (C : Cc) (sc : Scope) : Es → List Expr → Bool
  | .nil, [] => true
  | .cons e es, e' :: es' => chkE C sc e e' && chkEs C sc es es'
  | _, _ => false
def chkP (C : Cc) (sc : Scope) : Os → Option Expr → Bool
  | .none, none => true
  | .some e, some e' => chkE C sc e e'
  | _, _ => false
def chkO (C : Cc) (sc : Scope) : Os → List Expr → Bool
  | .none, [] => true
  | .some e, [e'] => chkE C sc e e'
  | _, _ => false
def chkIt (C : Cc) (sc : Scope) : It → Expr → Expr → Bool
  | .lst e, _, e' => chkE C sc e e'
  | .tup e, _, e' => chkE C sc e e'
  | .rng e, _, .Call (.Name x _) [e'] [] _ => decide (x = "range") && bltB C.bl sc "range" && chkE C sc e e'
  | .rng2 a b, _, .Call (.Name x _) [a', b'] [] _ => decide (x = "range") && bltB C.bl sc "range" && chkE C sc a a' && chkE C sc b b'
  | .enum e, .Tuple _ _ _, .Call (.Name x _) [e'] [] _ => decide (x = "enumerate") && bltB C.bl sc "enumerate" && chkE C sc e e'
  | .zip a b, .Tuple _ _ _, .Call (.Name x _) [a', b'] [] _ => decide (x = "zip") && bltB C.bl sc "zip" && chkE C sc a a' && chkE C sc b b'
  | _, _, _ => false
end
theorem slotB_ok {N : List Str} {i : Nat} {x : Str} (h : slotB N sc i x = true) : N[i]? = some x ∧ Vis sc x ∧ (x == ("__debug__" : Str)) = false ∧ (x == ("__classdict__" : Str)) = false := by
  unfold slotB okN at h
  simp only [Bool.and_eq_true, decide_eq_true_eq, Bool.not_eq_true'] at h
  obtain ⟨⟨h1, h2⟩, h3, h4⟩ := h
  refine ⟨h1, ?_, h3, h4⟩
  unfold visB at h2
  split at h2
  · exact .inl (by assumption)
  · exact .inr (.inl (by assumption))
  · exact .inr (.inr (by assumption))
  · cases h2
theorem glB_ok {x : Str} (h : glB sc x = true) : GlS sc x ∧ (x == ("__debug__" : Str)) = false := by
  unfold glB at h
  split at h
  · exact ⟨by assumption, by simpa using h⟩
  · cases h
theorem bltB_ok {x : Str} (h : bltB bl sc x = true) : GlS sc x ∧ x ∈ bl.b := by
  unfold bltB at h
  simp only [Bool.and_eq_true, decide_eq_true_eq] at h
  exact ⟨(glB_ok h.1).1, h.2⟩
/-- what is checked is no slice, no starred, no set, no comprehension but a list's -/
def tame : Expr → Bool
  | .Slice .. => false
  | .Starred .. => false
  | .Set .. => false
  | .SetComp .. => false
  | .DictComp .. => false
  | _ => true
theorem chk_tame {C : Cc} {e : E} {e' : Expr} (h : chkE C sc e e' = true) : tame e' = true := by
  cases e' <;> first | rfl | (cases e <;> first | (simp [chkE] at h; done) | exact chk_tame (by simpa only [chkE] using h))
termination_by sizeOf e
decreasing_by all_goals (subst_vars; simp_wf; try omega)
theorem tame_star {e : Expr} (h : tame e = true) (es : List Expr) (env : PySem.Env) : starEach (e :: es) env = (false, eval e env) :: starEach es env := by
  cases e <;> first | rfl | (simp [tame] at h)
theorem tame_ix {e : Expr} (h : tame e = true) : PlainIx e := by
  intro o i
  cases e <;> first | rfl | (simp [tame] at h)
theorem tame_fold {e : Expr} (h : tame e = true) (env : PySem.Env) (x : Value) : foldedSetIterable e env x = pure x := by
  cases e <;> first | rfl | (simp [tame] at h)
theorem tame_set {o b : Expr} {pb : Pos} (h : tame b = true) (env : PySem.Env) (v : Value) : assign (.Subscript o b pb) env v = (do
      let ov ← holding [v] (eval o env)
      let iv ← holding [v, ov] (eval b env)
      standAt pb
      holding [v, ov, iv] (setItem ov iv v)
      release [v, ov, iv] []) := by
  cases b <;> first | rfl | (simp [tame] at h)
theorem tames_plain {C : Cc} : ∀ {es : Es} {es' : List Expr} (pos : Pos) (env : PySem.Env), chkEs C sc es es' = true → (backTo pos (starEach es' env)).any (·.1) = false
  | .nil, [], _, _, _ => rfl
  | .nil, _ :: _, _, _, h => by simp [chkEs] at h
  | .cons _ _, [], _, _, h => by simp [chkEs] at h
  | .cons e es, e' :: es', pos, env, h => by
    simp only [chkEs, Bool.and_eq_true] at h
    rw [tame_star (chk_tame h.1)]
    have ih := tames_plain (C := C) pos env h.2
    simp only [backTo] at ih ⊢
    first | exact ih | (simp only [List.map_cons, List.any_cons, Bool.false_or]; exact ih) | simpa using ih
end Q

namespace Q
open PySem PySem.Spec PyProof.Rows L2
variable {c : Ctx} {sc so : Scope} {W : WX} {Γ : List Ent} {bl : Bl} {P : List Nat} {rk : Nat}

abbrev ccOf (c : Ctx) (Γ : List Ent) (bl : Bl) : Cc := ⟨c.N, Γ.map (·.sig), bl⟩
def Tri (c : Ctx) (sc : Scope) (W : WX) (e' : Expr) (k : Nat) (T : TrE) : Prop := AE c sc W e' k T ∧ AT c sc W e' (testOf T) ∧ ∀ op vs pos, e' = .BoolOp op vs pos → AW c sc W e' (testOf T)
theorem tri_ab {e' : Expr} {k : Nat} {T : TrE} (h : AB c sc W e' k T) (hb : ∀ op vs pos, e' ≠ .BoolOp op vs pos) : Tri c sc W e' k T := ⟨h.ae, h.at, fun op vs pos e => absurd e (hb op vs pos)⟩
theorem tri {e' : Expr} {k : Nat} {T : TrE} (h : AE c sc W e' k T) (he : ∀ env whole, isTrue e' env whole = (do let v ← whole; standAt e'.pos; holding [v] (truthy v))) (hb : ∀ op vs pos, e' ≠ .BoolOp op vs pos) : Tri c sc W e' k T := tri_ab (h.ab he) hb
theorem sigs_get {f : Nat} {s : Sig} (h : (Γ.map (·.sig))[f]? = some s) : ∃ g, Γ[f]? = some g ∧ g.sig = s := by
  rw [List.getElem?_map] at h
  cases q : Γ[f]? with
  | none => rw [q] at h; cases h
  | some g => rw [q] at h; cases h; exact ⟨g, rfl, rfl⟩
theorem ownOf_ix {N : List Str} : ∀ own : List Nat, (ownOf N own).map (·.2) = own
  | [] => rfl
  | i :: is => by
    have ih := ownOf_ix (N := N) is
    simp only [ownOf, List.map_cons] at ih ⊢
    rw [ih]
theorem subB_ok {a b : List Nat} (h : subB a b = true) : ∀ j ∈ a, j ∈ b := fun j hj => by
  have := List.all_eq_true.mp h j hj
  simpa using this
theorem pt_ifE {X : Cx} {e1 a b : Expr} {pos : Pos} {tc ta tb : TT} (hc : PT X e1 tc) (ha : PT X a ta) (hb : PT X b tb) : PT X (.IfExp e1 a b pos) (fun σ H Q => tc σ H fun k H1 => if k = true then ta σ H1 Q else tb σ H1 Q) := by
  refine ⟨fun pins s σ H Q I h => ?_⟩
  show wpAny _ _ (do if ← isTrue e1 X.env (eval e1 X.env) then isTrue a X.env (eval a X.env) else isTrue b X.env (eval b X.env)) _ _ _
  refine wpAny_bind (thn (hc.run pins s σ H _ I h) fun d s1 ⟨H1, I1, q1⟩ => ?_)
  cases d with
  | true => exact ha.run pins s1 σ H1 Q I1 q1
  | false => exact hb.run pins s1 σ H1 Q I1 q1
theorem at_ite {e1 a b : Expr} {Tc Ta Tb : TrE} {pos : Pos} (hc : AT c sc W e1 (testOf Tc)) (ha : AT c sc W a (testOf Ta)) (hb : AT c sc W b (testOf Tb)) :
    AT c sc W (.IfExp e1 a b pos) (testOf fun ρ Φ Ξ => Tc ρ (fun ρ1 x => ∃ t, x = .bool t ∧ sel t (Ta ρ1 Φ Ξ) (Tb ρ1 Φ Ξ)) Ξ) := by
  obtain ⟨tc, pc, sc'⟩ := hc
  obtain ⟨ta, pa, sa⟩ := ha
  obtain ⟨tb, pb, sb⟩ := hb
  refine ⟨_, fun X hX => pt_ifE (pc X hX) (pa X hX) (pb X hX), fun ρ Φ Ξ σ F G H Q e0 hT hQ hx => ?_⟩
  refine sc' ρ _ Ξ σ F G H _ e0 hT (fun ρ1 k F1 G1 H1 q e1 s1 => ?_) hx
  cases k with
  | true =>
    rw [sel_t] at q; rw [if_pos rfl]
    exact sa ρ1 Φ Ξ σ F1 G1 H1 Q e1 q (fun ρ2 d F2 G2 H2 q2 e2 s2 => hQ ρ2 d F2 G2 H2 q2 e2 (s1.trans s2)) (hx.stp s1)
  | false =>
    rw [sel_f] at q; rw [if_neg (by decide)]
    exact sb ρ1 Φ Ξ σ F1 G1 H1 Q e1 q (fun ρ2 d F2 G2 H2 q2 e2 s2 => hQ ρ2 d F2 G2 H2 q2 e2 (s1.trans s2)) (hx.stp s1)
theorem deps_0 : ∀ es : Es, es.deps 0 = true
  | .nil => rfl
  | .cons e es => by simp [Es.deps, deps_0 es]
theorem to_k {e : Expr} {k m : Nat} {T : TrE} (h : AE c sc W e k T) (hk : m ≤ k) : AE c sc W e m T := h.to hk
theorem nm_base {a : Expr} {m : Str} (h : isNm a = true) (env : PySem.Env) : attributeBase a m env (eval a env) = eval a env := by
  cases a <;> first | rfl | (simp [isNm] at h)
mutual
theorem snd_E (sd : Sd c Γ bl) : ∀ (e : E) (e' : Expr) (sc : Scope) (W : WX), chkE (ccOf c Γ bl) sc e e' = true → Tri c sc W e' e.dep (ev Γ e)
  | .var i, e', sc, W, h => by
    cases e' <;> first | (simp [chkE] at h; done) | skip
    obtain ⟨h1, h2, h3, h4⟩ := slotB_ok (by simpa [chkE] using h)
    exact tri (ae_var h1 h2 h3 h4) (by intro _ _; rfl) (by simp)
  | .mv i k, e', sc, W, h => by
    cases e' <;> first | (simp [chkE] at h; done) | skip
    obtain ⟨h1, h2, h3, h4⟩ := slotB_ok (by simpa [chkE] using h)
    exact tri (ae_mv h1 h2 h3 h4) (by intro _ _; rfl) (by simp)
  | .int n, e', sc, W, h => by
    cases e' <;> first | (simp [chkE] at h; done) | skip
    rename_i k j pos
    cases k <;> first | (simp [chkE] at h; done) | skip
    simp [chkE] at h
    subst h
    exact tri (ae_const (fun X => pe_int) (fun G => .int _) fun ρ Φ Ξ q => by simpa only [ev] using q) (by intro _ _; rfl) (by simp)
  | .bl b, e', sc, W, h => by
    cases e' <;> first | (simp [chkE] at h; done) | skip
    rename_i k j pos
    cases k <;> first | (simp [chkE] at h; done) | skip
    simp [chkE] at h
    subst h
    exact tri (ae_const (fun X => pe_bl) (fun G => .bl _) fun ρ Φ Ξ q => by simpa only [ev] using q) (by intro _ _; rfl) (by simp)
  | .non, e', sc, W, h => by
    cases e' <;> first | (simp [chkE] at h; done) | skip
    rename_i k j pos
    cases k <;> first | (simp [chkE] at h; done) | skip
    exact tri (ae_const (fun X => pe_non) (fun G => .non) fun ρ Φ Ξ q => by simpa only [ev] using q) (by intro _ _; rfl) (by simp)
  | .str x, e', sc, W, h => by
    cases e' <;> first | (simp [chkE] at h; done) | skip
    rename_i k j pos
    cases k <;> first | (simp [chkE] at h; done) | skip
    simp [chkE] at h
    subst h
    exact tri (ae_const (fun X => pe_str) (fun G => .str _) fun ρ Φ Ξ q => by simpa only [ev] using q) (by intro _ _; rfl) (by simp)
  | .op o a b, e', sc, W, h => by
    cases e' <;> first | (simp [chkE] at h; done) | skip
    simp only [chkE, Bool.and_eq_true, decide_eq_true_eq] at h
    obtain ⟨⟨⟨h1, h2⟩, h3⟩, h4⟩ := h
    subst h1
    exact tri (ae_op h2 (snd_E sd a _ sc W h3).1.frz (snd_E sd b _ sc W h4).1.frz) (by intro _ _; rfl) (by simp)
  | .cat k a b, e', sc, W, h => by
    cases e' <;> first | (simp [chkE] at h; done) | skip
    simp only [chkE, Bool.and_eq_true, decide_eq_true_eq, Bool.or_eq_true, beq_iff_eq] at h
    obtain ⟨⟨⟨h1, h3⟩, h4⟩, h5⟩ := h
    subst h1
    rcases h5 with rfl | h5
    · exact tri (ae_cat (snd_E sd a _ sc W h3).1.frz (snd_E sd b _ sc W h4).1.frz) (by intro _ _; rfl) (by simp)
    · exact tri (ae_catK (to_k (snd_E sd a _ sc W h3).1 h5.1) (to_k (snd_E sd b _ sc W h4).1 h5.2)) (by intro _ _; rfl) (by simp)
  | .rep a b, e', sc, W, h => by
    cases e' <;> first | (simp [chkE] at h; done) | skip
    simp only [chkE, Bool.and_eq_true, decide_eq_true_eq] at h
    obtain ⟨⟨⟨h1, h3⟩, h4⟩, h5⟩ := h
    subst h1
    exact tri (ae_rep (to_k (snd_E sd a _ sc W h3).1 h5) (snd_E sd b _ sc W h4).1.frz) (by intro _ _; rfl) (by simp)
  | .lof e, e', sc, W, h => by
    cases e' <;> first | (simp [chkE] at h; done) | skip
    rename_i fe as ks pos
    cases fe <;> first | (simp [chkE] at h; done) | skip
    match as, ks, h with
    | [e1], [], h =>
      simp only [chkE, Bool.and_eq_true, decide_eq_true_eq] at h
      obtain ⟨⟨h1, h2⟩, h3⟩ := h
      subst h1
      obtain ⟨g1, g2⟩ := bltB_ok h2
      exact tri (ae_lof (snd_E sd e _ sc W h3).1.frz g1 (sd.bok _ g2) (fun env => by rw [tame_star (chk_tame h3)]; rfl)) (by intro _ _; rfl) (by simp)
    | [], _, h => simp [chkE] at h
    | _ :: _ :: _, _, h => simp [chkE] at h
    | [_], _ :: _, h => simp [chkE] at h
  | .shw e, e', sc, W, h => by
    cases e' <;> first | (simp [chkE] at h; done) | skip
    rename_i fe as ks pos
    cases fe <;> first | (simp [chkE] at h; done) | skip
    match as, ks, h with
    | [e1], [], h =>
      simp only [chkE, Bool.and_eq_true, decide_eq_true_eq] at h
      obtain ⟨⟨h1, h2⟩, h3⟩ := h
      subst h1
      obtain ⟨g1, g2⟩ := bltB_ok h2
      exact tri (ae_shw sd.gd sd.hu2 (snd_E sd e _ sc W h3).1.frz g1 (sd.bok _ g2) (fun env => by rw [tame_star (chk_tame h3)]; rfl)) (by intro _ _; rfl) (by simp)
    | [], _, h => simp [chkE] at h
    | _ :: _ :: _, _, h => simp [chkE] at h
    | [_], _ :: _, h => simp [chkE] at h
  | .tof e, e', sc, W, h => by cases e' <;> simp [chkE] at h
  | .cnt a b, e', sc, W, h => by cases e' <;> simp [chkE] at h
  | .idx a b, e', sc, W, h => by
    cases e' <;> first | (simp [chkE] at h; done) | skip
    rename_i fe as ks pos
    cases fe <;> first | (simp [chkE] at h; done) | skip
    match as, ks, h with
    | [e1], [], h =>
      simp only [chkE, Bool.and_eq_true, decide_eq_true_eq] at h
      obtain ⟨⟨⟨⟨h1, h2⟩, h3⟩, h4⟩, h5⟩ := h
      subst h1
      exact tri (ae_idx sd.hu2 (snd_E sd a _ sc W h4).1.frz (snd_E sd b _ sc W h5).1.frz (nm_base h3) (fun env => tame_star (chk_tame h5) _ env) h2) (by intro _ _; rfl) (by simp)
    | [], _, h => simp [chkE] at h
    | _ :: _ :: _, _, h => simp [chkE] at h
    | [_], _ :: _, h => simp [chkE] at h
  | .inn neg a b, e', sc, W, h => by
    cases e' <;> first | (simp [chkE] at h; done) | skip
    rename_i l ops cs pos
    match ops, cs, h with
    | [o'], [b'], h =>
      simp only [chkE, Bool.and_eq_true, decide_eq_true_eq] at h
      obtain ⟨⟨h1, h3⟩, h4⟩ := h
      exact tri_ab (ab_inn sd.hu2 h1 (snd_E sd a _ sc W h3).1.frz (snd_E sd b _ sc W h4).1.frz (fun es k p z => by
        have := chk_tame h4
        rw [z] at this; cases this)) (by simp)
    | [], _, h => simp [chkE] at h
    | _ :: _ :: _, _, h => simp [chkE] at h
    | [_], [], h => simp [chkE] at h
    | [_], _ :: _ :: _, h => simp [chkE] at h
  | .slc a lo hi, e', sc, W, h => by
    cases e' <;> first | (simp [chkE] at h; done) | skip
    rename_i a' sl pos
    cases sl <;> first | (simp [chkE] at h; done) | skip
    rename_i lo' hi' st p2
    cases st <;> first | (simp [chkE] at h; done) | skip
    simp only [chkE, Bool.and_eq_true] at h
    obtain ⟨⟨h1, h2⟩, h3⟩ := h
    exact tri (ae_slc (snd_E sd a _ sc W h1).1.frz (snd_P sd lo _ sc W h2) (snd_P sd hi _ sc W h3)) (by intro _ _; rfl) (by simp)
  | .gl x d, e', sc, W, h => by
    cases e' <;> first | (simp [chkE] at h; done) | skip
    simp only [chkE, Bool.and_eq_true, decide_eq_true_eq] at h
    obtain ⟨⟨h1, h2⟩, h3⟩ := h
    subst h1
    obtain ⟨g1, g2⟩ := glB_ok h2
    refine tri (show AE c sc W _ 0 (ev Γ (.gl _ d)) from ?_) (by intro _ _; rfl) (by simp)
    have := ae_gl (W := W) g1 g2 (sd.cok _ (inC_ok h3)) (pos := by assumption)
    exact this
  | .mm3 mx es, e', sc, W, h => by
    cases e' <;> first | (simp [chkE] at h; done) | skip
    rename_i fe as ks pos
    cases fe <;> first | (simp [chkE] at h; done) | skip
    match as, ks, h with
    | e1 :: es1, [], h =>
      simp only [chkE, Bool.and_eq_true, decide_eq_true_eq] at h
      obtain ⟨⟨⟨h1, h2⟩, h4⟩, h3⟩ := h
      obtain ⟨g1, g2⟩ := bltB_ok h2
      have tm : tame e1 = true := by
        cases es with
        | nil => simp [chkEs] at h3
        | cons e es => simp only [chkEs, Bool.and_eq_true] at h3; exact chk_tame h3.1
      have pl : ∀ env, (backTo pos (starEach es1 env)).any (·.1) = false := fun env => by
        cases es with
        | nil => simp [chkEs] at h3
        | cons e es => simp only [chkEs, Bool.and_eq_true] at h3; exact tames_plain pos env h3.2
      have al : AL c sc W (e1 :: es1) 0 3 (evs Γ es) := by rw [← h4]; exact snd_Es sd es _ sc W 0 h3 (deps_0 es)
      exact tri (ae_mm3 h1 al g1 (sd.bok _ g2) (fun env => tame_star tm _ env) pl) (by intro _ _; rfl) (by simp)
    | [], _, h => simp [chkE] at h
    | _ :: _, _ :: _, h => simp [chkE] at h
  | .lend e, e', sc, W, h => by
    obtain ⟨h1, h2, h3⟩ := snd_E sd e e' sc W (by simpa only [chkE] using h)
    exact ⟨ae_lend h1, at_lend h2, fun op vs pos z => aw_lend (h3 op vs pos z)⟩
  | .neg a, e', sc, W, h => by
    cases e' <;> first | (simp [chkE] at h; done) | skip
    rename_i op x pos
    cases op <;> first | (simp [chkE] at h; done) | skip
    simp only [chkE] at h
    exact tri (ae_neg (snd_E sd a _ sc W h).1.frz) (by intro _ _; rfl) (by simp)
  | .cmp o a b, e', sc, W, h => by
    cases e' <;> first | (simp [chkE] at h; done) | skip
    rename_i l ops cs pos
    match ops, cs, h with
    | [o'], [b'], h =>
      simp only [chkE, Bool.and_eq_true, decide_eq_true_eq] at h
      obtain ⟨⟨⟨h1, h2⟩, h3⟩, h4⟩ := h
      subst h1
      exact tri_ab (ab_cmp sd.hu h2 (snd_E sd a _ sc W h3).1.frz (snd_E sd b _ sc W h4).1.frz) (by simp)
    | [], _, h => simp [chkE] at h
    | _ :: _ :: _, _, h => simp [chkE] at h
    | [_], [], h => simp [chkE] at h
    | [_], _ :: _ :: _, h => simp [chkE] at h
  | .cmps neg a b, e', sc, W, h => by
    cases e' <;> first | (simp [chkE] at h; done) | skip
    rename_i l ops cs pos
    match ops, cs, h with
    | [o'], [b'], h =>
      simp only [chkE, Bool.and_eq_true, decide_eq_true_eq] at h
      obtain ⟨⟨h1, h3⟩, h4⟩ := h
      subst h1
      exact tri_ab (ab_cmps (snd_E sd a _ sc W h3).1.frz (snd_E sd b _ sc W h4).1.frz) (by simp)
    | [], _, h => simp [chkE] at h
    | _ :: _ :: _, _, h => simp [chkE] at h
  | .chn o p a b d, e', sc, W, h => by
    cases e' <;> first | (simp [chkE] at h; done) | skip
    rename_i l ops cs pos
    match ops, cs, h with
    | [o', p'], [b', d'], h =>
      simp only [chkE, Bool.and_eq_true, decide_eq_true_eq] at h
      obtain ⟨⟨⟨⟨⟨⟨h1, h2⟩, h3⟩, h4⟩, h5⟩, h6⟩, h7⟩ := h
      subst h1 h2
      exact tri_ab (ab_chn sd.hu h3 h4 (snd_E sd a _ sc W h5).1.frz (snd_E sd b _ sc W h6).1.frz (snd_E sd d _ sc W h7).1.frz) (by simp)
    | [], _, h => simp [chkE] at h
    | [_], _, h => simp [chkE] at h
    | _ :: _ :: _ :: _, _, h => simp [chkE] at h
    | [_, _], [], h => simp [chkE] at h
    | [_, _], [_], h => simp [chkE] at h
    | [_, _], _ :: _ :: _ :: _, h => simp [chkE] at h
  | .and a b, e', sc, W, h => by
    cases e' <;> first | (simp [chkE] at h; done) | skip
    rename_i op vs pos
    cases op <;> first | (simp [chkE] at h; done) | skip
    match vs, h with
    | [], h => simp [chkE] at h
    | [_], h => simp [chkE] at h
    | [x, y], h =>
      simp only [chkE, Bool.and_eq_true] at h
      obtain ⟨a1, a2, _⟩ := snd_E sd a _ sc W h.1
      obtain ⟨b1, b2, _⟩ := snd_E sd b _ sc W h.2
      have w : AW c sc W (.BoolOp .And [x, y] pos) (testOf (ev Γ (.and a b))) := aw_and a2 (aw_one b2)
      exact ⟨ae_and a1.frz (ae_one b1.frz), w.at, fun _ _ _ _ => w⟩
    | x :: y :: z :: r, h =>
      simp only [chkE, Bool.and_eq_true] at h
      obtain ⟨a1, a2, _⟩ := snd_E sd a _ sc W h.1
      obtain ⟨b1, b2, b3⟩ := snd_E sd b _ sc W h.2
      have w : AW c sc W (.BoolOp .And (x :: y :: z :: r) pos) (testOf (ev Γ (.and a b))) := aw_and a2 (b3 _ _ _ rfl)
      exact ⟨ae_and a1.frz b1.frz, w.at, fun _ _ _ _ => w⟩
  | .or a b, e', sc, W, h => by
    cases e' <;> first | (simp [chkE] at h; done) | skip
    rename_i op vs pos
    cases op <;> first | (simp [chkE] at h; done) | skip
    match vs, h with
    | [], h => simp [chkE] at h
    | [_], h => simp [chkE] at h
    | [x, y], h =>
      simp only [chkE, Bool.and_eq_true] at h
      obtain ⟨a1, a2, _⟩ := snd_E sd a _ sc W h.1
      obtain ⟨b1, b2, _⟩ := snd_E sd b _ sc W h.2
      have w : AW c sc W (.BoolOp .Or [x, y] pos) (testOf (ev Γ (.or a b))) := aw_or a2 (aw_one b2)
      exact ⟨ae_or a1.frz (ae_one b1.frz), w.at, fun _ _ _ _ => w⟩
    | x :: y :: z :: r, h =>
      simp only [chkE, Bool.and_eq_true] at h
      obtain ⟨a1, a2, _⟩ := snd_E sd a _ sc W h.1
      obtain ⟨b1, b2, b3⟩ := snd_E sd b _ sc W h.2
      have w : AW c sc W (.BoolOp .Or (x :: y :: z :: r) pos) (testOf (ev Γ (.or a b))) := aw_or a2 (b3 _ _ _ rfl)
      exact ⟨ae_or a1.frz b1.frz, w.at, fun _ _ _ _ => w⟩
  | .not a, e', sc, W, h => by
    cases e' <;> first | (simp [chkE] at h; done) | skip
    rename_i op x pos
    cases op <;> first | (simp [chkE] at h; done) | skip
    simp only [chkE] at h
    obtain ⟨a1, a2, _⟩ := snd_E sd a _ sc W h
    exact ⟨ae_not a1.frz, at_not a2, fun _ _ _ z => by cases z⟩
  | .ite e a b, e', sc, W, h => by
    cases e' <;> first | (simp [chkE] at h; done) | skip
    simp only [chkE, Bool.and_eq_true] at h
    obtain ⟨⟨h1, h2⟩, h3⟩ := h
    obtain ⟨_, c2, _⟩ := snd_E sd e _ sc W h1
    obtain ⟨a1, a2, _⟩ := snd_E sd a _ sc W h2
    obtain ⟨b1, b2, _⟩ := snd_E sd b _ sc W h3
    exact ⟨ae_ite c2 a1.frz b1.frz, at_ite c2 a2 b2, fun _ _ _ z => by cases z⟩
  | .tup es, e', sc, W, h => by
    cases e' <;> first | (simp [chkE] at h; done) | skip
    simp only [chkE, Bool.and_eq_true, decide_eq_true_eq] at h
    exact tri (ae_tup (snd_Es sd es _ sc W 0 h.1 (deps_0 es)) (by omega)) (by intro _ _; rfl) (by simp)
  | .lst k es, e', sc, W, h => by
    cases e' <;> first | (simp [chkE] at h; done) | skip
    simp only [chkE, Bool.and_eq_true, decide_eq_true_eq] at h
    exact tri (ae_lst (snd_Es sd es _ sc W k h.1.1 h.2) (by omega)) (by intro _ _; rfl) (by simp)
  | .ix a b, e', sc, W, h => by
    cases e' <;> first | (simp [chkE] at h; done) | skip
    simp only [chkE, Bool.and_eq_true] at h
    exact tri (ae_ix (snd_E sd a _ sc W h.1).1.frz (snd_E sd b _ sc W h.2).1.frz (tame_ix (chk_tame h.2))) (by intro _ _; rfl) (by simp)
  | .pk i b, e', sc, W, h => by
    cases e' <;> first | (simp [chkE] at h; done) | skip
    rename_i v b' pos
    cases v <;> first | (simp [chkE] at h; done) | skip
    simp only [chkE, Bool.and_eq_true] at h
    obtain ⟨h1, h2, h3, h4⟩ := slotB_ok h.1
    exact tri (ae_pk h1 h2 h3 h4 (snd_E sd b _ sc W h.2).1.frz (tame_ix (chk_tame h.2))) (by intro _ _; rfl) (by simp)
  | .lenv i, e', sc, W, h => by
    cases e' <;> first | (simp [chkE] at h; done) | skip
    rename_i f as ks pos
    cases f <;> first | (simp [chkE] at h; done) | skip
    match as, ks, h with
    | [e1], [], h =>
      cases e1 <;> first | (simp [chkE] at h; done) | skip
      rename_i x p2
      simp only [chkE, Bool.and_eq_true, decide_eq_true_eq] at h
      obtain ⟨⟨h0, h5⟩, h6⟩ := h
      subst h0
      obtain ⟨h1, h2, h3, h4⟩ := slotB_ok h6
      obtain ⟨g1, g2⟩ := bltB_ok h5
      exact tri (ae_lenv h1 h2 h3 h4 g1 (sd.bok _ g2)) (by intro _ _; rfl) (by simp)
    | [], _, h => simp [chkE] at h
    | _ :: _ :: _, _, h => simp [chkE] at h
    | [_], _ :: _, h => simp [chkE] at h
  | .call f rk es, e', sc, W, h => by
    cases e' <;> first | (simp [chkE] at h; done) | skip
    rename_i fe as ks pos
    cases fe <;> first | (simp [chkE] at h; done) | skip
    match as, ks, h with
    | e1 :: es1, [], h =>
      simp only [chkE, Bool.and_eq_true] at h
      obtain ⟨h1, h2⟩ := h
      split at h1
      · rename_i s hs
        simp only [Bool.and_eq_true, decide_eq_true_eq] at h1
        obtain ⟨⟨⟨⟨q1, q2⟩, q3⟩, q4⟩, q5⟩ := h1
        obtain ⟨g, hg, hgs⟩ := sigs_get hs
        subst hgs q1 q3
        obtain ⟨g1, g2⟩ := glB_ok q5
        have al : AL c sc W (e1 :: es1) 0 g.sig.np (evs Γ es) := by rw [← q4]; exact snd_Es sd es _ sc W 0 h2 (deps_0 es)
        have tm : tame e1 = true := by
          cases es with
          | nil => simp [chkEs] at h2
          | cons e es => simp only [chkEs, Bool.and_eq_true] at h2; exact chk_tame h2.1
        have pl : ∀ env, (backTo pos (starEach es1 env)).any (·.1) = false := fun env => by
          cases es with
          | nil => simp [chkEs] at h2
          | cons e es => simp only [chkEs, Bool.and_eq_true] at h2; exact tames_plain pos env h2.2
        exact tri (ae_call sd hg (by simpa using q2) al g1 g2 (fun env => tame_star tm _ env) pl) (by intro _ _; rfl) (by simp)
      · cases h1
    | [], _, h => simp [chkE] at h
    | _ :: _, _ :: _, h => simp [chkE] at h
  | .callr f rk i es, e', sc, W, h => by
    cases e' <;> first | (simp [chkE] at h; done) | skip
    rename_i fe as ks pos
    cases fe <;> first | (simp [chkE] at h; done) | skip
    match as, ks, h with
    | e1 :: es1, [], h =>
      cases e1 <;> first | (simp [chkE] at h; done) | skip
      rename_i y py
      simp only [chkE, Bool.and_eq_true] at h
      obtain ⟨⟨h1, h3⟩, h2⟩ := h
      split at h1
      · rename_i s hs
        simp only [Bool.and_eq_true, decide_eq_true_eq] at h1
        obtain ⟨⟨⟨⟨q1, q2⟩, q3⟩, q4⟩, q5⟩ := h1
        obtain ⟨g, hg, hgs⟩ := sigs_get hs
        subst hgs q1 q3
        obtain ⟨g1, g2⟩ := glB_ok q5
        obtain ⟨kk, hk⟩ := Option.isSome_iff_exists.mp q2
        obtain ⟨n1, n2, n3, n4⟩ := slotB_ok h3
        exact tri (ae_callr sd hg hk (snd_Es sd es _ sc W 0 h2 (deps_0 es)) q4 g1 n1 n2 n3 n4 g2 (fun env => tames_plain pos env h2)) (by intro _ _; rfl) (by simp)
      · cases h1
    | [], _, h => simp [chkE] at h
    | _ :: _, _ :: _, h => simp [chkE] at h
  | .blt b es, e', sc, W, h => by
    cases e' <;> first | (simp [chkE] at h; done) | skip
    rename_i fe as ks pos
    cases fe <;> first | (simp [chkE] at h; done) | skip
    match as, ks, h with
    | e1 :: es1, [], h =>
      simp only [chkE, Bool.and_eq_true, decide_eq_true_eq] at h
      obtain ⟨⟨h1, h2⟩, h3⟩ := h
      subst h1
      obtain ⟨g1, g2⟩ := bltB_ok h2
      have tm : tame e1 = true := by
        cases es with
        | nil => simp [chkEs] at h3
        | cons e es => simp only [chkEs, Bool.and_eq_true] at h3; exact chk_tame h3.1
      have pl : ∀ env, (backTo pos (starEach es1 env)).any (·.1) = false := fun env => by
        cases es with
        | nil => simp [chkEs] at h3
        | cons e es => simp only [chkEs, Bool.and_eq_true] at h3; exact tames_plain pos env h3.2
      exact tri (ae_blt (snd_Es sd es _ sc W 0 h3 (deps_0 es)) g1 (sd.bok _ g2) (fun env => tame_star tm _ env) pl) (by intro _ _; rfl) (by simp)
    | [], _, h => simp [chkE] at h
    | _ :: _, _ :: _, h => simp [chkE] at h
  | .isi a t, e', sc, W, h => by
    cases e' <;> first | (simp [chkE] at h; done) | skip
    rename_i fe as ks pos
    cases fe <;> first | (simp [chkE] at h; done) | skip
    match as, ks, h with
    | [a', e1], [], h =>
      cases e1 <;> first | (simp [chkE] at h; done) | skip
      rename_i y p2
      simp only [chkE, Bool.and_eq_true, decide_eq_true_eq] at h
      obtain ⟨⟨⟨⟨h1, h2⟩, h3⟩, h4⟩, h5⟩ := h
      subst h1 h2
      obtain ⟨g1, g2⟩ := bltB_ok h3
      obtain ⟨g3, g4⟩ := bltB_ok h4
      exact tri (ae_isi (snd_E sd a _ sc W h5).1.frz g1 (sd.bok _ g2) g3 (sd.bok _ g4) (fun env => tame_star (chk_tame h5) _ env)) (by intro _ _; rfl) (by simp)
    | [], _, h => simp [chkE] at h
    | [_], _, h => simp [chkE] at h
    | _ :: _ :: _ :: _, _, h => simp [chkE] at h
    | [_, _], _ :: _, h => simp [chkE] at h
  | .comp k own tg it ifs elt, e', sc, W, h => by
    cases e' <;> first | (simp [chkE] at h; done) | skip
    rename_i elt' gs scope pos
    match gs, h with
    | [⟨tg', iter', ifs', n⟩], h =>
      simp only [chkE, Bool.and_eq_true, decide_eq_true_eq] at h
      obtain ⟨⟨⟨⟨⟨⟨⟨h0, h1⟩, h2⟩, h3⟩, h4⟩, h5⟩, h6⟩, h7⟩ := h
      subst h0
      have e1 := ownOf_ix (N := c.N) own
      have := ae_comp (W := W) (pos := pos) sd.nd (snd_It sd it tg' iter' sc W h4).1 (blkOk_by h1) h2 (by rw [e1]; exact subB_ok h3) (snd_O sd ifs ifs' _ h5) (to_k (snd_E sd elt _ (relS scope sc) WF h6).1 h7) (snd_It sd it tg' iter' sc W h4).2
      rw [e1] at this
      exact tri this (by intro _ _; rfl) (by simp)
    | [], h => simp [chkE] at h
    | _ :: _ :: _, h => simp [chkE] at h
theorem snd_Es (sd : Sd c Γ bl) : ∀ (es : Es) (es' : List Expr) (sc : Scope) (W : WX) (m : Nat), chkEs (ccOf c Γ bl) sc es es' = true → es.deps m = true → AL c sc W es' m es.len (evs Γ es)
  | .nil, es', sc, W, m, h, _ => by
    cases es' with
    | cons e es => simp [chkEs] at h
    | nil => exact al_nil
  | .cons e es, es', sc, W, m, h, hd => by
    cases es' with
    | nil => simp [chkEs] at h
    | cons e' es' =>
      simp only [chkEs, Bool.and_eq_true] at h
      simp only [Es.deps, Bool.and_eq_true, decide_eq_true_eq] at hd
      exact al_cons (to_k (snd_E sd e e' sc W h.1).1 hd.1) (snd_Es sd es es' sc W m h.2 hd.2) (fun env => tame_star (chk_tame h.1) _ env)
theorem snd_P (sd : Sd c Γ bl) : ∀ (o : Os) (e : Option Expr) (sc : Scope) (W : WX), chkP (ccOf c Γ bl) sc o e = true → APo c sc W e (evP Γ o)
  | .none, e, sc, W, h => by
    cases e with
    | some e => simp [chkP] at h
    | none => exact apo_none
  | .some o, e, sc, W, h => by
    cases e with
    | none => simp [chkP] at h
    | some e => exact apo_some (snd_E sd o e sc W (by simpa [chkP] using h)).1.frz
theorem snd_O (sd : Sd c Γ bl) : ∀ (o : Os) (ifs : List Expr) (sc : Scope), chkO (ccOf c Γ bl) sc o ifs = true → AO c sc ifs (evO Γ o)
  | .none, ifs, sc, h => by
    cases ifs with
    | cons e es => simp [chkO] at h
    | nil => exact ao_none
  | .some e, ifs, sc, h => by
    match ifs, h with
    | [e'], h =>
      simp only [chkO] at h
      exact ao_some (snd_E sd e e' sc WF h).2.1
    | [], h => simp [chkO] at h
    | _ :: _ :: _, h => simp [chkO] at h
theorem snd_It (sd : Sd c Γ bl) : ∀ (it : It) (tg iter : Expr) (sc : Scope) (W : WX), chkIt (ccOf c Γ bl) sc it tg iter = true → AI c sc W tg iter (evIt Γ it) ∧ ∀ env x, foldedSetIterable iter env x = pure x
  | .lst e, tg, iter, sc, W, h => by
    have h : chkE (ccOf c Γ bl) sc e iter = true := by simpa only [chkIt] using h
    exact ⟨ai_lst (snd_E sd e iter sc W h).1.frz, tame_fold (chk_tame h)⟩
  | .tup e, tg, iter, sc, W, h => by
    have h : chkE (ccOf c Γ bl) sc e iter = true := by simpa only [chkIt] using h
    exact ⟨ai_tup (snd_E sd e iter sc W h).1.frz, tame_fold (chk_tame h)⟩
  | .rng e, tg, iter, sc, W, h => by
    cases iter <;> first | (simp [chkIt] at h; done) | skip
    rename_i fe as ks pos
    cases fe <;> first | (simp [chkIt] at h; done) | skip
    match as, ks, h with
    | [e'], [], h =>
      simp only [chkIt, Bool.and_eq_true, decide_eq_true_eq] at h
      obtain ⟨⟨h1, h2⟩, h3⟩ := h
      subst h1
      obtain ⟨g1, g2⟩ := bltB_ok h2
      exact ⟨ai_rng g1 (sd.bok _ g2) (snd_E sd e e' sc W h3).1.frz (fun env => by rw [tame_star (chk_tame h3)]; rfl), by intro _ _; rfl⟩
    | [], _, h => simp [chkIt] at h
    | _ :: _ :: _, _, h => simp [chkIt] at h
    | [_], _ :: _, h => simp [chkIt] at h
  | .rng2 a b, tg, iter, sc, W, h => by
    cases iter <;> first | (simp [chkIt] at h; done) | skip
    rename_i fe as ks pos
    cases fe <;> first | (simp [chkIt] at h; done) | skip
    match as, ks, h with
    | [a', b'], [], h =>
      simp only [chkIt, Bool.and_eq_true, decide_eq_true_eq] at h
      obtain ⟨⟨⟨h1, h2⟩, h3⟩, h4⟩ := h
      subst h1
      obtain ⟨g1, g2⟩ := bltB_ok h2
      exact ⟨ai_rng2 g1 (sd.bok _ g2) (snd_E sd a a' sc W h3).1.frz (snd_E sd b b' sc W h4).1.frz (fun env => by rw [tame_star (chk_tame h3), tame_star (chk_tame h4)]; rfl) (fun env => by rw [tame_star (chk_tame h4)]; rfl), by intro _ _; rfl⟩
    | [], _, h => simp [chkIt] at h
    | [_], _, h => simp [chkIt] at h
    | _ :: _ :: _ :: _, _, h => simp [chkIt] at h
    | [_, _], _ :: _, h => simp [chkIt] at h
  | .enum e, tg, iter, sc, W, h => by
    cases tg <;> first | (simp [chkIt] at h; done) | skip
    cases iter <;> first | (simp [chkIt] at h; done) | skip
    rename_i fe as ks pos
    cases fe <;> first | (simp [chkIt] at h; done) | skip
    match as, ks, h with
    | [e'], [], h =>
      simp only [chkIt, Bool.and_eq_true, decide_eq_true_eq] at h
      obtain ⟨⟨h1, h2⟩, h3⟩ := h
      subst h1
      obtain ⟨g1, g2⟩ := bltB_ok h2
      exact ⟨ai_enum g1 (sd.bok _ g2) (snd_E sd e e' sc W h3).1.frz (fun env => by rw [tame_star (chk_tame h3)]; rfl), by intro _ _; rfl⟩
    | [], _, h => simp [chkIt] at h
    | _ :: _ :: _, _, h => simp [chkIt] at h
    | [_], _ :: _, h => simp [chkIt] at h
  | .zip a b, tg, iter, sc, W, h => by
    cases tg <;> first | (simp [chkIt] at h; done) | skip
    cases iter <;> first | (simp [chkIt] at h; done) | skip
    rename_i fe as ks pos
    cases fe <;> first | (simp [chkIt] at h; done) | skip
    match as, ks, h with
    | [a', b'], [], h =>
      simp only [chkIt, Bool.and_eq_true, decide_eq_true_eq] at h
      obtain ⟨⟨⟨h1, h2⟩, h3⟩, h4⟩ := h
      subst h1
      obtain ⟨g1, g2⟩ := bltB_ok h2
      exact ⟨ai_zip g1 (sd.bok _ g2) (snd_E sd a a' sc W h3).1.frz (snd_E sd b b' sc W h4).1.frz (fun env => tame_star (chk_tame h3) _ env) (fun env => by rw [tame_star (chk_tame h4)]; rfl), by intro _ _; rfl⟩
    | [], _, h => simp [chkIt] at h
    | [_], _, h => simp [chkIt] at h
    | _ :: _ :: _ :: _, _, h => simp [chkIt] at h
    | [_, _], _ :: _, h => simp [chkIt] at h
end
end Q

namespace Q
open PySem PySem.Spec PyProof.Rows L2
variable {c : Ctx} {sc so : Scope} {W : WX} {Γ : List Ent} {bl : Bl} {P : List Nat} {rk : Nat}

def notIn (i : Nat) (P : List Nat) : Bool := decide (i ∉ P)
def isLc : Expr → Bool
  | .ListComp .. => true
  | _ => false
def isTp : Expr → Bool
  | .Tuple .. => true
  | _ => false
def lclB (sc : Scope) (x : Str) : Bool := match sc.names.lookup x with
  | some .local => true
  | _ => false
def celB (sc : Scope) (x : Str) : Bool := match sc.names.lookup x with
  | some .cell => true
  | _ => false
def notLend : E → Bool
  | .lend _ => false
  | _ => true
/-- name = value, the name's cell of depth m -/
def chkA (C : Cc) (sc : Scope) (P : List Nat) (m i : Nat) (e : E) (x : Str) (px : Pos) (e' : Expr) : Bool :=
  decide (C.N[i]? = some x) && locB sc x && notIn i P && chkE C sc e e' && (match e' with
    | .ListComp _ _ scope p => notLend e && (celB sc x || (px.line == p.line && !(scope.names.any fun (n, k) => n == x && (k == .local || k == .cell))))
    | _ => true)
def asName : List Expr → Option (Str × Pos)
  | [.Name x px] => some (x, px)
  | _ => none
theorem asName_ok {ts : List Expr} {x : Str} {px : Pos} (h : asName ts = some (x, px)) : ts = [.Name x px] := by
  unfold asName at h
  split at h
  · cases h; rfl
  · cases h
def asTup : List Expr → Option (List Expr)
  | [.Tuple es _ _] => some es
  | _ => none
theorem asTup_ok {ts es : List Expr} (h : asTup ts = some es) : ∃ k p, ts = [.Tuple es k p] := by
  unfold asTup at h
  split at h
  · cases h; exact ⟨_, _, rfl⟩
  · cases h
def asTwo : List Expr → Option (Str × Pos × Str × Pos)
  | [.Name x px, .Name y py] => some (x, px, y, py)
  | _ => none
theorem asTwo_ok {ts : List Expr} {x y : Str} {px py : Pos} (h : asTwo ts = some (x, px, y, py)) : ts = [.Name x px, .Name y py] := by
  unfold asTwo at h
  split at h
  · cases h; rfl
  · cases h
def asPair : Expr → Option (Expr × Expr)
  | .Tuple [a, b] _ _ => some (a, b)
  | _ => none
theorem asPair_ok {e a b : Expr} (h : asPair e = some (a, b)) : ∃ k p, e = .Tuple [a, b] k p := by
  unfold asPair at h
  split at h
  · cases h; exact ⟨_, _, rfl⟩
  · cases h
def asApp : Expr → Option (Str × Str × Pos × Expr × Pos)
  | .Call (.Attribute (.Name x _) at' pa) [e'] [] pc => some (x, at', pa, e', pc)
  | _ => none
theorem asApp_ok {e e' : Expr} {x a : Str} {pa pc : Pos} (h : asApp e = some (x, a, pa, e', pc)) : ∃ px, e = .Call (.Attribute (.Name x px) a pa) [e'] [] pc := by
  unfold asApp at h
  split at h
  · cases h; exact ⟨_, rfl⟩
  · cases h
def asSub : List Expr → Option (Str × Expr)
  | [.Subscript (.Name x _) b _] => some (x, b)
  | _ => none
theorem asSub_ok {ts : List Expr} {x : Str} {b : Expr} (h : asSub ts = some (x, b)) : ∃ px pb, ts = [.Subscript (.Name x px) b pb] := by
  unfold asSub at h
  split at h
  · cases h; exact ⟨_, _, rfl⟩
  · cases h
def chkPar (C : Cc) (sc : Scope) (P : List Nat) (i j : Nat) (a b : E) (es : List Expr) (e' : Expr) : Bool :=
  match asTwo es, asPair e' with
  | some (x, px, y, py), some (a', b') => decide (C.N[i]? = some x) && decide (C.N[j]? = some y) && decide (i ≠ j) && lclB sc x && lclB sc y && notIn i P && notIn j P && (px.line == py.line) &&
      !(([a', b'].all (foldedForSure 8))) && !(([a', b'].all (constantsAlone 8))) && chkE C sc a a' && chkE C sc b b'
  | _, _ => false
def isNone {α : Type} : Option α → Bool
  | none => true
  | _ => false
def chkApp (C : Cc) (sc : Scope) (i : Nat) (e : E) (ex : Expr) : Bool :=
  match asApp ex with
  | some (x, at', pa, e', pc) => decide (at' = "append") && slotB C.N sc i x && chkE C sc e e' && (pa.endLine == pc.line)
  | none => false
def chkSti (C : Cc) (sc : Scope) (i : Nat) (b e : E) (ts : List Expr) (e' : Expr) : Bool :=
  match asSub ts with
  | some (x, b') => slotB C.N sc i x && chkE C sc b b' && chkE C sc e e'
  | none => false
/-- a path of subscripts from a name -/
def unPath : Expr → Option (Str × Pos × List (Expr × Pos))
  | .Name x p => some (x, p, [])
  | .Subscript o b p => match unPath o with
    | some (x, px, l) => some (x, px, l ++ [(b, p)])
    | none => none
  | _ => none
theorem mkPath_snoc : ∀ (l : List (Expr × Pos)) (e b : Expr) (p : Pos), mkPath e (l ++ [(b, p)]) = .Subscript (mkPath e l) b p
  | [], _, _, _ => rfl
  | (_, _) :: l, e, b, p => mkPath_snoc l _ b p
theorem unPath_ok {e : Expr} {x : Str} {px : Pos} {l : List (Expr × Pos)} (h : unPath e = some (x, px, l)) : e = mkPath (.Name x px) l := by
  cases e with
  | Name y p =>
    simp only [unPath, Option.some.injEq, Prod.mk.injEq] at h
    obtain ⟨h1, h2, h3⟩ := h
    subst h1 h2 h3
    rfl
  | Subscript o b p =>
    simp only [unPath] at h
    split at h
    · rename_i q
      simp only [Option.some.injEq, Prod.mk.injEq] at h
      obtain ⟨h1, h2, h3⟩ := h
      subst h1 h2 h3
      rw [mkPath_snoc, ← unPath_ok q]
    · cases h
  | _ => simp [unPath] at h
termination_by sizeOf e
def asSubP : Expr → Option (Str × Pos × List (Expr × Pos) × Expr × Pos)
  | .Subscript o b p => match unPath o with
    | some (x, px, l) => some (x, px, l, b, p)
    | none => none
  | _ => none
theorem asSubP_ok {e b : Expr} {x : Str} {px p : Pos} {l : List (Expr × Pos)} (h : asSubP e = some (x, px, l, b, p)) : e = .Subscript (mkPath (.Name x px) l) b p := by
  unfold asSubP at h
  split at h
  · split at h
    · rename_i q
      cases h
      rw [unPath_ok q]
    · cases h
  · cases h
def asOne : List Expr → Option Expr
  | [e] => some e
  | _ => none
theorem asOne_ok {ts : List Expr} {e : Expr} (h : asOne ts = some e) : ts = [e] := by
  unfold asOne at h
  split at h
  · cases h; rfl
  · cases h
def chkStp (C : Cc) (sc : Scope) (i q : Nat) (bs : Es) (b e : E) (ts : List Expr) (e' : Expr) : Bool :=
  match asOne ts with
  | some t => match asSubP t with
    | some (x, _, l, b', _) => slotB C.N sc i x && chkEs C sc bs (l.map (·.1)) && chkE C sc b b' && chkE C sc e e' && decide (q ≤ e.dep)
    | none => false
  | none => false
def chkAug (C : Cc) (sc : Scope) (i : Nat) (bs : Es) (b : E) (o : Operator) (e : E) (t : Expr) (o' : Operator) (e' : Expr) : Bool :=
  match asSubP t with
  | some (x, _, l, b', _) => slotB C.N sc i x && chkEs C sc bs (l.map (·.1)) && chkE C sc b b' && chkE C sc e e' && okAug o && decide (o = o')
  | none => false
def asNm : Expr → Option (Str × Pos)
  | .Name x p => some (x, p)
  | _ => none
theorem asNm_ok {e : Expr} {x : Str} {p : Pos} (h : asNm e = some (x, p)) : e = .Name x p := by
  unfold asNm at h
  split at h
  · cases h; rfl
  · cases h
def chkForb (C : Cc) (sc : Scope) (P : List Nat) (x i : Nat) (tg it : Expr) : Bool :=
  match asNm tg, asNm it with
  | some (z, _), some (y, _) => decide (C.N[x]? = some z) && locB sc z && slotB C.N sc i y && decide (x ≠ i) && notIn x P
  | _, _ => false
def chkForl (C : Cc) (sc : Scope) (P : List Nat) (x : Nat) (tg : Expr) : Bool :=
  match asNm tg with
  | some (z, _) => decide (C.N[x]? = some z) && locB sc z && notIn x P
  | none => false
mutual
def chkS (C : Cc) (sc : Scope) (P : List Nat) (rk : Nat) : S → Stmt → Bool
  | .set i e, .Assign ts e' _ => (match asName ts with
    | some (x, px) => chkA C sc P 0 i e x px e'
    | none => false)
  | .seto i k e, .Assign ts e' _ => (match asName ts with
    | some (x, px) => chkA C sc P k i e x px e' && decide (k ≤ e.dep)
    | none => false)
  | .par i j a b, .Assign ts e' _ => (match asTup ts with
    | some es => chkPar C sc P i j a b es e'
    | none => false)
  | .unp us e, .Assign ts e' _ => (match asTup ts with
    | some es => chkTgs C.N sc us es && (us.slots.all fun j => notIn j P) && !isTp e' && chkE C sc e e'
    | none => false)
  | .ret e, .Return v _ => (match v with
    | some e' => chkE C sc e e' && decide (rk ≤ e.dep)
    | none => false)
  | .expr e, .Expr e' _ => chkE C sc e e' && !isLc e'
  | .ite e a b, .If e' a' b' _ => chkE C sc e e' && chkSs C sc P rk a a' && chkSs C sc P rk b b'
  | .whl e b, .While e' b' o _ => o.isEmpty && chkE C sc e e' && chkSs C sc P rk b b'
  | .for tg it b, .For tg' it' b' o _ => o.isEmpty && chkTg C.N sc tg tg' && (tg.slots.all fun j => notIn j P) && chkIt C sc it tg' it' && chkSs C sc P rk b b'
  | .pass, .Pass _ => true
  | .cont, .Continue _ => true
  | .brk, .Break _ => true
  | .app i e, .Expr ex _ => chkApp C sc i e ex
  | .sti i b e, .Assign ts e' _ => chkSti C sc i b e ts e'
  | .never, _ => true
  | .stp i q bs b e, .Assign ts e' _ => chkStp C sc i q bs b e ts e'
  | .aug i bs b o e, .AugAssign t o' e' _ => chkAug C sc i bs b o e t o' e'
  | .forb none x i b, .For tg it b' o _ => o.isEmpty && chkForb C sc P x i tg it && chkSs C sc (x :: i :: P) rk b b'
  | .forl x k e b, .For tg it b' o _ => o.isEmpty && chkForl C sc P x tg && chkE C sc e it && decide (k + 1 ≤ e.dep) && chkSs C sc P rk b b'
  | .raise x m, .Raise (some (.Call (.Name y _) [.Constant (.str n) _ _] [] _)) none _ => decide (x = y) && decide (m = n) && glB sc x && decide (x ∈ C.bl.x)
  | _, _ => false
def chkSs (C : Cc) (sc : Scope) (P : List Nat) (rk : Nat) : Ss → List Stmt → Bool
  | .nil, [] => true
  | .cons s ss, s' :: ss' => chkS C sc P rk s s' && chkSs C sc P rk ss ss'
  | _, _ => false
end
theorem lclB_ok {x : Str} (h : lclB sc x = true) : sc.names.lookup x = some .local := by
  unfold lclB at h
  split at h
  · assumption
  · cases h
theorem celB_ok {x : Str} (h : celB sc x = true) : sc.names.lookup x = some .cell := by
  unfold celB at h
  split at h
  · assumption
  · cases h
theorem swaps_tame {e : Expr} (h : tame e = true) (hl : isLc e = false) (t : Option Expr) (l : Nat) (env : PySem.Env) : swapsWith e t l env = pure false := by
  cases e <;> first | rfl | (simp [tame] at h; done) | (simp [isLc] at hl)
theorem swaps_sub {e : Expr} (o b : Expr) (p : Pos) (l : Nat) (env : PySem.Env) : swapsWithSole [.Subscript o b p] e l env = pure false := by
  cases e <;> rfl
theorem swaps_tup {e : Expr} (es : List Expr) (k : Nat) (p : Pos) (l : Nat) (env : PySem.Env) : swapsWithSole [.Tuple es k p] e l env = pure false := by
  cases e <;> rfl
theorem stores_sub {e : Expr} (o b : Expr) (p : Pos) (env : PySem.Env) : swappedStores [.Subscript o b p] e env = pure none := by
  cases e <;> rfl
theorem stores_tup {e : Expr} (es : List Expr) (k : Nat) (p : Pos) (env : PySem.Env) (h : isTp e = false) : swappedStores [.Tuple es k p] e env = pure none := by
  cases e <;> first | rfl | (simp [isTp] at h)
theorem swaps_cell {elt : Expr} {gs : List Comprehension} {scope : Scope} {p px : Pos} {x : Str} {l : Nat} {env : PySem.Env} (hk : env.kindOf x = some .cell) : swapsWith (.ListComp elt gs scope p) (some (.Name x px)) l env = pure false := by
  unfold swapsWith
  simp only [hk]
  show (pure _ : Sem Bool) = pure false
  congr 1
  have : ((some NameKind.cell : Option NameKind) == some .local) = false := by decide
  rw [this]
  simp
theorem stores_par {x y : Str} {px py pt pt2 : Pos} {kt k2 : Nat} {a b : Expr} {env : PySem.Env} (hk : env.scope.kind = .function) (hx : env.kindOf x = some .local) (hy : env.kindOf y = some .local) (hl : (px.line == py.line) = true) (hxy : x ≠ y) (ta : tame a = true) (tb : tame b = true)
    (h1 : ([a, b].all (foldedForSure 8)) = false) (h2 : ([a, b].all (constantsAlone 8)) = false) :
    swappedStores [.Tuple [.Name x px, .Name y py] kt pt] (.Tuple [a, b] k2 pt2) env = pure (some [x, y]) := by
  have hb : env.blockKind = .function := by unfold Env.blockKind; rw [hk]; rfl
  have hl' : py.line = px.line := by simpa using (beq_iff_eq.mp hl).symm
  have hxy' : (x == y) = false := by simpa using hxy
  have hyx' : (y == x) = false := by simpa using (Ne.symm hxy)
  unfold swappedStores
  show (if _ then _ else _ : Sem (Option (List Str))) = _
  simp only [hb, List.length_cons, List.length_nil, List.head?_cons, Option.map_some, Option.getD_some, Expr.pos]
  rw [if_neg (by decide)]
  have key : ∀ (u v : Sem (Option (List Str))) (b1 : Bool), b1 = false → (if b1 = true then u else v) = v := fun u v b1 h => by rw [h]; rfl
  rw [key _ _ _ (by
    simp only [List.any_cons, List.any_nil, Bool.or_false, Bool.or_eq_false_iff]
    exact ⟨by cases a <;> first | (simp [tame] at ta; done) | rfl, by cases b <;> first | (simp [tame] at tb; done) | rfl⟩)]
  simp only [List.filterMap_cons, List.filterMap_nil, hx, hy, hl', beq_self_eq_true, Bool.and_self, if_true]
  rw [key _ _ _ (by simp [List.eraseDups_cons, hxy', hyx']), key _ _ _ h1, key _ _ _ h2]
theorem notIn_ok {i : Nat} (h : notIn i P = true) : i ∉ P := of_decide_eq_true h
theorem alls_ok {l : List Nat} (h : (l.all fun j => notIn j P) = true) : ∀ j ∈ l, j ∉ P := fun j hj => notIn_ok (List.all_eq_true.mp h j hj)
theorem snd_A (sd : Sd c Γ bl) {i m : Nat} {e : E} {x : Str} {px pos : Pos} {e' : Expr} {cl : D → Cell} (h : chkA (ccOf c Γ bl) sc P m i e x px e' = true) (hm : m ≤ e.dep) (hc : ∀ d, (m = 0 ∧ cl d = .va d) ∨ cl d = .ow m d) :
    AP c sc W P rk (.Assign [.Name x px] e' pos) (fun κ ρ => ev Γ e ρ (fun ρ1 d => κ.nx (ρ1.set i (cl d))) κ.xc) := by
  unfold chkA at h
  simp only [Bool.and_eq_true, decide_eq_true_eq] at h
  obtain ⟨⟨⟨⟨h1, h2⟩, h3⟩, h4⟩, h5⟩ := h
  have plain : (∀ X, IsT c sc W X → swapsWith e' (some (.Name x px)) pos.line X.env = pure false) → AP c sc W P rk (.Assign [.Name x px] e' pos) (fun κ ρ => ev Γ e ρ (fun ρ1 d => κ.nx (ρ1.set i (cl d))) κ.xc) := fun hs =>
    ap_set sd.nd ((snd_E sd e e' sc W h4).1.to hm) h1 (locB_ok h2) (notIn_ok h3) hs hc
  cases hl : isLc e' with
  | false => exact plain fun X hX => swaps_tame (chk_tame h4) hl _ _ _
  | true =>
    cases e' <;> first | (simp [isLc] at hl; done) | skip
    rename_i elt' gs scope p
    simp only [Bool.or_eq_true, Bool.and_eq_true, Bool.not_eq_true'] at h5
    obtain ⟨hnl, h5⟩ := h5
    rcases h5 with h5 | ⟨h5, h6⟩
    · exact plain fun X hX => swaps_cell (by show X.env.scope.names.lookup x = _; rw [hX.is.is.sc]; exact celB_ok h5)
    · by_cases hlo : sc.names.lookup x = some .local
      · cases e <;> first | (cases hnl; done) | (simp [chkE] at h4; done) | skip
        rename_i k own tg it ifs elt
        match gs, h4 with
        | [⟨tg', iter', ifs', n⟩], h4 =>
          simp only [chkE, Bool.and_eq_true, decide_eq_true_eq] at h4
          obtain ⟨⟨⟨⟨⟨⟨⟨h0, q1⟩, q2⟩, q3⟩, q4⟩, q5⟩, q6⟩, q7⟩ := h4
          subst h0
          have e1 := ownOf_ix (N := c.N) own
          have := ap_setc (W := W) (P := P) (rk := rk) (pos := p) (px := px) (ps := pos) (cl := cl) sd.nd (snd_It sd it tg' iter' sc W q4).1 (blkOk_by q1) q2 (by rw [e1]; exact subB_ok q3) (snd_O sd ifs ifs' _ q5) (to_k (snd_E sd elt _ (relS scope sc) WF q6).1 q7) (snd_It sd it tg' iter' sc W q4).2
            h1 hlo (notIn_ok h3) h5 h6 m hm hc
          rw [e1] at this
          exact this
        | [], h4 => simp [chkE] at h4
        | _ :: _ :: _, h4 => simp [chkE] at h4
      · refine plain fun X hX => swaps_cell (by show X.env.scope.names.lookup x = _; rw [hX.is.is.sc]; rcases locB_ok h2 with q | q; exact absurd q hlo; exact q)
theorem tame_aug {b : Expr} (h : tame b = true) : ∀ ov iv new, augStore b ov iv new = (do holding [new, ov, iv] (setItem ov iv new); release [new, ov, iv] []; pure .next) := by
  intro ov iv new
  cases b <;> first | rfl | (simp [tame] at h)
theorem snd_Pa (sd : Sd c Γ bl) : ∀ (bs : Es) (l : List (Expr × Pos)) (sc : Scope) (W : WX), chkEs (ccOf c Γ bl) sc bs (l.map (·.1)) = true → APa c sc W l bs.len (evPa Γ bs)
  | .nil, l, sc, W, h => by
    cases l with
    | cons e es => simp [chkEs] at h
    | nil => exact apa_nil
  | .cons e es, l, sc, W, h => by
    cases l with
    | nil => simp [chkEs] at h
    | cons p l =>
      obtain ⟨b, p⟩ := p
      simp only [List.map_cons, chkEs, Bool.and_eq_true] at h
      exact apa_cons (snd_E sd e b sc W h.1).1.frz (tame_ix (chk_tame h.1)) (snd_Pa sd es l sc W h.2)
mutual
theorem snd_S (sd : Sd c Γ bl) : ∀ (s : S) (s' : Stmt) (P : List Nat), chkS (ccOf c Γ bl) sc P rk s s' = true → AP c sc W P rk s' (sv Γ s)
  | .set i e, s', P, h => by
    cases s' <;> first | (simp [chkS] at h; done) | skip
    simp only [chkS] at h
    split at h
    · rename_i q
      rw [asName_ok q]
      exact snd_A sd h (Nat.zero_le _) (fun d => .inl ⟨rfl, rfl⟩)
    · cases h
  | .seto i k e, s', P, h => by
    cases s' <;> first | (simp [chkS] at h; done) | skip
    simp only [chkS] at h
    split at h
    · rename_i q
      rw [asName_ok q]
      simp only [Bool.and_eq_true, decide_eq_true_eq] at h
      exact snd_A sd h.1 h.2 (fun d => .inr rfl)
    · cases h
  | .stp i q bs b e, s', P, h => by
    cases s' <;> first | (simp [chkS] at h; done) | skip
    simp only [chkS] at h
    unfold chkStp at h
    split at h
    · rename_i q1
      rw [asOne_ok q1]
      split at h
      · rename_i q2
        rw [asSubP_ok q2]
        simp only [Bool.and_eq_true, decide_eq_true_eq] at h
        obtain ⟨⟨⟨⟨h1, h2⟩, h3⟩, h4⟩, h5⟩ := h
        obtain ⟨n1, n2, n3, n4⟩ := slotB_ok h1
        exact ap_stp (to_k (snd_E sd e _ sc W h4).1 h5) (snd_Pa sd bs _ sc W h2) (snd_E sd b _ sc W h3).1.frz n1 n2 n3 n4 (fun o p l env => swaps_sub _ _ _ l env) (fun o p env => stores_sub _ _ _ env) (fun o env v => tame_set (chk_tame h3) env v)
      · cases h
    · cases h
  | .aug i bs b o e, s', P, h => by
    cases s' <;> first | (simp [chkS] at h; done) | skip
    simp only [chkS] at h
    unfold chkAug at h
    split at h
    · rename_i q2
      rw [asSubP_ok q2]
      simp only [Bool.and_eq_true, decide_eq_true_eq] at h
      obtain ⟨⟨⟨⟨⟨h1, h2⟩, h3⟩, h4⟩, h5⟩, h6⟩ := h
      subst h6
      obtain ⟨n1, n2, n3, n4⟩ := slotB_ok h1
      exact ap_aug (snd_E sd e _ sc W h4).1.frz (snd_Pa sd bs _ sc W h2) (snd_E sd b _ sc W h3).1.frz n1 n2 n3 n4 h5 (tame_aug (chk_tame h3))
    · cases h
  | .forb en x i b, s', P, h => by
    cases en <;> cases s' <;> first | (simp [chkS] at h; done) | skip
    simp only [chkS, Bool.and_eq_true, List.isEmpty_iff] at h
    obtain ⟨⟨h0, h1⟩, h2⟩ := h
    subst h0
    unfold chkForb at h1
    split at h1
    · rename_i q1 q2
      rw [asNm_ok q1, asNm_ok q2]
      simp only [Bool.and_eq_true, decide_eq_true_eq] at h1
      obtain ⟨⟨⟨⟨a1, a2⟩, a3⟩, a4⟩, a5⟩ := h1
      obtain ⟨n1, n2, n3, n4⟩ := slotB_ok a3
      exact ap_forb sd.nd a1 n1 (locB_ok a2) n2 n3 n4 a4 (notIn_ok a5) (snd_Ss sd b _ _ h2)
    · cases h1
  | .forl x k e b, s', P, h => by
    cases s' <;> first | (simp [chkS] at h; done) | skip
    simp only [chkS, Bool.and_eq_true, List.isEmpty_iff, decide_eq_true_eq] at h
    obtain ⟨⟨⟨⟨h0, h1⟩, h2⟩, h3⟩, h4⟩ := h
    subst h0
    unfold chkForl at h1
    split at h1
    · rename_i q1
      rw [asNm_ok q1]
      simp only [Bool.and_eq_true, decide_eq_true_eq] at h1
      obtain ⟨⟨a1, a2⟩, a3⟩ := h1
      exact ap_forl sd.nd a1 (locB_ok a2) (to_k (snd_E sd e _ sc W h2).1 h3) (notIn_ok a3) (snd_Ss sd b _ _ h4) (fun env y => tame_fold (chk_tame h2) env y)
    · cases h1
  | .ext i e, s', P, h => by cases s' <;> simp [chkS] at h
  | .augv i o e, s', P, h => by cases s' <;> simp [chkS] at h
  | .par i j a b, s', P, h => by
    cases s' <;> first | (simp [chkS] at h; done) | skip
    simp only [chkS] at h
    split at h
    · rename_i q
      obtain ⟨kt, pt, rfl⟩ := asTup_ok q
      unfold chkPar at h
      split at h
      · rename_i q1 q2
        obtain ⟨k2, pt2, rfl⟩ := asPair_ok q2
        have q1 := asTwo_ok q1
        subst q1
        simp only [Bool.and_eq_true, decide_eq_true_eq, Bool.not_eq_true'] at h
        obtain ⟨⟨⟨⟨⟨⟨⟨⟨⟨⟨⟨h1, h2⟩, h3⟩, h4⟩, h5⟩, h6⟩, h7⟩, h8⟩, h9⟩, h10⟩, h11⟩, h12⟩ := h
        refine ap_par sd.nd (snd_E sd a _ sc W h11).1.frz (snd_E sd b _ sc W h12).1.frz h1 h2 h3 (lclB_ok h4) (lclB_ok h5) (notIn_ok h6) (notIn_ok h7) (fun env => tame_star (chk_tame h11) _ env) (fun env => tame_star (chk_tame h12) _ env) (fun X hX => ?_)
        exact stores_par hX.kind (by show X.env.scope.names.lookup _ = _; rw [hX.is.is.sc]; exact lclB_ok h4) (by show X.env.scope.names.lookup _ = _; rw [hX.is.is.sc]; exact lclB_ok h5) h8 (fun z => by subst z; exact h3 (nodup_ix sd.nd h1 h2)) (chk_tame h11) (chk_tame h12) h9 h10
      · cases h
    · cases h
  | .unp us e, s', P, h => by
    cases s' <;> first | (simp [chkS] at h; done) | skip
    simp only [chkS] at h
    split at h
    · rename_i q
      obtain ⟨kt, pt, rfl⟩ := asTup_ok q
      simp only [Bool.and_eq_true, Bool.not_eq_true'] at h
      obtain ⟨⟨⟨h1, h2⟩, h3⟩, h4⟩ := h
      exact ap_unp (m := 0) sd.nd (snd_E sd e _ sc W h4).1.frz h1 (alls_ok h2) (fun l env => swaps_tup _ _ _ l env) (fun env => stores_tup _ _ _ env h3)
    · cases h
  | .ret e, s', P, h => by
    cases s' <;> first | (simp [chkS] at h; done) | skip
    simp only [chkS] at h
    split at h
    · simp only [Bool.and_eq_true] at h
      exact ap_ret (to_k (snd_E sd e _ sc W h.1).1 (of_decide_eq_true h.2))
    · cases h
  | .expr e, s', P, h => by
    cases s' <;> first | (simp [chkS] at h; done) | skip
    simp only [chkS, Bool.and_eq_true, Bool.not_eq_true'] at h
    exact ap_expr (snd_E sd e _ sc W h.1).1 (fun l env => swaps_tame (chk_tame h.1) h.2 _ l env)
  | .ite e a b, s', P, h => by
    cases s' <;> first | (simp [chkS] at h; done) | skip
    simp only [chkS, Bool.and_eq_true] at h
    exact ap_ite (snd_E sd e _ sc W h.1.1).2.1 (snd_Ss sd a _ _ h.1.2) (snd_Ss sd b _ _ h.2)
  | .whl e b, s', P, h => by
    cases s' <;> first | (simp [chkS] at h; done) | skip
    simp only [chkS, Bool.and_eq_true, List.isEmpty_iff] at h
    obtain ⟨⟨h0, h1⟩, h2⟩ := h
    subst h0
    exact ap_whl (snd_E sd e _ sc W h1).2.1 (snd_Ss sd b _ _ h2)
  | .for tg it b, s', P, h => by
    cases s' <;> first | (simp [chkS] at h; done) | skip
    simp only [chkS, Bool.and_eq_true, List.isEmpty_iff] at h
    obtain ⟨⟨⟨⟨h0, h1⟩, h2⟩, h3⟩, h4⟩ := h
    subst h0
    exact ap_for sd.nd (snd_It sd it _ _ sc W h3).1 h1 (alls_ok h2) (snd_Ss sd b _ _ h4) (snd_It sd it _ _ sc W h3).2
  | .pass, s', P, h => by
    cases s' <;> first | (simp [chkS] at h; done) | skip
    exact ap_pass
  | .cont, s', P, h => by
    cases s' <;> first | (simp [chkS] at h; done) | skip
    exact ap_cont
  | .brk, s', P, h => by
    cases s' <;> first | (simp [chkS] at h; done) | skip
    exact ap_brk
  | .app i e, s', P, h => by
    cases s' <;> first | (simp [chkS] at h; done) | skip
    simp only [chkS] at h
    unfold chkApp at h
    split at h
    · rename_i q
      obtain ⟨px, rfl⟩ := asApp_ok q
      simp only [Bool.and_eq_true, decide_eq_true_eq] at h
      obtain ⟨⟨⟨h1, h2⟩, h3⟩, h4⟩ := h
      subst h1
      obtain ⟨n1, n2, n3, n4⟩ := slotB_ok h2
      exact ap_app (snd_E sd e _ sc W h3).1 n1 n2 n3 n4 (fun env => tame_star (chk_tame h3) _ env) h4
    · cases h
  | .sti i b e, s', P, h => by
    cases s' <;> first | (simp [chkS] at h; done) | skip
    simp only [chkS] at h
    unfold chkSti at h
    split at h
    · rename_i q
      obtain ⟨px, pb, rfl⟩ := asSub_ok q
      simp only [Bool.and_eq_true] at h
      obtain ⟨⟨h1, h2⟩, h3⟩ := h
      obtain ⟨n1, n2, n3, n4⟩ := slotB_ok h1
      exact ap_sti (snd_E sd e _ sc W h3).1.frz (snd_E sd b _ sc W h2).1.frz n1 n2 n3 n4 (fun o p l env => swaps_sub _ _ _ l env) (fun o p env => stores_sub _ _ _ env) (fun o env v => tame_set (chk_tame h2) env v)
    · cases h
  | .raise x m, s', P, h => by
    cases s' <;> first | (simp [chkS] at h; done) | skip
    rename_i e1 e2 pos
    match e1, e2, h with
    | some (.Call (.Name y p) [.Constant (.str n) j p2] [] p3), none, h =>
      simp only [chkS, Bool.and_eq_true, decide_eq_true_eq] at h
      obtain ⟨⟨⟨h1, h2⟩, h3⟩, h4⟩ := h
      subst h1
      exact ap_raise sd (glB_ok h3).1 (glB_ok h3).2 h4
  | .never, s', P, h => by
    have : sv Γ .never = fun _ _ => False := by funext κ ρ; simp only [sv]
    rw [this]
    exact ap_never
theorem snd_Ss (sd : Sd c Γ bl) : ∀ (ss : Ss) (ss' : List Stmt) (P : List Nat), chkSs (ccOf c Γ bl) sc P rk ss ss' = true → APs c sc W P rk ss' (svs Γ ss)
  | .nil, ss', P, h => by
    cases ss' with
    | cons s ss => simp [chkSs] at h
    | nil => exact aps_nil
  | .cons s ss, ss', P, h => by
    cases ss' with
    | nil => simp [chkSs] at h
    | cons s' ss' =>
      simp only [chkSs, Bool.and_eq_true] at h
      have q := aps_cons (T := sv Γ s) (U := svs Γ ss) (snd_S sd s s' P h.1) (snd_Ss sd ss ss' P h.2)
      exact q
end
end Q

namespace Q
open PySem PySem.Spec PyProof.Rows L2

/-! ## Defs -/
def outD (own : Option Nat) (ρ : Env) (k : D → Prop) : Prop := match own with
  | none => k .none
  | some m => ∃ d, getC ρ 0 = .ow m d ∧ k d
def ktOf (own : Option Nat) (Φ : D → D → Prop) (Ξ : D → XD → Prop) : Kt where
  nx := fun ρ => outD own ρ (Φ .none)
  rt := fun ρ d => outD own ρ (Φ d)
  ct := fun _ => False
  bk := fun _ => False
  xc := fun ρ x => outD own ρ fun d' => Ξ d' x
def prot (own : Option Nat) : List Nat := match own with
  | none => []
  | some _ => [0]
def envOf (own : Option Nat) (n : Nat) (ds : List D) : Env := cellsOf own ds ++ List.replicate (n - ds.length) .un
/-- what callees a def may lean on -/
def GOk (P : Program) (w : World) (K : PySem.W.Frag) (mg : Str → Option Value) (base : Heap) (Γ : List Ent) (k : Nat) : Prop :=
  ∀ (f : Nat) g, Γ[f]? = some g → ∃ (a : Addr) (fd : FuncData) (ps : List Str) (j : Nat), FnG P w K mg base (L2N.CX P w) j a fd ps (toSp K mg g) ∧ j ≤ k ∧ mg g.sig.name = some (.ref a) ∧ PySem.W.keepIn K (.ref a) = true ∧ Binds K fd ps []
theorem cellsOf_length (own : Option Nat) : ∀ ds : List D, (cellsOf own ds).length = ds.length
  | [] => rfl
  | d :: ds => by simp [cellsOf]
section
variable {K : PySem.W.Frag} {mg : Str → Option Value}
/-- the names at a def's entry -/
theorem En.start {G H : Hp} {F : Foot} {N : List Str} {vs : List V} {own : Option Nat} {ds : List D} (e : En K (vs.map some) (cellsOf own ds) F G H) (hl : vs.length ≤ N.length) : En K (L2.start N vs) (envOf own N.length ds) F G H := by
  have hvd : vs.length = ds.length := by
    have := e.len
    rw [cellsOf_length, List.length_map] at this
    exact this.symm
  refine ⟨e.same, ?_, fun i cl hc => ?_, e.nod, e.dis, e.out, e.th, e.ln, e.fz⟩
  · unfold envOf L2.start
    rw [List.length_append, List.length_append, e.len, List.length_replicate, List.length_replicate, hvd]
  · unfold envOf at hc
    unfold L2.start
    by_cases hi : i < (cellsOf own ds).length
    · rw [List.getElem?_append_left hi] at hc
      rw [List.getElem?_append_left (by rw [← e.len]; exact hi)]
      exact e.cell i cl hc
    · rw [List.getElem?_append_right (by omega)] at hc
      have : cl = .un := by
        have := List.mem_of_getElem? hc
        exact List.eq_of_mem_replicate this
      subst this
      trivial
/-- the state at a def's end, as its caller sees it -/
theorem En.finish {σ' : Sg} {ρ' : Env} {F F' : Foot} {G H G' H' : Hp} {N : List Str} {vs : List V} {own : Option Nat} {ds : List D} {d' : D} (e : En K (vs.map some) (cellsOf own ds) F G H) (hl : 0 < vs.length)
    (e' : En K σ' ρ' F' G' H') (s : Stp F G H F' G' H') (p : Kp (prot own) (L2.start N vs) σ') (h : outD own ρ' (fun z => z = d')) :
    ∃ F'', En K (vs.map some) (cellsOf own (outDs own ds d')) F'' G' H' ∧ Stp F G H F'' G' H' ∧ ∀ {m : Nat} {A : List Addr} {u : V} {z : D}, Res K F G H F' G' H' m A u z → Res K F G H F'' G' H' m A u z := by
  have hvd : (cellsOf own ds).length = (vs.map some).length := e.len
  have va : ∀ (i : Nat) d, (cellsOf own ds)[i]? = some (.va d) → CellOk K G' H' [] ((vs.map some)[i]?) (.va d) := fun i d hc => by
    obtain ⟨v, h2, h3⟩ := e.cell i _ hc
    exact ⟨v, h2, Dp.mono s.g h3⟩
  cases own with
  | none =>
    refine ⟨foot0, ⟨e'.same, hvd, fun i cl hc => ?_, fun _ => .nil, (fun _ _ _ h => nomatch h), (fun _ _ h => nomatch h), (fun _ _ h => nomatch h), e'.ln, e'.fz⟩, ⟨s.g, s.h, (fun _ _ h => nomatch h), s.ng, s.th⟩, fun r => ⟨r.ow, r.nod, r.out, (fun _ _ _ h => nomatch h), r.new⟩⟩
    have hc' : (cellsOf none ds)[i]? = some cl := hc
    have hc2 : (ds.map Cell.va)[i]? = some cl := by rw [← cellsOf_none]; exact hc'
    rw [List.getElem?_map] at hc2
    cases q : ds[i]? with
    | none => rw [q] at hc2; cases hc2
    | some d =>
      rw [q] at hc2
      cases hc2
      exact va i d hc'
  | some k =>
    obtain ⟨d, h1, rfl⟩ := h
    cases ds with
    | nil => rw [List.length_map] at hvd; rw [← hvd] at hl; cases hl
    | cons d0 ds =>
      obtain ⟨v0, q1, q2⟩ : ∃ v, σ'[0]? = some (some v) ∧ Ow K G' H' k (F' 0) v d := e'.cell 0 _ (getC_some h1 (by simp))
      have q3 : σ'[0]? = (L2.start N vs)[0]? := p 0 (by simp [prot])
      obtain ⟨u0, us, rfl⟩ : ∃ u us, vs = u :: us := by
        cases vs with
        | nil => cases hl
        | cons u us => exact ⟨u, us, rfl⟩
      have q4 : v0 = u0 := by
        rw [q1] at q3
        have : (L2.start N (u0 :: us))[0]? = some (some u0) := rfl
        rw [this] at q3
        cases q3; rfl
      subst q4
      refine ⟨foot1 (F' 0), ⟨e'.same, by simpa [outDs, cellsOf] using hvd, fun i cl hc => ?_, fun j => ?_, fun j l a hj hl => ?_, fun j a hj => e'.out 0 a (mem_foot1 hj).2, fun j a hj => e'.th 0 a (mem_foot1 hj).2, e'.ln, e'.fz⟩, ⟨s.g, s.h, fun j b hb => s.nf 0 b (mem_foot1 hb).2, s.ng, s.th⟩, fun r => ⟨r.ow, r.nod, r.out, fun a ha j hj => r.dis a ha 0 (mem_foot1 hj).2, r.new⟩⟩
      · cases i with
        | zero =>
          have hc' : cl = .ow k d := by simpa [outDs, cellsOf] using hc.symm
          subst hc'
          exact ⟨v0, rfl, q2⟩
        | succ i =>
          have hc2 : (ds.map Cell.va)[i]? = some cl := by simpa [outDs, cellsOf] using hc
          rw [List.getElem?_map] at hc2
          cases q : ds[i]? with
          | none => rw [q] at hc2; cases hc2
          | some z =>
            rw [q] at hc2
            cases hc2
            exact va (i + 1) z (by simp [cellsOf, q])
      · unfold foot1
        by_cases z : j = 0
        · rw [if_pos z]; exact e'.nod 0
        · rw [if_neg z]; exact .nil
      · rw [(mem_foot1 hj).1, (mem_foot1 hl).1]
end
/-- a look at a def's names -/
def namesB (N ps : List Str) (sc : Scope) : Bool :=
  (match sc.kind with
    | .function => true
    | _ => false) && (!sc.isCoroutine && (!sc.isGenerator && (decide N.Nodup && (decide (N.take ps.length = ps) && ((ps.all fun y => locB sc y) && sc.names.all fun y => match y.2 with
    | .free => false
    | _ => true)))))
theorem namesB_ok {N ps : List Str} {sc : Scope} (h : namesB N ps sc = true) : FnScope N ps sc := by
  unfold namesB at h
  simp only [Bool.and_eq_true, Bool.not_eq_true', decide_eq_true_eq, List.all_eq_true] at h
  obtain ⟨a, b, d, e, f, g, i⟩ := h
  refine ⟨?_, b, d, e, f, fun y hy => locB_ok (g y hy), fun y hy z => ?_⟩
  · split at a
    · assumption
    · cases a
  · have := i y hy
    rw [z] at this
    cases this
/-- as the kit's own for a def that may raise, errors without a context -/
theorem okXN {P : Program} {w : World} {K : PySem.W.Frag} {mg : Str → Option Value} {base : Heap} {x qual : Str} {st : Stmt} {f : Addr} {fd : FuncData} {N ps : List Str} {k : Nat} {sp : Sp} (F : Fun K x qual st f fd) (S : FnScope N ps (defScope st)) (len : ∀ vs H Q E, sp vs H Q E → vs.length = ps.length)
    (hbody : ∀ (cdv : Value) (A : Around) (outer : List PySem.Env) (s : Shared) (H : Hp) (vs : List V) (Q : VK) (E : XK), A.guards = some [] → Room k (A.deeper (envOfC qual (defScope st) s.heap.objs.size f cdv)) → sp vs H Q E →
      ∃ t, PSs (cxOf (L2N.CX P w) P w K mg base N qual (defScope st) f cdv A outer s H E) (defBody st) t ∧ t { nx := fun _ H' => Q .non H', rt := Q } (L2.start N vs) H) : FnG P w K mg base (L2N.CX P w) (k + 1) f fd ps sp := by
  obtain ⟨oc, od, kV, doc, pm, an, cdv, ct, osl, rfl, lk, hcd⟩ := F.ex
  exact fnG_of lk hcd S len fun A outer s H vs Q E hG hr hsp => hbody cdv A outer s H vs Q E hG hr hsp
/-- A DEF, by what its statements do -/
theorem fn_okT {P : Program} {w : World} {K : PySem.W.Frag} {mg : Str → Option Value} {base : Heap} {Γ : List Ent} {bl : Bl} {g : Ent} {st : Stmt} {f : Addr} {fd : FuncData} {N ps : List Str} {k : Nat} {x qual : Str} (F : Fun K x qual st f fd)
    (T : TrS) (hS : namesB N ps (defScope st) = true) (hn : ps.length = g.sig.np) (hn0 : 0 < g.sig.np) (hc : ∀ (A : Around) (W : WX), Room k A → Sd ⟨P, w, K, mg, base, A, N⟩ Γ bl → APs ⟨P, w, K, mg, base, A, N⟩ (defScope st) W (prot g.sig.own) g.sig.rk (defBody st) T) (gok : GOk P w K mg base Γ k) (bok : ∀ x ∈ bl.b, mg x = none) (xok : ∀ x ∈ bl.x, XOk K mg x) (cok : ∀ p ∈ bl.c, COk K mg p.1 p.2)
    (hb : ∀ ds Φ Ξ, ds.length = g.sig.np → g.sp ds Φ Ξ → T (ktOf g.sig.own Φ Ξ) (envOf g.sig.own N.length ds)) :
    FnG P w K mg base (L2N.CX P w) (k + 1) f fd ps (toSp K mg g) := by
  have S := namesB_ok hS
  have hNl : ps.length ≤ N.length := by
    have := congrArg List.length S.pre
    rw [List.length_take] at this
    omega
  refine okXN F S (fun vs H Q E h => by rw [h.1, hn]) (fun cdv A outer s H vs Q E hG hr h => ?_)
  obtain ⟨hvl, ds, F0, G, Φ, Ξ, e, hsp, hQ, hE⟩ := h
  have hdl : ds.length = g.sig.np := by
    have := e.len
    rw [cellsOf_length, List.length_map] at this
    omega
  let c : Ctx := ⟨P, w, K, mg, base, A.deeper (envOfC qual (defScope st) s.heap.objs.size f cdv), N⟩
  have sd : Sd c Γ bl := by
    refine ⟨S.nd, Nat.lt_of_lt_of_le (Nat.lt_of_le_of_lt (Nat.le_refl _) hr.units) (Nat.le_refl _), ?_, hG, fun f' g' hg => ?_, bok, xok, cok⟩
    · have := hr.un
      show (A.deeper _).units + 65 < cLine
      omega
    obtain ⟨a, fd', ps', j, h1, h2, h3, h4, h5⟩ := gok f' g' hg
    exact ⟨a, fd', ps', j, h1, hr.mono h2, h3, h4, h5⟩
  have tk : L2N.Takes (cxOf (L2N.CX P w) P w K mg base N qual (defScope st) f cdv A outer s H E) (fun cls d _ H => E cls d H) := L2N.takes_of rfl rfl rfl rfl
  obtain ⟨t, ht, snd⟩ := hc _ (fun cls d _ H => E cls d H) hr sd
  refine ⟨t, ht _ ⟨⟨⟨rfl, rfl, rfl, rfl, rfl, rfl, rfl, rfl, rfl, tk⟩, fun x hx => ⟨hx, .inl rfl⟩⟩, passes_of rfl, S.kind, rfl, rfl⟩, ?_⟩
  refine snd (ktOf g.sig.own Φ Ξ) _ (L2.start N vs) F0 G H _ (e.start (by rw [hvl, ← hn]; exact hNl)) (hb ds Φ Ξ hdl hsp) ⟨fun σ' ρ' F' G' H' q e' s' p => ?_, fun _ _ _ _ _ q => q.elim, fun _ _ _ _ _ q => q.elim, fun σ' ρ' d v A' F' G' H' q e' r s' p => ?_, fun σ' ρ' x F' G' H' cls dd q e' s' p hx => ?_⟩
  · have q' : outD g.sig.own ρ' (Φ .none) := q
    obtain ⟨d', z1, z2⟩ : ∃ d', outD g.sig.own ρ' (fun z => z = d') ∧ Φ .none d' := by
      cases ho : g.sig.own with
      | none => rw [ho] at q'; exact ⟨.none, rfl, q'⟩
      | some m => rw [ho] at q'; obtain ⟨d, z1, z2⟩ := q'; exact ⟨d, ⟨d, z1, rfl⟩, z2⟩
    obtain ⟨F'', e2, s2, r2⟩ := En.finish e (by omega) e' s' p z1
    refine hQ .none d' .non [] F'' G' H' z2 e2 (r2 ⟨?_, .nil, (fun _ h => nomatch h), (fun _ h => nomatch h), (fun _ h => nomatch h)⟩) s2
    cases g.sig.rk with
    | zero => exact .frz .non
    | succ m => exact .flt rfl .non
  · have q' : outD g.sig.own ρ' (Φ d) := q
    obtain ⟨d', z1, z2⟩ : ∃ d', outD g.sig.own ρ' (fun z => z = d') ∧ Φ d d' := by
      cases ho : g.sig.own with
      | none => rw [ho] at q'; exact ⟨.none, rfl, q'⟩
      | some m => rw [ho] at q'; obtain ⟨d, z1, z2⟩ := q'; exact ⟨d, ⟨d, z1, rfl⟩, z2⟩
    obtain ⟨F'', e2, s2, r2⟩ := En.finish e (by omega) e' s' p z1
    exact hQ d d' v A' F'' G' H' z2 e2 (r2 r) s2
  · have q' : outD g.sig.own ρ' (fun d' => Ξ d' x) := q
    obtain ⟨d', z1, z2⟩ : ∃ d', outD g.sig.own ρ' (fun z => z = d') ∧ Ξ d' x := by
      cases ho : g.sig.own with
      | none => rw [ho] at q'; exact ⟨.none, rfl, q'⟩
      | some m => rw [ho] at q'; obtain ⟨d, z1, z2⟩ := q'; exact ⟨d, ⟨d, z1, rfl⟩, z2⟩
    obtain ⟨F'', e2, s2, _⟩ := En.finish e (by omega) e' s' p z1
    exact hE x d' F'' G' H' cls dd z2 e2 s2 hx
/-- A DEF: its text is what the language says, and the language's meaning keeps the promise -/
theorem fn_ok {P : Program} {w : World} {K : PySem.W.Frag} {mg : Str → Option Value} {base : Heap} {Γ : List Ent} {bl : Bl} {g : Ent} {st : Stmt} {f : Addr} {fd : FuncData} {N ps : List Str} {k : Nat} {x qual : Str} (F : Fun K x qual st f fd)
    (body : Ss) (hS : namesB N ps (defScope st) = true) (hn : ps.length = g.sig.np) (hn0 : 0 < g.sig.np) (hc : chkSs ⟨N, Γ.map (·.sig), bl⟩ (defScope st) (prot g.sig.own) g.sig.rk body (defBody st) = true) (gok : GOk P w K mg base Γ k) (bok : ∀ x ∈ bl.b, mg x = none) (xok : ∀ x ∈ bl.x, XOk K mg x) (cok : ∀ p ∈ bl.c, COk K mg p.1 p.2)
    (hb : ∀ ds Φ Ξ, ds.length = g.sig.np → g.sp ds Φ Ξ → svs Γ body (ktOf g.sig.own Φ Ξ) (envOf g.sig.own N.length ds)) :
    FnG P w K mg base (L2N.CX P w) (k + 1) f fd ps (toSp K mg g) :=
  fn_okT (bl := bl) (Γ := Γ) F (svs Γ body) hS hn hn0 (fun A W _ sd => snd_Ss sd body _ _ hc) gok bok xok cok hb
/-- one def more to lean on -/
theorem GOk.nil {P : Program} {w : World} {K : PySem.W.Frag} {mg : Str → Option Value} {base : Heap} {k : Nat} : GOk P w K mg base [] k := fun f g h => by simp at h
theorem GOk.snoc {P : Program} {w : World} {K : PySem.W.Frag} {mg : Str → Option Value} {base : Heap} {Γ : List Ent} {k : Nat} {g : Ent} {a : Addr} {fd : FuncData} {ps : List Str} (h : GOk P w K mg base Γ k)
    (hf : FnG P w K mg base (L2N.CX P w) (k + 1) a fd ps (toSp K mg g)) (hm : mg g.sig.name = some (.ref a)) (hk : PySem.W.keepIn K (.ref a) = true) (hb : Binds K fd ps []) : GOk P w K mg base (Γ ++ [g]) (k + 1) := fun f g' hg => by
  by_cases q : f < Γ.length
  · rw [List.getElem?_append_left q] at hg
    obtain ⟨a, fd, ps, j, h1, h2, h3⟩ := h f g' hg
    exact ⟨a, fd, ps, j, h1, by omega, h3⟩
  · rw [List.getElem?_append_right (by omega)] at hg
    have e : g' = g := by
      have := List.mem_of_getElem? hg
      simpa using this
    subst e
    exact ⟨a, fd, ps, k + 1, hf, Nat.le_refl _, hm, hk, hb⟩
end Q

/-! ## Plain facts: fractions of whole numbers, bounds -/
namespace Q
open PySem

/-! ### the language's meaning, unfolded -/
theorem getC_0 {a : Cell} {ρ : Env} : getC (a :: ρ) 0 = a := rfl
theorem getC_s {a : Cell} {ρ : Env} {i : Nat} : getC (a :: ρ) (i + 1) = getC ρ i := rfl
@[simp] theorem shaped_int (i : Int) : SeqAt.shaped (.int i) = true := rfl
@[simp] theorem shaped_bool (i : Bool) : SeqAt.shaped (.bool i) = true := rfl
@[simp] theorem shaped_none : SeqAt.shaped .none = true := rfl
@[simp] theorem eqv_int (i j : Int) : PyData.eqv (.int i) (.int j) = decide (i = j) := by
  show (i == j) = decide (i = j)
  by_cases h : i = j <;> simp [h]
@[simp] theorem eqv_bool (i j : Bool) : PyData.eqv (.bool i) (.bool j) = (i == j) := rfl

/-! ### loops -/
/-- a while, by a word over a number that falls -/
theorem whl_of {C : Env → (Env → Bool → Prop) → Prop} {B : (Env → Prop) → Env → Prop} {N : Env → Prop} {ρ : Env} (I : Nat → Env → Prop) (n : Nat) (h0 : I n ρ)
    (step : ∀ n ρ, I n ρ → ∀ W : Env → Prop, (∀ m ρ', m < n → I m ρ' → W ρ') → C ρ fun ρ1 b => sel b (B W ρ1) (N ρ1)) : ∃ n, whW C B N n ρ := by
  have key : ∀ n m ρ, m ≤ n → I m ρ → whW C B N (n + 1) ρ := by
    intro n
    induction n with
    | zero =>
      intro m ρ hm h
      rw [whW_s]
      exact step m ρ h (whW C B N 0) fun k ρ' hk _ => absurd hk (by omega)
    | succ n ih =>
      intro m ρ hm h
      rw [whW_s]
      exact step m ρ h (whW C B N (n + 1)) fun k ρ' hk hi => ih k ρ' (by omega) hi
  exact ⟨n + 1, key n n ρ (Nat.le_refl _) h0⟩
theorem for_of {tg : Tg} {B : (Env → Prop) → Env → Prop} {N : Env → Prop} {ds : List D} {ρ : Env} (I : Nat → Env → Prop) (h0 : I 0 ρ)
    (step : ∀ (i : Nat) d ρ, ds[i]? = some d → I i ρ → ∀ W : Env → Prop, (∀ ρ', I (i + 1) ρ' → W ρ') → asg tg d ρ fun ρ1 => B W ρ1) (done : ∀ ρ, I ds.length ρ → N ρ) : forW tg B N ds ρ := by
  have key : ∀ (es : List D) (i : Nat) ρ, ds.drop i = es → i ≤ ds.length → I i ρ → forW tg B N es ρ := by
    intro es
    induction es with
    | nil =>
      intro i ρ h hi hI
      have : ds.length ≤ i := List.drop_eq_nil_iff.mp h
      have e : i = ds.length := by omega
      subst e
      rw [forW_n]
      exact done ρ hI
    | cons d es ih =>
      intro i ρ h hi hI
      have hlt : i < ds.length := by
        by_cases q : i < ds.length
        · exact q
        · rw [List.drop_eq_nil_iff.mpr (by omega)] at h; cases h
      rw [List.drop_eq_getElem_cons hlt] at h
      injection h with h1 h2
      rw [forW_c]
      exact step i d ρ (by rw [List.getElem?_eq_getElem hlt, h1]) hI (forW tg B N es) fun ρ' h' => ih (i + 1) ρ' h2 hlt h'
  exact key ds 0 ρ rfl (Nat.zero_le _) h0
theorem comp_of {own : List Nat} {tg : Tg} {tst : Env → (Env → Bool → Prop) → Prop} {f : Env → (Env → D → Prop) → Prop} {ds : List D} {ρ : Env} {Φ : Env → List D → Prop} (I : Nat → List D → Env → Prop) (h0 : I 0 [] ρ)
    (step : ∀ (i : Nat) d acc ρ, ds[i]? = some d → I i acc ρ → ∀ W : List D → Env → Prop, (∀ acc' ρ', I (i + 1) acc' ρ' → W acc' ρ') → asg tg d ρ fun ρ1 => tst ρ1 fun ρ2 b => sel b (f ρ2 fun ρ3 y => W (acc ++ [y]) (wip ρ3 own)) (W acc (wip ρ2 own)))
    (done : ∀ acc ρ, I ds.length acc ρ → Φ ρ acc) : compW own tg tst f ds [] ρ Φ := by
  have key : ∀ (es : List D) (i : Nat) acc ρ, ds.drop i = es → i ≤ ds.length → I i acc ρ → compW own tg tst f es acc ρ Φ := by
    intro es
    induction es with
    | nil =>
      intro i acc ρ h hi hI
      have : ds.length ≤ i := List.drop_eq_nil_iff.mp h
      have e : i = ds.length := by omega
      subst e
      rw [compW_n]
      exact done acc ρ hI
    | cons d es ih =>
      intro i acc ρ h hi hI
      have hlt : i < ds.length := by
        by_cases q : i < ds.length
        · exact q
        · rw [List.drop_eq_nil_iff.mpr (by omega)] at h; cases h
      rw [List.drop_eq_getElem_cons hlt] at h
      injection h with h1 h2
      rw [compW_c]
      exact step i d acc ρ (by rw [List.getElem?_eq_getElem hlt, h1]) hI (fun acc ρ => compW own tg tst f es acc ρ Φ) fun acc' ρ' h' => ih (i + 1) acc' ρ' h2 hlt h'
  exact key ds 0 [] ρ rfl (Nat.zero_le _) h0

/-! ### bounds -/
/-- below 2 ^ k -/
def Bd (k : Nat) (i : Int) : Prop := i.natAbs < 2 ^ k
theorem Bd.up {i : Int} {a b : Nat} (ha : Bd a i) (h : a ≤ b) : Bd b i := Nat.lt_of_lt_of_le ha (Nat.pow_le_pow_right (by decide) h)
theorem Bd.le {i j : Int} {a : Nat} (ha : Bd a i) (h : j.natAbs ≤ i.natAbs) : Bd a j := Nat.lt_of_le_of_lt h ha
theorem Bd.mul {i j : Int} {a b : Nat} (ha : Bd a i) (hb : Bd b j) : Bd (a + b) (i * j) := L2.wide_lt ha hb
theorem Bd.add {i j : Int} {a : Nat} (ha : Bd a i) (hb : Bd a j) : Bd (a + 1) (i + j) := by
  unfold Bd at *
  rw [Nat.pow_succ]
  omega
theorem Bd.sub {i j : Int} {a : Nat} (ha : Bd a i) (hb : Bd a j) : Bd (a + 1) (i - j) := by
  unfold Bd at *
  rw [Nat.pow_succ]
  omega
theorem Bd.neg {i : Int} {a : Nat} (ha : Bd a i) : Bd a (-i) := by
  unfold Bd at *
  rw [Int.natAbs_neg]; exact ha
theorem Bd.mulok {i j : Int} {a b : Nat} (ha : Bd a i) (hb : Bd b j) (h : a + b ≤ 900000) : IntMulOk i j := by
  refine L2.CMulW.ok (L2.wide_mul (a := a + 1) (b := b + 1) ?_ ?_ (by omega) (by omega) (by omega))
  · exact ha.up (by omega)
  · exact hb.up (by omega)
theorem Bd.divok {i j : Int} {b : Nat} (hb : Bd b j) (h : b ≤ 8999) : Builtin.divisionGoesByPylong i j = false := by
  refine PyProof.noPylong_of_log2 ?_
  by_cases h0 : j.natAbs = 0
  · rw [h0]; decide
  · have := (Nat.log2_lt h0).mpr hb
    omega
theorem Bd.bits {i : Int} {b : Nat} (hb : Bd b i) : Builtin.Int.intBits i ≤ b := by
  unfold Builtin.Int.intBits
  split
  · exact Nat.zero_le _
  · have h0 : i.natAbs ≠ 0 := by rename_i h; simpa using h
    have := (Nat.log2_lt h0).mpr hb
    omega
theorem Bd.of {i : Int} {a : Nat} (k : Nat) (h1 : -(k : Int) < i) (h2 : i < k) (hk : k ≤ 2 ^ a) : Bd a i := by
  unfold Bd
  omega

/-! ### the greatest common divisor -/
theorem gcd_fmod (a b : Int) : Int.gcd b (a.fmod b) = Int.gcd a b := by
  have e : a.fmod b = a - b * a.fdiv b := Int.fmod_def a b
  rw [e, Int.sub_eq_add_neg, ← Int.mul_neg, Int.gcd_add_mul_left_right, Int.gcd_comm]
theorem fmod_abs (a : Int) {b : Int} (h : b ≠ 0) : (a.fmod b).natAbs < b.natAbs := by
  have h1 := Int.emod_nonneg a h
  have h2 := Int.emod_lt a h
  rw [Int.fmod_eq_emod]
  split
  · omega
  · rename_i hn
    have hb : b < 0 := by omega
    have h3 : a % b ≠ 0 := fun z => hn (.inr (Int.dvd_of_emod_eq_zero z))
    omega

/-! ### the fraction of a top and a bottom -/
def sgn (a b : Int) : Int := if b < 0 then -(Int.gcd a b : Int) else (Int.gcd a b : Int)
def shr (a b : Int) : Int × Int := (a.fdiv (sgn a b), b.fdiv (sgn a b))
abbrev Fr := Int × Int
def frD (p : Fr) : PyData := .tuple [.int p.1, .int p.2]
theorem sgn_ne {a b : Int} (h : b ≠ 0) : sgn a b ≠ 0 := by
  have := Int.gcd_pos_of_ne_zero_right a h
  unfold sgn
  split <;> omega
theorem sgn_left (a b : Int) : sgn a b ∣ a := by
  unfold sgn
  split
  · exact Int.neg_dvd.mpr (Int.gcd_dvd_left a b)
  · exact Int.gcd_dvd_left a b
theorem sgn_right (a b : Int) : sgn a b ∣ b := by
  unfold sgn
  split
  · exact Int.neg_dvd.mpr (Int.gcd_dvd_right a b)
  · exact Int.gcd_dvd_right a b
theorem fdiv_dvd {a s : Int} (h : s ∣ a) : a.fdiv s * s = a := by
  rw [Int.fdiv_eq_ediv_of_dvd h]
  exact Int.ediv_mul_cancel h
theorem shr_1 (a b : Int) : (shr a b).1 * sgn a b = a := fdiv_dvd (sgn_left a b)
theorem shr_2 (a b : Int) : (shr a b).2 * sgn a b = b := fdiv_dvd (sgn_right a b)
theorem sgn_abs (a b : Int) : (sgn a b).natAbs = Int.gcd a b := by
  unfold sgn
  split <;> simp
theorem shr_pos {a b : Int} (h : b ≠ 0) : 0 < (shr a b).2 := by
  have e := shr_2 a b
  have g := Int.gcd_pos_of_ne_zero_right a h
  rcases Int.lt_trichotomy (shr a b).2 0 with q | q | q
  · exfalso
    unfold sgn at e
    split at e
    · rename_i hb
      have : 0 ≤ (shr a b).2 * -(Int.gcd a b : Int) := Int.mul_nonneg_of_nonpos_of_nonpos (by omega) (by omega)
      omega
    · have : (shr a b).2 * (Int.gcd a b : Int) ≤ 0 := Int.mul_nonpos_of_nonpos_of_nonneg (by omega) (by omega)
      rw [e] at this
      have h0 : (shr a b).2 * (Int.gcd a b : Int) < 0 := Int.mul_neg_of_neg_of_pos q (by omega)
      omega
  · rw [q, Int.zero_mul] at e; omega
  · exact q
theorem shr_low {a b : Int} (h : b ≠ 0) : Int.gcd (shr a b).1 (shr a b).2 = 1 := by
  have g := Int.gcd_pos_of_ne_zero_right a h
  have e : Int.gcd ((shr a b).1 * sgn a b) ((shr a b).2 * sgn a b) = Int.gcd (shr a b).1 (shr a b).2 * (sgn a b).natAbs := Int.gcd_mul_right _ _ _
  rw [shr_1, shr_2, sgn_abs] at e
  have h2 : (Int.gcd (shr a b).1 (shr a b).2) * Int.gcd a b = 1 * Int.gcd a b := by omega
  exact Nat.eq_of_mul_eq_mul_right g h2
theorem shr_worth (a b : Int) : (shr a b).1 * b = a * (shr a b).2 := by
  have e1 := shr_1 a b
  have e2 := shr_2 a b
  calc (shr a b).1 * b = (shr a b).1 * ((shr a b).2 * sgn a b) := by rw [e2]
    _ = ((shr a b).1 * sgn a b) * (shr a b).2 := by grind
    _ = a * (shr a b).2 := by rw [e1]
theorem abs_le_of_mul {p s a : Int} (e : p * s = a) (h : s ≠ 0) : p.natAbs ≤ a.natAbs := by
  rw [← e, Int.natAbs_mul]
  exact Nat.le_mul_of_pos_right _ (by omega)
theorem shr_bd1 {a b : Int} {k : Nat} (h : b ≠ 0) (ha : Bd k a) : Bd k (shr a b).1 := ha.le (abs_le_of_mul (shr_1 a b) (sgn_ne h))
theorem shr_bd2 {a b : Int} {k : Nat} (h : b ≠ 0) (hb : Bd k b) : Bd k (shr a b).2 := hb.le (abs_le_of_mul (shr_2 a b) (sgn_ne h))
theorem sgn_bd {a b : Int} {k : Nat} (h : b ≠ 0) (hb : Bd k b) : Bd k (sgn a b) := by
  unfold Bd at *
  rw [sgn_abs]
  have := Int.gcd_le_natAbs_right a h
  omega
theorem gcd_bd {a b : Int} {k : Nat} (h : b ≠ 0) (hb : Bd k b) : Bd k (Int.gcd a b : Int) := by
  unfold Bd at *
  have := Int.gcd_le_natAbs_right a h
  omega
end Q

/-! ## The law's own promise, from the script's list -/
namespace Q
open PySem PySem.Spec PyProof.Rows L2
def lawSp (K : PySem.W.Frag) : Sp := fun vs H Q _ => ∃ (a : Addr) (ns : List Int), vs = [.ref a] ∧ ns.length ≤ 63 ∧ (∀ z ∈ ns, Builtin.Int.intBits z ≤ 1048576) ∧ Only H ∧ SqL K H a (ns.map V.int) ∧ ∀ H', Q (.bl true) H'
theorem dpAll_ints {K : PySem.W.Frag} {G : Hp} : ∀ ns : List Int, DpAll K G (ns.map V.int) (ns.map PyData.int)
  | [] => .nil
  | n :: ns => .cons (.int n) (dpAll_ints ns)
theorem law_imp {K : PySem.W.Frag} {mg : Str → Option Value} {g : Ent} (h1 : g.sig.own = none) (h2 : g.sig.np = 1) (h3 : g.sig.rk = 0)
    (hs : ∀ (ks : List Int) (Φ : D → D → Prop) (Ξ : D → XD → Prop), ks.length ≤ 63 → (∀ z ∈ ks, Builtin.Int.intBits z ≤ 1048576) → Φ (.bool true) .none → g.sp [.list (ks.map PyData.int)] Φ Ξ) (vs : List V) (H : Hp) (Q : VK) (E : XK) (h : lawSp K vs H Q E) : toSp K mg g vs H Q E := by
  obtain ⟨a, ns, rfl, hl, hb, hO, hS, hQ⟩ := h
  have hG : ∃ G : Hp, Same G H ∧ SqL K G a (ns.map V.int) ∧ ∀ a o vs, G a = some (.frz o (.lst vs)) → vs.length ≤ 16777216 := by
    rcases hS with hR | hR
    · refine ⟨fun b => if b = a then H a else none, fun b o e => ?_, .inl ?_, fun b o vs e => ?_⟩
      · have e : (if b = a then H a else none) = some o := e
        by_cases q : b = a
        · rw [if_pos q] at e; rw [q]; exact e
        · rw [if_neg q] at e; cases e
      · unfold Rd at *
        show (if a = a then H a else none) = _ ∨ ∃ o, (if a = a then H a else none) = _
        rw [if_pos rfl]; exact hR
      · have e : (if b = a then H a else none) = some (.frz o (.lst vs)) := e
        by_cases q : b = a
        · rw [if_pos q] at e
          unfold Rd at hR
          rw [e] at hR
          rcases hR with z | ⟨o', z⟩
          · cases z
          · cases z
            rw [List.length_map]; omega
        · rw [if_neg q] at e; cases e
    · exact ⟨fun _ => none, (fun _ _ e => nomatch e), .inr hR, (fun _ _ _ e => nomatch e)⟩
  obtain ⟨G, g1, g2, g3⟩ := hG
  refine ⟨by rw [h2]; rfl, [.list (ns.map PyData.int)], foot0, G, fun d _ => d = .bool true, fun _ _ => False, ?_, hs ns _ _ hl hb rfl, ?_, fun _ _ _ _ _ _ _ z => z.elim⟩
  · rw [h1]
    refine ⟨g1, rfl, fun i c hc => ?_, fun _ => .nil, (fun _ _ _ h => nomatch h), (fun _ _ h => nomatch h), (fun _ _ h => nomatch h), fun b o e => ?_, g3⟩
    · cases i with
      | zero => cases hc; exact ⟨_, rfl, .lst g2 (dpAll_ints ns)⟩
      | succ i => cases hc
    · rcases hO b with z | ⟨o', xs, z⟩
      · rw [z] at e; cases e
      · rw [z] at e; cases e; trivial
  · rintro d d' v A F' G' H' rfl _ r _
    have w := r.ow
    rw [h3] at w
    have : v = .bl true := by
      generalize hd : PyData.bool true = d at w
      cases w with
      | frz f => subst hd; cases f; rfl
    rw [this]
    exact hQ H'
end Q

/-! ## Defs that many laws share -/
namespace Q
open PySem PySem.Spec PyProof.Rows L2
local macro_rules | `(tactic| walk_at "q") => `(tactic| ((conv => whnf); repeat (first | (refine ⟨_, rfl, ?_⟩; conv => whnf) | (refine ⟨True.intro, ?_⟩; conv => whnf) | (refine ⟨_, _, _, rfl, rfl, rfl, ?_⟩; conv => whnf) | (refine ⟨rfl, rfl, ?_⟩; conv => whnf) | (refine sel_tt rfl ?_; conv => whnf) | (refine sel_ff rfl ?_; conv => whnf) | (refine ⟨by decide, ?_⟩; conv => whnf))))
theorem sel_tt {t : Bool} {A B : Prop} (h : t = true) (a : A) : sel t A B := by rw [h, sel_t]; exact a
theorem sel_ff {t : Bool} {A B : Prop} (h : t = false) (b : B) : sel t A B := by rw [h, sel_f]; exact b
def FOk (u : Fr) : Prop := u.2 ≠ 0 ∧ Bd 4000 u.1 ∧ Bd 4000 u.2
def Bag (b : D) : Prop := ∃ c m : Int, b = .list [.int c, .int m] ∧ 0 ≤ c ∧ 0 ≤ m ∧ m < 2147483648
def bGcd : Ss :=
    (.cons (.whl (.cmp .NotEq (.var 1) (.int 0)) (.cons (.par 0 1 (.var 1) (.op .Mod (.var 0) (.var 1)))
    .nil))
    (.cons (.ret (.blt .abs (.cons (.var 0) .nil)))
    .nil))
def bBag : Ss :=
    (.cons (.set 2 (.int 0))
    (.cons (.ite (.cmp .Lt (.var 1) (.blt .len (.cons (.var 0) .nil))) (.cons (.set 2 (.blt .abs (.cons (.ix (.var 0) (.var 1)) .nil)))
    .nil) .nil)
    (.cons (.set 3 (.op .Mod (.op .Pow (.op .Add (.op .Add (.op .Mod (.var 2) (.int 2147483629)) (.op .Mult (.int 104729) (.var 1))) (.int 17)) (.int 5)) (.int 2147483647)))
    (.cons (.for (.nm 4) (.rng (.blt .mn (.cons (.blt .len (.cons (.var 0) .nil)) (.cons (.int 60) .nil)))) (.cons (.set 3 (.op .Mod (.op .Add (.op .Add (.op .Mult (.var 3) (.int 48271)) (.op .Mult (.op .Mod (.ix (.var 0) (.var 4)) (.int 2147483587)) (.op .Add (.var 4) (.int 3)))) (.var 4)) (.int 2147483629)))
    .nil))
    (.cons (.ite (.cmp .Lt (.var 2) (.op .Pow (.int 10) (.int 18))) (.cons (.set 2 (.int 0))
    .nil) .nil)
    (.cons (.ret (.lst 0 (.cons (.var 2) (.cons (.var 3) .nil))))
    .nil))))))
def bTake : Ss :=
    (.cons (.ite (.cmp .Gt (.pk 0 (.int 0)) (.int 0)) (.cons (.set 2 (.op .Mod (.pk 0 (.int 0)) (.var 1)))
    (.cons (.sti 0 (.int 0) (.op .FloorDiv (.pk 0 (.int 0)) (.var 1)))
    (.cons (.ret (.var 2))
    .nil))) .nil)
    (.cons (.sti 0 (.int 1) (.op .Mod (.op .Add (.op .Mult (.pk 0 (.int 1)) (.int 48271)) (.int 7919)) (.int 2147483647)))
    (.cons (.ret (.op .Mod (.op .Mod (.op .Mult (.op .FloorDiv (.op .Mod (.op .Pow (.pk 0 (.int 1)) (.int 3)) (.int 2147483587)) (.int 7)) (.int 69621)) (.int 1073741789)) (.var 1)))
    .nil)))
def spGcd : FSp := fun ds Φ _ => ∃ a b : Int, ds = [.int a, .int b] ∧ Φ (.int (Int.gcd a b)) .none
def spBag : FSp := fun ds Φ _ => ∃ (ks : List Int) (n : Int), ds = [.list (ks.map PyData.int), .int n] ∧ (0 ≤ n ∧ n ≤ 1000) ∧ ∀ b, Bag b → Φ b .none
def spTake : FSp := fun ds Φ _ => ∃ (b : D) (n : Int), ds = [b, .int n] ∧ (Bag b ∧ 0 < n ∧ n < 2 ^ 200) ∧ ∀ x b', 0 ≤ x → x < n → Bag b' → Φ (.int x) b'
theorem bdB {i : Int} {n : Nat} (h1 : 0 ≤ i) (h2 : i < (2 ^ n : Nat)) : Bd n i := by
  unfold Bd
  omega
theorem fm0 (a : Int) {b : Int} (h : 0 < b) : 0 ≤ a.fmod b ∧ a.fmod b < b := ⟨Int.fmod_nonneg_of_pos a h, Int.fmod_lt_of_pos a h⟩
theorem atI_ofNat {ds : List D} {i : Nat} {d : D} (h : ds[i]? = some d) : atI ds (i : Int) = some d := by
  unfold atI ixN
  have hl := (List.getElem?_eq_some_iff.mp h).1
  rw [if_pos (by omega), if_pos (by omega)]
  exact h
theorem rng_get {n i : Nat} {d : D} (h : ((List.range n).map fun i => PyData.int (i : Nat))[i]? = some d) : d = .int (i : Nat) ∧ i < n := by
  rw [List.getElem?_map] at h
  by_cases q : i < n
  · rw [List.getElem?_range q] at h
    cases h; exact ⟨rfl, q⟩
  · rw [List.getElem?_eq_none (by simpa using q)] at h; cases h
theorem at_int {ks : List Int} {i : Nat} (h : i < ks.length) : atI (ks.map PyData.int) (i : Int) = some (.int ks[i]) := atI_ofNat (by rw [List.getElem?_map, List.getElem?_eq_getElem h]; rfl)
def drp : Nat → Ss → Ss
  | 0, s => s
  | n + 1, .cons _ s => drp n s
  | _ + 1, .nil => .nil
theorem ok_gcd {body : Ss} (Γ : List Ent) (hb : body = bGcd) : ∀ ds Φ Ξ, ds.length = 2 → spGcd ds Φ Ξ → svs Γ body (ktOf none Φ Ξ) (Q.envOf none 2 ds) := by
  subst hb
  rintro ds Φ Ξ - ⟨a, b, rfl, h⟩
  walk_at "q"
  refine whl_of (fun n ρ => ∃ a b : Int, ρ = [.va (.int a), .va (.int b)] ∧ n = b.natAbs ∧ Φ (.int (Int.gcd a b)) .none) b.natAbs ⟨a, b, rfl, rfl, h⟩ ?_
  rintro n ρ ⟨a, b, rfl, rfl, h⟩ W hW
  walk_at "q"
  refine sel_mk (fun q => ?_) (fun q => ?_)
  · have hb : b ≠ 0 := by simpa using q
    walk_at "q"
    refine ⟨hb, ?_⟩
    walk_at "q"
    refine hW _ _ (fmod_abs a hb) ⟨_, _, rfl, rfl, ?_⟩
    rw [gcd_fmod]; exact h
  · have hb : b = 0 := by simpa using q
    walk_at "q"
    subst hb
    rw [Int.gcd_zero_right] at h
    have e : (if a < 0 then -a else a) = (a.natAbs : Int) := by split <;> omega
    rw [e]
    exact h
theorem ok_take {body : Ss} (Γ : List Ent) (hb : body = bTake) : ∀ ds Φ Ξ, ds.length = 2 → spTake ds Φ Ξ → svs Γ body (ktOf (some 1) Φ Ξ) (Q.envOf (some 1) 3 ds) := by
  subst hb
  rintro ds Φ Ξ - ⟨b, n, rfl, ⟨⟨c, m, rfl, h1, h2, h3⟩, h4, h5⟩, h⟩
  have hn : n ≠ 0 := by omega
  walk_at "q"
  refine sel_mk (fun q => ?_) (fun q => ?_)
  · have q : 0 < c := by simpa using q
    walk_at "q"
    refine ⟨hn, ?_⟩
    walk_at "q"
    refine ⟨hn, (bdB (n := 200) (by omega) (by omega) : Bd 200 n).divok (by decide), ?_⟩
    walk_at "q"
    exact h _ _ (fm0 c h4).1 (fm0 c h4).2 ⟨_, _, rfl, Int.fdiv_nonneg h1 (by omega), h2, h3⟩
  · walk_at "q"
    refine ⟨(bdB (n := 31) h2 (by omega) : Bd 31 m).mulok (bdB (n := 16) (by decide) (by decide)) (by decide), ?_⟩
    walk_at "q"
    obtain ⟨e1, e2⟩ := fm0 (m * 48271 + 7919) (b := 2147483647) (by decide)
    have hB : Bag (.list [.int c, .int ((m * 48271 + 7919).fmod 2147483647)]) := ⟨_, _, rfl, h1, e1, by omega⟩
    generalize (m * 48271 + 7919).fmod 2147483647 = m' at *
    have hb := (bdB (n := 31) e1 (by omega) : Bd 31 m').bits
    refine ⟨by omega, ?_⟩
    walk_at "q"
    obtain ⟨e3, e4⟩ := fm0 (m' ^ Int.toNat 3) (b := 2147483587) (by decide)
    generalize (m' ^ Int.toNat 3).fmod 2147483587 = m2 at *
    refine ⟨(bdB (n := 3) (by decide) (by decide) : Bd 3 7).divok (by decide), ?_⟩
    walk_at "q"
    have e5 : 0 ≤ m2.fdiv 7 ∧ m2.fdiv 7 ≤ m2 := by
      rw [Int.fdiv_eq_ediv_of_nonneg _ (by decide)]; omega
    refine ⟨(bdB (n := 31) e5.1 (by omega) : Bd 31 (m2.fdiv 7)).mulok (bdB (n := 17) (by decide) (by decide)) (by decide), ?_⟩
    walk_at "q"
    refine ⟨hn, ?_⟩
    walk_at "q"
    exact h _ _ (fm0 _ h4).1 (fm0 _ h4).2 hB
theorem ok_bag {body : Ss} (Γ : List Ent) (hb : body = bBag) : ∀ ds Φ Ξ, ds.length = 2 → spBag ds Φ Ξ → svs Γ body (ktOf none Φ Ξ) (Q.envOf none 5 ds) := by
  subst hb
  rintro ds Φ Ξ - ⟨ks, n, rfl, ⟨h1, h2⟩, h⟩
  have tail2 : ∀ (c m : Int) cl, 0 ≤ c → 0 ≤ m → m < 2147483648 → svs Γ (drp 4 bBag) (ktOf none Φ Ξ) [.va (.list (ks.map PyData.int)), .va (.int n), .va (.int c), .va (.int m), cl] := by
    intro c m cl hc h3 h4
    walk_at "q"
    refine sel_mk (fun q => ?_) (fun q => ?_)
    · walk_at "q"
      exact h _ ⟨_, _, rfl, by decide, h3, h4⟩
    · walk_at "q"
      exact h _ ⟨_, _, rfl, hc, h3, h4⟩
  have tail : ∀ c : Int, 0 ≤ c → svs Γ (drp 2 bBag) (ktOf none Φ Ξ) [.va (.list (ks.map PyData.int)), .va (.int n), .va (.int c), .un, .un] := by
    intro c hc
    walk_at "q"
    refine ⟨(bdB (n := 20) (by decide) (by decide) : Bd 20 104729).mulok (bdB (n := 10) h1 (by omega)) (by decide), ?_⟩
    walk_at "q"
    obtain ⟨e1, e2⟩ := fm0 c (b := 2147483629) (by decide)
    generalize c.fmod 2147483629 = c1 at *
    have hb := (bdB (n := 40) (i := c1 + 104729 * n + 17) (by omega) (by omega)).bits
    refine ⟨by omega, ?_⟩
    walk_at "q"
    refine ⟨by split <;> omega, ?_⟩
    have e3 := fm0 ((c1 + 104729 * n + 17) ^ Int.toNat 5) (b := 2147483647) (by decide)
    generalize ((c1 + 104729 * n + 17) ^ Int.toNat 5).fmod 2147483647 = m at *
    refine for_of (fun i ρ => ∃ m cl, 0 ≤ m ∧ m < 2147483648 ∧ ρ = [.va (.list (ks.map PyData.int)), .va (.int n), .va (.int c), .va (.int m), cl]) ⟨_, _, e3.1, by omega, rfl⟩ ?_ ?_
    · rintro i d ρ hd ⟨m, cl, h3, h4, rfl⟩ W hW
      obtain ⟨rfl, hi⟩ := rng_get hd
      have hk : i < 60 ∧ i < ks.length := by
        simp only [List.length_map] at hi
        split at hi <;> omega
      walk_at "q"
      refine ⟨(bdB (n := 31) h3 (by omega) : Bd 31 m).mulok (bdB (n := 16) (by decide) (by decide)) (by decide), ?_⟩
      walk_at "q"
      refine ixD_i ⟨_, at_int hk.2, ?_⟩
      walk_at "q"
      obtain ⟨e1, e2⟩ := fm0 ks[i] (b := 2147483587) (by decide)
      generalize ks[i].fmod 2147483587 = m1 at *
      refine ⟨(bdB (n := 31) e1 (by omega) : Bd 31 m1).mulok (bdB (n := 6) (i := i + 3) (by omega) (by omega)) (by decide), ?_⟩
      walk_at "q"
      have e := fm0 (m * 48271 + m1 * (i + 3) + i) (b := 2147483629) (by decide)
      exact hW _ ⟨_, _, e.1, by omega, rfl⟩
    · rintro ρ ⟨m, cl, h3, h4, rfl⟩
      exact tail2 c m cl hc h3 h4
  have e : bBag = .cons _ (.cons _ (drp 2 bBag)) := rfl
  rw [e]
  generalize drp 2 bBag = R at *
  walk_at "q"
  refine sel_mk (fun q => ?_) (fun q => ?_)
  · have q : n.toNat < ks.length := by
      have : n < (ks.map PyData.int).length := by simpa using q
      rw [List.length_map] at this; omega
    walk_at "q"
    refine ixD_i ⟨_, by have := at_int q; rwa [Int.toNat_of_nonneg h1] at this, ?_⟩
    walk_at "q"
    refine tail _ ?_
    split <;> omega
  · walk_at "q"
    refine tail _ ?_
    decide
end Q

/-! ## Fractions as rationals -/
namespace Q
open PySem
/-- a rational's fraction in lowest terms -/
def frQ (q : Rat) : D := .tuple [.int q.num, .int (q.den : Int)]
theorem rat_num_den (q : Rat) : q = (q.num : Rat) / ((q.den : Int) : Rat) := by
  have h := Rat.divInt_eq_div q.num (q.den : Int)
  rw [← h, ← Rat.mk_eq_divInt (nz := q.den_nz) (c := q.reduced)]
theorem rat_eq {a b c d : Int} (hb : b ≠ 0) (hd : d ≠ 0) (h : a * d = c * b) : (a : Rat) / b = (c : Rat) / d := by
  have hb' : (b : Rat) ≠ 0 := by simpa using hb
  have hd' : (d : Rat) ≠ 0 := by simpa using hd
  have h' : (a : Rat) * d = c * b := by rw [← Rat.intCast_mul, h, Rat.intCast_mul]
  grind
theorem frQ_shr {a b : Int} (h : b ≠ 0) : frD (shr a b) = frQ ((a : Rat) / b) := by
  have hp := shr_pos (a := a) h
  have hl := shr_low (a := a) h
  have hw := shr_worth a b
  generalize shr a b = p at *
  obtain ⟨n, m⟩ := p
  simp only at hp hl hw
  have e : (a : Rat) / b = (n : Rat) / m := rat_eq h (by omega) (by rw [← hw])
  have hm : (m.toNat : Int) = m := Int.toNat_of_nonneg (by omega)
  have nz : m.toNat ≠ 0 := by omega
  have co : n.natAbs.Coprime m.toNat := by
    show Nat.gcd _ _ = 1
    have : Int.gcd n m = Nat.gcd n.natAbs m.natAbs := rfl
    rw [this] at hl
    have e2 : m.natAbs = m.toNat := by omega
    rw [e2] at hl
    exact hl
  have e3 : (n : Rat) / m = { num := n, den := m.toNat, den_nz := nz, reduced := co } := by
    rw [Rat.mk_eq_divInt, Rat.divInt_eq_div, hm]
  rw [e, e3]
  show PyData.tuple [.int n, .int m] = .tuple [.int n, .int (m.toNat : Int)]
  rw [hm]
theorem frQ_eq (q : Rat) : frQ q = frD (q.num, (q.den : Int)) := rfl
theorem den_ne (q : Rat) : ((q.den : Nat) : Int) ≠ 0 := by have := q.den_nz; omega
theorem den_pos (q : Rat) : 0 < ((q.den : Nat) : Int) := by have := q.den_nz; omega
theorem castDen (q : Rat) : ((q.den : Int) : Rat) ≠ 0 := by
  have := den_ne q
  simpa using this
theorem shr_num_den (q : Rat) : shr q.num q.den = (q.num, (q.den : Int)) := by
  have h := frQ_shr (a := q.num) (den_ne q)
  rw [← rat_num_den] at h
  unfold frD frQ at h
  injection h with h
  injection h with h1 h
  injection h with h2 h
  injection h1 with h1
  injection h2 with h2
  exact Prod.ext h1 h2
theorem add_num (x y : Rat) : ((x.num * (y.den : Int) + y.num * (x.den : Int) : Int) : Rat) / ((x.den : Int) * (y.den : Int) : Int) = x + y := by
  have h1 := castDen x
  have h2 := castDen y
  rw [Rat.intCast_add, Rat.intCast_mul, Rat.intCast_mul, Rat.intCast_mul]
  have e1 := rat_num_den x
  have e2 := rat_num_den y
  generalize ((x.den : Int) : Rat) = a at *
  generalize ((y.den : Int) : Rat) = b at *
  generalize (x.num : Rat) = m at *
  generalize (y.num : Rat) = n at *
  subst e1 e2
  grind
theorem sub_num (x y : Rat) : ((x.num * (y.den : Int) - y.num * (x.den : Int) : Int) : Rat) / ((x.den : Int) * (y.den : Int) : Int) = x - y := by
  have h1 := castDen x
  have h2 := castDen y
  rw [Rat.intCast_sub, Rat.intCast_mul, Rat.intCast_mul, Rat.intCast_mul]
  have e1 := rat_num_den x
  have e2 := rat_num_den y
  generalize ((x.den : Int) : Rat) = a at *
  generalize ((y.den : Int) : Rat) = b at *
  generalize (x.num : Rat) = m at *
  generalize (y.num : Rat) = n at *
  subst e1 e2
  grind
theorem mul_num (x y : Rat) : ((x.num * y.num : Int) : Rat) / ((x.den : Int) * (y.den : Int) : Int) = x * y := by
  have h1 := castDen x
  have h2 := castDen y
  rw [Rat.intCast_mul, Rat.intCast_mul]
  have e1 := rat_num_den x
  have e2 := rat_num_den y
  generalize ((x.den : Int) : Rat) = a at *
  generalize ((y.den : Int) : Rat) = b at *
  generalize (x.num : Rat) = m at *
  generalize (y.num : Rat) = n at *
  subst e1 e2
  grind
theorem num_ne {x : Rat} (h : x ≠ 0) : x.num ≠ 0 := fun z => h (by rw [rat_num_den x, z]; simp; grind)
theorem num_zero {x : Rat} : x.num = 0 ↔ x = 0 := ⟨fun z => by rw [rat_num_den x, z]; simp; grind, fun z => by rw [z]; rfl⟩
theorem div_num (x y : Rat) (hy : y ≠ 0) : ((x.num * (y.den : Int) : Int) : Rat) / ((x.den : Int) * y.num : Int) = x / y := by
  have h1 := castDen x
  have h2 := castDen y
  have h3 : (y.num : Rat) ≠ 0 := by simpa using num_ne hy
  rw [Rat.intCast_mul, Rat.intCast_mul]
  have e1 := rat_num_den x
  have e2 := rat_num_den y
  generalize ((x.den : Int) : Rat) = a at *
  generalize ((y.den : Int) : Rat) = b at *
  generalize (x.num : Rat) = m at *
  generalize (y.num : Rat) = n at *
  subst e1 e2
  grind
theorem frQ_inj {x y : Rat} (h : frQ x = frQ y) : x = y := by
  unfold frQ at h
  injection h with h
  injection h with h1 h
  injection h with h2 h
  injection h1 with h1
  injection h2 with h2
  exact Rat.ext h1 (by omega)
@[simp] theorem frQ_0 : frQ 0 = .tuple [.int 0, .int 1] := rfl
@[simp] theorem frQ_1 : frQ 1 = .tuple [.int 1, .int 1] := rfl
theorem frQ_int (i : Int) : frQ (i : Rat) = .tuple [.int i, .int 1] := by
  unfold frQ
  rw [Rat.num_intCast, Rat.den_intCast]; rfl
/-- equal data are equal as told by == -/
theorem eqv_frQ (x y : Rat) : PyData.eqv (frQ x) (frQ y) = decide (x = y) := by
  have e : PyData.eqv (frQ x) (frQ y) = ((x.num == y.num) && (((x.den : Nat) : Int) == ((y.den : Nat) : Int))) := by
    unfold frQ
    show (_ && (_ && true)) = _
    rw [Bool.and_true]; rfl
  rw [e]
  by_cases h : x = y
  · simp [h]
  · have : ¬ (x.num = y.num ∧ x.den = y.den) := fun ⟨a, b⟩ => h (Rat.ext a b)
    rw [decide_eq_false h]
    by_cases q : x.num = y.num
    · have q2 : ¬ x.den = y.den := fun z => this ⟨q, z⟩
      have q3 : ¬ ((x.den : Nat) : Int) = ((y.den : Nat) : Int) := by omega
      simp [q, q3]
    · simp [q]

/-! ### bounds -/
/-- both parts below 2 ^ k -/
def Bq (k : Nat) (q : Rat) : Prop := q.num.natAbs < 2 ^ k ∧ q.den < 2 ^ k
theorem Bq.num {k : Nat} {q : Rat} (h : Bq k q) : Bd k q.num := h.1
theorem Bq.den {k : Nat} {q : Rat} (h : Bq k q) : Bd k (q.den : Int) := by unfold Bd; simpa using h.2
/-- a whole number below a, over d -/
def Sm (d a : Nat) (q : Rat) : Prop := 0 < d ∧ ∃ n : Int, q = (n : Rat) / ((d : Int) : Rat) ∧ n.natAbs < a
theorem Sm.bq {d a k : Nat} {q : Rat} (h : Sm d a q) (ha : a ≤ 2 ^ k) (hd : d < 2 ^ k) : Bq k q := by
  obtain ⟨h0, n, rfl, hn⟩ := h
  have hd0 : ((d : Nat) : Int) ≠ 0 := by omega
  have e := frQ_shr (a := n) hd0
  have e2 : shr n d = (((n : Rat) / ((d : Int) : Rat)).num, (((n : Rat) / ((d : Int) : Rat)).den : Int)) := by
    unfold frD frQ at e
    injection e with e
    injection e with e1 e
    injection e with e2 e
    injection e1 with e1
    injection e2 with e2
    exact Prod.ext e1 e2
  have b1 := abs_le_of_mul (shr_1 n d) (sgn_ne hd0)
  have b2 := abs_le_of_mul (shr_2 n d) (sgn_ne hd0)
  rw [e2] at b1 b2
  simp only at b1 b2
  refine ⟨by omega, ?_⟩
  have : (((n : Rat) / ((d : Int) : Rat)).den : Int).natAbs = ((n : Rat) / ((d : Int) : Rat)).den := Int.natAbs_natCast _
  omega
theorem Sm.add {d a b : Nat} {x y : Rat} (hx : Sm d a x) (hy : Sm d b y) : Sm d (a + b) (x + y) := by
  obtain ⟨h0, n, rfl, hn⟩ := hx
  obtain ⟨_, m, rfl, hm⟩ := hy
  refine ⟨h0, n + m, ?_, by omega⟩
  rw [Rat.intCast_add]; grind
theorem Sm.neg {d a : Nat} {x : Rat} (hx : Sm d a x) : Sm d a (-x) := by
  obtain ⟨h0, n, rfl, hn⟩ := hx
  exact ⟨h0, -n, by rw [Rat.intCast_neg]; grind, by omega⟩
theorem Sm.sub {d a b : Nat} {x y : Rat} (hx : Sm d a x) (hy : Sm d b y) : Sm d (a + b) (x - y) := by
  obtain ⟨h0, n, rfl, hn⟩ := hx
  obtain ⟨_, m, rfl, hm⟩ := hy
  refine ⟨h0, n - m, ?_, by omega⟩
  rw [Rat.intCast_sub]; grind
theorem Sm.mul {d e a b : Nat} {x y : Rat} (hx : Sm d a x) (hy : Sm e b y) : Sm (d * e) (a * b) (x * y) := by
  obtain ⟨h0, n, rfl, hn⟩ := hx
  obtain ⟨h1, m, rfl, hm⟩ := hy
  refine ⟨Nat.mul_pos h0 h1, n * m, ?_, ?_⟩
  · have hd : ((d : Int) : Rat) ≠ 0 := by have : (d : Int) ≠ 0 := by omega
                                          simpa using this
    have he : ((e : Int) : Rat) ≠ 0 := by have : (e : Int) ≠ 0 := by omega
                                          simpa using this
    rw [Int.natCast_mul, Rat.intCast_mul, Rat.intCast_mul]
    generalize ((d : Int) : Rat) = p at *
    generalize ((e : Int) : Rat) = q at *
    grind
  · rw [Int.natAbs_mul]
    exact Nat.mul_lt_mul'' hn hm
theorem Sm.mono {d a b : Nat} {x : Rat} (hx : Sm d a x) (h : a ≤ b) : Sm d b x := by
  obtain ⟨h0, n, e, hn⟩ := hx
  exact ⟨h0, n, e, by omega⟩
theorem Sm.scale {d a : Nat} {x : Rat} (hx : Sm d a x) (e : Nat) (he : 0 < e) : Sm (d * e) (a * e) x := by
  obtain ⟨h0, n, rfl, hn⟩ := hx
  refine ⟨Nat.mul_pos h0 he, n * e, ?_, ?_⟩
  · have hd : ((d : Int) : Rat) ≠ 0 := by have : (d : Int) ≠ 0 := by omega
                                          simpa using this
    have he : ((e : Int) : Rat) ≠ 0 := by have : (e : Int) ≠ 0 := by omega
                                          simpa using this
    rw [Int.natCast_mul, Rat.intCast_mul, Rat.intCast_mul]
    generalize ((d : Int) : Rat) = p at *
    generalize ((e : Int) : Rat) = q at *
    grind
  · rw [Int.natAbs_mul, Int.natAbs_natCast]
    exact Nat.mul_lt_mul_of_pos_right hn he
theorem Sm.int {i : Int} {a : Nat} (h : i.natAbs < a) : Sm 1 a (i : Rat) := ⟨by decide, i, by grind, h⟩
theorem Sm.zero {d a : Nat} (hd : 0 < d) (ha : 0 < a) : Sm d a 0 := ⟨hd, 0, by grind, by simpa using ha⟩
end Q

/-! ## Tables, and the walk over the small language's meaning -/
namespace Q
open PySem L2
@[irreducible] def tab (n : Nat) (g : Nat → D) : D := .list ((List.range n).map g)
theorem tab_eq (n : Nat) (g : Nat → D) : tab n g = .list ((List.range n).map g) := by unfold tab; rfl
theorem ixD_l {ds : List D} {i : Int} {d : D} {k : D → Prop} (h : atI ds i = some d) (q : k d) : ixD (.list ds) (.int i) k := ixD_i ⟨d, h, q⟩
theorem ixD_t {ds : List D} {i : Int} {d : D} {k : D → Prop} (h : atI ds i = some d) (q : k d) : ixD (.tuple ds) (.int i) k := ixD_i ⟨d, h, q⟩
theorem isOw_tab {k n : Nat} {g : Nat → D} : isOw (.ow (k + 1) (tab n g)) := by rw [tab_eq]; exact True.intro
end Q

/-! ## Tables: lists by their places -/
namespace Q
open PySem L2
theorem tab_congr {n : Nat} {g h : Nat → D} (e : ∀ i, i < n → g i = h i) : tab n g = tab n h := by
  rw [tab_eq, tab_eq]
  congr 1
  exact List.map_congr_left fun i hi => e i (List.mem_range.mp hi)
theorem rmap_get {n i : Nat} {g : Nat → D} (h : i < n) : ((List.range n).map g)[i]? = some (g i) := by
  rw [List.getElem?_map, List.getElem?_range h]; rfl
theorem rmap_get_inv {n i : Nat} {g : Nat → D} {d : D} (h : ((List.range n).map g)[i]? = some d) : i < n ∧ d = g i := by
  have hl : i < n := by
    have := (List.getElem?_eq_some_iff.mp h).1
    simpa using this
  rw [rmap_get hl] at h
  exact ⟨hl, (Option.some.inj h).symm⟩
theorem rmap_atI {n : Nat} {g : Nat → D} {z : Int} (h0 : 0 ≤ z) (h : z < n) : atI ((List.range n).map g) z = some (g z.toNat) := by
  have e : z = (z.toNat : Int) := (Int.toNat_of_nonneg h0).symm
  have := atI_ofNat (rmap_get (g := g) (show z.toNat < n by omega))
  rw [← e] at this
  exact this
theorem rmap_ixN {n : Nat} {g : Nat → D} {z : Int} (h0 : 0 ≤ z) (h : z < n) : ixN ((List.range n).map g).length z = some z.toNat := by
  rw [List.length_map, List.length_range]
  unfold ixN
  rw [if_pos h0, if_pos (by omega)]
theorem ixD_tab {n : Nat} {g : Nat → D} {z : Int} {k : D → Prop} (h0 : 0 ≤ z) (h : z < n) (q : k (g z.toNat)) : ixD (tab n g) (.int z) k := by
  rw [tab_eq]
  exact ixD_i ⟨_, rmap_atI h0 h, q⟩
theorem ixD_nat {n : Nat} {g : Nat → D} {i : Nat} {k : D → Prop} (h : i < n) (q : k (g i)) : ixD (tab n g) (.int (i : Nat)) k :=
  ixD_tab (by omega) (by omega) (by simpa using q)
theorem len_tab {n : Nat} {g : Nat → D} {k : D → Prop} (q : k (.int (n : Nat))) : bltD .len [tab n g] k := by
  rw [tab_eq]
  show k (.int (((List.range n).map g).length : Nat))
  rw [List.length_map, List.length_range]; exact q
theorem lenC_tab {n d : Nat} {g : Nat → D} {k : D → Prop} (q : k (.int (n : Nat))) : lenC (.ow (d + 1) (tab n g)) k := by
  rw [tab_eq]
  show k (.int (((List.range n).map g).length : Nat))
  rw [List.length_map, List.length_range]; exact q
theorem lenC_tabV {n : Nat} {g : Nat → D} {k : D → Prop} (q : k (.int (n : Nat))) : lenC (.va (tab n g)) k := by
  rw [tab_eq]
  show k (.int (((List.range n).map g).length : Nat))
  rw [List.length_map, List.length_range]; exact q
theorem rmap_set {n i : Nat} {g : Nat → D} {d : D} : ((List.range n).map g).set i d = (List.range n).map fun a => if a = i then d else g a := by
  refine List.ext_getElem? fun j => ?_
  by_cases hj : j < n
  · rw [rmap_get hj]
    by_cases q : i = j
    · subst q
      rw [List.getElem?_set_self (by simpa using hj), if_pos rfl]
    · rw [List.getElem?_set_ne q, rmap_get hj, if_neg (Ne.symm q)]
  · rw [List.getElem?_eq_none (by simpa using hj), List.getElem?_eq_none (by simpa using hj)]
theorem pget_nil (d : D) : pget d [] = some d := by cases d <;> rfl
theorem pset_nil (d x : D) : pset d [] x = some x := by cases d <;> rfl
theorem pget_tab {n : Nat} {g : Nat → D} {z : Int} {is : List D} (h0 : 0 ≤ z) (h : z < n) : pget (tab n g) (.int z :: is) = pget (g z.toNat) is := by
  rw [tab_eq]
  simp only [pget, rmap_ixN h0 h, rmap_get (g := g) (show z.toNat < n by omega)]
theorem pset_tab {n : Nat} {g : Nat → D} {z : Int} {is : List D} {x d : D} (h0 : 0 ≤ z) (h : z < n) (q : pset (g z.toNat) is x = some d) : pset (tab n g) (.int z :: is) x = some (tab n fun a => if a = z.toNat then d else g a) := by
  rw [tab_eq, tab_eq]
  simp only [pset, rmap_ixN h0 h, rmap_get (g := g) (show z.toNat < n by omega), q, rmap_set]

/-- a test's two ways, what comes behind them kept shut -/
theorem ite_join {t : Bool} {Γ : List Ent} {a b : Ss} {κ : Kt} {ρ : Env} (h : ∀ N : Env → Prop, N = κ.nx → sel t (svs Γ a (κ.wn N) ρ) (svs Γ b (κ.wn N) ρ)) : sel t (svs Γ a κ ρ) (svs Γ b κ ρ) := h κ.nx rfl

/-! ### loops over tables -/
theorem for_tab {tg : Tg} {B : (Env → Prop) → Env → Prop} {N : Env → Prop} {n : Nat} {g : Nat → D} {ρ : Env} (I : Nat → Env → Prop) (h0 : I 0 ρ)
    (step : ∀ (i : Nat) ρ, i < n → I i ρ → ∀ W : Env → Prop, (∀ ρ', I (i + 1) ρ' → W ρ') → asg tg (g i) ρ fun ρ1 => B W ρ1) (done : ∀ ρ, I n ρ → N ρ) : forW tg B N ((List.range n).map g) ρ := by
  refine for_of I h0 (fun i d ρ hd hI W hW => ?_) fun ρ h => done ρ (by simpa using h)
  obtain ⟨h1, rfl⟩ := rmap_get_inv hd
  exact step i ρ h1 hI W hW
theorem enum_tab {n : Nat} {g : Nat → D} : ((List.range n).map g).zipIdx.map (fun p => PyData.tuple [.int (p.2 : Nat), p.1]) = (List.range n).map fun i => .tuple [.int (i : Nat), g i] := by
  refine List.ext_getElem? fun j => ?_
  by_cases hj : j < n
  · rw [rmap_get hj, List.getElem?_map, List.getElem?_zipIdx, rmap_get hj]; simp
  · rw [List.getElem?_eq_none (by simpa using hj), List.getElem?_eq_none (by simpa using hj)]
theorem zip_tab {n : Nat} {g h : Nat → D} : (((List.range n).map g).zip ((List.range n).map h)).map (fun p => PyData.tuple [p.1, p.2]) = (List.range n).map fun i => .tuple [g i, h i] := by
  rw [List.zip_map']
  rw [List.map_map]
  rfl
theorem for_enum {tg : Tg} {B : (Env → Prop) → Env → Prop} {N : Env → Prop} {n : Nat} {g : Nat → D} {ρ : Env} (I : Nat → Env → Prop) (h0 : I 0 ρ)
    (step : ∀ (i : Nat) ρ, i < n → I i ρ → ∀ W : Env → Prop, (∀ ρ', I (i + 1) ρ' → W ρ') → asg tg (.tuple [.int (i : Nat), g i]) ρ fun ρ1 => B W ρ1) (done : ∀ ρ, I n ρ → N ρ) : forW tg B N (((List.range n).map g).zipIdx.map (fun p => PyData.tuple [.int (p.2 : Nat), p.1])) ρ := by
  rw [enum_tab]; exact for_tab I h0 step done
theorem for_zip {tg : Tg} {B : (Env → Prop) → Env → Prop} {N : Env → Prop} {n : Nat} {g h : Nat → D} {ρ : Env} (I : Nat → Env → Prop) (h0 : I 0 ρ)
    (step : ∀ (i : Nat) ρ, i < n → I i ρ → ∀ W : Env → Prop, (∀ ρ', I (i + 1) ρ' → W ρ') → asg tg (.tuple [g i, h i]) ρ fun ρ1 => B W ρ1) (done : ∀ ρ, I n ρ → N ρ) : forW tg B N ((((List.range n).map g).zip ((List.range n).map h)).map (fun p => PyData.tuple [p.1, p.2])) ρ := by
  rw [zip_tab]; exact for_tab I h0 step done
/-- a comprehension over a table, no test in it -/
theorem comp_tab {Γ : List Ent} {own : List Nat} {tg : Tg} {f : Env → (Env → D → Prop) → Prop} {n : Nat} {g : Nat → D} {ρ : Env} {Φ : Env → List D → Prop} (h : Nat → D)
    (step : ∀ i, i < n → ∀ W : D → Env → Prop, W (h i) ρ → asg tg (g i) ρ fun ρ1 => f ρ1 fun ρ3 y => W y (wip ρ3 own)) (done : Φ ρ ((List.range n).map h)) : compW own tg (fun ρ k => evO Γ .none ρ k) f ((List.range n).map g) [] ρ Φ := by
  refine comp_of (fun i acc ρ' => ρ' = ρ ∧ acc = (List.range i).map h) ⟨rfl, rfl⟩ (fun i d acc ρ' hd hI W hW => ?_) fun acc ρ' hI => ?_
  · obtain ⟨rfl, rfl⟩ := hI
    obtain ⟨h1, rfl⟩ := rmap_get_inv hd
    have key : ∀ ρ1, (fun (ρ : Env) (k : Env → Bool → Prop) => evO Γ .none ρ k) ρ1 = fun k => k ρ1 true := fun ρ1 => by
      funext k
      show evO Γ .none ρ1 k = _
      simp only [evO]
    simp only [key, sel_t]
    refine step i h1 (fun y ρ'' => W ((List.range i).map h ++ [y]) ρ'') (hW _ _ ⟨rfl, ?_⟩)
    rw [List.range_succ, List.map_append]; rfl
  · obtain ⟨rfl, rfl⟩ := hI
    simpa using done
/-- .. whose names may have been changed by each turn (as a bag is) -/
theorem comp_tabI {Γ : List Ent} {own : List Nat} {tg : Tg} {f : Env → (Env → D → Prop) → Prop} {n : Nat} {g : Nat → D} {ρ : Env} {Φ : Env → List D → Prop} (I : Nat → List D → Env → Prop) (h0 : I 0 [] ρ)
    (step : ∀ i acc ρ', i < n → I i acc ρ' → ∀ W : D → Env → Prop, (∀ y ρ'', I (i + 1) (acc ++ [y]) ρ'' → W y ρ'') → asg tg (g i) ρ' fun ρ1 => f ρ1 fun ρ3 y => W y (wip ρ3 own)) (done : ∀ acc ρ', I n acc ρ' → Φ ρ' acc) : compW own tg (fun ρ k => evO Γ .none ρ k) f ((List.range n).map g) [] ρ Φ := by
  refine comp_of I h0 (fun i d acc ρ' hd hI W hW => ?_) fun acc ρ' hI => done acc ρ' (by simpa using hI)
  obtain ⟨h1, rfl⟩ := rmap_get_inv hd
  have key : ∀ ρ1, (fun (ρ : Env) (k : Env → Bool → Prop) => evO Γ .none ρ k) ρ1 = fun k => k ρ1 true := fun ρ1 => by
    funext k
    show evO Γ .none ρ1 k = _
    simp only [evO]
  simp only [key, sel_t]
  exact step i acc ρ' h1 hI (fun y ρ'' => W (acc ++ [y]) ρ'') fun y ρ'' q => hW _ _ q
theorem comp_enum {Γ : List Ent} {own : List Nat} {tg : Tg} {f : Env → (Env → D → Prop) → Prop} {n : Nat} {g : Nat → D} {ρ : Env} {Φ : Env → List D → Prop} (h : Nat → D)
    (step : ∀ i, i < n → ∀ W : D → Env → Prop, W (h i) ρ → asg tg (.tuple [.int (i : Nat), g i]) ρ fun ρ1 => f ρ1 fun ρ3 y => W y (wip ρ3 own)) (done : Φ ρ ((List.range n).map h)) : compW own tg (fun ρ k => evO Γ .none ρ k) f (((List.range n).map g).zipIdx.map (fun p => PyData.tuple [.int (p.2 : Nat), p.1])) [] ρ Φ := by
  rw [enum_tab]; exact comp_tab h step done
theorem comp_zip {Γ : List Ent} {own : List Nat} {tg : Tg} {f : Env → (Env → D → Prop) → Prop} {n : Nat} {g k : Nat → D} {ρ : Env} {Φ : Env → List D → Prop} (h : Nat → D)
    (step : ∀ i, i < n → ∀ W : D → Env → Prop, W (h i) ρ → asg tg (.tuple [g i, k i]) ρ fun ρ1 => f ρ1 fun ρ3 y => W y (wip ρ3 own)) (done : Φ ρ ((List.range n).map h)) : compW own tg (fun ρ k => evO Γ .none ρ k) f ((((List.range n).map g).zip ((List.range n).map k)).map (fun p => PyData.tuple [p.1, p.2])) [] ρ Φ := by
  rw [zip_tab]; exact comp_tab h step done
/-- a loop over an owned table, its items lent; the other names stay -/
theorem forb_tab {x i k n : Nat} {κ : Kt} {body : Kt → Env → Prop} {g : Nat → D} {c0 : Cell} (envF : Cell → Cell → Env) (h : Nat → D) (e1 : ∀ a b a', (envF a b).set i a' = envF a' b) (e2 : ∀ a b b', (envF a b).set x b' = envF a b')
    (e3 : ∀ a b, getC (envF a b) i = a) (e4 : ∀ a b, getC (envF a b) x = b)
    (step : ∀ j, j < n → ∀ (v : V) (pre post : List D) (κ' : Kt), pre.length = j → pre.length + (1 + post.length) = n → κ'.nx (envF (.hol (k + 1) v pre post) (.ow (k + 1) (h j))) → body κ' (envF (.hol (k + 1) v pre post) (.ow (k + 1) (g j))))
    (done : ∀ c, (c = .un ∨ c = c0) → κ.nx (envF (.ow (k + 2) (tab n h)) c)) : ∃ k' ds, getC (envF (.ow (k + 2) (tab n g)) c0) i = .ow (k' + 2) (.list ds) ∧ forbW none x i (k' + 1) κ body [] ds (envF (.ow (k + 2) (tab n g)) c0) := by
  refine ⟨k, (List.range n).map g, by rw [e3, tab_eq], ?_⟩
  have key : ∀ (m j : Nat) (ci cx : Cell), j + m = n → (cx = .un ∨ cx = c0) → (j = n → ci = .ow (k + 2) (tab n h)) → forbW none x i (k + 1) κ body ((List.range j).map h) (((List.range n).map g).drop j) (envF ci cx) := by
    intro m
    induction m with
    | zero =>
      intro j ci cx hj hx hc
      have hj : j = n := by omega
      subst hj
      rw [List.drop_of_length_le (by simp), hc rfl, forbW_n]
      exact done cx hx
    | succ m ih =>
      intro j ci cx hj hx hc
      have hlt : j < ((List.range n).map g).length := by simp; omega
      rw [List.drop_eq_getElem_cons hlt, forbW_c]
      intro v
      have eg : ((List.range n).map g)[j] = g j := by simp
      show body _ (((envF ci cx).set i _).set x _)
      rw [e1, e2, eg]
      refine step j (by omega) v _ _ _ (by simp) (by simp; omega) ?_
      refine ⟨h j, e3 _ _, e4 _ _, ?_⟩
      rw [e2, e1]
      have e5 : (List.range j).map h ++ [h j] = (List.range (j + 1)).map h := by rw [List.range_succ, List.map_append]; rfl
      rw [e5]
      refine ih (j + 1) _ _ (by omega) (.inl rfl) fun hn => ?_
      subst hn
      rw [List.drop_of_length_le (by simp), tab_eq, ← e5]
  by_cases hn : n = 0
  · subst hn
    have : tab 0 g = tab 0 h := by rw [tab_eq, tab_eq]; rfl
    exact key 0 0 _ _ rfl (.inr rfl) fun _ => by rw [this]
  · exact key n 0 _ _ (by omega) (.inr rfl) fun z => absurd z.symm hn

theorem pget_nat {n i : Nat} {g : Nat → D} {is : List D} (h : i < n) : pget (tab n g) (.int (i : Nat) :: is) = pget (g i) is := by
  have := pget_tab (g := g) (is := is) (z := (i : Nat)) (by omega) (by omega : ((i : Nat) : Int) < n)
  simpa using this
theorem pget_nat1 {n i : Nat} {g : Nat → D} (h : i < n) : pget (tab n g) [.int (i : Nat)] = some (g i) := by rw [pget_nat h, pget_nil]
theorem pset_nat {n i : Nat} {g : Nat → D} {is : List D} {x d : D} (h : i < n) (q : pset (g i) is x = some d) : pset (tab n g) (.int (i : Nat) :: is) x = some (tab n fun a => if a = i then d else g a) := by
  have := pset_tab (g := g) (is := is) (z := (i : Nat)) (x := x) (d := d) (by omega) (by omega : ((i : Nat) : Int) < n) (by simpa using q)
  simpa using this
theorem pset_nat1 {n i : Nat} {g : Nat → D} {x : D} (h : i < n) : pset (tab n g) [.int (i : Nat)] x = some (tab n fun a => if a = i then x else g a) := pset_nat h (pset_nil _ _)
theorem pset_nat2 {n m i j : Nat} {R : Nat → Nat → D} {x : D} (h : i < n) (h2 : j < m) : pset (tab n fun a => tab m (R a)) [.int (i : Nat), .int (j : Nat)] x = some (tab n fun a => tab m fun b => if a = i ∧ b = j then x else R a b) := by
  rw [pset_nat h (pset_nat1 h2)]
  congr 1
  refine tab_congr fun a _ => ?_
  by_cases q : a = i
  · subst q
    rw [if_pos rfl]
    refine tab_congr fun b _ => ?_
    by_cases q2 : b = j <;> simp [q2]
  · rw [if_neg q]
    refine tab_congr fun b _ => ?_
    simp [q]
theorem pset_nat3 {n m l i j k : Nat} {R : Nat → Nat → Nat → D} {x : D} (h : i < n) (h2 : j < m) (h3 : k < l) : pset (tab n fun a => tab m fun b => tab l (R a b)) [.int (i : Nat), .int (j : Nat), .int (k : Nat)] x = some (tab n fun a => tab m fun b => tab l fun c => if a = i ∧ b = j ∧ c = k then x else R a b c) := by
  rw [pset_nat h (pset_nat2 h2 h3)]
  congr 1
  refine tab_congr fun a _ => ?_
  by_cases q : a = i
  · subst q
    rw [if_pos rfl]
    refine tab_congr fun b _ => tab_congr fun c _ => ?_
    simp
  · rw [if_neg q]
    refine tab_congr fun b _ => tab_congr fun c _ => ?_
    simp [q]
theorem leaf_tab {d n : Nat} {g : Nat → D} (h : ∀ i, i < n → leaf d (g i) = true) : leaf (d + 1) (tab n g) = true := by
  rw [tab_eq]
  simp only [leaf, List.all_eq_true]
  intro y hy
  obtain ⟨i, hi, rfl⟩ := List.mem_map.mp hy
  exact h i (List.mem_range.mp hi)
theorem rep_rmap (d : D) (n : Nat) : (List.replicate n [d]).flatten = (List.range n).map fun _ => d := by
  induction n with
  | zero => rfl
  | succ n ih => rw [List.replicate_succ, List.flatten_cons, ih, List.range_succ_eq_map, List.map_cons, List.map_map]; rfl
theorem rep_tab {d : D} {z : Int} {k : D → Prop} (h0 : 0 ≤ z) (h : z ≤ 1000000) (q : k (tab z.toNat fun _ => d)) : repD (.list [d]) (.int z) k := by
  refine repD_i ⟨by omega, by omega, by simp; omega, ?_⟩
  rw [rep_rmap, ← tab_eq]; exact q
theorem rep_tabN {d : D} {z : Int} {n : Nat} {k : D → Prop} (hz : z = (n : Nat)) (h : n ≤ 1000000) (q : k (tab n fun _ => d)) : repD (.list [d]) (.int z) k := by
  subst hz
  exact rep_tab (by omega) (by omega) (by simpa using q)
theorem lof_tab {n : Nat} {g : Nat → D} {k : D → Prop} (q : k (tab n g)) : lofD (tab n g) k := by
  rw [tab_eq] at q ⊢; exact lofD_i q
theorem cat_tab {n m : Nat} {g h : Nat → D} {k : D → Prop} (hl : n + m ≤ 16777216) (q : k (tab (n + m) fun i => if i < n then g i else h (i - n))) : catD (tab n g) (tab m h) k := by
  rw [tab_eq, tab_eq]
  refine catD_i ⟨by simpa using hl, ?_⟩
  have e : (List.range n).map g ++ (List.range m).map h = (List.range (n + m)).map fun i => if i < n then g i else h (i - n) := by
    refine List.ext_getElem? fun j => ?_
    by_cases hj : j < n
    · rw [List.getElem?_append_left (by simpa using hj), rmap_get hj, rmap_get (by omega), if_pos hj]
    · rw [List.getElem?_append_right (by simpa using hj)]
      simp only [List.length_map, List.length_range]
      by_cases hm : j < n + m
      · rw [rmap_get (by omega), rmap_get hm, if_neg hj]
      · rw [List.getElem?_eq_none (by simp; omega), List.getElem?_eq_none (by simp; omega)]
  rw [e, ← tab_eq]; exact q
end Q

/-! ## The laws' own algebras: what the defs that draw them make -/
local macro_rules | `(tactic| walk_at "w") => `(tactic| (conv => whnf))
namespace Q
open PySem L2
-- _law_none: ['_law_size', '_law_i', '_law_j']
def bNone : Ss :=
    (.cons (.ret (.comp 2 [1] (.nm 1) (.rng (.var 0)) .none (.comp 1 [2] (.nm 2) (.rng (.var 0)) .none (.rep (.lst 0 (.cons (.int 0) .nil)) (.var 0)))))
    .nil)
-- _law_set: ['_law_found', '_law_i', '_law_j', '_law_row_here', '_law_number']
def bSet : Ss :=
    (.cons (.stp 0 0 (.cons (.var 1) .nil) (.var 2) (.lof (.var 3)))
    (.cons (.stp 0 0 (.cons (.var 2) .nil) (.var 1) (.comp 0 [4] (.nm 4) (.lst (.var 3)) .none (.op .Sub (.int 0) (.var 4))))
    .nil))
-- _law_three: ['_law_a', '_law_b', '_law_c', '_law_found']
def bThree (iNone iSet : Nat) : Ss :=
    (.cons (.seto 3 2 (.call iNone 3 (.cons (.int 3) .nil)))
    (.cons (.expr (.callr iSet 0 3 (.cons (.int 0) (.cons (.int 1) (.cons (.lst 0 (.cons (.int 0) (.cons (.int 0) (.cons (.var 2) .nil)))) .nil)))))
    (.cons (.expr (.callr iSet 0 3 (.cons (.int 1) (.cons (.int 2) (.cons (.lst 0 (.cons (.var 0) (.cons (.int 0) (.cons (.int 0) .nil)))) .nil)))))
    (.cons (.expr (.callr iSet 0 3 (.cons (.int 2) (.cons (.int 0) (.cons (.lst 0 (.cons (.int 0) (.cons (.var 1) (.cons (.int 0) .nil)))) .nil)))))
    (.cons (.ret (.var 3))
    .nil)))))
-- _law_by_one: ['_law_bag_here', '_law_many', '_law_found', '_law_k', '_law_row_here', '_law_j']
def bByOne (iTake iNone iSet : Nat) : Ss :=
    (.cons (.seto 2 2 (.call iNone 3 (.cons (.op .Add (.int 1) (.var 1)) .nil)))
    (.cons (.for (.nm 3) (.rng (.var 1)) (.cons (.seto 4 1 (.lst 0 (.cons (.int 0) .nil)))
    (.cons (.for (.nm 5) (.rng (.var 1)) (.cons (.app 4 (.ix (.lst 0 (.cons (.int 0) (.cons (.int 0) (.cons (.int 1) (.cons (.neg (.int 1)) (.cons (.int 2) (.cons (.int 1) .nil))))))) (.callr iTake 0 0 (.cons (.int 6) .nil))))
    .nil))
    (.cons (.expr (.callr iSet 0 2 (.cons (.int 0) (.cons (.op .Add (.int 1) (.var 3)) (.cons (.var 4) .nil)))))
    .nil))))
    (.cons (.ret (.var 2))
    .nil)))
-- _law_pairs: ['_law_pairs_here', '_law_found', '_law_i', '_law_p', '_law_q', '_law_j', '_law_r', '_law_s']
def bPairs (iNone : Nat) : Ss :=
    (.cons (.seto 1 3 (.call iNone 3 (.cons (.blt .len (.cons (.var 0) .nil)) .nil)))
    (.cons (.for (.tp (.cons (.nm 2) (.cons (.tp (.cons (.nm 3) (.cons (.nm 4) .nil))) .nil))) (.enum (.var 0)) (.cons (.for (.tp (.cons (.nm 5) (.cons (.tp (.cons (.nm 6) (.cons (.nm 7) .nil))) .nil))) (.enum (.var 0)) (.cons (.ite (.cmp .Eq (.var 4) (.var 6)) (.cons (.aug 1 (.cons (.var 2) (.cons (.var 5) .nil)) (.idx (.var 0) (.tup (.cons (.var 3) (.cons (.var 7) .nil)))) .Add (.int 1))
    .nil) .nil)
    (.cons (.ite (.cmp .Eq (.var 7) (.var 3)) (.cons (.aug 1 (.cons (.var 2) (.cons (.var 5) .nil)) (.idx (.var 0) (.tup (.cons (.var 6) (.cons (.var 4) .nil)))) .Sub (.int 1))
    .nil) .nil)
    .nil)))
    .nil))
    (.cons (.ret (.var 1))
    .nil)))
-- _law_doubled: ['_law_three_here', '_law_a', '_law_b', '_law_found', '_law_i', '_law_j', '_law_row_here', '_law_third', '_law_x']
def bDoubled (iNone : Nat) : Ss :=
    (.cons (.seto 3 2 (.call iNone 3 (.cons (.int 6) .nil)))
    (.cons (.for (.nm 4) (.rng (.int 6)) (.cons (.for (.nm 5) (.rng (.int 6)) (.cons (.set 6 (.ix (.ix (.var 0) (.op .Mod (.var 4) (.int 3))) (.op .Mod (.var 5) (.int 3))))
    (.cons (.set 7 (.cat 0 (.comp 0 [8] (.nm 8) (.lst (.var 6)) .none (.op .Mult (.var 2) (.var 8))) (.comp 0 [8] (.nm 8) (.lst (.var 6)) .none (.op .Mult (.var 1) (.var 8)))))
    (.cons (.stp 3 0 (.cons (.var 4) .nil) (.var 5) (.ix (.lst 0 (.cons (.cat 0 (.var 6) (.lst 0 (.cons (.int 0) (.cons (.int 0) (.cons (.int 0) .nil))))) (.cons (.cat 0 (.lst 0 (.cons (.int 0) (.cons (.int 0) (.cons (.int 0) .nil)))) (.var 6)) (.cons (.var 7) .nil)))) (.op .Add (.op .FloorDiv (.var 4) (.int 3)) (.op .FloorDiv (.var 5) (.int 3)))))
    .nil))))
    .nil))
    (.cons (.ret (.var 3))
    .nil)))
-- _law_moving: ['_law_number', '_law_more_here', '_law_found', '_law_some', '_law_i', '_law_j', '_law_k', '_law_x', '_law_row_here']
def bMoving (iNone iSet : Nat) : Ss :=
    (.cons (.seto 2 2 (.call iNone 3 (.cons (.op .Add (.int 5) (.var 1)) .nil)))
    (.cons (.set 3 (.lst 0 (.cons (.tup (.cons (.int 0) (.cons (.int 1) (.cons (.int 1) (.cons (.int 2) .nil))))) (.cons (.tup (.cons (.int 0) (.cons (.int 2) (.cons (.int 2) (.cons (.neg (.int 2)) .nil))))) (.cons (.tup (.cons (.int 1) (.cons (.int 2) (.cons (.int 0) (.cons (.int 1) .nil))))) (.cons (.tup (.cons (.int 0) (.cons (.int 3) (.cons (.int 3) (.cons (.int 1) .nil))))) (.cons (.tup (.cons (.int 0) (.cons (.int 4) (.cons (.int 4) (.cons (.neg (.int 1)) .nil))))) (.cons (.tup (.cons (.int 1) (.cons (.int 4) (.cons (.int 3) (.cons (.int 1) .nil))))) (.cons (.tup (.cons (.int 2) (.cons (.int 3) (.cons (.int 4) (.cons (.int 1) .nil))))) .nil)))))))))
    (.cons (.for (.tp (.cons (.nm 4) (.cons (.nm 5) (.cons (.nm 6) (.cons (.nm 7) .nil))))) (.lst (.var 3)) (.cons (.seto 8 1 (.rep (.lst 0 (.cons (.int 0) .nil)) (.op .Add (.int 5) (.var 1))))
    (.cons (.stp 8 0 .nil (.var 6) (.var 7))
    (.cons (.expr (.callr iSet 0 2 (.cons (.var 4) (.cons (.var 5) (.cons (.var 8) .nil)))))
    .nil))))
    (.cons (.ite (.cmp .Eq (.var 1) (.int 1)) (.cons (.expr (.callr iSet 0 2 (.cons (.int 3) (.cons (.int 4) (.cons (.lst 0 (.cons (.int 0) (.cons (.int 0) (.cons (.int 0) (.cons (.int 0) (.cons (.int 0) (.cons (.var 0) .nil))))))) .nil)))))
    .nil) .nil)
    (.cons (.ret (.var 2))
    .nil)))))
-- _law_side: ['_law_one', '_law_other', '_law_found', '_law_i', '_law_rows', '_law_j', '_law_row_here']
def bSide (iNone : Nat) : Ss :=
    (.cons (.seto 2 2 (.call iNone 3 (.cons (.op .Add (.blt .len (.cons (.var 0) .nil)) (.blt .len (.cons (.var 1) .nil))) .nil)))
    (.cons (.for (.tp (.cons (.nm 3) (.cons (.nm 4) .nil))) (.enum (.var 0)) (.cons (.for (.tp (.cons (.nm 5) (.cons (.nm 6) .nil))) (.enum (.var 4)) (.cons (.stp 2 0 (.cons (.var 3) .nil) (.var 5) (.cat 0 (.var 6) (.rep (.lst 0 (.cons (.int 0) .nil)) (.blt .len (.cons (.var 1) .nil)))))
    .nil))
    .nil))
    (.cons (.for (.tp (.cons (.nm 3) (.cons (.nm 4) .nil))) (.enum (.var 1)) (.cons (.for (.tp (.cons (.nm 5) (.cons (.nm 6) .nil))) (.enum (.var 4)) (.cons (.stp 2 0 (.cons (.op .Add (.lenv 0) (.var 3)) .nil) (.op .Add (.lenv 0) (.var 5)) (.cat 0 (.rep (.lst 0 (.cons (.int 0) .nil)) (.blt .len (.cons (.var 0) .nil))) (.var 6)))
    .nil))
    .nil))
    (.cons (.ret (.var 2))
    .nil))))
-- _law_integers: ['_law_bag_here', '_law_most', '_law_kind', '_law_a', '_law_b', '_law_c', '_law_x', '_law_y', '_law_z', '_law_some', '_law_k']
def bIntegers (iTake iNone iThree iByOne iPairs iDoubled iMoving iSide : Nat) : Ss :=
    (.cons (.set 2 (.callr iTake 0 0 (.cons (.int 12) .nil)))
    (.cons (.unp (.cons (.nm 3) (.cons (.nm 4) (.cons (.nm 5) .nil))) (.comp 0 [10] (.nm 10) (.rng (.int 3)) .none (.ix (.lst 0 (.cons (.int 1) (.cons (.neg (.int 1)) (.cons (.int 2) (.cons (.neg (.int 2)) (.cons (.int 3) (.cons (.int 1) .nil))))))) (.callr iTake 0 0 (.cons (.int 6) .nil)))))
    (.cons (.unp (.cons (.nm 6) (.cons (.nm 7) (.cons (.nm 8) .nil))) (.comp 0 [10] (.nm 10) (.rng (.int 3)) .none (.ix (.lst 0 (.cons (.int 0) (.cons (.int 1) (.cons (.neg (.int 1)) (.cons (.int 2) (.cons (.int 0) (.cons (.int 1) (.cons (.neg (.int 2)) (.cons (.int 3) .nil))))))))) (.callr iTake 0 0 (.cons (.int 8) .nil)))))
    (.cons (.ite (.and (.cmp .Eq (.var 2) (.int 0)) (.cmp .Gt (.var 1) (.int 5))) (.cons (.ret (.call iDoubled 0 (.cons (.call iThree 0 (.cons (.var 3) (.cons (.var 4) (.cons (.var 5) .nil)))) (.cons (.op .Sub (.callr iTake 0 0 (.cons (.int 5) .nil)) (.int 2)) (.cons (.op .Sub (.callr iTake 0 0 (.cons (.int 7) .nil)) (.int 2)) .nil)))))
    .nil) .nil)
    (.cons (.ite (.and (.cmp .Eq (.var 2) (.int 1)) (.cmp .Gt (.var 1) (.int 5))) (.cons (.ret (.call iSide 0 (.cons (.call iThree 0 (.cons (.var 3) (.cons (.var 4) (.cons (.var 5) .nil)))) (.cons (.call iThree 0 (.cons (.var 6) (.cons (.var 7) (.cons (.var 8) .nil)))) .nil))))
    .nil) .nil)
    (.cons (.ite (.and (.cmp .Eq (.var 2) (.int 2)) (.cmp .Gt (.var 1) (.int 4))) (.cons (.ret (.call iMoving 0 (.cons (.op .Add (.int 1) (.callr iTake 0 0 (.cons (.int 3) .nil))) (.cons (.op .Mult (.blt .int (.cons (.cmp .Gt (.var 1) (.int 5)) .nil)) (.callr iTake 0 0 (.cons (.int 2) .nil))) .nil))))
    .nil) .nil)
    (.cons (.ite (.and (.cmp .Eq (.var 2) (.int 3)) (.cmp .Gt (.var 1) (.int 4))) (.cons (.ret (.call iSide 0 (.cons (.call iThree 0 (.cons (.var 3) (.cons (.var 4) (.cons (.var 5) .nil)))) (.cons (.callr iByOne 0 0 (.cons (.op .Add (.int 1) (.callr iTake 0 0 (.cons (.op .Sub (.var 1) (.int 4)) .nil))) .nil)) .nil))))
    .nil) .nil)
    (.cons (.ite (.and (.cmp .Eq (.var 2) (.int 4)) (.cmp .Gt (.var 1) (.int 4))) (.cons (.seto 9 1 (.lst 1 (.cons (.lst 0 (.cons (.tup (.cons (.int 0) (.cons (.int 1) .nil))) (.cons (.tup (.cons (.int 0) (.cons (.int 2) .nil))) (.cons (.tup (.cons (.int 1) (.cons (.int 2) .nil))) (.cons (.tup (.cons (.int 0) (.cons (.int 3) .nil))) (.cons (.tup (.cons (.int 1) (.cons (.int 3) .nil))) .nil)))))) (.cons (.lst 0 (.cons (.tup (.cons (.int 0) (.cons (.int 0) .nil))) (.cons (.tup (.cons (.int 1) (.cons (.int 1) .nil))) (.cons (.tup (.cons (.int 0) (.cons (.int 1) .nil))) (.cons (.tup (.cons (.int 1) (.cons (.int 0) .nil))) (.cons (.tup (.cons (.int 0) (.cons (.int 2) .nil))) (.cons (.tup (.cons (.int 1) (.cons (.int 2) .nil))) .nil))))))) .nil))))
    (.cons (.app 9 (.lst 0 (.cons (.tup (.cons (.int 0) (.cons (.int 0) .nil))) (.cons (.tup (.cons (.int 0) (.cons (.int 1) .nil))) (.cons (.tup (.cons (.int 0) (.cons (.int 2) .nil))) (.cons (.tup (.cons (.int 1) (.cons (.int 1) .nil))) (.cons (.tup (.cons (.int 1) (.cons (.int 2) .nil))) (.cons (.tup (.cons (.int 2) (.cons (.int 2) .nil))) .nil))))))))
    (.cons (.app 9 (.lst 0 (.cons (.tup (.cons (.int 0) (.cons (.int 1) .nil))) (.cons (.tup (.cons (.int 0) (.cons (.int 2) .nil))) (.cons (.tup (.cons (.int 0) (.cons (.int 3) .nil))) (.cons (.tup (.cons (.int 1) (.cons (.int 2) .nil))) (.cons (.tup (.cons (.int 1) (.cons (.int 3) .nil))) (.cons (.tup (.cons (.int 2) (.cons (.int 3) .nil))) .nil))))))))
    (.cons (.ret (.call iPairs 0 (.cons (.ix (.var 9) (.op .Mult (.callr iTake 0 0 (.cons (.int 4) .nil)) (.blt .int (.cons (.cmp .Gt (.var 1) (.int 5)) .nil)))) .nil)))
    .nil)))) .nil)
    (.cons (.ite (.inn false (.var 2) (.tup (.cons (.int 5) (.cons (.int 6) .nil)))) (.cons (.seto 9 1 (.lst 1 (.cons (.lst 0 (.cons (.tup (.cons (.int 0) (.cons (.int 0) .nil))) (.cons (.tup (.cons (.int 0) (.cons (.int 1) .nil))) .nil))) (.cons (.lst 0 (.cons (.tup (.cons (.int 0) (.cons (.int 1) .nil))) (.cons (.tup (.cons (.int 0) (.cons (.int 2) .nil))) (.cons (.tup (.cons (.int 1) (.cons (.int 2) .nil))) .nil)))) (.cons (.lst 0 (.cons (.tup (.cons (.int 0) (.cons (.int 0) .nil))) (.cons (.tup (.cons (.int 0) (.cons (.int 1) .nil))) (.cons (.tup (.cons (.int 1) (.cons (.int 1) .nil))) .nil)))) .nil)))))
    (.cons (.seto 9 1 (.cat 0 (.var 9) (.lst 1 (.cons (.lst 0 (.cons (.tup (.cons (.int 0) (.cons (.int 0) .nil))) (.cons (.tup (.cons (.int 0) (.cons (.int 1) .nil))) (.cons (.tup (.cons (.int 0) (.cons (.int 2) .nil))) (.cons (.tup (.cons (.int 1) (.cons (.int 2) .nil))) .nil))))) (.cons (.lst 0 (.cons (.tup (.cons (.int 0) (.cons (.int 0) .nil))) (.cons (.tup (.cons (.int 0) (.cons (.int 1) .nil))) (.cons (.tup (.cons (.int 1) (.cons (.int 0) .nil))) (.cons (.tup (.cons (.int 1) (.cons (.int 1) .nil))) .nil))))) .nil)))))
    (.cons (.ret (.call iPairs 0 (.cons (.ix (.var 9) (.callr iTake 0 0 (.cons (.ix (.lst 0 (.cons (.int 3) (.cons (.int 5) .nil))) (.blt .int (.cons (.cmp .Gt (.var 1) (.int 3)) .nil))) .nil))) .nil)))
    .nil))) .nil)
    (.cons (.ite (.cmp .Eq (.var 2) (.int 7)) (.cons (.ret (.callr iByOne 0 0 (.cons (.op .Add (.int 1) (.callr iTake 0 0 (.cons (.op .Sub (.blt .mn (.cons (.var 1) (.cons (.int 5) .nil))) (.int 1)) .nil))) .nil)))
    .nil) .nil)
    (.cons (.ite (.cmp .Eq (.var 2) (.int 8)) (.cons (.ret (.call iNone 3 (.cons (.callr iTake 0 0 (.cons (.op .Add (.var 1) (.int 1)) .nil)) .nil)))
    .nil) .nil)
    (.cons (.ret (.ix (.lst 0 (.cons (.call iThree 0 (.cons (.var 3) (.cons (.var 4) (.cons (.var 5) .nil)))) (.cons (.call iThree 0 (.cons (.var 6) (.cons (.var 7) (.cons (.var 8) .nil)))) .nil))) (.blt .int (.cons (.cmp .Eq (.var 2) (.int 11)) .nil))))
    .nil))))))))))))
-- _law_stepped: ['_law_found', '_law_i', '_law_j', '_law_number', '_law_rows', '_law_k', '_law_some', '_law_row_here', '_law_x', '_law_y']
def bStepped : Ss :=
    (.cons (.seto 4 3 (.comp 2 [6] (.nm 6) (.lst (.var 0)) .none (.comp 1 [7] (.nm 7) (.lst (.var 6)) .none (.lof (.var 7)))))
    (.cons (.for (.nm 5) (.rng (.blt .len (.cons (.var 0) .nil))) (.cons (.stp 4 1 (.cons (.var 1) .nil) (.var 5) (.lend (.comp 0 [8, 9] (.tp (.cons (.nm 8) (.cons (.nm 9) .nil))) (.zip (.ix (.ix (.var 4) (.var 1)) (.var 5)) (.ix (.ix (.var 4) (.var 2)) (.var 5))) .none (.op .Add (.var 8) (.op .Mult (.var 3) (.var 9))))))
    .nil))
    (.cons (.for (.nm 5) (.rng (.blt .len (.cons (.var 0) .nil))) (.cons (.stp 4 1 (.cons (.var 5) .nil) (.var 1) (.lend (.comp 0 [8, 9] (.tp (.cons (.nm 8) (.cons (.nm 9) .nil))) (.zip (.ix (.ix (.var 4) (.var 5)) (.var 1)) (.ix (.ix (.var 4) (.var 5)) (.var 2))) .none (.op .Add (.var 8) (.op .Mult (.var 3) (.var 9))))))
    .nil))
    (.cons (.forb none 6 4 (.cons (.forb none 7 6 (.cons (.stp 7 0 .nil (.var 2) (.lend (.op .Sub (.ix (.var 7) (.var 2)) (.op .Mult (.var 3) (.ix (.var 7) (.var 1))))))
    .nil))
    .nil))
    (.cons (.ret (.var 4))
    .nil)))))
-- _law_lowest: ['_law_top', '_law_bottom', '_law_part']
def bLowest (iCommon : Nat) : Ss :=
    (.cons (.set 2 (.call iCommon 0 (.cons (.var 0) (.cons (.var 1) .nil))))
    (.cons (.ite (.cmp .Lt (.var 1) (.int 0)) (.cons (.set 2 (.op .Sub (.int 0) (.var 2)))
    .nil) .nil)
    (.cons (.ret (.tup (.cons (.op .FloorDiv (.var 0) (.var 2)) (.cons (.op .FloorDiv (.var 1) (.var 2)) .nil))))
    .nil)))
-- _law_rescaled: ['_law_found', '_law_at', '_law_top', '_law_bottom', '_law_rows', '_law_i', '_law_some', '_law_j', '_law_row_here', '_law_k', '_law_x', '_law_up', '_law_down']
def bRescaled (iNone iLowest : Nat) : Ss :=
    (.cons (.seto 4 3 (.call iNone 3 (.cons (.blt .len (.cons (.var 0) .nil)) .nil)))
    (.cons (.for (.tp (.cons (.nm 5) (.cons (.nm 6) .nil))) (.enum (.var 0)) (.cons (.for (.tp (.cons (.nm 7) (.cons (.nm 8) .nil))) (.enum (.var 6)) (.cons (.for (.tp (.cons (.nm 9) (.cons (.nm 10) .nil))) (.enum (.var 8)) (.cons (.set 11 (.op .Mult (.op .Mult (.ix (.lst 0 (.cons (.int 1) (.cons (.var 2) .nil))) (.blt .int (.cons (.cmp .Eq (.var 5) (.var 1)) .nil))) (.ix (.lst 0 (.cons (.int 1) (.cons (.var 2) .nil))) (.blt .int (.cons (.cmp .Eq (.var 7) (.var 1)) .nil)))) (.ix (.lst 0 (.cons (.int 1) (.cons (.var 3) .nil))) (.blt .int (.cons (.cmp .Eq (.var 9) (.var 1)) .nil)))))
    (.cons (.set 12 (.op .Mult (.op .Mult (.ix (.lst 0 (.cons (.int 1) (.cons (.var 3) .nil))) (.blt .int (.cons (.cmp .Eq (.var 5) (.var 1)) .nil))) (.ix (.lst 0 (.cons (.int 1) (.cons (.var 3) .nil))) (.blt .int (.cons (.cmp .Eq (.var 7) (.var 1)) .nil)))) (.ix (.lst 0 (.cons (.int 1) (.cons (.var 2) .nil))) (.blt .int (.cons (.cmp .Eq (.var 9) (.var 1)) .nil)))))
    (.cons (.stp 4 0 (.cons (.var 5) (.cons (.var 7) .nil)) (.var 9) (.call iLowest 0 (.cons (.op .Mult (.var 10) (.var 11)) (.cons (.var 12) .nil))))
    .nil))))
    .nil))
    .nil))
    (.cons (.ret (.var 4))
    .nil)))
-- _law_algebra: ['_law_bag_here', '_law_most', '_law_found', '_law_size', '_law_turn', '_law_i', '_law_j']
def bAlgebra (iTake iIntegers iStepped iRescaled : Nat) : Ss :=
    (.cons (.set 2 (.callr iIntegers 0 0 (.cons (.var 1) .nil)))
    (.cons (.set 3 (.blt .len (.cons (.var 2) .nil)))
    (.cons (.for (.nm 4) (.rng (.op .Mult (.callr iTake 0 0 (.cons (.int 6) .nil)) (.blt .int (.cons (.cmp .Gt (.var 3) (.int 1)) .nil)))) (.cons (.set 5 (.callr iTake 0 0 (.cons (.var 3) .nil)))
    (.cons (.set 6 (.op .Mod (.op .Add (.op .Add (.var 5) (.int 1)) (.callr iTake 0 0 (.cons (.op .Sub (.var 3) (.int 1)) .nil))) (.var 3)))
    (.cons (.set 2 (.call iStepped 0 (.cons (.var 2) (.cons (.var 5) (.cons (.var 6) (.cons (.ix (.lst 0 (.cons (.int 1) (.cons (.neg (.int 1)) (.cons (.int 2) (.cons (.neg (.int 2)) .nil))))) (.callr iTake 0 0 (.cons (.int 4) .nil))) .nil))))))
    .nil))))
    (.cons (.ite (.cmp .Eq (.var 3) (.int 0)) (.cons (.ret (.lst 0 .nil))
    .nil) .nil)
    (.cons (.ite (.cmp .Gt (.callr iTake 0 0 (.cons (.int 4) .nil)) (.int 0)) (.cons (.ret (.call iRescaled 0 (.cons (.var 2) (.cons (.int 0) (.cons (.int 1) (.cons (.int 1) .nil))))))
    .nil) .nil)
    (.cons (.ret (.call iRescaled 0 (.cons (.var 2) (.cons (.callr iTake 0 0 (.cons (.var 3) .nil)) (.cons (.op .Add (.int 1) (.callr iTake 0 0 (.cons (.int 3) .nil))) (.cons (.op .Add (.int 2) (.callr iTake 0 0 (.cons (.int 3) .nil))) .nil))))))
    .nil))))))
-- _law_plus: ['_law_u', '_law_v']
def bPlus2 (iLowest : Nat) : Ss :=
    (.cons (.ret (.call iLowest 0 (.cons (.op .Add (.op .Mult (.ix (.var 0) (.int 0)) (.ix (.var 1) (.int 1))) (.op .Mult (.ix (.var 1) (.int 0)) (.ix (.var 0) (.int 1)))) (.cons (.op .Mult (.ix (.var 0) (.int 1)) (.ix (.var 1) (.int 1))) .nil))))
    .nil)
-- _law_times: ['_law_u', '_law_v']
def bTimes2 (iLowest : Nat) : Ss :=
    (.cons (.ret (.call iLowest 0 (.cons (.op .Mult (.ix (.var 0) (.int 0)) (.ix (.var 1) (.int 0))) (.cons (.op .Mult (.ix (.var 0) (.int 1)) (.ix (.var 1) (.int 1))) .nil))))
    .nil)

/-- a cube of whole numbers -/
def cub (n : Nat) (f : Nat → Nat → Nat → Int) : D := tab n fun i => tab n fun j => tab n fun k => .int (f i j k)
theorem cub_congr {n : Nat} {f g : Nat → Nat → Nat → Int} (h : ∀ i j k, i < n → j < n → k < n → f i j k = g i j k) : cub n f = cub n g :=
  tab_congr fun i hi => tab_congr fun j hj => tab_congr fun k hk => by rw [h i j k hi hj hk]
def spNone : FSp := fun ds Φ _ => ∃ n : Nat, ds = [.int (n : Nat)] ∧ n ≤ 100 ∧ Φ (cub n fun _ _ _ => 0) .none
theorem ok_none {body : Ss} (Γ : List Ent) (hb : body = bNone) : ∀ ds Φ Ξ, ds.length = 1 → spNone ds Φ Ξ → svs Γ body (ktOf none Φ Ξ) (Q.envOf none 3 ds) := by
  subst hb
  rintro ds Φ Ξ - ⟨n, rfl, hn, h⟩
  (refine (Exists.intro _ (And.intro rfl ?_)); walk_at "w")
  refine ⟨by omega, ?_⟩
  (refine (And.intro rfl ?_); walk_at "w")
  simp only [Int.toNat_natCast]
  refine comp_tab (fun i => tab n fun _ => tab n fun _ => .int 0) (fun i hi W hW => ?_) ?_
  · (refine (Exists.intro _ (And.intro rfl ?_)); walk_at "w")
    refine ⟨by omega, ?_⟩
    (refine (And.intro rfl ?_); walk_at "w")
    simp only [Int.toNat_natCast]
    refine comp_tab (fun i => tab n fun _ => .int 0) (fun i hi W hW => ?_) ?_
    · walk_at "w"
      refine rep_tab (z := (n : Nat)) (by omega) (by omega) ?_
      simp only [Int.toNat_natCast]
      exact hW
    · rw [← tab_eq]; exact hW
  · rw [← tab_eq]; exact h
/-- one product and its contrary put otherwise -/
def setF (f : Nat → Nat → Nat → Int) (i j : Nat) (r : Nat → Int) (a b k : Nat) : Int := if a = j ∧ b = i then 0 - r k else if a = i ∧ b = j then r k else f a b k
def rowI (rs : List Int) : D := .list (rs.map PyData.int)
theorem rowI_tab (rs : List Int) : rowI rs = tab rs.length fun k => .int (rs.getD k 0) := by
  rw [tab_eq]
  unfold rowI
  congr 1
  refine List.ext_getElem? fun j => ?_
  by_cases hj : j < rs.length
  · rw [rmap_get hj, List.getElem?_map, List.getD_eq_getElem?_getD, List.getElem?_eq_getElem hj]; rfl
  · rw [List.getElem?_eq_none (by simpa using hj), List.getElem?_eq_none (by simpa using hj)]
def spSet : FSp := fun ds Φ _ => ∃ (n : Nat) (f : Nat → Nat → Nat → Int) (i j : Nat) (r : Nat → Int) (row : D), ds = [cub n f, .int (i : Nat), .int (j : Nat), row] ∧ row = tab n (fun k => .int (r k)) ∧ i < n ∧ j < n ∧ Φ .none (cub n (setF f i j r))
theorem ok_set {body : Ss} (Γ : List Ent) (hb : body = bSet) : ∀ ds Φ Ξ, ds.length = 4 → spSet ds Φ Ξ → svs Γ body (ktOf (some 2) Φ Ξ) (Q.envOf (some 2) 5 ds) := by
  subst hb
  rintro ds Φ Ξ - ⟨n, f, i, j, r, _, rfl, rfl, hi, hj, h⟩
  walk_at "w"
  refine lof_tab ?_
  unfold cub
  (refine (Exists.intro _ (And.intro rfl ?_)); walk_at "w")
  refine ⟨_, pget_nat1 hi, ?_⟩
  walk_at "w"
  refine ⟨_, pset_nat2 hi hj, ?_⟩
  walk_at "w"
  refine ⟨_, tab_eq _ _, ?_⟩
  (refine (And.intro rfl ?_); walk_at "w")
  refine comp_tab (fun k => .int (0 - r k)) (fun k hk W hW => ?_) ?_
  · walk_at "w"
    exact hW
  · rw [← tab_eq]
    (refine (Exists.intro _ (And.intro rfl ?_)); walk_at "w")
    refine ⟨_, pget_nat1 hj, ?_⟩
    walk_at "w"
    refine ⟨_, pset_nat2 hj hi, ?_⟩
    (refine (Exists.intro _ (And.intro rfl ?_)); walk_at "w")
    have e : cub n (setF f i j r) = tab n fun a => tab n fun b => if a = j ∧ b = i then tab n fun k => .int (0 - r k) else if a = i ∧ b = j then tab n fun k => .int (r k) else tab n fun k => .int (f a b k) := by
      unfold cub
      refine tab_congr fun a ha => tab_congr fun b hb => ?_
      by_cases q1 : a = j ∧ b = i
      · rw [if_pos q1]; exact tab_congr fun k _ => by unfold setF; rw [if_pos q1]
      · rw [if_neg q1]
        by_cases q2 : a = i ∧ b = j
        · rw [if_pos q2]; exact tab_congr fun k _ => by unfold setF; rw [if_neg q1, if_pos q2]
        · rw [if_neg q2]; exact tab_congr fun k _ => by unfold setF; rw [if_neg q1, if_neg q2]
    rw [e] at h
    exact h
def entNone : Ent := ⟨⟨"_law_none", none, 1, 3⟩, spNone⟩
def entSet : Ent := ⟨⟨"_law_set", some 2, 4, 0⟩, spSet⟩
def three (a b c : Int) : Nat → Nat → Nat → Int := setF (setF (setF (fun _ _ _ => 0) 0 1 fun k => [0, 0, c].getD k 0) 1 2 fun k => [a, 0, 0].getD k 0) 2 0 fun k => [0, b, 0].getD k 0
def spThree : FSp := fun ds Φ _ => ∃ a b c : Int, ds = [.int a, .int b, .int c] ∧ Φ (cub 3 (three a b c)) .none
theorem ok_three {body : Ss} (Γ : List Ent) (iN iS : Nat) (hN : Γ[iN]? = some entNone) (hS : Γ[iS]? = some entSet) (hb : body = bThree iN iS) : ∀ ds Φ Ξ, ds.length = 3 → spThree ds Φ Ξ → svs Γ body (ktOf none Φ Ξ) (Q.envOf none 4 ds) := by
  subst hb
  rintro ds Φ Ξ - ⟨a, b, c, rfl, h⟩
  walk_at "w"
  refine ⟨_, hN, 3, rfl, by decide, ?_⟩
  (refine (And.intro isOw_tab ?_); walk_at "w")
  refine ⟨_, _, _, hS, rfl, rfl, 3, _, 0, 1, _, rowI [0, 0, c], rfl, rowI_tab _, by decide, by decide, ?_⟩
  (refine (And.intro isOw_tab ?_); walk_at "w")
  refine ⟨_, _, _, hS, rfl, rfl, 3, _, 1, 2, _, rowI [a, 0, 0], rfl, rowI_tab _, by decide, by decide, ?_⟩
  (refine (And.intro isOw_tab ?_); walk_at "w")
  refine ⟨_, _, _, hS, rfl, rfl, 3, _, 2, 0, _, rowI [0, b, 0], rfl, rowI_tab _, by decide, by decide, ?_⟩
  walk_at "w"
  exact h
def entTake : Ent := ⟨⟨"_law_take", some 1, 2, 0⟩, spTake⟩
def byP (i : Nat) (A : Nat → Nat → Int) (a b k : Nat) : Int := if a = 0 ∧ 1 ≤ b ∧ b ≤ i ∧ 1 ≤ k then A (b - 1) (k - 1) else if b = 0 ∧ 1 ≤ a ∧ a ≤ i ∧ 1 ≤ k then 0 - A (a - 1) (k - 1) else 0
theorem byP_step {i : Nat} {A : Nat → Nat → Int} {rs : List Int} (h0 : rs.getD 0 0 = 0) (a b k : Nat) : setF (byP i A) 0 (1 + i) (fun k => rs.getD k 0) a b k = byP (i + 1) (fun x y => if x = i then rs.getD (y + 1) 0 else A x y) a b k := by
  have e : ∀ k, 1 ≤ k → k - 1 + 1 = k := fun k h => by omega
  generalize hr : (fun k => rs.getD k 0) = r
  have h0 : r 0 = 0 := by rw [← hr]; exact h0
  have hr2 : ∀ k, rs.getD k 0 = r k := fun k => by rw [← hr]
  simp only [hr2]
  clear hr hr2
  unfold setF byP
  dsimp only
  by_cases hk : k = 0
  · subst hk
    simp only [h0]
    grind
  · obtain ⟨k', rfl⟩ : ∃ k', k = k' + 1 := ⟨k - 1, by omega⟩
    simp only [Nat.add_sub_cancel]
    grind
def spByOne : FSp := fun ds Φ _ => ∃ (b : D) (m : Nat), ds = [b, .int (m : Nat)] ∧ (Bag b ∧ 1 ≤ m ∧ m ≤ 5) ∧ ∀ (A : Nat → Nat → Int) b', (∀ i j, -1 ≤ A i j ∧ A i j ≤ 2) → Bag b' → Φ (cub (1 + m) (byP m A)) b'
theorem six {z : Int} (h0 : 0 ≤ z) (h : z < 6) : ∃ v : Int, atI [PyData.int 0, .int 0, .int 1, .int (-1), .int 2, .int 1] z = some (.int v) ∧ -1 ≤ v ∧ v ≤ 2 := by
  have : z = 0 ∨ z = 1 ∨ z = 2 ∨ z = 3 ∨ z = 4 ∨ z = 5 := by omega
  rcases this with rfl | rfl | rfl | rfl | rfl | rfl <;> exact ⟨_, rfl, by decide, by decide⟩
theorem ok_byone {body : Ss} (Γ : List Ent) (iT iN iS : Nat) (hT : Γ[iT]? = some entTake) (hN : Γ[iN]? = some entNone) (hS : Γ[iS]? = some entSet) (hb : body = bByOne iT iN iS) : ∀ ds Φ Ξ, ds.length = 2 → spByOne ds Φ Ξ → svs Γ body (ktOf (some 1) Φ Ξ) (Q.envOf (some 1) 6 ds) := by
  subst hb
  rintro ds Φ Ξ - ⟨b, m, rfl, ⟨hB, h1, h5⟩, h⟩
  obtain ⟨c0, m0, rfl, hc0, hm0, hm1⟩ := hB
  walk_at "w"
  refine ⟨_, hN, 1 + m, by simp, by omega, ?_⟩
  (refine (Exists.intro _ (And.intro rfl ?_)); walk_at "w")
  refine ⟨by omega, ?_⟩
  simp only [Int.toNat_natCast]
  refine for_tab (fun i ρ => ∃ b A c3 c4 c5, Bag b ∧ (∀ i j, -1 ≤ A i j ∧ A i j ≤ 2) ∧ ρ = [.ow 1 b, .va (.int (m : Nat)), .ow 2 (cub (1 + m) (byP i A)), c3, c4, c5]) ⟨_, fun _ _ => 0, .un, .un, .un, ⟨c0, m0, rfl, hc0, hm0, hm1⟩, fun _ _ => by simp, ?_⟩ ?_ ?_
  · have e : cub (1 + m) (fun _ _ _ => 0) = cub (1 + m) (byP 0 fun _ _ => 0) := cub_congr fun i j k _ _ _ => by unfold byP; split <;> (try split) <;> rfl
    rw [← e] <;> rfl
  · rintro i ρ hi ⟨b, A, c3, c4, c5, hB, hA, rfl⟩ W hW
    (refine (Exists.intro _ (And.intro rfl ?_)); walk_at "w")
    refine ⟨by omega, ?_⟩
    simp only [Int.toNat_natCast]
    refine for_tab (fun j ρ => ∃ b c5 rs, Bag b ∧ rs.length = j + 1 ∧ rs.getD 0 0 = 0 ∧ (∀ k, -1 ≤ rs.getD k 0 ∧ rs.getD k 0 ≤ 2) ∧ ρ = [.ow 1 b, .va (.int (m : Nat)), .ow 2 (cub (1 + m) (byP i A)), .va (.int (i : Nat)), .ow 1 (rowI rs), c5]) ⟨b, _, [0], hB, rfl, rfl, fun k => ?_, rfl⟩ ?_ ?_
    · cases k with
      | zero => decide
      | succ k => simp
    · rintro j ρ hj ⟨b, c5, rs, ⟨c, mm, rfl, hc, hm, hm1⟩, hl, h0, hrs, rfl⟩ W' hW'
      (refine (And.intro True.intro (Exists.intro _ (And.intro rfl (And.intro True.intro ?_)))); walk_at "w")
      refine ⟨_, _, _, hT, rfl, rfl, _, 6, rfl, ⟨⟨c, mm, rfl, hc, hm, hm1⟩, by decide, by decide⟩, fun z b' z0 z1 hB' => ?_⟩
      walk_at "w"
      obtain ⟨v, e1, e2, e3⟩ := six z0 z1
      refine ixD_l e1 ?_
      walk_at "w"
      refine ⟨.inl rfl, ?_⟩
      refine ⟨by simp [hl]; omega, ?_⟩
      refine hW' _ ⟨b', .va (.int (j : Nat)), rs ++ [v], hB', by simp [hl], ?_, fun k => ?_, ?_⟩
      · rw [List.getD_eq_getElem?_getD] at h0 ⊢
        rw [List.getElem?_append_left (by omega)]; exact h0
      · have := hrs k
        rw [List.getD_eq_getElem?_getD] at this ⊢
        by_cases q : k < rs.length
        · rw [List.getElem?_append_left q]; exact this
        · rw [List.getElem?_append_right (by omega)]
          by_cases q2 : k - rs.length = 0
          · rw [q2]; exact ⟨e2, e3⟩
          · have : k - rs.length = (k - rs.length - 1) + 1 := by omega
            rw [this]; simp
      · unfold rowI
        rw [List.map_append]
        rfl
    · rintro ρ ⟨b, c5, rs, hB, hl, h0, hrs, rfl⟩
      (refine (And.intro isOw_tab ?_); walk_at "w")
      refine ⟨_, _, _, hS, rfl, rfl, 1 + m, _, 0, 1 + i, fun k => rs.getD k 0, rowI rs, rfl, by rw [rowI_tab]; congr 1; omega, by omega, by omega, ?_⟩
      walk_at "w"
      refine hW _ ⟨b, fun x y => if x = i then rs.getD (y + 1) 0 else A x y, .va (.int (i : Nat)), .va (rowI rs), c5, hB, fun x y => ?_, ?_⟩
      · by_cases q : x = i
        · dsimp only; rw [if_pos q]; exact hrs _
        · dsimp only; rw [if_neg q]; exact hA x y
      · rw [← cub_congr fun a b k _ _ _ => byP_step h0 a b k] <;> rfl
  · rintro ρ ⟨b, A, c3, c4, c5, hB, hA, rfl⟩
    (refine (Exists.intro _ (And.intro rfl ?_)); walk_at "w")
    exact h A b hA hB
/-! ### pairs of places -/
def pr (x : Nat × Nat) : D := .tuple [.int (x.1 : Nat), .int (x.2 : Nat)]
@[irreducible] def prsD (P : List (Nat × Nat)) : D := .list (P.map pr)
def prA (P : List (Nat × Nat)) (i : Nat) : Nat × Nat := P.getD i (0, 0)
theorem prsD_tab (P : List (Nat × Nat)) : prsD P = tab P.length fun i => pr (prA P i) := by
  rw [tab_eq]
  unfold prsD
  congr 1
  refine List.ext_getElem? fun j => ?_
  by_cases hj : j < P.length
  · rw [rmap_get hj, List.getElem?_map, prA, List.getD_eq_getElem?_getD, List.getElem?_eq_getElem hj]; rfl
  · rw [List.getElem?_eq_none (by simpa using hj), List.getElem?_eq_none (by simpa using hj)]
/-- what two pairs bring to a place -/
def prV (P : List (Nat × Nat)) (i j k : Nat) : Int :=
  (if (prA P i).2 = (prA P j).1 ∧ k = P.idxOf ((prA P i).1, (prA P j).2) then 1 else 0) - (if (prA P j).2 = (prA P i).1 ∧ k = P.idxOf ((prA P j).1, (prA P i).2) then 1 else 0)
def nine : List (List (Nat × Nat)) := [[(0, 1), (0, 2), (1, 2), (0, 3), (1, 3)], [(0, 0), (1, 1), (0, 1), (1, 0), (0, 2), (1, 2)], [(0, 0), (0, 1), (0, 2), (1, 1), (1, 2), (2, 2)], [(0, 1), (0, 2), (0, 3), (1, 2), (1, 3), (2, 3)],
  [(0, 0), (0, 1)], [(0, 1), (0, 2), (1, 2)], [(0, 0), (0, 1), (1, 1)], [(0, 0), (0, 1), (0, 2), (1, 2)], [(0, 0), (0, 1), (1, 0), (1, 1)]]
structure GoodP (P : List (Nat × Nat)) : Prop where
  len : P.length ≤ 6
  sh : SeqAt.shaped (prsD P) = true
  cl : ∀ x ∈ P, ∀ y ∈ P, x.2 = y.1 → (x.1, y.2) ∈ P
theorem good_nine : ∀ P ∈ nine, GoodP P := by
  intro P hP
  have : (P.length ≤ 6) ∧ SeqAt.shaped (prsD P) = true ∧ ∀ x ∈ P, ∀ y ∈ P, x.2 = y.1 → (x.1, y.2) ∈ P := by
    revert P
    decide +kernel
  exact ⟨this.1, this.2.1, this.2.2⟩
theorem eqv_pr (x y : Nat × Nat) : PyData.eqv (pr x) (pr y) = decide (x = y) := by
  have e : PyData.eqv (pr x) (pr y) = ((((x.1 : Nat) : Int) == ((y.1 : Nat) : Int)) && ((((x.2 : Nat) : Int) == ((y.2 : Nat) : Int)))) := by
    unfold pr
    show (_ && (_ && true)) = _
    rw [Bool.and_true]; rfl
  rw [e]
  obtain ⟨a, b⟩ := x
  obtain ⟨c, d⟩ := y
  by_cases h1 : a = c <;> by_cases h2 : b = d <;> simp [h1, h2] <;> omega
theorem idx_pr {P : List (Nat × Nat)} (g : GoodP P) {x : Nat × Nat} (hx : x ∈ P) {k : D → Prop} (q : k (.int (P.idxOf x : Nat))) : idxD (prsD P) (pr x) k := by
  have hl : P.idxOf x < P.length := List.idxOf_lt_length_iff.mpr hx
  suffices go : SeqAt.shaped (prsD P) = true ∧ SeqAt.shaped (pr x) = true ∧ ∃ j z, (P.map pr)[j]? = some z ∧ PyData.eqv z (pr x) = true ∧ (∀ m z', m < j → (P.map pr)[m]? = some z' → PyData.eqv z' (pr x) = false) ∧ k (.int (j : Nat)) by
    refine idxD_i ?_
    unfold prsD at go ⊢
    exact go
  refine ⟨g.sh, rfl, P.idxOf x, pr x, ?_, by rw [eqv_pr]; simp, fun m z' hm hz => ?_, q⟩
  · rw [List.getElem?_map, List.getElem?_eq_getElem hl, List.getElem_idxOf]; rfl
  · rw [List.getElem?_map, List.getElem?_eq_getElem (show m < P.length by omega)] at hz
    cases hz
    show PyData.eqv (pr P[m]) (pr x) = false
    rw [eqv_pr]
    have := List.not_of_lt_findIdx (p := (· == x)) (xs := P) hm
    simpa using this
theorem prA_mem {P : List (Nat × Nat)} {i : Nat} (h : i < P.length) : prA P i ∈ P := by
  unfold prA
  rw [List.getD_eq_getElem?_getD, List.getElem?_eq_getElem h]
  exact List.getElem_mem h
def prP (P : List (Nat × Nat)) (i j a b k : Nat) : Int := if a < i ∨ (a = i ∧ b < j) then prV P a b k else 0
def spPairs : FSp := fun ds Φ _ => ∃ P : List (Nat × Nat), ds = [prsD P] ∧ P ∈ nine ∧ Φ (cub P.length (prV P)) .none
theorem aug_cub {n : Nat} {f : Nat → Nat → Nat → Int} {i j k : Nat} (hi : i < n) (hj : j < n) (hk : k < n) (z : Int) : pget (cub n f) [.int (i : Nat), .int (j : Nat), .int (k : Nat)] = some (.int (f i j k)) ∧
    pset (cub n f) [.int (i : Nat), .int (j : Nat), .int (k : Nat)] (.int z) = some (cub n fun a b c => if a = i ∧ b = j ∧ c = k then z else f a b c) := by
  refine ⟨?_, ?_⟩
  · unfold cub
    rw [pget_nat hi, pget_nat hj, pget_nat1 hk]
  · unfold cub
    rw [pset_nat3 hi hj hk]
    congr 1
    refine tab_congr fun a _ => tab_congr fun b _ => tab_congr fun c _ => ?_
    by_cases q : a = i ∧ b = j ∧ c = k <;> simp [q]
theorem ok_pairs {body : Ss} (Γ : List Ent) (iN : Nat) (hN : Γ[iN]? = some entNone) (hb : body = bPairs iN) : ∀ ds Φ Ξ, ds.length = 1 → spPairs ds Φ Ξ → svs Γ body (ktOf none Φ Ξ) (Q.envOf none 8 ds) := by
  subst hb
  rintro ds Φ Ξ - ⟨P, rfl, hP, h⟩
  have g := good_nine P hP
  have hlen := g.len
  walk_at "w"
  rw [show prsD P = tab P.length fun i => pr (prA P i) from prsD_tab P]
  refine len_tab ?_
  refine ⟨_, hN, P.length, rfl, by omega, ?_⟩
  rw [← prsD_tab P]
  walk_at "w"
  refine ⟨_, prsD_tab P |>.trans (tab_eq _ _), ?_⟩
  walk_at "w"
  refine for_enum (fun i ρ => ∃ c2 c3 c4 c5 c6 c7, ρ = [.va (prsD P), .ow 3 (cub P.length (prP P i 0)), c2, c3, c4, c5, c6, c7]) ⟨.un, .un, .un, .un, .un, .un, ?_⟩ ?_ ?_
  · have e : cub P.length (fun _ _ _ => 0) = cub P.length (prP P 0 0) := cub_congr fun i j k _ _ _ => by unfold prP; rw [if_neg (by omega)]
    rw [← e] <;> rfl
  · rintro i ρ hi ⟨c2, c3, c4, c5, c6, c7, rfl⟩ W hW
    walk_at "w"
    refine ⟨_, prsD_tab P |>.trans (tab_eq _ _), ?_⟩
    walk_at "w"
    refine for_enum (fun j ρ => ∃ c5 c6 c7, ρ = [.va (prsD P), .ow 3 (cub P.length (prP P i j)), .va (.int (i : Nat)), .va (.int ((prA P i).1 : Nat)), .va (.int ((prA P i).2 : Nat)), c5, c6, c7]) ⟨c5, c6, c7, rfl⟩ ?_ ?_
    · rintro j ρ hj ⟨c5, c6, c7, rfl⟩ W' hW'
      (refine (And.intro rfl (And.intro rfl (Exists.intro _ (And.intro rfl ?_)))); walk_at "w")
      refine ite_join fun N hN => ?_
      have tail : ∀ f : Nat → Nat → Nat → Int, (∀ a b k, a < P.length → b < P.length → k < P.length → f a b k = if a = i ∧ b = j then (if (prA P i).2 = (prA P j).1 ∧ k = P.idxOf ((prA P i).1, (prA P j).2) then 1 else 0) else prP P i j a b k) →
          N [.va (prsD P), .ow 3 (cub P.length f), .va (.int (i : Nat)), .va (.int ((prA P i).1 : Nat)), .va (.int ((prA P i).2 : Nat)), .va (.int (j : Nat)), .va (.int ((prA P j).1 : Nat)), .va (.int ((prA P j).2 : Nat))] := by
        rw [hN]
        intro f hf
        (refine (And.intro rfl (And.intro rfl (Exists.intro _ (And.intro rfl ?_)))); walk_at "w")
        refine sel_mk (fun q => ?_) (fun q => ?_)
        · have q : (prA P j).2 = (prA P i).1 := by
            have : (((prA P j).2 : Nat) : Int) = ((prA P i).1 : Nat) := by simpa using q
            omega
          have hm := g.cl _ (prA_mem hj) _ (prA_mem hi) q
          have hk : P.idxOf ((prA P j).1, (prA P i).2) < P.length := List.idxOf_lt_length_iff.mpr hm
          (refine (Exists.intro _ (And.intro rfl ?_)); walk_at "w")
          refine ⟨_, pget_nat1 hi, ?_⟩
          walk_at "w"
          refine ⟨_, pget_nat1 hj, ?_⟩
          walk_at "w"
          refine ⟨⟨_, (prsD_tab P).trans (tab_eq _ _)⟩, ?_⟩
          walk_at "w"
          refine idx_pr g hm ?_
          refine ⟨⟨_, rfl, by omega⟩, _, (aug_cub hi hj hk 0).1, ?_⟩
          walk_at "w"
          refine ⟨_, _, _, rfl, rfl, (aug_cub hi hj hk _).2, ?_⟩
          refine hW' _ ⟨.va (.int (j : Nat)), .va (.int ((prA P j).1 : Nat)), .va (.int ((prA P j).2 : Nat)), ?_⟩
          have e : cub P.length (fun a b c => if a = i ∧ b = j ∧ c = P.idxOf ((prA P j).1, (prA P i).2) then f i j (P.idxOf ((prA P j).1, (prA P i).2)) - 1 else f a b c) = cub P.length (prP P i (j + 1)) := cub_congr fun a b k ha hb hk' => by
            rw [hf i j _ hi hj hk, hf a b k ha hb hk']
            unfold prP prV
            grind
          rw [← e] <;> rfl
        · have q : ¬ (prA P j).2 = (prA P i).1 := fun z => by
            have : ¬ (((prA P j).2 : Nat) : Int) = ((prA P i).1 : Nat) := by simpa using q
            omega
          walk_at "w"
          refine hW' _ ⟨.va (.int (j : Nat)), .va (.int ((prA P j).1 : Nat)), .va (.int ((prA P j).2 : Nat)), ?_⟩
          have e : cub P.length f = cub P.length (prP P i (j + 1)) := cub_congr fun a b k ha hb hk' => by
            rw [hf a b k ha hb hk']
            unfold prP prV
            grind
          rw [← e]
      refine sel_mk (fun q => ?_) (fun q => ?_)
      · have q : (prA P i).2 = (prA P j).1 := by
          have : (((prA P i).2 : Nat) : Int) = ((prA P j).1 : Nat) := by simpa using q
          omega
        have hm := g.cl _ (prA_mem hi) _ (prA_mem hj) q
        have hk : P.idxOf ((prA P i).1, (prA P j).2) < P.length := List.idxOf_lt_length_iff.mpr hm
        (refine (Exists.intro _ (And.intro rfl ?_)); walk_at "w")
        refine ⟨_, pget_nat1 hi, ?_⟩
        walk_at "w"
        refine ⟨_, pget_nat1 hj, ?_⟩
        walk_at "w"
        refine ⟨⟨_, (prsD_tab P).trans (tab_eq _ _)⟩, ?_⟩
        walk_at "w"
        refine idx_pr g hm ?_
        refine ⟨⟨_, rfl, by omega⟩, _, (aug_cub hi hj hk 0).1, ?_⟩
        walk_at "w"
        refine ⟨_, _, _, rfl, rfl, (aug_cub hi hj hk _).2, ?_⟩
        refine tail _ fun a b k ha hb hk' => ?_
        unfold prP prV
        grind
      · have q : ¬ (prA P i).2 = (prA P j).1 := fun z => by
          have : ¬ (((prA P i).2 : Nat) : Int) = ((prA P j).1 : Nat) := by simpa using q
          omega
        walk_at "w"
        refine tail _ fun a b k ha hb hk' => ?_
        unfold prP prV
        grind
    · rintro ρ ⟨c5, c6, c7, rfl⟩
      refine hW _ ⟨.va (.int (i : Nat)), .va (.int ((prA P i).1 : Nat)), .va (.int ((prA P i).2 : Nat)), c5, c6, c7, ?_⟩
      have e : cub P.length (prP P i P.length) = cub P.length (prP P (i + 1) 0) := cub_congr fun a b k ha hb _ => by unfold prP; congr 1; apply propext; omega
      rw [e]
  · rintro ρ ⟨c2, c3, c4, c5, c6, c7, rfl⟩
    walk_at "w"
    have e : cub P.length (prP P P.length 0) = cub P.length (prV P) := cub_congr fun a b k ha hb _ => by unfold prP; rw [if_pos (by omega)]
    rw [e]; exact h
end Q

local macro_rules | `(tactic| walk_at "w") => `(tactic| (conv => whnf))
namespace Q
open PySem L2
/-! ### three rows doubled -/
def dbl (f : Nat → Nat → Nat → Int) (a b : Int) (i j k : Nat) : Int :=
  if i / 3 + j / 3 = 0 then (if k < 3 then f (i % 3) (j % 3) k else 0)
  else if i / 3 + j / 3 = 1 then (if k < 3 then 0 else f (i % 3) (j % 3) (k - 3))
  else (if k < 3 then b * f (i % 3) (j % 3) k else a * f (i % 3) (j % 3) (k - 3))
def spDoubled : FSp := fun ds Φ _ => ∃ (f : Nat → Nat → Nat → Int) (a b : Int), ds = [cub 3 f, .int a, .int b] ∧ ((∀ i j k, Bd 100 (f i j k)) ∧ Bd 100 a ∧ Bd 100 b) ∧ Φ (cub 6 (dbl f a b)) .none
theorem fmodN (i m : Nat) (h : 0 < m) : ((i : Nat) : Int).fmod m = ((i % m : Nat) : Int) := by
  rw [Int.fmod_eq_emod_of_nonneg _ (by omega)]; simp
theorem fdivN (i m : Nat) : ((i : Nat) : Int).fdiv m = ((i / m : Nat) : Int) := by
  rw [Int.fdiv_eq_ediv_of_nonneg _ (by omega)]; simp
theorem ok_doubled {body : Ss} (Γ : List Ent) (iN : Nat) (hN : Γ[iN]? = some entNone) (hb : body = bDoubled iN) : ∀ ds Φ Ξ, ds.length = 3 → spDoubled ds Φ Ξ → svs Γ body (ktOf none Φ Ξ) (Q.envOf none 9 ds) := by
  subst hb
  rintro ds Φ Ξ - ⟨f, a, b, rfl, ⟨hf, ha, hb⟩, h⟩
  walk_at "w"
  refine ⟨_, hN, 6, rfl, by omega, ?_⟩
  (refine (Exists.intro _ (And.intro rfl (And.intro (by decide) ?_))); walk_at "w")
  have r6 : List.map (fun i => PyData.int ((i : Nat) : Int)) (List.range (6 : Int).toNat) = (List.range 6).map fun i => .int (i : Nat) := rfl
  rw [r6]
  refine for_tab (fun i ρ => ∃ c4 c5 c6 c7, ρ = [.va (cub 3 f), .va (.int a), .va (.int b), .ow 2 (cub 6 fun x y k => if x < i then dbl f a b x y k else 0), c4, c5, c6, c7, .un]) ⟨.un, .un, .un, .un, ?_⟩ ?_ ?_
  · have e : cub 6 (fun _ _ _ => 0) = cub 6 (fun x y k => if x < 0 then dbl f a b x y k else 0) := cub_congr fun i j k _ _ _ => by simp
    rw [← e] <;> rfl
  · rintro i ρ hi ⟨c4, c5, c6, c7, rfl⟩ W hW
    (refine (Exists.intro _ (And.intro rfl (And.intro (by decide) ?_))); walk_at "w")
    rw [r6]
    refine for_tab (fun j ρ => ∃ c5 c6 c7, ρ = [.va (cub 3 f), .va (.int a), .va (.int b), .ow 2 (cub 6 fun x y k => if x < i ∨ (x = i ∧ y < j) then dbl f a b x y k else 0), .va (.int (i : Nat)), c5, c6, c7, .un]) ⟨c5, c6, c7, ?_⟩ ?_ ?_
    · have e : cub 6 (fun x y k => if x < i then dbl f a b x y k else 0) = cub 6 (fun x y k => if x < i ∨ (x = i ∧ y < 0) then dbl f a b x y k else 0) := cub_congr fun i j k _ _ _ => by simp
      rw [← e] <;> rfl
    · rintro j ρ hj ⟨c5, c6, c7, rfl⟩ W' hW'
      (refine (And.intro (by decide) ?_); walk_at "w")
      rw [show ((i : Nat) : Int).fmod 3 = ((i % 3 : Nat) : Int) from fmodN i 3 (by decide)]
      refine ixD_nat (Nat.mod_lt _ (by decide)) ?_
      (refine (And.intro (by decide) ?_); walk_at "w")
      rw [show ((j : Nat) : Int).fmod 3 = ((j % 3 : Nat) : Int) from fmodN j 3 (by decide)]
      refine ixD_nat (Nat.mod_lt _ (by decide)) ?_
      walk_at "w"
      refine ⟨_, tab_eq _ _, ?_⟩
      (refine (And.intro rfl ?_); walk_at "w")
      refine comp_tab (fun k => .int (b * f (i % 3) (j % 3) k)) (fun k hk V hV => ?_) ?_
      · walk_at "w"
        refine ⟨hb.mulok (hf _ _ _) (by decide), ?_⟩
        walk_at "w"
        exact hV
      · rw [← tab_eq]
        walk_at "w"
        refine ⟨_, tab_eq _ _, ?_⟩
        (refine (And.intro rfl ?_); walk_at "w")
        refine comp_tab (fun k => .int (a * f (i % 3) (j % 3) k)) (fun k hk V hV => ?_) ?_
        · walk_at "w"
          refine ⟨ha.mulok (hf _ _ _) (by decide), ?_⟩
          walk_at "w"
          exact hV
        · rw [← tab_eq]
          walk_at "w"
          refine cat_tab (by decide) ?_
          walk_at "w"
          rw [show PyData.list [PyData.int 0, .int 0, .int 0] = tab 3 (fun _ => .int 0) from by rw [tab_eq]; rfl]
          refine cat_tab (by decide) ?_
          walk_at "w"
          rw [show PyData.list [PyData.int 0, .int 0, .int 0] = tab 3 (fun _ => .int 0) from by rw [tab_eq]; rfl]
          refine cat_tab (by decide) ?_
          (refine (And.intro (by decide) (And.intro rfl (And.intro (by decide) (And.intro rfl ?_)))); walk_at "w")
          rw [show ((i : Nat) : Int).fdiv 3 = ((i / 3 : Nat) : Int) from fdivN i 3, show ((j : Nat) : Int).fdiv 3 = ((j / 3 : Nat) : Int) from fdivN j 3]
          have hat : atI [tab (3 + 3) fun k => if k < 3 then PyData.int (f (i % 3) (j % 3) k) else PyData.int 0, tab (3 + 3) fun k => if k < 3 then PyData.int 0 else PyData.int (f (i % 3) (j % 3) (k - 3)),
              tab (3 + 3) fun k => if k < 3 then PyData.int (b * f (i % 3) (j % 3) k) else PyData.int (a * f (i % 3) (j % 3) (k - 3))] (((i / 3 : Nat) : Int) + ((j / 3 : Nat) : Int)) = some (tab 6 fun k => .int (dbl f a b i j k)) := by
            have hα : i / 3 + j / 3 = 0 ∨ i / 3 + j / 3 = 1 ∨ i / 3 + j / 3 = 2 := by omega
            have e : (((i / 3 : Nat) : Int) + ((j / 3 : Nat) : Int)) = ((i / 3 + j / 3 : Nat) : Int) := by omega
            rw [e]
            rcases hα with q | q | q <;> rw [q] <;> refine congrArg some (tab_congr fun k hk => ?_) <;> unfold dbl <;> rw [q] <;> by_cases hk3 : k < 3 <;> simp [hk3]
          refine ixD_l hat ?_
          (refine (Exists.intro _ (And.intro rfl ?_)); walk_at "w")
          refine ⟨_, pget_nat1 hi, ?_⟩
          walk_at "w"
          refine ⟨_, pset_nat2 hi hj, ?_⟩
          refine hW' _ ⟨.va (.int (j : Nat)), .va (tab 3 fun k => PyData.int (f (i % 3) (j % 3) k)), .va (tab (3 + 3) fun k => if k < 3 then PyData.int (b * f (i % 3) (j % 3) k) else PyData.int (a * f (i % 3) (j % 3) (k - 3))), ?_⟩
          have e : (tab 6 fun x => tab 6 fun y => if x = i ∧ y = j then tab 6 fun k => .int (dbl f a b i j k) else tab 6 fun k => .int (if x < i ∨ (x = i ∧ y < j) then dbl f a b x y k else 0)) = cub 6 (fun x y k => if x < i ∨ (x = i ∧ y < j + 1) then dbl f a b x y k else 0) := by
            unfold cub
            refine tab_congr fun x hx => tab_congr fun y hy => ?_
            by_cases q : x = i ∧ y = j
            · rw [if_pos q]
              obtain ⟨rfl, rfl⟩ := q
              exact tab_congr fun k _ => by dsimp only; rw [if_pos (by omega)]
            · rw [if_neg q]
              refine tab_congr fun k _ => ?_
              congr 1
              dsimp only
              by_cases q2 : x < i ∨ (x = i ∧ y < j)
              · rw [if_pos q2, if_pos (by omega)]
              · rw [if_neg q2, if_neg (by omega)]
          rw [← e] <;> rfl
    · rintro ρ ⟨c5, c6, c7, rfl⟩
      refine hW _ ⟨.va (.int (i : Nat)), c5, c6, c7, ?_⟩
      have e : cub 6 (fun x y k => if x < i ∨ (x = i ∧ y < 6) then dbl f a b x y k else 0) = cub 6 (fun x y k => if x < i + 1 then dbl f a b x y k else 0) := cub_congr fun x y k hx hy _ => by
        congr 1; apply propext; omega
      rw [e]
  · rintro ρ ⟨c4, c5, c6, c7, rfl⟩
    walk_at "w"
    have e : cub 6 (fun x y k => if x < 6 then dbl f a b x y k else 0) = cub 6 (dbl f a b) := cub_congr fun x y k hx hy _ => by simp [hx]
    rw [e]; exact h
/-! ### three rows that move two -/
theorem forW_nil {tg : Tg} {B : (Env → Prop) → Env → Prop} {N : Env → Prop} {ρ : Env} (h : N ρ) : forW tg B N [] ρ := by rw [forW_n]; exact h
theorem forW_cons {tg : Tg} {B : (Env → Prop) → Env → Prop} {N : Env → Prop} {d : D} {ds : List D} {ρ : Env} (h : asg tg d ρ fun ρ1 => B (forW tg B N ds) ρ1) : forW tg B N (d :: ds) ρ := by rw [forW_c]; exact h
def uni (k : Nat) (x : Int) : Nat → Int := fun a => if a = k then x else 0
def movingP : Nat → Nat → Nat → Int :=
  setF (setF (setF (setF (setF (setF (setF (fun _ _ _ => 0) 0 1 (uni 1 2)) 0 2 (uni 2 (-2))) 1 2 (uni 0 1)) 0 3 (uni 3 1)) 0 4 (uni 4 (-1))) 1 4 (uni 3 1)) 2 3 (uni 4 1)
def moving (x : Int) (m : Nat) : Nat → Nat → Nat → Int := if m = 1 then setF movingP 3 4 (uni 5 x) else movingP
def spMoving : FSp := fun ds Φ _ => ∃ (x : Int) (m : Nat), ds = [.int x, .int (m : Nat)] ∧ m ≤ 1 ∧ Φ (cub (5 + m) (moving x m)) .none
def mvL : List (Nat × Nat × Nat × Int) := [(0, 1, 1, 2), (0, 2, 2, -2), (1, 2, 0, 1), (0, 3, 3, 1), (0, 4, 4, -1), (1, 4, 3, 1), (2, 3, 4, 1)]
def mvA (i : Nat) : Nat := (mvL.getD i (0, 0, 0, 0)).1
def mvB (i : Nat) : Nat := (mvL.getD i (0, 0, 0, 0)).2.1
def mvK (i : Nat) : Nat := (mvL.getD i (0, 0, 0, 0)).2.2.1
def mvX (i : Nat) : Int := (mvL.getD i (0, 0, 0, 0)).2.2.2
def mvT (i : Nat) : D := .tuple [.int (mvA i : Nat), .int (mvB i : Nat), .int (mvK i : Nat), .int (mvX i)]
def mvs : Nat → Nat → Nat → Nat → Int
  | 0 => fun _ _ _ => 0
  | i + 1 => setF (mvs i) (mvA i) (mvB i) (uni (mvK i) (mvX i))
theorem mv_lt : ∀ i, i < 7 → mvA i < 5 ∧ mvB i < 5 ∧ mvK i < 5 := by decide +kernel
theorem mv_list : [PyData.tuple [.int 0, .int 1, .int 1, .int 2], .tuple [.int 0, .int 2, .int 2, .int (-2)], .tuple [.int 1, .int 2, .int 0, .int 1], .tuple [.int 0, .int 3, .int 3, .int 1], .tuple [.int 0, .int 4, .int 4, .int (-1)], .tuple [.int 1, .int 4, .int 3, .int 1], .tuple [.int 2, .int 3, .int 4, .int 1]] = (List.range 7).map mvT := rfl
theorem ok_moving {body : Ss} (Γ : List Ent) (iN iS : Nat) (hN : Γ[iN]? = some entNone) (hS : Γ[iS]? = some entSet) (hb : body = bMoving iN iS) : ∀ ds Φ Ξ, ds.length = 2 → spMoving ds Φ Ξ → svs Γ body (ktOf none Φ Ξ) (Q.envOf none 9 ds) := by
  subst hb
  rintro ds Φ Ξ - ⟨x, m, rfl, hm, h⟩
  have hz : ((5 : Int) + ((m : Nat) : Int)).toNat = 5 + m := by omega
  have row : ∀ (k : Nat) (v : Int), (tab (5 + m) fun a => if a = k then PyData.int v else .int 0) = tab (5 + m) fun a => .int (uni k v a) := fun k v => tab_congr fun a _ => by
    unfold uni
    by_cases q : a = k <;> simp [q]
  walk_at "w"
  refine ⟨_, hN, 5 + m, rfl, by omega, ?_⟩
  (refine (Exists.intro _ (And.intro rfl (Exists.intro _ (And.intro rfl (Exists.intro _ (And.intro rfl ?_)))))); walk_at "w")
  rw [mv_list]
  refine for_tab (fun i ρ => ∃ c4 c5 c6 c7 c8, ρ = [.va (.int x), .va (.int (m : Nat)), .ow 2 (cub (5 + m) (mvs i)), .va (.list ((List.range 7).map mvT)), c4, c5, c6, c7, c8]) ⟨.un, .un, .un, .un, .un, ?_⟩ ?_ ?_
  · rfl
  · rintro i ρ hi ⟨c4, c5, c6, c7, c8, rfl⟩ W hW
    obtain ⟨h1, h2, h3⟩ := mv_lt i hi
    show asg _ (mvT i) _ _
    unfold mvT
    generalize hA : mvA i = a at *
    generalize hB : mvB i = b at *
    generalize hK : mvK i = k at *
    generalize hX : mvX i = v at *
    walk_at "w"
    refine rep_tabN (n := 5 + m) rfl (by omega) ?_
    (refine (Exists.intro _ (And.intro rfl ?_)); walk_at "w")
    refine ⟨_, (pset_nat1 (i := k) (by omega)).trans (congrArg some (row k _)), ?_⟩
    (refine (And.intro isOw_tab ?_); walk_at "w")
    refine ⟨_, _, _, hS, rfl, rfl, 5 + m, _, a, b, uni k v, _, rfl, rfl, by omega, by omega, ?_⟩
    refine hW _ ⟨.va (.int (a : Nat)), .va (.int (b : Nat)), .va (.int (k : Nat)), .va (.int v), .va (tab (5 + m) fun a => PyData.int (uni k v a)), ?_⟩
    have e : mvs (i + 1) = setF (mvs i) a b (uni k v) := by
      show setF (mvs i) (mvA i) (mvB i) (uni (mvK i) (mvX i)) = _
      rw [hA, hB, hK, hX]
    rw [e]
    rfl
  rintro ρ ⟨c4, c5, c6, c7, c8, rfl⟩
  have e7 : mvs 7 = movingP := rfl
  rw [e7]
  (refine (And.intro rfl (And.intro rfl (Exists.intro _ (And.intro rfl ?_)))); walk_at "w")
  refine sel_mk (fun q => ?_) (fun q => ?_)
  · have hm1 : m = 1 := by
      have : ((m : Nat) : Int) = 1 := by simpa using q
      omega
    subst hm1
    (refine (And.intro isOw_tab ?_); walk_at "w")
    refine ⟨_, _, _, hS, rfl, rfl, 6, _, 3, 4, uni 5 x, _, rfl, ?_, by omega, by omega, ?_⟩
    · rw [tab_eq]; rfl
    walk_at "w"
    unfold moving movingP at h
    rw [if_pos rfl] at h
    exact h
  · have hm1 : ¬ m = 1 := fun z => by
      have : ¬ ((m : Nat) : Int) = 1 := by simpa using q
      omega
    walk_at "w"
    unfold moving movingP at h
    rw [if_neg hm1] at h
    exact h
end Q

local macro_rules | `(tactic| walk_at "w") => `(tactic| (conv => whnf))
namespace Q
open PySem L2
/-! ### two beside one another -/
def side (n : Nat) (f g : Nat → Nat → Nat → Int) (i j k : Nat) : Int :=
  if i < n then (if j < n ∧ k < n then f i j k else 0) else (if n ≤ j ∧ n ≤ k then g (i - n) (j - n) (k - n) else 0)
def sideP (n : Nat) (f g : Nat → Nat → Nat → Int) (i j a b k : Nat) : Int := if a < i ∨ (a = i ∧ b < j) then side n f g a b k else 0
def spSide : FSp := fun ds Φ _ => ∃ (n m : Nat) (f g : Nat → Nat → Nat → Int), ds = [cub n f, cub m g] ∧ n + m ≤ 100 ∧ Φ (cub (n + m) (side n f g)) .none
theorem cub_set {n : Nat} {f : Nat → Nat → Nat → Int} {i j : Nat} {r : Nat → Int} (hi : i < n) (hj : j < n) : pset (cub n f) [.int (i : Nat), .int (j : Nat)] (tab n fun k => .int (r k)) = some (cub n fun a b k => if a = i ∧ b = j then r k else f a b k) := by
  unfold cub
  rw [pset_nat2 hi hj]
  congr 1
  refine tab_congr fun a _ => tab_congr fun b _ => ?_
  by_cases q : a = i ∧ b = j
  · rw [if_pos q]
    exact tab_congr fun k _ => by dsimp only; rw [if_pos q]
  · rw [if_neg q]
    exact tab_congr fun k _ => by dsimp only; rw [if_neg q]
theorem cub_get1 {n : Nat} {f : Nat → Nat → Nat → Int} {i : Nat} (hi : i < n) : pget (cub n f) [.int (i : Nat)] = some (tab n fun j => tab n fun k => .int (f i j k)) := pget_nat1 hi
theorem ok_side {body : Ss} (Γ : List Ent) (iN : Nat) (hN : Γ[iN]? = some entNone) (hb : body = bSide iN) : ∀ ds Φ Ξ, ds.length = 2 → spSide ds Φ Ξ → svs Γ body (ktOf none Φ Ξ) (Q.envOf none 7 ds) := by
  subst hb
  rintro ds Φ Ξ - ⟨n, m, f, g, rfl, hnm, h⟩
  walk_at "w"
  refine len_tab ?_
  walk_at "w"
  refine len_tab ?_
  walk_at "w"
  refine ⟨_, hN, n + m, rfl, by omega, ?_⟩
  walk_at "w"
  refine ⟨_, tab_eq _ _, ?_⟩
  walk_at "w"
  refine for_enum (fun i ρ => ∃ c3 c4 c5 c6, ρ = [.va (cub n f), .va (cub m g), .ow 2 (cub (n + m) (sideP n f g i 0)), c3, c4, c5, c6]) ⟨.un, .un, .un, .un, ?_⟩ ?_ ?_
  · have e : cub (n + m) (fun _ _ _ => 0) = cub (n + m) (sideP n f g 0 0) := cub_congr fun i j k _ _ _ => by unfold sideP; rw [if_neg (by omega)]
    rw [← e] <;> rfl
  · rintro i ρ hi ⟨c3, c4, c5, c6, rfl⟩ W hW
    walk_at "w"
    refine ⟨_, tab_eq _ _, ?_⟩
    walk_at "w"
    refine for_enum (fun j ρ => ∃ c5 c6, ρ = [.va (cub n f), .va (cub m g), .ow 2 (cub (n + m) (sideP n f g i j)), .va (.int (i : Nat)), .va (tab n fun j => tab n fun k => .int (f i j k)), c5, c6]) ⟨c5, c6, rfl⟩ ?_ ?_
    · rintro j ρ hj ⟨c5, c6, rfl⟩ W' hW'
      walk_at "w"
      refine len_tab ?_
      walk_at "w"
      refine rep_tabN (n := m) rfl (by omega) ?_
      walk_at "w"
      refine cat_tab (by omega) ?_
      (refine (Exists.intro _ (And.intro rfl ?_)); walk_at "w")
      refine ⟨_, cub_get1 (by omega), ?_⟩
      walk_at "w"
      have e : (tab (n + m) fun k => if k < n then PyData.int (f i j k) else PyData.int 0) = tab (n + m) fun k => .int (if k < n then f i j k else 0) := tab_congr fun k _ => by by_cases q : k < n <;> simp [q]
      refine ⟨_, (congrArg _ e).trans (cub_set (by omega) (by omega)), ?_⟩
      refine hW' _ ⟨.va (.int (j : Nat)), .va (tab n fun k => .int (f i j k)), ?_⟩
      have e2 : cub (n + m) (fun a b k => if a = i ∧ b = j then (if k < n then f i j k else 0) else sideP n f g i j a b k) = cub (n + m) (sideP n f g i (j + 1)) := cub_congr fun a b k ha hb hk => by
        unfold sideP side
        grind
      rw [← e2] <;> rfl
    · rintro ρ ⟨c5, c6, rfl⟩
      refine hW _ ⟨.va (.int (i : Nat)), .va (tab n fun j => tab n fun k => .int (f i j k)), c5, c6, ?_⟩
      have e : cub (n + m) (sideP n f g i n) = cub (n + m) (sideP n f g (i + 1) 0) := cub_congr fun a b k ha hb hk => by
        unfold sideP side
        grind
      rw [e]
  · rintro ρ ⟨c3, c4, c5, c6, rfl⟩
    walk_at "w"
    refine ⟨_, tab_eq _ _, ?_⟩
    walk_at "w"
    refine for_enum (fun i ρ => ∃ c3 c4 c5 c6, ρ = [.va (cub n f), .va (cub m g), .ow 2 (cub (n + m) (sideP n f g (n + i) 0)), c3, c4, c5, c6]) ⟨c3, c4, c5, c6, rfl⟩ ?_ ?_
    · rintro i ρ hi ⟨c3, c4, c5, c6, rfl⟩ W hW
      walk_at "w"
      refine ⟨_, tab_eq _ _, ?_⟩
      walk_at "w"
      refine for_enum (fun j ρ => ∃ c5 c6, ρ = [.va (cub n f), .va (cub m g), .ow 2 (cub (n + m) (sideP n f g (n + i) (n + j))), .va (.int (i : Nat)), .va (tab m fun j => tab m fun k => .int (g i j k)), c5, c6]) ⟨c5, c6, ?_⟩ ?_ ?_
      · have e : cub (n + m) (sideP n f g (n + i) 0) = cub (n + m) (sideP n f g (n + i) (n + 0)) := cub_congr fun a b k ha hb hk => by
          unfold sideP side
          grind
        rw [← e] <;> rfl
      · rintro j ρ hj ⟨c5, c6, rfl⟩ W' hW'
        walk_at "w"
        refine len_tab ?_
        walk_at "w"
        refine rep_tabN (n := n) rfl (by omega) ?_
        walk_at "w"
        refine cat_tab (by omega) ?_
        (refine (Exists.intro _ (And.intro rfl ?_)); walk_at "w")
        refine lenC_tabV ?_
        walk_at "w"
        refine ⟨_, cub_get1 (i := n + i) (by omega), ?_⟩
        walk_at "w"
        refine lenC_tabV ?_
        walk_at "w"
        have e : (tab (n + m) fun k => if k < n then PyData.int 0 else PyData.int (g i j (k - n))) = tab (n + m) fun k => .int (if k < n then 0 else g i j (k - n)) := tab_congr fun k _ => by by_cases q : k < n <;> simp [q]
        refine ⟨_, (congrArg _ e).trans (cub_set (i := n + i) (j := n + j) (by omega) (by omega)), ?_⟩
        refine hW' _ ⟨.va (.int (j : Nat)), .va (tab m fun k => .int (g i j k)), ?_⟩
        have e2 : cub (n + m) (fun a b k => if a = n + i ∧ b = n + j then (if k < n then 0 else g i j (k - n)) else sideP n f g (n + i) (n + j) a b k) = cub (n + m) (sideP n f g (n + i) (n + (j + 1))) := cub_congr fun a b k ha hb hk => by
          unfold sideP side
          grind
        rw [← e2] <;> rfl
      · rintro ρ ⟨c5, c6, rfl⟩
        refine hW _ ⟨.va (.int (i : Nat)), .va (tab m fun j => tab m fun k => .int (g i j k)), c5, c6, ?_⟩
        have e : cub (n + m) (sideP n f g (n + i) (n + m)) = cub (n + m) (sideP n f g (n + (i + 1)) 0) := cub_congr fun a b k ha hb hk => by
          unfold sideP side
          grind
        rw [e]
    · rintro ρ ⟨c3, c4, c5, c6, rfl⟩
      walk_at "w"
      have e : cub (n + m) (sideP n f g (n + m) 0) = cub (n + m) (side n f g) := cub_congr fun a b k ha hb hk => by
        unfold sideP
        rw [if_pos (by omega)]
      rw [e]; exact h
end Q

local macro_rules | `(tactic| walk_at "w") => `(tactic| (conv => whnf))
namespace Q
open PySem L2
/-! ### a step to another base -/
def stpA (f : Nat → Nat → Nat → Int) (i j : Nat) (x : Int) (t a b k : Nat) : Int := if a = i ∧ b < t then f i b k + x * f j b k else f a b k
def stpB (f : Nat → Nat → Nat → Int) (i j : Nat) (x : Int) (t a b k : Nat) : Int := if b = i ∧ a < t then f a i k + x * f a j k else f a b k
def stpC (f : Nat → Nat → Nat → Int) (i j : Nat) (x : Int) (a b k : Nat) : Int := if k = j then f a b j - x * f a b i else f a b k
/-- in the base of the unit rows, but x times the row j put to the row i -/
def stp (n : Nat) (f : Nat → Nat → Nat → Int) (i j : Nat) (x : Int) : Nat → Nat → Nat → Int := stpC (stpB (stpA f i j x n) i j x n) i j x
def spStepped : FSp := fun ds Φ _ => ∃ (n : Nat) (f : Nat → Nat → Nat → Int) (i j : Nat) (x : Int), ds = [cub n f, .int (i : Nat), .int (j : Nat), .int x] ∧ (n ≤ 100 ∧ i < n ∧ j < n ∧ i ≠ j ∧ Bd 100 x ∧ ∀ a b k, Bd 200 (f a b k)) ∧ Φ (cub n (stp n f i j x)) .none
theorem stpA_bd {f : Nat → Nat → Nat → Int} {i j : Nat} {x : Int} {t m : Nat} (hx : Bd 100 x) (hf : ∀ a b k, Bd m (f a b k)) (a b k : Nat) : Bd (100 + m + 1) (stpA f i j x t a b k) := by
  unfold stpA
  split
  · exact ((hf _ _ _).up (by omega)).add (hx.mul (hf _ _ _))
  · exact (hf _ _ _).up (by omega)
theorem stpB_bd {f : Nat → Nat → Nat → Int} {i j : Nat} {x : Int} {t m : Nat} (hx : Bd 100 x) (hf : ∀ a b k, Bd m (f a b k)) (a b k : Nat) : Bd (100 + m + 1) (stpB f i j x t a b k) := by
  unfold stpB
  split
  · exact ((hf _ _ _).up (by omega)).add (hx.mul (hf _ _ _))
  · exact (hf _ _ _).up (by omega)
theorem ok_stepped {body : Ss} (Γ : List Ent) (hb : body = bStepped) : ∀ ds Φ Ξ, ds.length = 4 → spStepped ds Φ Ξ → svs Γ body (ktOf none Φ Ξ) (Q.envOf none 10 ds) := by
  subst hb
  rintro ds Φ Ξ - ⟨n, f, i, j, x, rfl, ⟨hn, hi, hj, hij, hx, hf⟩, h⟩
  walk_at "w"
  refine ⟨_, tab_eq _ _, ?_⟩
  (refine (And.intro rfl ?_); walk_at "w")
  refine comp_tab (fun a => tab n fun b => tab n fun k => .int (f a b k)) (fun a ha W hW => ?_) ?_
  · walk_at "w"
    refine ⟨_, tab_eq _ _, ?_⟩
    (refine (And.intro rfl ?_); walk_at "w")
    refine comp_tab (fun b => tab n fun k => .int (f a b k)) (fun b hb W hW => ?_) ?_
    · walk_at "w"
      refine lof_tab ?_
      exact hW
    · rw [← tab_eq]; exact hW
  · rw [← tab_eq]
    walk_at "w"
    refine len_tab ?_
    (refine (Exists.intro _ (And.intro rfl ?_)); walk_at "w")
    refine ⟨by omega, ?_⟩
    rw [Int.toNat_natCast]
    refine for_tab (fun t ρ => ∃ c5, ρ = [.va (cub n f), .va (.int (i : Nat)), .va (.int (j : Nat)), .va (.int x), .ow 3 (cub n (stpA f i j x t)), c5, .un, .un, .un, .un]) ⟨.un, ?_⟩ ?_ ?_
    · have e : cub n f = cub n (stpA f i j x 0) := cub_congr fun a b k _ _ _ => by unfold stpA; rw [if_neg (by omega)]
      rw [← e] <;> rfl
    · rintro t ρ ht ⟨c5, rfl⟩ W hW
      walk_at "w"
      refine ixD_nat hi ?_
      walk_at "w"
      refine ixD_nat ht ?_
      walk_at "w"
      refine ixD_nat hj ?_
      walk_at "w"
      refine ixD_nat ht ?_
      walk_at "w"
      refine ⟨_, _, tab_eq _ _, tab_eq _ _, ?_⟩
      (refine (And.intro rfl ?_); walk_at "w")
      refine comp_zip (fun k => .int (stpA f i j x t i t k + x * stpA f i j x t j t k)) (fun k hk V hV => ?_) ?_
      · walk_at "w"
        refine ⟨hx.mulok (stpA_bd hx hf _ _ _) (by decide), ?_⟩
        walk_at "w"
        exact hV
      · rw [← tab_eq]
        walk_at "w"
        refine ⟨leaf_tab fun _ _ => rfl, ?_⟩
        (refine (Exists.intro _ (And.intro rfl ?_)); walk_at "w")
        refine ⟨_, cub_get1 hi, ?_⟩
        walk_at "w"
        refine ⟨_, cub_set hi ht, ?_⟩
        refine hW _ ⟨.va (.int (t : Nat)), ?_⟩
        have e : cub n (fun a b k => if a = i ∧ b = t then stpA f i j x t i t k + x * stpA f i j x t j t k else stpA f i j x t a b k) = cub n (stpA f i j x (t + 1)) := cub_congr fun a b k ha hb hk => by
          unfold stpA
          grind
        rw [← e] <;> rfl
    · rintro ρ ⟨c5, rfl⟩
      have hg := stpA_bd (t := n) (i := i) (j := j) hx hf
      unfold stp at h
      generalize stpA f i j x n = g at *
      walk_at "w"
      refine len_tab ?_
      (refine (Exists.intro _ (And.intro rfl ?_)); walk_at "w")
      refine ⟨by omega, ?_⟩
      rw [Int.toNat_natCast]
      refine for_tab (fun t ρ => ∃ c5, ρ = [.va (cub n f), .va (.int (i : Nat)), .va (.int (j : Nat)), .va (.int x), .ow 3 (cub n (stpB g i j x t)), c5, .un, .un, .un, .un]) ⟨c5, ?_⟩ ?_ ?_
      · have e : cub n g = cub n (stpB g i j x 0) := cub_congr fun a b k _ _ _ => by unfold stpB; rw [if_neg (by omega)]
        rw [← e] <;> rfl
      · rintro t ρ ht ⟨c5, rfl⟩ W hW
        walk_at "w"
        refine ixD_nat ht ?_
        walk_at "w"
        refine ixD_nat hi ?_
        walk_at "w"
        refine ixD_nat ht ?_
        walk_at "w"
        refine ixD_nat hj ?_
        walk_at "w"
        refine ⟨_, _, tab_eq _ _, tab_eq _ _, ?_⟩
        (refine (And.intro rfl ?_); walk_at "w")
        refine comp_zip (fun k => .int (stpB g i j x t t i k + x * stpB g i j x t t j k)) (fun k hk V hV => ?_) ?_
        · walk_at "w"
          refine ⟨hx.mulok (stpB_bd hx hg _ _ _) (by decide), ?_⟩
          walk_at "w"
          exact hV
        · rw [← tab_eq]
          walk_at "w"
          refine ⟨leaf_tab fun _ _ => rfl, ?_⟩
          (refine (Exists.intro _ (And.intro rfl ?_)); walk_at "w")
          refine ⟨_, cub_get1 ht, ?_⟩
          walk_at "w"
          refine ⟨_, cub_set ht hi, ?_⟩
          refine hW _ ⟨.va (.int (t : Nat)), ?_⟩
          have e : cub n (fun a b k => if a = t ∧ b = i then stpB g i j x t t i k + x * stpB g i j x t t j k else stpB g i j x t a b k) = cub n (stpB g i j x (t + 1)) := cub_congr fun a b k ha hb hk => by
            unfold stpB
            grind
          rw [← e] <;> rfl
      · rintro ρ ⟨c5, rfl⟩
        have hg2 := stpB_bd (t := n) (i := i) (j := j) hx hg
        generalize stpB g i j x n = g2 at *
        have cell : ∀ a b, (tab n fun k => PyData.int (g2 a b k)) = tab n fun k => .int (g2 a b k) := fun _ _ => rfl
        walk_at "w"
        refine forb_tab (g := fun a => tab n fun b => tab n fun k => .int (g2 a b k)) (fun c d => [.va (cub n f), .va (.int (i : Nat)), .va (.int (j : Nat)), .va (.int x), c, c5, d, .un, .un, .un]) (fun a => tab n fun b => tab n fun k => .int (stpC g2 i j x a b k)) (fun _ _ _ => rfl) (fun _ _ _ => rfl) (fun _ _ => rfl) (fun _ _ => rfl) (fun a ha v pre post κ' hp hl hn => ?_) (fun c hc => ?_)
        · walk_at "w"
          refine forb_tab (g := fun b => tab n fun k => .int (g2 a b k)) (fun c d => [.va (cub n f), .va (.int (i : Nat)), .va (.int (j : Nat)), .va (.int x), .hol 2 v pre post, c5, c, d, .un, .un]) (fun b => tab n fun k => .int (stpC g2 i j x a b k)) (fun _ _ _ => rfl) (fun _ _ _ => rfl) (fun _ _ => rfl) (fun _ _ => rfl) (fun b hb v2 pre2 post2 κ2 hp2 hl2 hn2 => ?_) (fun c hc => ?_)
          · walk_at "w"
            refine ixD_nat hj ?_
            walk_at "w"
            refine ixD_nat hi ?_
            walk_at "w"
            refine ⟨hx.mulok (hg2 _ _ _) (by decide), ?_⟩
            (refine (And.intro rfl (Exists.intro _ (And.intro rfl ?_))); walk_at "w")
            refine ⟨_, pset_nat1 hj, ?_⟩
            have e : (tab n fun k => if k = j then PyData.int (g2 a b j - x * g2 a b i) else PyData.int (g2 a b k)) = tab n fun k => .int (stpC g2 i j x a b k) := tab_congr fun k hk => by
              unfold stpC
              by_cases q : k = j <;> simp [q]
            rw [← e] at hn2
            exact hn2
          · have hc : c = .un := hc.elim id id
            subst hc
            exact hn
        · have hc : c = .un := hc.elim id id
          subst hc
          walk_at "w"
          exact h
end Q

/-! ## Plain mathematics: finite sums, products that turn their sign -/
namespace Q
open Lean.Grind
variable {R : Type} [CommRing R]
def sm (n : Nat) (f : Nat → R) : R := match n with
  | 0 => 0
  | n + 1 => sm n f + f n
theorem sm_congr {n : Nat} {f g : Nat → R} (h : ∀ k, k < n → f k = g k) : sm n f = sm n g := by
  induction n with
  | zero => rfl
  | succ n ih => unfold sm; rw [ih fun k hk => h k (by omega), h n (by omega)]
theorem sm_zero (n : Nat) : sm n (fun _ => (0 : R)) = 0 := by
  induction n with
  | zero => rfl
  | succ n ih => unfold sm; rw [ih]; grind
theorem sm_0 {n : Nat} {f : Nat → R} (h : ∀ k, k < n → f k = 0) : sm n f = 0 := (sm_congr h).trans (sm_zero n)
theorem sm_add (n : Nat) (f g : Nat → R) : sm n (fun k => f k + g k) = sm n f + sm n g := by
  induction n with
  | zero => unfold sm; grind
  | succ n ih => unfold sm; rw [ih]; grind
theorem sm_sub (n : Nat) (f g : Nat → R) : sm n (fun k => f k - g k) = sm n f - sm n g := by
  induction n with
  | zero => unfold sm; grind
  | succ n ih => unfold sm; rw [ih]; grind
theorem sm_neg (n : Nat) (f : Nat → R) : sm n (fun k => - f k) = - sm n f := by
  induction n with
  | zero => unfold sm; grind
  | succ n ih => unfold sm; rw [ih]; grind
theorem sm_mul (n : Nat) (c : R) (f : Nat → R) : sm n (fun k => c * f k) = c * sm n f := by
  induction n with
  | zero => unfold sm; grind
  | succ n ih => unfold sm; rw [ih]; grind
theorem sm_mulR (n : Nat) (c : R) (f : Nat → R) : sm n (fun k => f k * c) = sm n f * c := by
  induction n with
  | zero => unfold sm; grind
  | succ n ih => unfold sm; rw [ih]; grind
theorem sm_swap (n m : Nat) (f : Nat → Nat → R) : sm n (fun i => sm m (fun j => f i j)) = sm m (fun j => sm n (fun i => f i j)) := by
  induction n with
  | zero => exact (sm_zero m).symm
  | succ n ih =>
    have : sm m (fun j => sm (n + 1) (fun i => f i j)) = sm m (fun j => sm n (fun i => f i j) + f n j) := sm_congr fun j _ => rfl
    rw [this, sm_add]
    show sm n _ + _ = _
    rw [ih]
theorem sm_one {n a : Nat} {f : Nat → R} (ha : a < n) (h : ∀ k, k < n → k ≠ a → f k = 0) : sm n f = f a := by
  induction n with
  | zero => omega
  | succ n ih =>
    unfold sm
    by_cases q : a = n
    · subst q
      rw [sm_0 fun k hk => h k (by omega) (by omega)]; grind
    · rw [ih (by omega) fun k hk hn => h k (by omega) hn, h n (by omega) (Ne.symm q)]; grind
theorem sm_split (n m : Nat) (f : Nat → R) : sm (n + m) f = sm n f + sm m (fun k => f (n + k)) := by
  induction m with
  | zero => show _ = _ + (0 : R); grind
  | succ m ih => show sm (n + m) f + f (n + m) = _ + (sm m _ + _); rw [ih]; grind
/-- products that turn their sign, and go by products -/
structure Lie (n : Nat) (c : Nat → Nat → Nat → R) : Prop where
  anti : ∀ i j k, i < n → j < n → k < n → c i j k = - c j i k
  hom : ∀ i j p q, i < n → j < n → p < n → q < n → sm n (fun m => c i j m * c m p q) = sm n (fun r => c j p r * c i r q) - sm n (fun r => c i p r * c j r q)
theorem Lie.congr {n : Nat} {c d : Nat → Nat → Nat → R} (L : Lie n c) (h : ∀ i j k, i < n → j < n → k < n → c i j k = d i j k) : Lie n d where
  anti := fun i j k hi hj hk => by rw [← h i j k hi hj hk, ← h j i k hj hi hk]; exact L.anti i j k hi hj hk
  hom := fun i j p q hi hj hp hq => by
    have := L.hom i j p q hi hj hp hq
    rw [sm_congr fun m hm => by rw [h i j m hi hj hm, h m p q hm hp hq], sm_congr (f := fun r => c j p r * c i r q) fun m hm => by rw [h j p m hj hp hm, h i m q hi hm hq], sm_congr (f := fun r => c i p r * c j r q) fun m hm => by rw [h i p m hi hp hm, h j m q hj hm hq]] at this
    exact this
theorem Lie.none (n : Nat) : Lie n (fun _ _ _ => (0 : R)) where
  anti := fun _ _ _ _ _ _ => by grind
  hom := fun _ _ _ _ _ _ _ _ => by
    have : sm n (fun _ => (0 : R) * 0) = 0 := sm_0 fun _ _ => by grind
    rw [this]; grind
/-! ### a step to another base -/
/-- a sum of products, each side changed, is as it was -/
theorem pair_inv {n i j : Nat} {x : R} {v g : Nat → R} (hi : i < n) (hj : j < n) (hij : i ≠ j) :
    sm n (fun m => (if m = j then v j - x * v i else v m) * (if m = i then g i + x * g j else g m)) = sm n (fun m => v m * g m) := by
  have e : sm n (fun m => (if m = j then v j - x * v i else v m) * (if m = i then g i + x * g j else g m)) = sm n (fun m => v m * g m + ((if m = i then v i * (x * g j) else 0) + (if m = j then - (x * v i * g j) else 0))) := sm_congr fun m _ => by
    by_cases q1 : m = j
    · subst q1
      rw [if_pos rfl, if_neg (Ne.symm hij), if_neg (Ne.symm hij), if_pos rfl]; grind
    · rw [if_neg q1, if_neg q1]
      by_cases q2 : m = i
      · subst q2; rw [if_pos rfl, if_pos rfl]; grind
      · rw [if_neg q2, if_neg q2]; grind
  rw [e, sm_add, sm_add, sm_one hi (fun k _ hk => if_neg hk), sm_one hj (fun k _ hk => if_neg hk), if_pos rfl, if_pos rfl]
  grind
/-- the first place's change of base -/
def up (i j : Nat) (x : R) (g : Nat → R) (a : Nat) : R := if a = i then g i + x * g j else g a
def dn (i j : Nat) (x : R) (v : Nat → R) (k : Nat) : R := if k = j then v j - x * v i else v k
theorem up_lin {n i j : Nat} {x : R} (f : Nat → Nat → R) (a : Nat) : sm n (fun m => up i j x (fun b => f b m) a) = up i j x (fun b => sm n (fun m => f b m)) a := by
  unfold up
  by_cases q : a = i
  · simp only [q, if_true]
    rw [sm_add, sm_mul]
  · simp only [q, if_false]
theorem dn_lin {n i j : Nat} {x : R} (f : Nat → Nat → R) (k : Nat) : sm n (fun m => dn i j x (fun b => f b m) k) = dn i j x (fun b => sm n (fun m => f b m)) k := by
  unfold dn
  by_cases q : k = j
  · simp only [q, if_true]
    rw [sm_sub, sm_mul]
  · simp only [q, if_false]
theorem up_congr {n i j a : Nat} {x : R} {f g : Nat → R} (hi : i < n) (hj : j < n) (ha : a < n) (h : ∀ a, a < n → f a = g a) : up i j x f a = up i j x g a := by
  unfold up
  rw [h i hi, h j hj, h a ha]
theorem dn_congr {n i j a : Nat} {x : R} {f g : Nat → R} (hi : i < n) (hj : j < n) (ha : a < n) (h : ∀ a, a < n → f a = g a) : dn i j x f a = dn i j x g a := by
  unfold dn
  rw [h i hi, h j hj, h a ha]
/-- the numbers of products, in the changed base -/
def chg (i j : Nat) (x : R) (c : Nat → Nat → Nat → R) (a b k : Nat) : R := up i j x (fun a => up i j x (fun b => dn i j x (fun k => c a b k) k) b) a
theorem chg_s {n i j : Nat} {x : R} (c d : Nat → Nat → Nat → R) (hi : i < n) (hj : j < n) (hij : i ≠ j) (a b p q : Nat) :
    sm n (fun m => chg i j x c a b m * chg i j x d m p q) = up i j x (fun a => up i j x (fun b => up i j x (fun p => dn i j x (fun q => sm n (fun m => c a b m * d m p q)) q) p) b) a := by
  have key : ∀ (v : Nat → R) (g : Nat → R), sm n (fun m => dn i j x v m * up i j x g m) = sm n (fun m => v m * g m) := fun v g => pair_inv hi hj hij
  -- both sides are sums of pairings, by cases of a, b, p, q
  unfold chg
  have lhs : ∀ m, up i j x (fun a => up i j x (fun b => dn i j x (fun k => c a b k) m) b) a = dn i j x (fun k => up i j x (fun a => up i j x (fun b => c a b k) b) a) m := fun m => by
    unfold up dn
    grind
  have rhs : ∀ m, up i j x (fun a => up i j x (fun b => dn i j x (fun k => d a b k) q) p) m = up i j x (fun m => up i j x (fun p => dn i j x (fun q => d m p q) q) p) m := fun m => rfl
  rw [sm_congr fun m _ => by rw [lhs m], key]
  have mul : ∀ m, up i j x (fun a => up i j x (fun b => c a b m) b) a * up i j x (fun p => dn i j x (fun q => d m p q) q) p = up i j x (fun a => up i j x (fun b => up i j x (fun p => dn i j x (fun q => c a b m * d m p q) q) p) b) a := fun m => by
    unfold up dn
    by_cases ha : a = i <;> by_cases hb : b = i <;> by_cases hp : p = i <;> by_cases hq : q = j <;> simp only [ha, hb, hp, hq, if_true, if_false] <;> grind
  rw [sm_congr fun m _ => mul m]
  rw [up_lin (fun a m => up i j x (fun b => up i j x (fun p => dn i j x (fun q => c a b m * d m p q) q) p) b) a]
  congr 1; funext a
  rw [up_lin (fun b m => up i j x (fun p => dn i j x (fun q => c a b m * d m p q) q) p) b]
  congr 1; funext b
  rw [up_lin (fun p m => dn i j x (fun q => c a b m * d m p q) q) p]
  congr 1; funext p
  rw [dn_lin (fun q m => c a b m * d m p q) q]
theorem Lie.chg {n i j : Nat} {x : R} {c : Nat → Nat → Nat → R} (L : Lie n c) (hi : i < n) (hj : j < n) (hij : i ≠ j) : Lie n (Q.chg i j x c) where
  anti := fun a b k ha hb hk => by
    have h := L.anti
    have h1 := h i i k hi hi hk
    have h2 := h i j k hi hj hk
    have h3 := h j i k hj hi hk
    have h4 := h j j k hj hj hk
    have h5 := h i b k hi hb hk
    have h6 := h j b k hj hb hk
    have h7 := h a i k ha hi hk
    have h8 := h a j k ha hj hk
    have h9 := h a b k ha hb hk
    have g1 := h i i i hi hi hi
    have g2 := h i j i hi hj hi
    have g3 := h j i i hj hi hi
    have g4 := h j j i hj hj hi
    have g5 := h i b i hi hb hi
    have g6 := h j b i hj hb hi
    have g7 := h a i i ha hi hi
    have g8 := h a j i ha hj hi
    have g9 := h a b i ha hb hi
    unfold Q.chg up dn
    by_cases ha : a = i <;> by_cases hb : b = i <;> by_cases hk : k = j <;> simp only [ha, hb, hk, if_true, if_false] at * <;> grind
  hom := fun a b p q ha hb hp hq => by
    have h := L.hom
    rw [chg_s c c hi hj hij]
    have e1 : sm n (fun r => Q.chg i j x c b p r * Q.chg i j x c a r q) = up i j x (fun a => up i j x (fun b => up i j x (fun p => dn i j x (fun q => sm n (fun r => c b p r * c a r q)) q) p) b) a := by
      have := chg_s (x := x) c (fun m a q => c a m q) hi hj hij b p a q
      have e2 : ∀ m, Q.chg i j x (fun m a q => c a m q) m a q = Q.chg i j x c a m q := fun m => by
        unfold Q.chg up dn
        by_cases ha : a = i <;> by_cases hm : m = i <;> by_cases hq : q = j <;> simp only [ha, hm, hq, if_true, if_false] <;> grind
      rw [sm_congr fun m _ => by rw [e2 m]] at this
      rw [this]
      unfold up dn
      by_cases ha : a = i <;> by_cases hb : b = i <;> by_cases hp : p = i <;> by_cases hq : q = j <;> simp only [ha, hb, hp, hq, if_true, if_false] <;> grind
    have e3 : sm n (fun r => Q.chg i j x c a p r * Q.chg i j x c b r q) = up i j x (fun a => up i j x (fun b => up i j x (fun p => dn i j x (fun q => sm n (fun r => c a p r * c b r q)) q) p) b) a := by
      have := chg_s (x := x) c (fun m b q => c b m q) hi hj hij a p b q
      have e2 : ∀ m, Q.chg i j x (fun m b q => c b m q) m b q = Q.chg i j x c b m q := fun m => by
        unfold Q.chg up dn
        by_cases hb : b = i <;> by_cases hm : m = i <;> by_cases hq : q = j <;> simp only [hb, hm, hq, if_true, if_false] <;> grind
      rw [sm_congr fun m _ => by rw [e2 m]] at this
      rw [this]
      unfold up dn
      by_cases ha : a = i <;> by_cases hb : b = i <;> by_cases hp : p = i <;> by_cases hq : q = j <;> simp only [ha, hb, hp, hq, if_true, if_false] <;> grind
    rw [e1, e3]
    have S : ∀ a b p q, a < n → b < n → p < n → q < n → sm n (fun m => c a b m * c m p q) = sm n (fun r => c b p r * c a r q) - sm n (fun r => c a p r * c b r q) := h
    have swap : up i j x (fun a => up i j x (fun b => up i j x (fun p => dn i j x (fun q => sm n (fun m => c a b m * c m p q)) q) p) b) a = up i j x (fun a => up i j x (fun b => up i j x (fun p => dn i j x (fun q => sm n (fun r => c b p r * c a r q) - sm n (fun r => c a p r * c b r q)) q) p) b) a := by
      refine up_congr hi hj ha fun a ha => up_congr hi hj hb fun b hb => up_congr hi hj hp fun p hp => dn_congr hi hj hq fun q hq => S a b p q ha hb hp hq
    rw [swap]
    unfold up dn
    by_cases ha : a = i <;> by_cases hb : b = i <;> by_cases hp : p = i <;> by_cases hq : q = j <;> simp only [ha, hb, hp, hq, if_true, if_false] <;> grind
end Q

/-! ## Each kind of algebra goes by products -/
namespace Q
open Lean.Grind
theorem stp_chg {n i j : Nat} {x : Int} {f : Nat → Nat → Nat → Int} (hi : i < n) (hj : j < n) (a b k : Nat) (ha : a < n) (hb : b < n) : stp n f i j x a b k = chg i j x f a b k := by
  unfold stp stpC stpB stpA chg up dn
  by_cases qa : a = i <;> by_cases qb : b = i <;> by_cases qk : k = j <;> simp only [qa, qb, qk, hi, hj, ha, hb, and_self, and_true, true_and, and_false, false_and, if_true, if_false] <;> grind
theorem Lie.stp {n i j : Nat} {x : Int} {f : Nat → Nat → Nat → Int} (L : Lie n f) (hi : i < n) (hj : j < n) (hij : i ≠ j) : Lie n (Q.stp n f i j x) :=
  (L.chg hi hj hij).congr fun a b k ha hb _ => (stp_chg hi hj a b k ha hb).symm
theorem lt3 {i : Nat} (h : i < 3) : i = 0 ∨ i = 1 ∨ i = 2 := by omega
theorem Lie.three (a b c : Int) : Lie 3 (Q.three a b c) where
  anti := fun i j k hi hj hk => by
    rcases lt3 hi with rfl | rfl | rfl <;> rcases lt3 hj with rfl | rfl | rfl <;> rcases lt3 hk with rfl | rfl | rfl <;> simp [Q.three, setF]
  hom := fun i j p q hi hj hp hq => by
    rcases lt3 hi with rfl | rfl | rfl <;> rcases lt3 hj with rfl | rfl | rfl <;> rcases lt3 hp with rfl | rfl | rfl <;> rcases lt3 hq with rfl | rfl | rfl <;> simp [sm, Q.three, setF] <;> grind
/-- one row that moves others -/
theorem Lie.byone (m : Nat) (A : Nat → Nat → Int) : Lie (1 + m) (byP m A) where
  anti := fun i j k hi hj hk => by unfold byP; grind
  hom := fun i j p q hi hj hp hq => by
    have z0 : ∀ b p, b ≠ 0 → p ≠ 0 → ∀ q, byP m A b p q = 0 := fun b p hb hp q => by unfold byP; rw [if_neg (by omega), if_neg (by omega)]
    have z1 : ∀ b p, byP m A b p 0 = 0 := fun b p => by unfold byP; rw [if_neg (by omega), if_neg (by omega)]
    have z2 : ∀ q, byP m A 0 0 q = 0 := fun q => by unfold byP; rw [if_neg (by omega), if_neg (by omega)]
    have an : ∀ b q, byP m A b 0 q = - byP m A 0 b q := fun b q => by unfold byP; grind
    by_cases qi : i = 0 <;> by_cases qj : j = 0
    · subst qi qj
      rw [sm_0 fun m _ => by rw [z2]; grind]
      grind
    · subst qi
      by_cases qp : p = 0
      · subst qp
        rw [sm_0 (f := fun r => byP m A 0 0 r * byP m A j r q) fun r _ => by rw [z2]; grind]
        have : sm (1 + m) (fun r => byP m A 0 j r * byP m A r 0 q) = sm (1 + m) (fun r => byP m A j 0 r * byP m A 0 r q) := sm_congr fun r _ => by rw [an r q, an j r]; grind
        rw [this]; grind
      · rw [sm_0 (f := fun r => byP m A 0 j r * byP m A r p q) fun r _ => by
            by_cases qr : r = 0
            · rw [qr, z1]; grind
            · rw [z0 r p qr qp]; grind,
          sm_0 (f := fun r => byP m A j p r * byP m A 0 r q) fun r _ => by rw [z0 j p qj qp]; grind,
          sm_0 (f := fun r => byP m A 0 p r * byP m A j r q) fun r _ => by
            by_cases qr : r = 0
            · rw [qr, z1]; grind
            · rw [z0 j r qj qr]; grind]
        grind
    · subst qj
      by_cases qp : p = 0
      · subst qp
        rw [sm_0 (f := fun r => byP m A 0 0 r * byP m A i r q) fun r _ => by rw [z2]; grind]
        have : sm (1 + m) (fun r => byP m A i 0 r * byP m A r 0 q) = sm (1 + m) (fun r => - (byP m A i 0 r * byP m A 0 r q)) := sm_congr fun r _ => by rw [an r q]; grind
        rw [this, sm_neg]; grind
      · rw [sm_0 (f := fun r => byP m A i 0 r * byP m A r p q) fun r _ => by
            by_cases qr : r = 0
            · rw [qr, z1]; grind
            · rw [z0 r p qr qp]; grind,
          sm_0 (f := fun r => byP m A 0 p r * byP m A i r q) fun r _ => by
            by_cases qr : r = 0
            · rw [qr, z1]; grind
            · rw [z0 i r qi qr]; grind,
          sm_0 (f := fun r => byP m A i p r * byP m A 0 r q) fun r _ => by rw [z0 i p qi qp]; grind]
        grind
    · rw [sm_0 (f := fun r => byP m A i j r * byP m A r p q) fun r _ => by rw [z0 i j qi qj]; grind]
      by_cases qp : p = 0
      · subst qp
        rw [sm_0 (f := fun r => byP m A j 0 r * byP m A i r q) fun r _ => by
            by_cases qr : r = 0
            · rw [qr, z1]; grind
            · rw [z0 i r qi qr]; grind,
          sm_0 (f := fun r => byP m A i 0 r * byP m A j r q) fun r _ => by
            by_cases qr : r = 0
            · rw [qr, z1]; grind
            · rw [z0 j r qj qr]; grind]
        grind
      · rw [sm_0 (f := fun r => byP m A j p r * byP m A i r q) fun r _ => by rw [z0 j p qj qp]; grind,
          sm_0 (f := fun r => byP m A i p r * byP m A j r q) fun r _ => by rw [z0 i p qi qp]; grind]
        grind
/-- two beside one another -/
theorem Lie.side {n m : Nat} {f g : Nat → Nat → Nat → Int} (L : Lie n f) (M : Lie m g) : Lie (n + m) (Q.side n f g) where
  anti := fun i j k hi hj hk => by
    unfold Q.side
    by_cases q1 : i < n <;> by_cases q2 : j < n <;> by_cases q3 : k < n
    · have := L.anti i j k q1 q2 q3; grind
    · grind
    · grind
    · grind
    · grind
    · grind
    · grind
    · have := M.anti (i - n) (j - n) (k - n) (by omega) (by omega) (by omega); grind
  hom := fun i j p q hi hj hp hq => by
    rw [sm_split, sm_split, sm_split]
    have lo : ∀ a b k, a < n → b < n → k < n → Q.side n f g a b k = f a b k := fun a b k h1 h2 h3 => by unfold Q.side; rw [if_pos h1, if_pos ⟨h2, h3⟩]
    have hi' : ∀ a b k, n ≤ a → n ≤ b → n ≤ k → Q.side n f g a b k = g (a - n) (b - n) (k - n) := fun a b k h1 h2 h3 => by unfold Q.side; rw [if_neg (by omega), if_pos ⟨h2, h3⟩]
    have z1 : ∀ a b k, a < n → ¬ (b < n ∧ k < n) → Q.side n f g a b k = 0 := fun a b k h1 h2 => by unfold Q.side; rw [if_pos h1, if_neg h2]
    have z2 : ∀ a b k, ¬ a < n → ¬ (n ≤ b ∧ n ≤ k) → Q.side n f g a b k = 0 := fun a b k h1 h2 => by unfold Q.side; rw [if_neg h1, if_neg h2]
    have zz : ∀ a b k, ((a < n ∧ ¬ (b < n ∧ k < n)) ∨ (¬ a < n ∧ ¬ (n ≤ b ∧ n ≤ k))) → Q.side n f g a b k = 0 := fun a b k h => h.elim (fun h => z1 a b k h.1 h.2) (fun h => z2 a b k h.1 h.2)
    by_cases q1 : i < n ∧ j < n ∧ p < n ∧ q < n
    · obtain ⟨h1, h2, h3, h4⟩ := q1
      rw [sm_0 (n := m) (f := fun k => Q.side n f g i j (n + k) * Q.side n f g (n + k) p q) fun k hk => by rw [zz i j _ (by omega)]; grind,
        sm_0 (n := m) (f := fun k => Q.side n f g j p (n + k) * Q.side n f g i (n + k) q) fun k hk => by rw [zz j p _ (by omega)]; grind,
        sm_0 (n := m) (f := fun k => Q.side n f g i p (n + k) * Q.side n f g j (n + k) q) fun k hk => by rw [zz i p _ (by omega)]; grind,
        sm_congr (n := n) (f := fun k => Q.side n f g i j k * Q.side n f g k p q) (g := fun k => f i j k * f k p q) fun k hk => by rw [lo i j k h1 h2 hk, lo k p q hk h3 h4],
        sm_congr (n := n) (f := fun k => Q.side n f g j p k * Q.side n f g i k q) (g := fun k => f j p k * f i k q) fun k hk => by rw [lo j p k h2 h3 hk, lo i k q h1 hk h4],
        sm_congr (n := n) (f := fun k => Q.side n f g i p k * Q.side n f g j k q) (g := fun k => f i p k * f j k q) fun k hk => by rw [lo i p k h1 h3 hk, lo j k q h2 hk h4], L.hom i j p q h1 h2 h3 h4]
      grind
    · by_cases q2 : n ≤ i ∧ n ≤ j ∧ n ≤ p ∧ n ≤ q
      · obtain ⟨h1, h2, h3, h4⟩ := q2
        have e : ∀ k, n + k - n = k := fun k => by omega
        rw [sm_0 (n := n) (f := fun k => Q.side n f g i j k * Q.side n f g k p q) fun k hk => by rw [zz i j _ (by omega)]; grind,
          sm_0 (n := n) (f := fun k => Q.side n f g j p k * Q.side n f g i k q) fun k hk => by rw [zz j p _ (by omega)]; grind,
          sm_0 (n := n) (f := fun k => Q.side n f g i p k * Q.side n f g j k q) fun k hk => by rw [zz i p _ (by omega)]; grind,
          sm_congr (n := m) (f := fun k => Q.side n f g i j (n + k) * Q.side n f g (n + k) p q) (g := fun k => g (i - n) (j - n) k * g k (p - n) (q - n)) fun k hk => by rw [hi' i j _ h1 h2 (by omega), hi' _ p q (by omega) h3 h4, e],
          sm_congr (n := m) (f := fun k => Q.side n f g j p (n + k) * Q.side n f g i (n + k) q) (g := fun k => g (j - n) (p - n) k * g (i - n) k (q - n)) fun k hk => by rw [hi' j p _ h2 h3 (by omega), hi' i _ q h1 (by omega) h4, e],
          sm_congr (n := m) (f := fun k => Q.side n f g i p (n + k) * Q.side n f g j (n + k) q) (g := fun k => g (i - n) (p - n) k * g (j - n) k (q - n)) fun k hk => by rw [hi' i p _ h1 h3 (by omega), hi' j _ q h2 (by omega) h4, e],
          M.hom (i - n) (j - n) (p - n) (q - n) (by omega) (by omega) (by omega) (by omega)]
        grind
      · have z : ∀ a b c d k, ¬ (a < n ∧ b < n ∧ c < n ∧ d < n) → ¬ (n ≤ a ∧ n ≤ b ∧ n ≤ c ∧ n ≤ d) → Q.side n f g a b k * Q.side n f g k c d = 0 := fun a b c d k h1 h2 => by
          by_cases y : (a < n ∧ ¬ (b < n ∧ k < n)) ∨ (¬ a < n ∧ ¬ (n ≤ b ∧ n ≤ k))
          · rw [zz a b k y]; grind
          · rw [zz k c d (by omega)]; grind
        have z' : ∀ a b c d k, ¬ (a < n ∧ b < n ∧ c < n ∧ d < n) → ¬ (n ≤ a ∧ n ≤ b ∧ n ≤ c ∧ n ≤ d) → Q.side n f g a b k * Q.side n f g c k d = 0 := fun a b c d k h1 h2 => by
          by_cases y : (a < n ∧ ¬ (b < n ∧ k < n)) ∨ (¬ a < n ∧ ¬ (n ≤ b ∧ n ≤ k))
          · rw [zz a b k y]; grind
          · rw [zz c k d (by omega)]; grind
        rw [sm_0 (n := n) fun k _ => z i j p q k q1 q2, sm_0 (n := m) fun k _ => z i j p q _ q1 q2, sm_0 (n := n) fun k _ => z' j p i q k (by omega) (by omega), sm_0 (n := m) fun k _ => z' j p i q _ (by omega) (by omega),
          sm_0 (n := n) fun k _ => z' i p j q k (by omega) (by omega), sm_0 (n := m) fun k _ => z' i p j q _ (by omega) (by omega)]
        grind
end Q

namespace Q
open Lean.Grind
/-! ### kinds that are looked at number by number -/
def allB (n : Nat) (p : Nat → Bool) : Bool := match n with
  | 0 => true
  | n + 1 => allB n p && p n
theorem allB_ok {n : Nat} {p : Nat → Bool} (h : allB n p = true) : ∀ k, k < n → p k = true := by
  induction n with
  | zero => intro k hk; omega
  | succ n ih =>
    intro k hk
    unfold allB at h
    simp only [Bool.and_eq_true] at h
    by_cases q : k = n
    · rw [q]; exact h.2
    · exact ih h.1 k (by omega)
def smI (n : Nat) (f : Nat → Int) : Int := match n with
  | 0 => 0
  | n + 1 => smI n f + f n
theorem smI_sm (n : Nat) (f : Nat → Int) : smI n f = sm n f := by
  induction n with
  | zero => rfl
  | succ n ih => unfold smI sm; rw [ih]
/-- numbers written out -/
def lieB (n : Nat) (c : Nat → Nat → Nat → Int) : Bool := allB n fun i => allB n fun j => allB n fun p => (c i j p == - c j i p) && allB n fun q => smI n (fun m => c i j m * c m p q) == smI n (fun r => c j p r * c i r q) - smI n (fun r => c i p r * c j r q)
theorem Lie.of {n : Nat} {c : Nat → Nat → Nat → Int} (h : lieB n c = true) : Lie n c where
  anti := fun i j k hi hj hk => by
    have := allB_ok (allB_ok (allB_ok h i hi) j hj) k hk
    simp only [Bool.and_eq_true, beq_iff_eq] at this
    exact this.1
  hom := fun i j p q hi hj hp hq => by
    have := allB_ok (allB_ok (allB_ok h i hi) j hj) p hp
    simp only [Bool.and_eq_true, beq_iff_eq] at this
    have := allB_ok this.2 q hq
    simp only [beq_iff_eq, smI_sm] at this
    exact this
/-- a cube written as lists, for looking at -/
def memo (n : Nat) (c : Nat → Nat → Nat → Int) : Nat → Nat → Nat → Int :=
  let l := (List.range n).map fun i => (List.range n).map fun j => (List.range n).map fun k => c i j k
  fun i j k => ((l.getD i []).getD j []).getD k 0
theorem memo_eq {n : Nat} {c : Nat → Nat → Nat → Int} {i j k : Nat} (hi : i < n) (hj : j < n) (hk : k < n) : memo n c i j k = c i j k := by
  unfold memo
  simp [List.getD_eq_getElem?_getD, hi, hj, hk]
theorem Lie.memo {n : Nat} {c : Nat → Nat → Nat → Int} (h : lieB n (Q.memo n c) = true) : Lie n c := (Lie.of h).congr fun i j k hi hj hk => memo_eq hi hj hk
theorem Lie.moving1 : ∀ x ∈ [1, 2, 3], ∀ m ∈ [0, 1], lieB (5 + m) (Q.moving x m) = true := by decide +kernel
theorem Lie.moving {x : Int} {m : Nat} (hx : 1 ≤ x ∧ x ≤ 3) (hm : m ≤ 1) : Lie (5 + m) (Q.moving x m) := by
  refine Lie.of (Lie.moving1 x ?_ m ?_)
  · have : x = 1 ∨ x = 2 ∨ x = 3 := by omega
    rcases this with rfl | rfl | rfl <;> simp
  · have : m = 0 ∨ m = 1 := by omega
    rcases this with rfl | rfl <;> simp
/-- a pair of places as one number, for looking at -/
def prW (P : List (Nat × Nat)) (i j k : Nat) : Int :=
  (if (prA P i).2 == (prA P j).1 && prA P k == ((prA P i).1, (prA P j).2) then 1 else 0) - (if (prA P j).2 == (prA P i).1 && prA P k == ((prA P j).1, (prA P i).2) then 1 else 0)
theorem prs_lie : ∀ P ∈ nine, lieB P.length (prW P) = true := by decide +kernel
theorem prs_same : ∀ P ∈ nine, (allB P.length fun i => allB P.length fun j => allB P.length fun k => prW P i j k == prV P i j k) = true := by decide +kernel
theorem Lie.pairs {P : List (Nat × Nat)} (h : P ∈ nine) : Lie P.length (prV P) :=
  (Lie.of (prs_lie P h)).congr fun i j k hi hj hk => by simpa using allB_ok (allB_ok (allB_ok (prs_same P h) i hi) j hj) k hk
end Q

namespace Q
open Lean.Grind
/-! ### three rows doubled; another scale -/
def du (a b : Int) (γ κ : Nat) : Int := if γ = 0 then (if κ = 0 then 1 else 0) else if γ = 1 then (if κ = 0 then 0 else 1) else (if κ = 0 then b else a)
theorem dbl_du {f : Nat → Nat → Nat → Int} {a b : Int} (i j k : Nat) (hk : k < 6) : dbl f a b i j k = du a b (i / 3 + j / 3) (k / 3) * f (i % 3) (j % 3) (k % 3) := by
  unfold dbl du
  by_cases h : k < 3
  · have e1 : k / 3 = 0 := by omega
    have e2 : k % 3 = k := by omega
    simp only [h, e1, e2, if_true]
    grind
  · have e1 : k / 3 = 1 := by omega
    have e2 : k % 3 = k - 3 := by omega
    simp only [h, e1, e2, if_false]
    grind
theorem sm_six (u v : Nat → Int) (F : Nat → Int) : sm 6 (fun k => u (k / 3) * v (k / 3) * F (k % 3)) = (u 0 * v 0 + u 1 * v 1) * sm 3 F := by
  simp only [sm]
  simp
  grind
theorem Lie.doubled {f : Nat → Nat → Nat → Int} (a b : Int) (L : Lie 3 f) : Lie 6 (dbl f a b) where
  anti := fun i j k hi hj hk => by
    rw [dbl_du i j k hk, dbl_du j i k hk, L.anti (i % 3) (j % 3) (k % 3) (by omega) (by omega) (by omega), Nat.add_comm]
    grind
  hom := fun i j p q hi hj hp hq => by
    have h := L.hom (i % 3) (j % 3) (p % 3) (q % 3) (by omega) (by omega) (by omega) (by omega)
    have e1 : sm 6 (fun m => dbl f a b i j m * dbl f a b m p q) = (du a b (i / 3 + j / 3) 0 * du a b (0 + p / 3) (q / 3) + du a b (i / 3 + j / 3) 1 * du a b (1 + p / 3) (q / 3)) * sm 3 (fun m => f (i % 3) (j % 3) m * f m (p % 3) (q % 3)) := by
      rw [← sm_six (fun κ => du a b (i / 3 + j / 3) κ) (fun κ => du a b (κ + p / 3) (q / 3)) (fun m => f (i % 3) (j % 3) m * f m (p % 3) (q % 3))]
      refine sm_congr fun m hm => ?_
      rw [dbl_du i j m hm, dbl_du m p q hq]
      grind
    have e2 : sm 6 (fun r => dbl f a b j p r * dbl f a b i r q) = (du a b (j / 3 + p / 3) 0 * du a b (i / 3 + 0) (q / 3) + du a b (j / 3 + p / 3) 1 * du a b (i / 3 + 1) (q / 3)) * sm 3 (fun r => f (j % 3) (p % 3) r * f (i % 3) r (q % 3)) := by
      rw [← sm_six (fun κ => du a b (j / 3 + p / 3) κ) (fun κ => du a b (i / 3 + κ) (q / 3)) (fun r => f (j % 3) (p % 3) r * f (i % 3) r (q % 3))]
      refine sm_congr fun m hm => ?_
      rw [dbl_du j p m hm, dbl_du i m q hq]
      grind
    have e3 : sm 6 (fun r => dbl f a b i p r * dbl f a b j r q) = (du a b (i / 3 + p / 3) 0 * du a b (j / 3 + 0) (q / 3) + du a b (i / 3 + p / 3) 1 * du a b (j / 3 + 1) (q / 3)) * sm 3 (fun r => f (i % 3) (p % 3) r * f (j % 3) r (q % 3)) := by
      rw [← sm_six (fun κ => du a b (i / 3 + p / 3) κ) (fun κ => du a b (j / 3 + κ) (q / 3)) (fun r => f (i % 3) (p % 3) r * f (j % 3) r (q % 3))]
      refine sm_congr fun m hm => ?_
      rw [dbl_du i p m hm, dbl_du j m q hq]
      grind
    rw [e1, e2, e3, h]
    have hi' : i / 3 = 0 ∨ i / 3 = 1 := by omega
    have hj' : j / 3 = 0 ∨ j / 3 = 1 := by omega
    have hp' : p / 3 = 0 ∨ p / 3 = 1 := by omega
    have hq' : q / 3 = 0 ∨ q / 3 = 1 := by omega
    generalize sm 3 (fun r => f (j % 3) (p % 3) r * f (i % 3) r (q % 3)) = S1
    generalize sm 3 (fun r => f (i % 3) (p % 3) r * f (j % 3) r (q % 3)) = S2
    rcases hi' with h1 | h1 <;> rcases hj' with h2 | h2 <;> rcases hp' with h3 | h3 <;> rcases hq' with h4 | h4 <;> simp only [h1, h2, h3, h4, du] <;> simp <;> grind
/-- whole numbers as rationals -/
def toQ (f : Nat → Nat → Nat → Int) : Nat → Nat → Nat → Rat := fun i j k => (f i j k : Rat)
theorem sm_cast (n : Nat) (f : Nat → Int) : ((sm n f : Int) : Rat) = sm n (fun k => (f k : Rat)) := by
  induction n with
  | zero => rfl
  | succ n ih => unfold sm; rw [Rat.intCast_add, ih]
theorem Lie.toQ {n : Nat} {f : Nat → Nat → Nat → Int} (L : Lie n f) : Lie n (Q.toQ f) where
  anti := fun i j k hi hj hk => by unfold Q.toQ; rw [L.anti i j k hi hj hk, Rat.intCast_neg]
  hom := fun i j p q hi hj hp hq => by
    have h := congrArg (fun z : Int => (z : Rat)) (L.hom i j p q hi hj hp hq)
    simp only [Rat.intCast_sub, sm_cast, Rat.intCast_mul] at h
    exact h
/-- one unit row so many times -/
def rsc (at_ : Nat) (s : Rat) (i : Nat) : Rat := if i = at_ then s else 1
def resc (c : Nat → Nat → Nat → Rat) (at_ : Nat) (s : Rat) (i j k : Nat) : Rat := c i j k * (rsc at_ s i * rsc at_ s j) / rsc at_ s k
theorem Lie.resc {n : Nat} {c : Nat → Nat → Nat → Rat} {at_ : Nat} {s : Rat} (L : Lie n c) (hs : s ≠ 0) : Lie n (Q.resc c at_ s) := by
  have ne : ∀ i, rsc at_ s i ≠ 0 := fun i => by unfold rsc; split; exact hs; decide
  refine ⟨fun i j k hi hj hk => ?_, fun i j p q hi hj hp hq => ?_⟩
  · unfold Q.resc
    rw [L.anti i j k hi hj hk]
    have := ne k
    grind
  · have h := L.hom i j p q hi hj hp hq
    have e1 : sm n (fun m => Q.resc c at_ s i j m * Q.resc c at_ s m p q) = (rsc at_ s i * rsc at_ s j * rsc at_ s p / rsc at_ s q) * sm n (fun m => c i j m * c m p q) := by
      rw [← sm_mul]
      refine sm_congr fun m _ => ?_
      unfold Q.resc
      have := ne m
      have := ne q
      grind
    have e2 : sm n (fun r => Q.resc c at_ s j p r * Q.resc c at_ s i r q) = (rsc at_ s i * rsc at_ s j * rsc at_ s p / rsc at_ s q) * sm n (fun r => c j p r * c i r q) := by
      rw [← sm_mul]
      refine sm_congr fun m _ => ?_
      unfold Q.resc
      have := ne m
      have := ne q
      grind
    have e3 : sm n (fun r => Q.resc c at_ s i p r * Q.resc c at_ s j r q) = (rsc at_ s i * rsc at_ s j * rsc at_ s p / rsc at_ s q) * sm n (fun r => c i p r * c j r q) := by
      rw [← sm_mul]
      refine sm_congr fun m _ => ?_
      unfold Q.resc
      have := ne m
      have := ne q
      grind
    rw [e1, e2, e3, h]
    grind
/-! ### the trace form -/
/-- of two unit rows -/
def trF (n : Nat) (c : Nat → Nat → Nat → Rat) (a b : Nat) : Rat := sm n fun k => sm n fun j => c a k j * c b j k
theorem trF_sym (n : Nat) (c : Nat → Nat → Nat → Rat) (a b : Nat) : trF n c a b = trF n c b a := by
  unfold trF
  rw [sm_swap]
  exact sm_congr fun k _ => sm_congr fun j _ => by grind
/-- of the product of two and a third it gives what it gives of the first and the product of the others -/
theorem trF_inv {n : Nat} {c : Nat → Nat → Nat → Rat} (L : Lie n c) {i j k : Nat} (hi : i < n) (hj : j < n) (hk : k < n) : sm n (fun m => c i j m * trF n c m k) = sm n (fun m => c j k m * trF n c i m) := by
  -- three triple sums
  have A : ∀ i j k, i < n → j < n → k < n → sm n (fun m => c i j m * trF n c m k) = sm n (fun p => sm n (fun q => sm n (fun r => c j p r * c i r q * c k q p))) - sm n (fun p => sm n (fun q => sm n (fun r => c i p r * c j r q * c k q p))) := fun i j k hi hj hk => by
    unfold trF
    have e1 : sm n (fun m => c i j m * sm n fun p => sm n fun q => c m p q * c k q p) = sm n (fun p => sm n fun q => sm n (fun m => c i j m * c m p q) * c k q p) := by
      rw [sm_congr fun m _ => (sm_mul n (c i j m) _).symm, sm_swap]
      refine sm_congr fun p _ => ?_
      rw [sm_congr fun m _ => (sm_mul n (c i j m) _).symm, sm_swap]
      refine sm_congr fun q _ => ?_
      rw [← sm_mulR]
      exact sm_congr fun m _ => by grind
    rw [e1, ← sm_sub]
    refine sm_congr fun p hp => ?_
    rw [← sm_sub]
    refine sm_congr fun q hq => ?_
    rw [L.hom i j p q hi hj hp hq, sm_mulR, sm_mulR]
    grind
  have cyc : ∀ a b d, sm n (fun p => sm n (fun q => sm n (fun r => c a p r * c b r q * c d q p))) = sm n (fun p => sm n (fun q => sm n (fun r => c b p r * c d r q * c a q p))) := fun a b d => by
    have e1 : sm n (fun p => sm n (fun q => sm n (fun r => c a p r * c b r q * c d q p))) = sm n (fun r => sm n (fun p => sm n (fun q => c a p r * c b r q * c d q p))) := by
      rw [sm_congr fun p _ => sm_swap n n _, sm_swap]
    rw [e1]
    refine sm_congr fun p _ => sm_congr fun q _ => sm_congr fun r _ => by grind
  have B : sm n (fun m => c j k m * trF n c i m) = sm n (fun m => c j k m * trF n c m i) := sm_congr fun m _ => by rw [trF_sym n c i m]
  rw [B, A i j k hi hj hk, A j k i hj hk hi]
  have c1 := cyc j i k
  have c2 := cyc i j k
  have c3 := cyc k j i
  have c4 := cyc j k i
  have c5 := cyc i k j
  have c6 := cyc k i j
  grind
end Q

local macro_rules | `(tactic| walk_at "w") => `(tactic| (conv => whnf))
namespace Q
open PySem L2
/-! ### fractions in lowest terms -/
def entGcd : Ent := ⟨⟨"_law_common", none, 2, 0⟩, spGcd⟩
def spLowest : FSp := fun ds Φ _ => ∃ a b : Int, ds = [.int a, .int b] ∧ (b ≠ 0 ∧ Bd 8999 b) ∧ Φ (frQ ((a : Rat) / (b : Rat))) .none
theorem ok_lowest {body : Ss} (Γ : List Ent) (iC : Nat) (hC : ∃ s, Γ[iC]? = some ⟨s, spGcd⟩) (hb : body = bLowest iC) : ∀ ds Φ Ξ, ds.length = 2 → spLowest ds Φ Ξ → svs Γ body (ktOf none Φ Ξ) (Q.envOf none 3 ds) := by
  subst hb
  rintro ds Φ Ξ - ⟨a, b, rfl, ⟨hb, hk⟩, h⟩
  obtain ⟨sg, hC⟩ := hC
  have hs := (sgn_bd hb hk : Bd 8999 (sgn a b)).divok (i := a) (Nat.le_refl _)
  have hs2 := (sgn_bd hb hk : Bd 8999 (sgn a b)).divok (i := b) (Nat.le_refl _)
  have hn := sgn_ne (a := a) hb
  rw [← frQ_shr hb] at h
  walk_at "w"
  refine ⟨_, hC, a, b, rfl, ?_⟩
  (refine (Exists.intro _ (And.intro rfl ?_)); walk_at "w")
  refine sel_mk (fun q => ?_) (fun q => ?_)
  · have q : b < 0 := by simpa using q
    have e : sgn a b = 0 - (Int.gcd a b : Int) := by unfold sgn; rw [if_pos q]; omega
    rw [e] at hs hs2 hn
    walk_at "w"
    refine ⟨hn, hs, ?_⟩
    walk_at "w"
    refine ⟨hn, hs2, ?_⟩
    walk_at "w"
    unfold frD shr at h
    rw [e] at h
    exact h
  · have q : ¬ b < 0 := by simpa using q
    have e : sgn a b = (Int.gcd a b : Int) := if_neg q
    rw [e] at hs hs2 hn
    walk_at "w"
    refine ⟨hn, hs, ?_⟩
    walk_at "w"
    refine ⟨hn, hs2, ?_⟩
    walk_at "w"
    unfold frD shr at h
    rw [e] at h
    exact h
def spPlus : FSp := fun ds Φ _ => ∃ x y : Rat, ds = [frQ x, frQ y] ∧ (Bq 4000 x ∧ Bq 4000 y) ∧ Φ (frQ (x + y)) .none
def spTimes : FSp := fun ds Φ _ => ∃ x y : Rat, ds = [frQ x, frQ y] ∧ (Bq 4000 x ∧ Bq 4000 y) ∧ Φ (frQ (x * y)) .none
theorem ok_plus2 {body : Ss} (Γ : List Ent) (iL : Nat) (hL : ∃ s, Γ[iL]? = some ⟨s, spLowest⟩) (hb : body = bPlus2 iL) : ∀ ds Φ Ξ, ds.length = 2 → spPlus ds Φ Ξ → svs Γ body (ktOf none Φ Ξ) (Q.envOf none 2 ds) := by
  subst hb
  rintro ds Φ Ξ - ⟨x, y, rfl, ⟨hx, hy⟩, h⟩
  obtain ⟨sg, hL⟩ := hL
  (refine (ixD_t rfl (ixD_t rfl ?_)); walk_at "w")
  refine ⟨hx.num.mulok hy.den (by decide), ?_⟩
  (refine (ixD_t rfl (ixD_t rfl ?_)); walk_at "w")
  refine ⟨hy.num.mulok hx.den (by decide), ?_⟩
  (refine (ixD_t rfl (ixD_t rfl ?_)); walk_at "w")
  refine ⟨hx.den.mulok hy.den (by decide), ?_⟩
  walk_at "w"
  refine ⟨_, hL, _, _, rfl, ⟨Int.mul_ne_zero (den_ne x) (den_ne y), (hx.den.mul hy.den).up (by decide)⟩, ?_⟩
  rw [add_num]
  exact h
theorem ok_times2 {body : Ss} (Γ : List Ent) (iL : Nat) (hL : ∃ s, Γ[iL]? = some ⟨s, spLowest⟩) (hb : body = bTimes2 iL) : ∀ ds Φ Ξ, ds.length = 2 → spTimes ds Φ Ξ → svs Γ body (ktOf none Φ Ξ) (Q.envOf none 2 ds) := by
  subst hb
  rintro ds Φ Ξ - ⟨x, y, rfl, ⟨hx, hy⟩, h⟩
  obtain ⟨sg, hL⟩ := hL
  (refine (ixD_t rfl (ixD_t rfl ?_)); walk_at "w")
  refine ⟨hx.num.mulok hy.num (by decide), ?_⟩
  (refine (ixD_t rfl (ixD_t rfl ?_)); walk_at "w")
  refine ⟨hx.den.mulok hy.den (by decide), ?_⟩
  walk_at "w"
  refine ⟨_, hL, _, _, rfl, ⟨Int.mul_ne_zero (den_ne x) (den_ne y), (hx.den.mul hy.den).up (by decide)⟩, ?_⟩
  rw [mul_num]
  exact h
/-! ### one unit row by a fraction -/
def cubQ (n : Nat) (c : Nat → Nat → Nat → Rat) : D := tab n fun i => tab n fun j => tab n fun k => frQ (c i j k)
theorem cubQ_congr {n : Nat} {f g : Nat → Nat → Nat → Rat} (h : ∀ i j k, i < n → j < n → k < n → f i j k = g i j k) : cubQ n f = cubQ n g :=
  tab_congr fun i hi => tab_congr fun j hj => tab_congr fun k hk => by rw [h i j k hi hj hk]
theorem pickI {b : Bool} {t : Int} {k : D → Prop} (q : k (.int (if b = true then t else 1))) : ixD (.list [.int 1, .int t]) (.int (if b = true then 1 else 0)) k := by
  cases b with
  | true => exact ixD_l rfl q
  | false => exact ixD_l rfl q
theorem bit_bd {b : Bool} {t : Int} (h : Bd 10 t) : Bd 10 (if b = true then t else 1) := by
  split
  · exact h
  · exact by unfold Bd; decide
theorem bit_ne {b : Bool} {t : Int} (h : t ≠ 0) : (if b = true then t else 1) ≠ 0 := by
  split
  · exact h
  · decide
def spRescaled : FSp := fun ds Φ _ => ∃ (n at_ : Nat) (f : Nat → Nat → Nat → Int) (t b : Int), ds = [cub n f, .int (at_ : Nat), .int t, .int b] ∧ (n ≤ 100 ∧ (∀ i j k, Bd 3000 (f i j k)) ∧ Bd 10 t ∧ Bd 10 b ∧ t ≠ 0 ∧ b ≠ 0) ∧ Φ (cubQ n (resc (toQ f) at_ ((t : Rat) / (b : Rat)))) .none
theorem resc_val {f : Nat → Nat → Nat → Int} {at_ i j k : Nat} {t b : Int} (ht : t ≠ 0) (hb : b ≠ 0) :
    ((f i j k * ((if PyData.eqv (.int (i : Nat)) (.int (at_ : Nat)) = true then t else 1) * (if PyData.eqv (.int (j : Nat)) (.int (at_ : Nat)) = true then t else 1) * (if PyData.eqv (.int (k : Nat)) (.int (at_ : Nat)) = true then b else 1)) : Int) : Rat) /
      (((if PyData.eqv (.int (i : Nat)) (.int (at_ : Nat)) = true then b else 1) * (if PyData.eqv (.int (j : Nat)) (.int (at_ : Nat)) = true then b else 1) * (if PyData.eqv (.int (k : Nat)) (.int (at_ : Nat)) = true then t else 1) : Int) : Rat) = resc (toQ f) at_ ((t : Rat) / (b : Rat)) i j k := by
  have ht' : (t : Rat) ≠ 0 := by simpa using ht
  have hb' : (b : Rat) ≠ 0 := by simpa using hb
  have e : ∀ i : Nat, (PyData.eqv (.int (i : Nat)) (.int (at_ : Nat)) = true) = (i = at_) := fun i => by
    rw [eqv_int]
    simp only [decide_eq_true_eq]
    exact propext ⟨fun h => by omega, fun h => by omega⟩
  simp only [e]
  unfold resc rsc toQ
  rw [Rat.intCast_mul]
  generalize (f i j k : Rat) = x
  by_cases h1 : i = at_ <;> by_cases h2 : j = at_ <;> by_cases h3 : k = at_ <;> simp only [h1, h2, h3, if_true, if_false, Rat.intCast_mul, Rat.intCast_one] <;> grind
theorem cubQ_set {n : Nat} {c : Nat → Nat → Nat → D} {i j k : Nat} {x : D} (hi : i < n) (hj : j < n) (hk : k < n) : pset (tab n fun i => tab n fun j => tab n fun k => c i j k) [.int (i : Nat), .int (j : Nat), .int (k : Nat)] x = some (tab n fun a => tab n fun b => tab n fun d => if a = i ∧ b = j ∧ d = k then x else c a b d) := pset_nat3 hi hj hk
/-- so far -/
def rsP (c : Nat → Nat → Nat → Rat) (i j k a b d : Nat) : D := if a < i ∨ (a = i ∧ (b < j ∨ (b = j ∧ d < k))) then frQ (c a b d) else .int 0
theorem ok_rescaled {body : Ss} (Γ : List Ent) (iN iL : Nat) (hN : Γ[iN]? = some entNone) (hL : ∃ s, Γ[iL]? = some ⟨s, spLowest⟩) (hb : body = bRescaled iN iL) : ∀ ds Φ Ξ, ds.length = 4 → spRescaled ds Φ Ξ → svs Γ body (ktOf none Φ Ξ) (Q.envOf none 13 ds) := by
  subst hb
  rintro ds Φ Ξ - ⟨n, at_, f, t, b, rfl, ⟨hn, hf, ht, hb, ht0, hb0⟩, h⟩
  obtain ⟨sg, hL⟩ := hL
  generalize hc : resc (toQ f) at_ ((t : Rat) / (b : Rat)) = c at h
  walk_at "w"
  refine len_tab ?_
  walk_at "w"
  refine ⟨_, hN, n, rfl, by omega, ?_⟩
  walk_at "w"
  refine ⟨_, tab_eq _ _, ?_⟩
  walk_at "w"
  refine for_enum (fun i ρ => ∃ c5 c6 c7 c8 c9 c10 c11 c12, ρ = [.va (cub n f), .va (.int (at_ : Nat)), .va (.int t), .va (.int b), .ow 3 (tab n fun x => tab n fun y => tab n fun z => rsP c i 0 0 x y z), c5, c6, c7, c8, c9, c10, c11, c12]) ⟨.un, .un, .un, .un, .un, .un, .un, .un, ?_⟩ ?_ ?_
  · have e : cub n (fun _ _ _ => 0) = tab n fun x => tab n fun y => tab n fun z => rsP c 0 0 0 x y z := tab_congr fun x _ => tab_congr fun y _ => tab_congr fun z _ => by unfold rsP; rw [if_neg (by omega)]
    rw [← e] <;> rfl
  · rintro i ρ hi ⟨c5, c6, c7, c8, c9, c10, c11, c12, rfl⟩ W hW
    walk_at "w"
    refine ⟨_, tab_eq _ _, ?_⟩
    walk_at "w"
    refine for_enum (fun j ρ => ∃ c7 c8 c9 c10 c11 c12, ρ = [.va (cub n f), .va (.int (at_ : Nat)), .va (.int t), .va (.int b), .ow 3 (tab n fun x => tab n fun y => tab n fun z => rsP c i j 0 x y z), .va (.int (i : Nat)), .va (tab n fun j => tab n fun k => .int (f i j k)), c7, c8, c9, c10, c11, c12]) ⟨c7, c8, c9, c10, c11, c12, rfl⟩ ?_ ?_
    · rintro j ρ hj ⟨c7, c8, c9, c10, c11, c12, rfl⟩ W' hW'
      walk_at "w"
      refine ⟨_, tab_eq _ _, ?_⟩
      walk_at "w"
      refine for_enum (fun k ρ => ∃ c9 c10 c11 c12, ρ = [.va (cub n f), .va (.int (at_ : Nat)), .va (.int t), .va (.int b), .ow 3 (tab n fun x => tab n fun y => tab n fun z => rsP c i j k x y z), .va (.int (i : Nat)), .va (tab n fun j => tab n fun k => .int (f i j k)), .va (.int (j : Nat)), .va (tab n fun k => .int (f i j k)), c9, c10, c11, c12]) ⟨c9, c10, c11, c12, rfl⟩ ?_ ?_
      · rintro k ρ hk ⟨c9, c10, c11, c12, rfl⟩ W2 hW2
        (refine (And.intro rfl (And.intro rfl ?_)); walk_at "w")
        refine pickI ?_
        (refine (And.intro rfl (And.intro rfl ?_)); walk_at "w")
        refine pickI ?_
        walk_at "w"
        refine ⟨(bit_bd ht).mulok (bit_bd ht) (by decide), ?_⟩
        (refine (And.intro rfl (And.intro rfl ?_)); walk_at "w")
        refine pickI ?_
        walk_at "w"
        refine ⟨((bit_bd ht).mul (bit_bd ht)).mulok (bit_bd hb) (by decide), ?_⟩
        (refine (And.intro rfl (And.intro rfl ?_)); walk_at "w")
        refine pickI ?_
        (refine (And.intro rfl (And.intro rfl ?_)); walk_at "w")
        refine pickI ?_
        walk_at "w"
        refine ⟨(bit_bd hb).mulok (bit_bd hb) (by decide), ?_⟩
        (refine (And.intro rfl (And.intro rfl ?_)); walk_at "w")
        refine pickI ?_
        walk_at "w"
        refine ⟨((bit_bd hb).mul (bit_bd hb)).mulok (bit_bd ht) (by decide), ?_⟩
        walk_at "w"
        refine ⟨(hf i j k).mulok (((bit_bd ht).mul (bit_bd ht)).mul (bit_bd hb)) (by decide), ?_⟩
        walk_at "w"
        refine ⟨_, hL, _, _, rfl, ⟨Int.mul_ne_zero (Int.mul_ne_zero (bit_ne hb0) (bit_ne hb0)) (bit_ne ht0), (((bit_bd hb).mul (bit_bd hb)).mul (bit_bd ht)).up (by decide)⟩, ?_⟩
        rw [resc_val ht0 hb0, hc]
        (refine (Exists.intro _ (And.intro rfl ?_)); walk_at "w")
        refine ⟨_, pget_nat1 hi, ?_⟩
        walk_at "w"
        refine ⟨_, pget_nat1 hj, ?_⟩
        walk_at "w"
        refine ⟨_, cubQ_set hi hj hk, ?_⟩
        have e : (tab n fun x => tab n fun y => tab n fun z => if x = i ∧ y = j ∧ z = k then frQ (c i j k) else rsP c i j k x y z) = tab n fun x => tab n fun y => tab n fun z => rsP c i j (k + 1) x y z := tab_congr fun x _ => tab_congr fun y _ => tab_congr fun z _ => by
          unfold rsP
          by_cases q : x = i ∧ y = j ∧ z = k
          · rw [if_pos q, if_pos (by omega)]
            obtain ⟨rfl, rfl, rfl⟩ := q
            rfl
          · rw [if_neg q]
            congr 1
            exact propext (by omega)
        rw [← e] at hW2
        exact hW2 _ ⟨_, _, _, _, rfl⟩
      · rintro ρ ⟨c9, c10, c11, c12, rfl⟩
        have e : (tab n fun x => tab n fun y => tab n fun z => rsP c i j n x y z) = tab n fun x => tab n fun y => tab n fun z => rsP c i (j + 1) 0 x y z := tab_congr fun x _ => tab_congr fun y _ => tab_congr fun z hz => by
          unfold rsP
          congr 1
          exact propext (by omega)
        rw [← e] at hW'
        exact hW' _ ⟨_, _, _, _, _, _, rfl⟩
    · rintro ρ ⟨c7, c8, c9, c10, c11, c12, rfl⟩
      have e : (tab n fun x => tab n fun y => tab n fun z => rsP c i n 0 x y z) = tab n fun x => tab n fun y => tab n fun z => rsP c (i + 1) 0 0 x y z := tab_congr fun x _ => tab_congr fun y hy => tab_congr fun z hz => by
        unfold rsP
        congr 1
        exact propext (by omega)
      rw [← e] at hW
      exact hW _ ⟨_, _, _, _, _, _, _, _, rfl⟩
  · rintro ρ ⟨c5, c6, c7, c8, c9, c10, c11, c12, rfl⟩
    walk_at "w"
    have e : (tab n fun x => tab n fun y => tab n fun z => rsP c n 0 0 x y z) = cubQ n c := tab_congr fun x hx => tab_congr fun y hy => tab_congr fun z hz => by
      unfold rsP
      rw [if_pos (by omega)]
    rw [e]; exact h
end Q

local macro_rules | `(tactic| walk_at "w") => `(tactic| (conv => whnf))
namespace Q
open PySem L2
/-! ### an algebra by whole numbers -/
structure EntsI (Γ : List Ent) (iT iN i3 iBy iP iD iM iSd : Nat) : Prop where
  t : Γ[iT]? = some entTake
  n : Γ[iN]? = some entNone
  th : ∃ s, Γ[i3]? = some ⟨s, spThree⟩
  by1 : ∃ nm, Γ[iBy]? = some ⟨⟨nm, some 1, 2, 0⟩, spByOne⟩
  p : ∃ s, Γ[iP]? = some ⟨s, spPairs⟩
  d : ∃ s, Γ[iD]? = some ⟨s, spDoubled⟩
  m : ∃ s, Γ[iM]? = some ⟨s, spMoving⟩
  sd : ∃ s, Γ[iSd]? = some ⟨s, spSide⟩
def spIntegers : FSp := fun ds Φ _ => ∃ (b : D) (most : Nat), ds = [b, .int (most : Nat)] ∧ (Bag b ∧ 3 ≤ most ∧ most ≤ 6) ∧ ∀ (n : Nat) (f : Nat → Nat → Nat → Int) b', n ≤ most → Lie n f → (∀ i j k, Bd 100 (f i j k)) → Bag b' → Φ (cub n f) b'
def Sml (i : Int) : Prop := -3 ≤ i ∧ i ≤ 3
theorem Sml.bd {i : Int} (h : Sml i) {n : Nat} (hn : 2 ≤ n) : Bd n i := by
  have : Bd 2 i := by unfold Bd; unfold Sml at h; omega
  exact this.up hn
theorem pick6 {z : Int} (h0 : 0 ≤ z) (h : z < 6) : ∃ v : Int, atI [PyData.int 1, .int (-1), .int 2, .int (-2), .int 3, .int 1] z = some (.int v) ∧ Sml v := by
  have : z = 0 ∨ z = 1 ∨ z = 2 ∨ z = 3 ∨ z = 4 ∨ z = 5 := by omega
  rcases this with rfl | rfl | rfl | rfl | rfl | rfl <;> exact ⟨_, rfl, by unfold Sml; decide⟩
theorem pick8 {z : Int} (h0 : 0 ≤ z) (h : z < 8) : ∃ v : Int, atI [PyData.int 0, .int 1, .int (-1), .int 2, .int 0, .int 1, .int (-2), .int 3] z = some (.int v) ∧ Sml v := by
  have : z = 0 ∨ z = 1 ∨ z = 2 ∨ z = 3 ∨ z = 4 ∨ z = 5 ∨ z = 6 ∨ z = 7 := by omega
  rcases this with rfl | rfl | rfl | rfl | rfl | rfl | rfl | rfl <;> exact ⟨_, rfl, by unfold Sml; decide⟩
theorem bd0 (n : Nat) : Bd n 0 := by unfold Bd; simp; exact Nat.two_pow_pos n
theorem setF_bd {f : Nat → Nat → Nat → Int} {i j m : Nat} {r : Nat → Int} (hf : ∀ a b k, Bd m (f a b k)) (hr : ∀ k, Bd m (r k)) (a b k : Nat) : Bd m (setF f i j r a b k) := by
  unfold setF
  split
  · have := (hr k).neg
    rwa [show (0 : Int) - r k = - r k by omega]
  · split
    · exact hr k
    · exact hf a b k
theorem getD3_bd {a b c : Int} {m : Nat} (ha : Bd m a) (hb : Bd m b) (hc : Bd m c) (k : Nat) : Bd m ([a, b, c].getD k 0) := by
  match k with
  | 0 => exact ha
  | 1 => exact hb
  | 2 => exact hc
  | k + 3 => exact bd0 m
theorem three_bd {a b c : Int} {m : Nat} (ha : Bd m a) (hb : Bd m b) (hc : Bd m c) (i j k : Nat) : Bd m (three a b c i j k) := by
  unfold three
  exact setF_bd (setF_bd (setF_bd (fun _ _ _ => bd0 m) (getD3_bd (bd0 m) (bd0 m) hc)) (getD3_bd ha (bd0 m) (bd0 m))) (getD3_bd (bd0 m) hb (bd0 m)) i j k
theorem uni_bd {k : Nat} {x : Int} {m : Nat} (h : Bd m x) (a : Nat) : Bd m (uni k x a) := by
  unfold uni
  split
  · exact h
  · exact bd0 m
theorem moving_bd {x : Int} {n m : Nat} (hx : Bd m x) (hm : 2 ≤ m) (i j k : Nat) : Bd m (moving x n i j k) := by
  have q : ∀ v : Int, Sml v → ∀ k a, Bd m (uni k v a) := fun v hv k a => uni_bd (hv.bd hm) a
  have p : ∀ i j k, Bd m (movingP i j k) := by
    unfold movingP
    exact setF_bd (setF_bd (setF_bd (setF_bd (setF_bd (setF_bd (setF_bd (fun _ _ _ => bd0 m) (q 2 (by unfold Sml; decide) _)) (q (-2) (by unfold Sml; decide) _)) (q 1 (by unfold Sml; decide) _)) (q 1 (by unfold Sml; decide) _)) (q (-1) (by unfold Sml; decide) _)) (q 1 (by unfold Sml; decide) _)) (q 1 (by unfold Sml; decide) _)
  unfold moving
  split
  · exact setF_bd p (uni_bd hx) i j k
  · exact p i j k
theorem byP_bd {m : Nat} {A : Nat → Nat → Int} (hA : ∀ i j, -1 ≤ A i j ∧ A i j ≤ 2) {n : Nat} (hn : 2 ≤ n) (i j k : Nat) : Bd n (byP m A i j k) := by
  have : Sml (byP m A i j k) := by
    unfold byP Sml
    split
    · have := hA (j - 1) (k - 1); omega
    · split
      · have := hA (i - 1) (k - 1); omega
      · omega
  exact this.bd hn
theorem prV_bd (P : List (Nat × Nat)) {n : Nat} (hn : 2 ≤ n) (i j k : Nat) : Bd n (prV P i j k) := by
  have : Sml (prV P i j k) := by
    unfold prV Sml
    split <;> split <;> omega
  exact this.bd hn
theorem dbl_bd {f : Nat → Nat → Nat → Int} {a b : Int} {m l : Nat} (hf : ∀ i j k, Bd m (f i j k)) (ha : Bd l a) (hb : Bd l b) (i j k : Nat) : Bd (l + m) (dbl f a b i j k) := by
  unfold dbl
  split
  · split
    · exact (hf _ _ _).up (by omega)
    · exact bd0 _
  · split
    · split
      · exact bd0 _
      · exact (hf _ _ _).up (by omega)
    · split
      · exact hb.mul (hf _ _ _)
      · exact ha.mul (hf _ _ _)
theorem side_bd {n m : Nat} {f g : Nat → Nat → Nat → Int} (hf : ∀ i j k, Bd m (f i j k)) (hg : ∀ i j k, Bd m (g i j k)) (i j k : Nat) : Bd m (side n f g i j k) := by
  unfold side
  split
  · split
    · exact hf _ _ _
    · exact bd0 _
  · split
    · exact hg _ _ _
    · exact bd0 _
theorem cat_lit {ds es : List D} {k : D → Prop} (h : ds.length + es.length ≤ 16777216) (q : k (.list (ds ++ es))) : catD (.list ds) (.list es) k := catD_i ⟨h, q⟩
theorem isOw_bag {b : D} (h : Bag b) : isOw (.ow 1 b) := by
  obtain ⟨c, m, rfl, _⟩ := h
  exact True.intro
theorem ok_integers {body : Ss} (Γ : List Ent) (iT iN i3 iBy iP iD iM iSd : Nat) (E : EntsI Γ iT iN i3 iBy iP iD iM iSd) (hb : body = bIntegers iT iN i3 iBy iP iD iM iSd) : ∀ ds Φ Ξ, ds.length = 2 → spIntegers ds Φ Ξ → svs Γ body (ktOf (some 1) Φ Ξ) (Q.envOf (some 1) 11 ds) := by
  subst hb
  obtain ⟨hT, hN, ⟨s3, h3⟩, ⟨sBy, hBy⟩, ⟨sP, hP⟩, ⟨sD, hD⟩, ⟨sM, hM⟩, ⟨sSd, hSd⟩⟩ := E
  rintro ds Φ Ξ - ⟨b, most, rfl, ⟨hB, hm3, hm6⟩, h⟩
  walk_at "w"
  refine ⟨isOw_bag hB, ?_⟩
  walk_at "w"
  refine ⟨_, _, _, hT, rfl, rfl, _, 12, rfl, ⟨hB, by decide, by decide⟩, fun kind b1 k0 k1 hB1 => ?_⟩
  (refine (Exists.intro _ (And.intro rfl (And.intro (by decide) (And.intro rfl ?_)))); walk_at "w")
  have r3 : List.map (fun i => PyData.int ((i : Nat) : Int)) (List.range (3 : Int).toNat) = (List.range 3).map fun i => .int (i : Nat) := rfl
  rw [r3]
  refine comp_tabI (fun i acc ρ => ∃ b vs, ρ = [.ow 1 b, .va (.int (most : Nat)), .va (.int kind), .un, .un, .un, .un, .un, .un, .un, .un] ∧ acc = vs.map PyData.int ∧ vs.length = i ∧ Bag b ∧ ∀ v ∈ vs, Sml v) ⟨b1, [], rfl, rfl, rfl, hB1, fun _ h => nomatch h⟩ (fun i acc ρ' hi hI W hW => ?_) (fun acc ρ' hI => ?_)
  · obtain ⟨b, vs, rfl, rfl, hl, hB, hv⟩ := hI
    (refine (Exists.intro _ (And.intro rfl (Exists.intro _ (And.intro rfl ?_)))); walk_at "w")
    refine ⟨isOw_bag hB, ?_⟩
    walk_at "w"
    refine ⟨_, _, _, hT, rfl, rfl, _, 6, rfl, ⟨hB, by decide, by decide⟩, fun z b' z0 z1 hB' => ?_⟩
    walk_at "w"
    obtain ⟨v, e1, e2⟩ := pick6 z0 z1
    refine ixD_l e1 ?_
    refine hW _ _ ⟨b', vs ++ [v], rfl, by simp, by simp [hl], hB', fun w hw => ?_⟩
    rcases List.mem_append.mp hw with hw | hw
    · exact hv w hw
    · obtain rfl : w = v := by simpa using hw
      exact e2
  obtain ⟨b2, vs, rfl, rfl, hl, hB2, hv⟩ := hI
  obtain ⟨va, vb, vc, rfl⟩ : ∃ a b c, vs = [a, b, c] := by
    match vs, hl with
    | [a, b, c], _ => exact ⟨a, b, c, rfl⟩
  have sa := hv va (by simp)
  have sb := hv vb (by simp)
  have sc := hv vc (by simp)
  (refine (Exists.intro _ (And.intro rfl (And.intro (by decide) (And.intro rfl ?_)))); walk_at "w")
  rw [r3]
  refine comp_tabI (fun i acc ρ => ∃ b vs, ρ = [.ow 1 b, .va (.int (most : Nat)), .va (.int kind), .va (.int va), .va (.int vb), .va (.int vc), .un, .un, .un, .un, .un] ∧ acc = vs.map PyData.int ∧ vs.length = i ∧ Bag b ∧ ∀ v ∈ vs, Sml v) ⟨b2, [], rfl, rfl, rfl, hB2, fun _ h => nomatch h⟩ (fun i acc ρ' hi hI W hW => ?_) (fun acc ρ' hI => ?_)
  · obtain ⟨b, vs, rfl, rfl, hl, hB, hv⟩ := hI
    (refine (Exists.intro _ (And.intro rfl (Exists.intro _ (And.intro rfl ?_)))); walk_at "w")
    refine ⟨isOw_bag hB, ?_⟩
    walk_at "w"
    refine ⟨_, _, _, hT, rfl, rfl, _, 8, rfl, ⟨hB, by decide, by decide⟩, fun z b' z0 z1 hB' => ?_⟩
    walk_at "w"
    obtain ⟨v, e1, e2⟩ := pick8 z0 z1
    refine ixD_l e1 ?_
    refine hW _ _ ⟨b', vs ++ [v], rfl, by simp, by simp [hl], hB', fun w hw => ?_⟩
    rcases List.mem_append.mp hw with hw | hw
    · exact hv w hw
    · obtain rfl : w = v := by simpa using hw
      exact e2
  obtain ⟨b3, vs, rfl, rfl, hl, hB3, hv⟩ := hI
  obtain ⟨vx, vy, vz, rfl⟩ : ∃ a b c, vs = [a, b, c] := by
    match vs, hl with
    | [a, b, c], _ => exact ⟨a, b, c, rfl⟩
  have sx := hv vx (by simp)
  have sy := hv vy (by simp)
  have sz := hv vz (by simp)
  clear hv hB2 hB1 hB
  have hk : kind = 0 ∨ kind = 1 ∨ kind = 2 ∨ kind = 3 ∨ kind = 4 ∨ kind = 5 ∨ kind = 6 ∨ kind = 7 ∨ kind = 8 ∨ kind = 9 ∨ kind = 10 ∨ kind = 11 := by omega
  clear k0 k1 hl r3
  have hm : most = 3 ∨ most = 4 ∨ most = 5 ∨ most = 6 := by omega
  have T1 : ∀ (n : Nat) b', 3 ≤ n → n ≤ 6 → n = most → Bag b' → Φ (cub 3 (three va vb vc)) b' := fun n b' h1 h2 e hB => h 3 _ b' (by omega) (Lie.three _ _ _) (three_bd (sa.bd (by decide)) (sb.bd (by decide)) (sc.bd (by decide))) hB
  have T2 : ∀ (n : Nat) b', 3 ≤ n → n ≤ 6 → n = most → Bag b' → Φ (cub 3 (three vx vy vz)) b' := fun n b' h1 h2 e hB => h 3 _ b' (by omega) (Lie.three _ _ _) (three_bd (sx.bd (by decide)) (sy.bd (by decide)) (sz.bd (by decide))) hB
  clear hm3 hm6
  rcases hk with rfl | rfl | rfl | rfl | rfl | rfl | rfl | rfl | rfl | rfl | rfl | rfl <;> rcases hm with rfl | rfl | rfl | rfl
  · (refine (And.intro rfl (And.intro rfl (Exists.intro _ (And.intro rfl (sel_tt rfl (Exists.intro _ (And.intro rfl (sel_ff rfl (And.intro rfl (And.intro rfl (Exists.intro _ (And.intro rfl (sel_ff rfl (Exists.intro _ (And.intro rfl (sel_ff rfl (And.intro rfl (And.intro rfl (Exists.intro _ (And.intro rfl (sel_ff rfl (Exists.intro _ (And.intro rfl (sel_ff rfl (And.intro rfl (And.intro rfl (Exists.intro _ (And.intro rfl (sel_ff rfl (Exists.intro _ (And.intro rfl (sel_ff rfl (And.intro rfl (And.intro rfl (Exists.intro _ (And.intro rfl (sel_ff rfl (Exists.intro _ (And.intro rfl (sel_ff rfl ?_)))))))))))))))))))))))))))))))))))))))); walk_at "w")
    refine ⟨[5, 6], rfl, ?_⟩
    (refine (Exists.intro _ (And.intro rfl (sel_ff rfl (And.intro rfl (And.intro rfl (Exists.intro _ (And.intro rfl (sel_ff rfl (And.intro rfl (And.intro rfl (Exists.intro _ (And.intro rfl (sel_ff rfl ?_))))))))))))); walk_at "w")
    refine ⟨_, h3, va, vb, vc, rfl, ?_⟩
    walk_at "w"
    refine ⟨_, h3, vx, vy, vz, rfl, ?_⟩
    (refine (And.intro rfl (And.intro rfl (ixD_l rfl (Exists.intro _ (And.intro rfl ?_))))); walk_at "w")
    exact T1 3 _ (by decide) (by decide) rfl hB3
  · (refine (And.intro rfl (And.intro rfl (Exists.intro _ (And.intro rfl (sel_tt rfl (Exists.intro _ (And.intro rfl (sel_ff rfl (And.intro rfl (And.intro rfl (Exists.intro _ (And.intro rfl (sel_ff rfl (Exists.intro _ (And.intro rfl (sel_ff rfl (And.intro rfl (And.intro rfl (Exists.intro _ (And.intro rfl (sel_ff rfl (Exists.intro _ (And.intro rfl (sel_ff rfl (And.intro rfl (And.intro rfl (Exists.intro _ (And.intro rfl (sel_ff rfl (Exists.intro _ (And.intro rfl (sel_ff rfl (And.intro rfl (And.intro rfl (Exists.intro _ (And.intro rfl (sel_ff rfl (Exists.intro _ (And.intro rfl (sel_ff rfl ?_)))))))))))))))))))))))))))))))))))))))); walk_at "w")
    refine ⟨[5, 6], rfl, ?_⟩
    (refine (Exists.intro _ (And.intro rfl (sel_ff rfl (And.intro rfl (And.intro rfl (Exists.intro _ (And.intro rfl (sel_ff rfl (And.intro rfl (And.intro rfl (Exists.intro _ (And.intro rfl (sel_ff rfl ?_))))))))))))); walk_at "w")
    refine ⟨_, h3, va, vb, vc, rfl, ?_⟩
    walk_at "w"
    refine ⟨_, h3, vx, vy, vz, rfl, ?_⟩
    (refine (And.intro rfl (And.intro rfl (ixD_l rfl (Exists.intro _ (And.intro rfl ?_))))); walk_at "w")
    exact T1 4 _ (by decide) (by decide) rfl hB3
  · (refine (And.intro rfl (And.intro rfl (Exists.intro _ (And.intro rfl (sel_tt rfl (Exists.intro _ (And.intro rfl (sel_ff rfl (And.intro rfl (And.intro rfl (Exists.intro _ (And.intro rfl (sel_ff rfl (Exists.intro _ (And.intro rfl (sel_ff rfl (And.intro rfl (And.intro rfl (Exists.intro _ (And.intro rfl (sel_ff rfl (Exists.intro _ (And.intro rfl (sel_ff rfl (And.intro rfl (And.intro rfl (Exists.intro _ (And.intro rfl (sel_ff rfl (Exists.intro _ (And.intro rfl (sel_ff rfl (And.intro rfl (And.intro rfl (Exists.intro _ (And.intro rfl (sel_ff rfl (Exists.intro _ (And.intro rfl (sel_ff rfl ?_)))))))))))))))))))))))))))))))))))))))); walk_at "w")
    refine ⟨[5, 6], rfl, ?_⟩
    (refine (Exists.intro _ (And.intro rfl (sel_ff rfl (And.intro rfl (And.intro rfl (Exists.intro _ (And.intro rfl (sel_ff rfl (And.intro rfl (And.intro rfl (Exists.intro _ (And.intro rfl (sel_ff rfl ?_))))))))))))); walk_at "w")
    refine ⟨_, h3, va, vb, vc, rfl, ?_⟩
    walk_at "w"
    refine ⟨_, h3, vx, vy, vz, rfl, ?_⟩
    (refine (And.intro rfl (And.intro rfl (ixD_l rfl (Exists.intro _ (And.intro rfl ?_))))); walk_at "w")
    exact T1 5 _ (by decide) (by decide) rfl hB3
  · (refine (And.intro rfl (And.intro rfl (Exists.intro _ (And.intro rfl (sel_tt rfl (Exists.intro _ (And.intro rfl (sel_tt rfl ?_)))))))); walk_at "w")
    refine ⟨_, h3, va, vb, vc, rfl, ?_⟩
    walk_at "w"
    refine ⟨isOw_bag hB3, ?_⟩
    walk_at "w"
    refine ⟨_, _, _, hT, rfl, rfl, _, 5, rfl, ⟨hB3, by decide, by decide⟩, fun z b4 z0 z1 hB4 => ?_⟩
    walk_at "w"
    refine ⟨isOw_bag hB4, ?_⟩
    walk_at "w"
    refine ⟨_, _, _, hT, rfl, rfl, _, 7, rfl, ⟨hB4, by decide, by decide⟩, fun y b5 y0 y1 hB5 => ?_⟩
    walk_at "w"
    refine ⟨_, hD, three va vb vc, _, _, rfl, ⟨three_bd (sa.bd (by decide)) (sb.bd (by decide)) (sc.bd (by decide)), (show Bd 4 (z - 2) by unfold Bd; omega).up (by decide), (show Bd 4 (y - 2) by unfold Bd; omega).up (by decide)⟩, ?_⟩
    (refine (Exists.intro _ (And.intro rfl ?_)); walk_at "w")
    exact h 6 _ _ (by decide) (Lie.doubled _ _ (Lie.three _ _ _)) (fun i j k => (dbl_bd (m := 2) (l := 4) (three_bd (sa.bd (by decide)) (sb.bd (by decide)) (sc.bd (by decide))) (show Bd 4 (z - 2) by unfold Bd; omega) (show Bd 4 (y - 2) by unfold Bd; omega) i j k).up (by decide)) hB5
  · (refine (And.intro rfl (And.intro rfl (Exists.intro _ (And.intro rfl (sel_ff rfl (Exists.intro _ (And.intro rfl (sel_ff rfl (And.intro rfl (And.intro rfl (Exists.intro _ (And.intro rfl (sel_tt rfl (Exists.intro _ (And.intro rfl (sel_ff rfl (And.intro rfl (And.intro rfl (Exists.intro _ (And.intro rfl (sel_ff rfl (Exists.intro _ (And.intro rfl (sel_ff rfl (And.intro rfl (And.intro rfl (Exists.intro _ (And.intro rfl (sel_ff rfl (Exists.intro _ (And.intro rfl (sel_ff rfl (And.intro rfl (And.intro rfl (Exists.intro _ (And.intro rfl (sel_ff rfl (Exists.intro _ (And.intro rfl (sel_ff rfl ?_)))))))))))))))))))))))))))))))))))))))); walk_at "w")
    refine ⟨[5, 6], rfl, ?_⟩
    (refine (Exists.intro _ (And.intro rfl (sel_ff rfl (And.intro rfl (And.intro rfl (Exists.intro _ (And.intro rfl (sel_ff rfl (And.intro rfl (And.intro rfl (Exists.intro _ (And.intro rfl (sel_ff rfl ?_))))))))))))); walk_at "w")
    refine ⟨_, h3, va, vb, vc, rfl, ?_⟩
    walk_at "w"
    refine ⟨_, h3, vx, vy, vz, rfl, ?_⟩
    (refine (And.intro rfl (And.intro rfl (ixD_l rfl (Exists.intro _ (And.intro rfl ?_))))); walk_at "w")
    exact T1 3 _ (by decide) (by decide) rfl hB3
  · (refine (And.intro rfl (And.intro rfl (Exists.intro _ (And.intro rfl (sel_ff rfl (Exists.intro _ (And.intro rfl (sel_ff rfl (And.intro rfl (And.intro rfl (Exists.intro _ (And.intro rfl (sel_tt rfl (Exists.intro _ (And.intro rfl (sel_ff rfl (And.intro rfl (And.intro rfl (Exists.intro _ (And.intro rfl (sel_ff rfl (Exists.intro _ (And.intro rfl (sel_ff rfl (And.intro rfl (And.intro rfl (Exists.intro _ (And.intro rfl (sel_ff rfl (Exists.intro _ (And.intro rfl (sel_ff rfl (And.intro rfl (And.intro rfl (Exists.intro _ (And.intro rfl (sel_ff rfl (Exists.intro _ (And.intro rfl (sel_ff rfl ?_)))))))))))))))))))))))))))))))))))))))); walk_at "w")
    refine ⟨[5, 6], rfl, ?_⟩
    (refine (Exists.intro _ (And.intro rfl (sel_ff rfl (And.intro rfl (And.intro rfl (Exists.intro _ (And.intro rfl (sel_ff rfl (And.intro rfl (And.intro rfl (Exists.intro _ (And.intro rfl (sel_ff rfl ?_))))))))))))); walk_at "w")
    refine ⟨_, h3, va, vb, vc, rfl, ?_⟩
    walk_at "w"
    refine ⟨_, h3, vx, vy, vz, rfl, ?_⟩
    (refine (And.intro rfl (And.intro rfl (ixD_l rfl (Exists.intro _ (And.intro rfl ?_))))); walk_at "w")
    exact T1 4 _ (by decide) (by decide) rfl hB3
  · (refine (And.intro rfl (And.intro rfl (Exists.intro _ (And.intro rfl (sel_ff rfl (Exists.intro _ (And.intro rfl (sel_ff rfl (And.intro rfl (And.intro rfl (Exists.intro _ (And.intro rfl (sel_tt rfl (Exists.intro _ (And.intro rfl (sel_ff rfl (And.intro rfl (And.intro rfl (Exists.intro _ (And.intro rfl (sel_ff rfl (Exists.intro _ (And.intro rfl (sel_ff rfl (And.intro rfl (And.intro rfl (Exists.intro _ (And.intro rfl (sel_ff rfl (Exists.intro _ (And.intro rfl (sel_ff rfl (And.intro rfl (And.intro rfl (Exists.intro _ (And.intro rfl (sel_ff rfl (Exists.intro _ (And.intro rfl (sel_ff rfl ?_)))))))))))))))))))))))))))))))))))))))); walk_at "w")
    refine ⟨[5, 6], rfl, ?_⟩
    (refine (Exists.intro _ (And.intro rfl (sel_ff rfl (And.intro rfl (And.intro rfl (Exists.intro _ (And.intro rfl (sel_ff rfl (And.intro rfl (And.intro rfl (Exists.intro _ (And.intro rfl (sel_ff rfl ?_))))))))))))); walk_at "w")
    refine ⟨_, h3, va, vb, vc, rfl, ?_⟩
    walk_at "w"
    refine ⟨_, h3, vx, vy, vz, rfl, ?_⟩
    (refine (And.intro rfl (And.intro rfl (ixD_l rfl (Exists.intro _ (And.intro rfl ?_))))); walk_at "w")
    exact T1 5 _ (by decide) (by decide) rfl hB3
  · (refine (And.intro rfl (And.intro rfl (Exists.intro _ (And.intro rfl (sel_ff rfl (Exists.intro _ (And.intro rfl (sel_ff rfl (And.intro rfl (And.intro rfl (Exists.intro _ (And.intro rfl (sel_tt rfl (Exists.intro _ (And.intro rfl (sel_tt rfl ?_)))))))))))))))); walk_at "w")
    refine ⟨_, h3, va, vb, vc, rfl, ?_⟩
    walk_at "w"
    refine ⟨_, h3, vx, vy, vz, rfl, ?_⟩
    walk_at "w"
    refine ⟨_, hSd, 3, 3, _, _, rfl, by decide, ?_⟩
    (refine (Exists.intro _ (And.intro rfl ?_)); walk_at "w")
    exact h 6 _ _ (by decide) ((Lie.three _ _ _).side (Lie.three _ _ _)) (side_bd (three_bd (sa.bd (by decide)) (sb.bd (by decide)) (sc.bd (by decide))) (three_bd (sx.bd (by decide)) (sy.bd (by decide)) (sz.bd (by decide)))) hB3
  · (refine (And.intro rfl (And.intro rfl (Exists.intro _ (And.intro rfl (sel_ff rfl (Exists.intro _ (And.intro rfl (sel_ff rfl (And.intro rfl (And.intro rfl (Exists.intro _ (And.intro rfl (sel_ff rfl (Exists.intro _ (And.intro rfl (sel_ff rfl (And.intro rfl (And.intro rfl (Exists.intro _ (And.intro rfl (sel_tt rfl (Exists.intro _ (And.intro rfl (sel_ff rfl (And.intro rfl (And.intro rfl (Exists.intro _ (And.intro rfl (sel_ff rfl (Exists.intro _ (And.intro rfl (sel_ff rfl (And.intro rfl (And.intro rfl (Exists.intro _ (And.intro rfl (sel_ff rfl (Exists.intro _ (And.intro rfl (sel_ff rfl ?_)))))))))))))))))))))))))))))))))))))))); walk_at "w")
    refine ⟨[5, 6], rfl, ?_⟩
    (refine (Exists.intro _ (And.intro rfl (sel_ff rfl (And.intro rfl (And.intro rfl (Exists.intro _ (And.intro rfl (sel_ff rfl (And.intro rfl (And.intro rfl (Exists.intro _ (And.intro rfl (sel_ff rfl ?_))))))))))))); walk_at "w")
    refine ⟨_, h3, va, vb, vc, rfl, ?_⟩
    walk_at "w"
    refine ⟨_, h3, vx, vy, vz, rfl, ?_⟩
    (refine (And.intro rfl (And.intro rfl (ixD_l rfl (Exists.intro _ (And.intro rfl ?_))))); walk_at "w")
    exact T1 3 _ (by decide) (by decide) rfl hB3
  · (refine (And.intro rfl (And.intro rfl (Exists.intro _ (And.intro rfl (sel_ff rfl (Exists.intro _ (And.intro rfl (sel_ff rfl (And.intro rfl (And.intro rfl (Exists.intro _ (And.intro rfl (sel_ff rfl (Exists.intro _ (And.intro rfl (sel_ff rfl (And.intro rfl (And.intro rfl (Exists.intro _ (And.intro rfl (sel_tt rfl (Exists.intro _ (And.intro rfl (sel_ff rfl (And.intro rfl (And.intro rfl (Exists.intro _ (And.intro rfl (sel_ff rfl (Exists.intro _ (And.intro rfl (sel_ff rfl (And.intro rfl (And.intro rfl (Exists.intro _ (And.intro rfl (sel_ff rfl (Exists.intro _ (And.intro rfl (sel_ff rfl ?_)))))))))))))))))))))))))))))))))))))))); walk_at "w")
    refine ⟨[5, 6], rfl, ?_⟩
    (refine (Exists.intro _ (And.intro rfl (sel_ff rfl (And.intro rfl (And.intro rfl (Exists.intro _ (And.intro rfl (sel_ff rfl (And.intro rfl (And.intro rfl (Exists.intro _ (And.intro rfl (sel_ff rfl ?_))))))))))))); walk_at "w")
    refine ⟨_, h3, va, vb, vc, rfl, ?_⟩
    walk_at "w"
    refine ⟨_, h3, vx, vy, vz, rfl, ?_⟩
    (refine (And.intro rfl (And.intro rfl (ixD_l rfl (Exists.intro _ (And.intro rfl ?_))))); walk_at "w")
    exact T1 4 _ (by decide) (by decide) rfl hB3
  · (refine (And.intro rfl (And.intro rfl (Exists.intro _ (And.intro rfl (sel_ff rfl (Exists.intro _ (And.intro rfl (sel_ff rfl (And.intro rfl (And.intro rfl (Exists.intro _ (And.intro rfl (sel_ff rfl (Exists.intro _ (And.intro rfl (sel_ff rfl (And.intro rfl (And.intro rfl (Exists.intro _ (And.intro rfl (sel_tt rfl (Exists.intro _ (And.intro rfl (sel_tt rfl ?_)))))))))))))))))))))))); walk_at "w")
    refine ⟨isOw_bag hB3, ?_⟩
    walk_at "w"
    refine ⟨_, _, _, hT, rfl, rfl, _, 3, rfl, ⟨hB3, by decide, by decide⟩, fun z b4 z0 z1 hB4 => ?_⟩
    walk_at "w"
    refine ⟨isOw_bag hB4, ?_⟩
    walk_at "w"
    refine ⟨_, _, _, hT, rfl, rfl, _, 2, rfl, ⟨hB4, by decide, by decide⟩, fun y b5 y0 y1 hB5 => ?_⟩
    walk_at "w"
    refine ⟨(Sml.bd (i := 0) (by unfold Sml; decide) (n := 2) (by decide)).mulok (Sml.bd (i := y) (by unfold Sml; omega) (n := 2) (by decide)) (by decide), ?_⟩
    walk_at "w"
    refine ⟨_, hM, 1 + z, 0, show [PyData.int (1 + z), PyData.int ((0 : Int) * y)] = [.int (1 + z), .int ((0 : Nat) : Int)] by rw [show (0 : Int) * y = ((0 : Nat) : Int) by omega], by omega, ?_⟩
    (refine (Exists.intro _ (And.intro rfl ?_)); walk_at "w")
    exact h _ _ _ (by omega) (Lie.moving (by omega) (by omega)) (moving_bd (Sml.bd (by unfold Sml; omega) (by decide)) (by decide)) hB5
  · (refine (And.intro rfl (And.intro rfl (Exists.intro _ (And.intro rfl (sel_ff rfl (Exists.intro _ (And.intro rfl (sel_ff rfl (And.intro rfl (And.intro rfl (Exists.intro _ (And.intro rfl (sel_ff rfl (Exists.intro _ (And.intro rfl (sel_ff rfl (And.intro rfl (And.intro rfl (Exists.intro _ (And.intro rfl (sel_tt rfl (Exists.intro _ (And.intro rfl (sel_tt rfl ?_)))))))))))))))))))))))); walk_at "w")
    refine ⟨isOw_bag hB3, ?_⟩
    walk_at "w"
    refine ⟨_, _, _, hT, rfl, rfl, _, 3, rfl, ⟨hB3, by decide, by decide⟩, fun z b4 z0 z1 hB4 => ?_⟩
    walk_at "w"
    refine ⟨isOw_bag hB4, ?_⟩
    walk_at "w"
    refine ⟨_, _, _, hT, rfl, rfl, _, 2, rfl, ⟨hB4, by decide, by decide⟩, fun y b5 y0 y1 hB5 => ?_⟩
    walk_at "w"
    refine ⟨(Sml.bd (i := 1) (by unfold Sml; decide) (n := 2) (by decide)).mulok (Sml.bd (i := y) (by unfold Sml; omega) (n := 2) (by decide)) (by decide), ?_⟩
    walk_at "w"
    refine ⟨_, hM, 1 + z, y.toNat, show [PyData.int (1 + z), PyData.int ((1 : Int) * y)] = [.int (1 + z), .int ((y.toNat : Nat) : Int)] by rw [show (1 : Int) * y = ((y.toNat : Nat) : Int) by omega], by omega, ?_⟩
    (refine (Exists.intro _ (And.intro rfl ?_)); walk_at "w")
    exact h _ _ _ (by omega) (Lie.moving (by omega) (by omega)) (moving_bd (Sml.bd (by unfold Sml; omega) (by decide)) (by decide)) hB5
  · (refine (And.intro rfl (And.intro rfl (Exists.intro _ (And.intro rfl (sel_ff rfl (Exists.intro _ (And.intro rfl (sel_ff rfl (And.intro rfl (And.intro rfl (Exists.intro _ (And.intro rfl (sel_ff rfl (Exists.intro _ (And.intro rfl (sel_ff rfl (And.intro rfl (And.intro rfl (Exists.intro _ (And.intro rfl (sel_ff rfl (Exists.intro _ (And.intro rfl (sel_ff rfl (And.intro rfl (And.intro rfl (Exists.intro _ (And.intro rfl (sel_tt rfl (Exists.intro _ (And.intro rfl (sel_ff rfl (And.intro rfl (And.intro rfl (Exists.intro _ (And.intro rfl (sel_ff rfl (Exists.intro _ (And.intro rfl (sel_ff rfl ?_)))))))))))))))))))))))))))))))))))))))); walk_at "w")
    refine ⟨[5, 6], rfl, ?_⟩
    (refine (Exists.intro _ (And.intro rfl (sel_ff rfl (And.intro rfl (And.intro rfl (Exists.intro _ (And.intro rfl (sel_ff rfl (And.intro rfl (And.intro rfl (Exists.intro _ (And.intro rfl (sel_ff rfl ?_))))))))))))); walk_at "w")
    refine ⟨_, h3, va, vb, vc, rfl, ?_⟩
    walk_at "w"
    refine ⟨_, h3, vx, vy, vz, rfl, ?_⟩
    (refine (And.intro rfl (And.intro rfl (ixD_l rfl (Exists.intro _ (And.intro rfl ?_))))); walk_at "w")
    exact T1 3 _ (by decide) (by decide) rfl hB3
  · (refine (And.intro rfl (And.intro rfl (Exists.intro _ (And.intro rfl (sel_ff rfl (Exists.intro _ (And.intro rfl (sel_ff rfl (And.intro rfl (And.intro rfl (Exists.intro _ (And.intro rfl (sel_ff rfl (Exists.intro _ (And.intro rfl (sel_ff rfl (And.intro rfl (And.intro rfl (Exists.intro _ (And.intro rfl (sel_ff rfl (Exists.intro _ (And.intro rfl (sel_ff rfl (And.intro rfl (And.intro rfl (Exists.intro _ (And.intro rfl (sel_tt rfl (Exists.intro _ (And.intro rfl (sel_ff rfl (And.intro rfl (And.intro rfl (Exists.intro _ (And.intro rfl (sel_ff rfl (Exists.intro _ (And.intro rfl (sel_ff rfl ?_)))))))))))))))))))))))))))))))))))))))); walk_at "w")
    refine ⟨[5, 6], rfl, ?_⟩
    (refine (Exists.intro _ (And.intro rfl (sel_ff rfl (And.intro rfl (And.intro rfl (Exists.intro _ (And.intro rfl (sel_ff rfl (And.intro rfl (And.intro rfl (Exists.intro _ (And.intro rfl (sel_ff rfl ?_))))))))))))); walk_at "w")
    refine ⟨_, h3, va, vb, vc, rfl, ?_⟩
    walk_at "w"
    refine ⟨_, h3, vx, vy, vz, rfl, ?_⟩
    (refine (And.intro rfl (And.intro rfl (ixD_l rfl (Exists.intro _ (And.intro rfl ?_))))); walk_at "w")
    exact T1 4 _ (by decide) (by decide) rfl hB3
  · (refine (And.intro rfl (And.intro rfl (Exists.intro _ (And.intro rfl (sel_ff rfl (Exists.intro _ (And.intro rfl (sel_ff rfl (And.intro rfl (And.intro rfl (Exists.intro _ (And.intro rfl (sel_ff rfl (Exists.intro _ (And.intro rfl (sel_ff rfl (And.intro rfl (And.intro rfl (Exists.intro _ (And.intro rfl (sel_ff rfl (Exists.intro _ (And.intro rfl (sel_ff rfl (And.intro rfl (And.intro rfl (Exists.intro _ (And.intro rfl (sel_tt rfl (Exists.intro _ (And.intro rfl (sel_tt rfl ?_)))))))))))))))))))))))))))))))); walk_at "w")
    refine ⟨_, h3, va, vb, vc, rfl, ?_⟩
    walk_at "w"
    refine ⟨isOw_bag hB3, ?_⟩
    walk_at "w"
    refine ⟨isOw_bag hB3, ?_⟩
    walk_at "w"
    refine ⟨_, _, _, hT, rfl, rfl, _, _, rfl, ⟨hB3, by decide, by decide⟩, fun z b4 z0 z1 hB4 => ?_⟩
    walk_at "w"
    refine ⟨_, _, _, hBy, rfl, rfl, b4, 1 + z.toNat, by rw [show (1 : Int) + z = ((1 + z.toNat : Nat) : Int) by omega], ⟨hB4, by omega, by omega⟩, fun A b5 hA hB5 => ?_⟩
    walk_at "w"
    refine ⟨_, hSd, 3, 1 + (1 + z.toNat), _, _, rfl, by omega, ?_⟩
    (refine (Exists.intro _ (And.intro rfl ?_)); walk_at "w")
    exact h _ _ _ (by omega) ((Lie.three _ _ _).side (Lie.byone _ _)) (side_bd (three_bd (sa.bd (by decide)) (sb.bd (by decide)) (sc.bd (by decide))) (byP_bd hA (by decide))) hB5
  · (refine (And.intro rfl (And.intro rfl (Exists.intro _ (And.intro rfl (sel_ff rfl (Exists.intro _ (And.intro rfl (sel_ff rfl (And.intro rfl (And.intro rfl (Exists.intro _ (And.intro rfl (sel_ff rfl (Exists.intro _ (And.intro rfl (sel_ff rfl (And.intro rfl (And.intro rfl (Exists.intro _ (And.intro rfl (sel_ff rfl (Exists.intro _ (And.intro rfl (sel_ff rfl (And.intro rfl (And.intro rfl (Exists.intro _ (And.intro rfl (sel_tt rfl (Exists.intro _ (And.intro rfl (sel_tt rfl ?_)))))))))))))))))))))))))))))))); walk_at "w")
    refine ⟨_, h3, va, vb, vc, rfl, ?_⟩
    walk_at "w"
    refine ⟨isOw_bag hB3, ?_⟩
    walk_at "w"
    refine ⟨isOw_bag hB3, ?_⟩
    walk_at "w"
    refine ⟨_, _, _, hT, rfl, rfl, _, _, rfl, ⟨hB3, by decide, by decide⟩, fun z b4 z0 z1 hB4 => ?_⟩
    walk_at "w"
    refine ⟨_, _, _, hBy, rfl, rfl, b4, 1 + z.toNat, by rw [show (1 : Int) + z = ((1 + z.toNat : Nat) : Int) by omega], ⟨hB4, by omega, by omega⟩, fun A b5 hA hB5 => ?_⟩
    walk_at "w"
    refine ⟨_, hSd, 3, 1 + (1 + z.toNat), _, _, rfl, by omega, ?_⟩
    (refine (Exists.intro _ (And.intro rfl ?_)); walk_at "w")
    exact h _ _ _ (by omega) ((Lie.three _ _ _).side (Lie.byone _ _)) (side_bd (three_bd (sa.bd (by decide)) (sb.bd (by decide)) (sc.bd (by decide))) (byP_bd hA (by decide))) hB5
  · (refine (And.intro rfl (And.intro rfl (Exists.intro _ (And.intro rfl (sel_ff rfl (Exists.intro _ (And.intro rfl (sel_ff rfl (And.intro rfl (And.intro rfl (Exists.intro _ (And.intro rfl (sel_ff rfl (Exists.intro _ (And.intro rfl (sel_ff rfl (And.intro rfl (And.intro rfl (Exists.intro _ (And.intro rfl (sel_ff rfl (Exists.intro _ (And.intro rfl (sel_ff rfl (And.intro rfl (And.intro rfl (Exists.intro _ (And.intro rfl (sel_ff rfl (Exists.intro _ (And.intro rfl (sel_ff rfl (And.intro rfl (And.intro rfl (Exists.intro _ (And.intro rfl (sel_tt rfl (Exists.intro _ (And.intro rfl (sel_ff rfl ?_)))))))))))))))))))))))))))))))))))))))); walk_at "w")
    refine ⟨[5, 6], rfl, ?_⟩
    (refine (Exists.intro _ (And.intro rfl (sel_ff rfl (And.intro rfl (And.intro rfl (Exists.intro _ (And.intro rfl (sel_ff rfl (And.intro rfl (And.intro rfl (Exists.intro _ (And.intro rfl (sel_ff rfl ?_))))))))))))); walk_at "w")
    refine ⟨_, h3, va, vb, vc, rfl, ?_⟩
    walk_at "w"
    refine ⟨_, h3, vx, vy, vz, rfl, ?_⟩
    (refine (And.intro rfl (And.intro rfl (ixD_l rfl (Exists.intro _ (And.intro rfl ?_))))); walk_at "w")
    exact T1 3 _ (by decide) (by decide) rfl hB3
  · (refine (And.intro rfl (And.intro rfl (Exists.intro _ (And.intro rfl (sel_ff rfl (Exists.intro _ (And.intro rfl (sel_ff rfl (And.intro rfl (And.intro rfl (Exists.intro _ (And.intro rfl (sel_ff rfl (Exists.intro _ (And.intro rfl (sel_ff rfl (And.intro rfl (And.intro rfl (Exists.intro _ (And.intro rfl (sel_ff rfl (Exists.intro _ (And.intro rfl (sel_ff rfl (And.intro rfl (And.intro rfl (Exists.intro _ (And.intro rfl (sel_ff rfl (Exists.intro _ (And.intro rfl (sel_ff rfl (And.intro rfl (And.intro rfl (Exists.intro _ (And.intro rfl (sel_tt rfl (Exists.intro _ (And.intro rfl (sel_ff rfl ?_)))))))))))))))))))))))))))))))))))))))); walk_at "w")
    refine ⟨[5, 6], rfl, ?_⟩
    (refine (Exists.intro _ (And.intro rfl (sel_ff rfl (And.intro rfl (And.intro rfl (Exists.intro _ (And.intro rfl (sel_ff rfl (And.intro rfl (And.intro rfl (Exists.intro _ (And.intro rfl (sel_ff rfl ?_))))))))))))); walk_at "w")
    refine ⟨_, h3, va, vb, vc, rfl, ?_⟩
    walk_at "w"
    refine ⟨_, h3, vx, vy, vz, rfl, ?_⟩
    (refine (And.intro rfl (And.intro rfl (ixD_l rfl (Exists.intro _ (And.intro rfl ?_))))); walk_at "w")
    exact T1 4 _ (by decide) (by decide) rfl hB3
  · (refine (And.intro rfl (And.intro rfl (Exists.intro _ (And.intro rfl (sel_ff rfl (Exists.intro _ (And.intro rfl (sel_ff rfl (And.intro rfl (And.intro rfl (Exists.intro _ (And.intro rfl (sel_ff rfl (Exists.intro _ (And.intro rfl (sel_ff rfl (And.intro rfl (And.intro rfl (Exists.intro _ (And.intro rfl (sel_ff rfl (Exists.intro _ (And.intro rfl (sel_ff rfl (And.intro rfl (And.intro rfl (Exists.intro _ (And.intro rfl (sel_ff rfl (Exists.intro _ (And.intro rfl (sel_ff rfl (And.intro rfl (And.intro rfl (Exists.intro _ (And.intro rfl (sel_tt rfl (Exists.intro _ (And.intro rfl (sel_tt rfl (And.intro True.intro (And.intro (by decide) (And.intro (by decide) (And.intro True.intro (And.intro (by decide) (And.intro (by decide) ?_)))))))))))))))))))))))))))))))))))))))))))))); walk_at "w")
    refine ⟨isOw_bag hB3, ?_⟩
    walk_at "w"
    refine ⟨_, _, _, hT, rfl, rfl, _, 4, rfl, ⟨hB3, by decide, by decide⟩, fun z b4 z0 z1 hB4 => ?_⟩
    walk_at "w"
    refine ⟨(Sml.bd (i := z) (by unfold Sml; omega) (n := 2) (by decide)).mulok (Sml.bd (i := 0) (by unfold Sml; decide) (n := 2) (by decide)) (by decide), ?_⟩
    have hz0 : z * (0 : Int) = 0 := by omega
    refine ixD_l (show atI _ (z * (0 : Int)) = _ from by rw [hz0]; rfl) ?_
    walk_at "w"
    refine ⟨_, hP, (nine.getD 0 []), by unfold prsD; rfl, by decide, ?_⟩
    (refine (Exists.intro _ (And.intro rfl ?_)); walk_at "w")
    exact h _ _ _ (by decide) (Lie.pairs (P := nine.getD 0 []) (by decide)) (prV_bd _ (by decide)) hB4
  · (refine (And.intro rfl (And.intro rfl (Exists.intro _ (And.intro rfl (sel_ff rfl (Exists.intro _ (And.intro rfl (sel_ff rfl (And.intro rfl (And.intro rfl (Exists.intro _ (And.intro rfl (sel_ff rfl (Exists.intro _ (And.intro rfl (sel_ff rfl (And.intro rfl (And.intro rfl (Exists.intro _ (And.intro rfl (sel_ff rfl (Exists.intro _ (And.intro rfl (sel_ff rfl (And.intro rfl (And.intro rfl (Exists.intro _ (And.intro rfl (sel_ff rfl (Exists.intro _ (And.intro rfl (sel_ff rfl (And.intro rfl (And.intro rfl (Exists.intro _ (And.intro rfl (sel_tt rfl (Exists.intro _ (And.intro rfl (sel_tt rfl (And.intro True.intro (And.intro (by decide) (And.intro (by decide) (And.intro True.intro (And.intro (by decide) (And.intro (by decide) ?_)))))))))))))))))))))))))))))))))))))))))))))); walk_at "w")
    refine ⟨isOw_bag hB3, ?_⟩
    walk_at "w"
    refine ⟨_, _, _, hT, rfl, rfl, _, 4, rfl, ⟨hB3, by decide, by decide⟩, fun z b4 z0 z1 hB4 => ?_⟩
    walk_at "w"
    refine ⟨(Sml.bd (i := z) (by unfold Sml; omega) (n := 2) (by decide)).mulok (Sml.bd (i := 1) (by unfold Sml; decide) (n := 2) (by decide)) (by decide), ?_⟩
    have hz : z = 0 ∨ z = 1 ∨ z = 2 ∨ z = 3 := by omega
    rcases hz with rfl | rfl | rfl | rfl
    · (refine (ixD_l rfl ?_); walk_at "w")
      refine ⟨_, hP, (nine.getD 0 []), by unfold prsD; rfl, by decide, ?_⟩
      (refine (Exists.intro _ (And.intro rfl ?_)); walk_at "w")
      exact h _ _ _ (by decide) (Lie.pairs (P := (nine.getD 0 [])) (by decide)) (prV_bd _ (by decide)) hB4
    · (refine (ixD_l rfl ?_); walk_at "w")
      refine ⟨_, hP, (nine.getD 1 []), by unfold prsD; rfl, by decide, ?_⟩
      (refine (Exists.intro _ (And.intro rfl ?_)); walk_at "w")
      exact h _ _ _ (by decide) (Lie.pairs (P := (nine.getD 1 [])) (by decide)) (prV_bd _ (by decide)) hB4
    · (refine (ixD_l rfl ?_); walk_at "w")
      refine ⟨_, hP, (nine.getD 2 []), by unfold prsD; rfl, by decide, ?_⟩
      (refine (Exists.intro _ (And.intro rfl ?_)); walk_at "w")
      exact h _ _ _ (by decide) (Lie.pairs (P := (nine.getD 2 [])) (by decide)) (prV_bd _ (by decide)) hB4
    · (refine (ixD_l rfl ?_); walk_at "w")
      refine ⟨_, hP, (nine.getD 3 []), by unfold prsD; rfl, by decide, ?_⟩
      (refine (Exists.intro _ (And.intro rfl ?_)); walk_at "w")
      exact h _ _ _ (by decide) (Lie.pairs (P := (nine.getD 3 [])) (by decide)) (prV_bd _ (by decide)) hB4
  · (refine (And.intro rfl (And.intro rfl (Exists.intro _ (And.intro rfl (sel_ff rfl (Exists.intro _ (And.intro rfl (sel_ff rfl (And.intro rfl (And.intro rfl (Exists.intro _ (And.intro rfl (sel_ff rfl (Exists.intro _ (And.intro rfl (sel_ff rfl (And.intro rfl (And.intro rfl (Exists.intro _ (And.intro rfl (sel_ff rfl (Exists.intro _ (And.intro rfl (sel_ff rfl (And.intro rfl (And.intro rfl (Exists.intro _ (And.intro rfl (sel_ff rfl (Exists.intro _ (And.intro rfl (sel_ff rfl (And.intro rfl (And.intro rfl (Exists.intro _ (And.intro rfl (sel_ff rfl (Exists.intro _ (And.intro rfl (sel_ff rfl ?_)))))))))))))))))))))))))))))))))))))))); walk_at "w")
    refine ⟨[5, 6], rfl, ?_⟩
    (refine (Exists.intro _ (And.intro rfl (sel_tt rfl ?_))); walk_at "w")
    refine cat_lit (by decide) ?_
    walk_at "w"
    refine ⟨isOw_bag hB3, ?_⟩
    (refine (ixD_l rfl ?_); walk_at "w")
    refine ⟨_, _, _, hT, rfl, rfl, _, _, rfl, ⟨hB3, by decide, by decide⟩, fun z b4 z0 z1 hB4 => ?_⟩
    have hz : z = 0 ∨ z = 1 ∨ z = 2 := by omega
    rcases hz with rfl | rfl | rfl
    · (refine (ixD_l rfl ?_); walk_at "w")
      refine ⟨_, hP, (nine.getD 4 []), by unfold prsD; rfl, by decide, ?_⟩
      (refine (Exists.intro _ (And.intro rfl ?_)); walk_at "w")
      exact h _ _ _ (by decide) (Lie.pairs (P := (nine.getD 4 [])) (by decide)) (prV_bd _ (by decide)) hB4
    · (refine (ixD_l rfl ?_); walk_at "w")
      refine ⟨_, hP, (nine.getD 5 []), by unfold prsD; rfl, by decide, ?_⟩
      (refine (Exists.intro _ (And.intro rfl ?_)); walk_at "w")
      exact h _ _ _ (by decide) (Lie.pairs (P := (nine.getD 5 [])) (by decide)) (prV_bd _ (by decide)) hB4
    · (refine (ixD_l rfl ?_); walk_at "w")
      refine ⟨_, hP, (nine.getD 6 []), by unfold prsD; rfl, by decide, ?_⟩
      (refine (Exists.intro _ (And.intro rfl ?_)); walk_at "w")
      exact h _ _ _ (by decide) (Lie.pairs (P := (nine.getD 6 [])) (by decide)) (prV_bd _ (by decide)) hB4
  · (refine (And.intro rfl (And.intro rfl (Exists.intro _ (And.intro rfl (sel_ff rfl (Exists.intro _ (And.intro rfl (sel_ff rfl (And.intro rfl (And.intro rfl (Exists.intro _ (And.intro rfl (sel_ff rfl (Exists.intro _ (And.intro rfl (sel_ff rfl (And.intro rfl (And.intro rfl (Exists.intro _ (And.intro rfl (sel_ff rfl (Exists.intro _ (And.intro rfl (sel_ff rfl (And.intro rfl (And.intro rfl (Exists.intro _ (And.intro rfl (sel_ff rfl (Exists.intro _ (And.intro rfl (sel_ff rfl (And.intro rfl (And.intro rfl (Exists.intro _ (And.intro rfl (sel_ff rfl (Exists.intro _ (And.intro rfl (sel_ff rfl ?_)))))))))))))))))))))))))))))))))))))))); walk_at "w")
    refine ⟨[5, 6], rfl, ?_⟩
    (refine (Exists.intro _ (And.intro rfl (sel_tt rfl ?_))); walk_at "w")
    refine cat_lit (by decide) ?_
    walk_at "w"
    refine ⟨isOw_bag hB3, ?_⟩
    (refine (ixD_l rfl ?_); walk_at "w")
    refine ⟨_, _, _, hT, rfl, rfl, _, _, rfl, ⟨hB3, by decide, by decide⟩, fun z b4 z0 z1 hB4 => ?_⟩
    have hz : z = 0 ∨ z = 1 ∨ z = 2 ∨ z = 3 ∨ z = 4 := by omega
    rcases hz with rfl | rfl | rfl | rfl | rfl
    · (refine (ixD_l rfl ?_); walk_at "w")
      refine ⟨_, hP, (nine.getD 4 []), by unfold prsD; rfl, by decide, ?_⟩
      (refine (Exists.intro _ (And.intro rfl ?_)); walk_at "w")
      exact h _ _ _ (by decide) (Lie.pairs (P := (nine.getD 4 [])) (by decide)) (prV_bd _ (by decide)) hB4
    · (refine (ixD_l rfl ?_); walk_at "w")
      refine ⟨_, hP, (nine.getD 5 []), by unfold prsD; rfl, by decide, ?_⟩
      (refine (Exists.intro _ (And.intro rfl ?_)); walk_at "w")
      exact h _ _ _ (by decide) (Lie.pairs (P := (nine.getD 5 [])) (by decide)) (prV_bd _ (by decide)) hB4
    · (refine (ixD_l rfl ?_); walk_at "w")
      refine ⟨_, hP, (nine.getD 6 []), by unfold prsD; rfl, by decide, ?_⟩
      (refine (Exists.intro _ (And.intro rfl ?_)); walk_at "w")
      exact h _ _ _ (by decide) (Lie.pairs (P := (nine.getD 6 [])) (by decide)) (prV_bd _ (by decide)) hB4
    · (refine (ixD_l rfl ?_); walk_at "w")
      refine ⟨_, hP, (nine.getD 7 []), by unfold prsD; rfl, by decide, ?_⟩
      (refine (Exists.intro _ (And.intro rfl ?_)); walk_at "w")
      exact h _ _ _ (by decide) (Lie.pairs (P := (nine.getD 7 [])) (by decide)) (prV_bd _ (by decide)) hB4
    · (refine (ixD_l rfl ?_); walk_at "w")
      refine ⟨_, hP, (nine.getD 8 []), by unfold prsD; rfl, by decide, ?_⟩
      (refine (Exists.intro _ (And.intro rfl ?_)); walk_at "w")
      exact h _ _ _ (by decide) (Lie.pairs (P := (nine.getD 8 [])) (by decide)) (prV_bd _ (by decide)) hB4
  · (refine (And.intro rfl (And.intro rfl (Exists.intro _ (And.intro rfl (sel_ff rfl (Exists.intro _ (And.intro rfl (sel_ff rfl (And.intro rfl (And.intro rfl (Exists.intro _ (And.intro rfl (sel_ff rfl (Exists.intro _ (And.intro rfl (sel_ff rfl (And.intro rfl (And.intro rfl (Exists.intro _ (And.intro rfl (sel_ff rfl (Exists.intro _ (And.intro rfl (sel_ff rfl (And.intro rfl (And.intro rfl (Exists.intro _ (And.intro rfl (sel_ff rfl (Exists.intro _ (And.intro rfl (sel_ff rfl (And.intro rfl (And.intro rfl (Exists.intro _ (And.intro rfl (sel_ff rfl (Exists.intro _ (And.intro rfl (sel_ff rfl ?_)))))))))))))))))))))))))))))))))))))))); walk_at "w")
    refine ⟨[5, 6], rfl, ?_⟩
    (refine (Exists.intro _ (And.intro rfl (sel_tt rfl ?_))); walk_at "w")
    refine cat_lit (by decide) ?_
    walk_at "w"
    refine ⟨isOw_bag hB3, ?_⟩
    (refine (ixD_l rfl ?_); walk_at "w")
    refine ⟨_, _, _, hT, rfl, rfl, _, _, rfl, ⟨hB3, by decide, by decide⟩, fun z b4 z0 z1 hB4 => ?_⟩
    have hz : z = 0 ∨ z = 1 ∨ z = 2 ∨ z = 3 ∨ z = 4 := by omega
    rcases hz with rfl | rfl | rfl | rfl | rfl
    · (refine (ixD_l rfl ?_); walk_at "w")
      refine ⟨_, hP, (nine.getD 4 []), by unfold prsD; rfl, by decide, ?_⟩
      (refine (Exists.intro _ (And.intro rfl ?_)); walk_at "w")
      exact h _ _ _ (by decide) (Lie.pairs (P := (nine.getD 4 [])) (by decide)) (prV_bd _ (by decide)) hB4
    · (refine (ixD_l rfl ?_); walk_at "w")
      refine ⟨_, hP, (nine.getD 5 []), by unfold prsD; rfl, by decide, ?_⟩
      (refine (Exists.intro _ (And.intro rfl ?_)); walk_at "w")
      exact h _ _ _ (by decide) (Lie.pairs (P := (nine.getD 5 [])) (by decide)) (prV_bd _ (by decide)) hB4
    · (refine (ixD_l rfl ?_); walk_at "w")
      refine ⟨_, hP, (nine.getD 6 []), by unfold prsD; rfl, by decide, ?_⟩
      (refine (Exists.intro _ (And.intro rfl ?_)); walk_at "w")
      exact h _ _ _ (by decide) (Lie.pairs (P := (nine.getD 6 [])) (by decide)) (prV_bd _ (by decide)) hB4
    · (refine (ixD_l rfl ?_); walk_at "w")
      refine ⟨_, hP, (nine.getD 7 []), by unfold prsD; rfl, by decide, ?_⟩
      (refine (Exists.intro _ (And.intro rfl ?_)); walk_at "w")
      exact h _ _ _ (by decide) (Lie.pairs (P := (nine.getD 7 [])) (by decide)) (prV_bd _ (by decide)) hB4
    · (refine (ixD_l rfl ?_); walk_at "w")
      refine ⟨_, hP, (nine.getD 8 []), by unfold prsD; rfl, by decide, ?_⟩
      (refine (Exists.intro _ (And.intro rfl ?_)); walk_at "w")
      exact h _ _ _ (by decide) (Lie.pairs (P := (nine.getD 8 [])) (by decide)) (prV_bd _ (by decide)) hB4
  · (refine (And.intro rfl (And.intro rfl (Exists.intro _ (And.intro rfl (sel_ff rfl (Exists.intro _ (And.intro rfl (sel_ff rfl (And.intro rfl (And.intro rfl (Exists.intro _ (And.intro rfl (sel_ff rfl (Exists.intro _ (And.intro rfl (sel_ff rfl (And.intro rfl (And.intro rfl (Exists.intro _ (And.intro rfl (sel_ff rfl (Exists.intro _ (And.intro rfl (sel_ff rfl (And.intro rfl (And.intro rfl (Exists.intro _ (And.intro rfl (sel_ff rfl (Exists.intro _ (And.intro rfl (sel_ff rfl (And.intro rfl (And.intro rfl (Exists.intro _ (And.intro rfl (sel_ff rfl (Exists.intro _ (And.intro rfl (sel_ff rfl ?_)))))))))))))))))))))))))))))))))))))))); walk_at "w")
    refine ⟨[5, 6], rfl, ?_⟩
    (refine (Exists.intro _ (And.intro rfl (sel_tt rfl ?_))); walk_at "w")
    refine cat_lit (by decide) ?_
    walk_at "w"
    refine ⟨isOw_bag hB3, ?_⟩
    (refine (ixD_l rfl ?_); walk_at "w")
    refine ⟨_, _, _, hT, rfl, rfl, _, _, rfl, ⟨hB3, by decide, by decide⟩, fun z b4 z0 z1 hB4 => ?_⟩
    have hz : z = 0 ∨ z = 1 ∨ z = 2 ∨ z = 3 ∨ z = 4 := by omega
    rcases hz with rfl | rfl | rfl | rfl | rfl
    · (refine (ixD_l rfl ?_); walk_at "w")
      refine ⟨_, hP, (nine.getD 4 []), by unfold prsD; rfl, by decide, ?_⟩
      (refine (Exists.intro _ (And.intro rfl ?_)); walk_at "w")
      exact h _ _ _ (by decide) (Lie.pairs (P := (nine.getD 4 [])) (by decide)) (prV_bd _ (by decide)) hB4
    · (refine (ixD_l rfl ?_); walk_at "w")
      refine ⟨_, hP, (nine.getD 5 []), by unfold prsD; rfl, by decide, ?_⟩
      (refine (Exists.intro _ (And.intro rfl ?_)); walk_at "w")
      exact h _ _ _ (by decide) (Lie.pairs (P := (nine.getD 5 [])) (by decide)) (prV_bd _ (by decide)) hB4
    · (refine (ixD_l rfl ?_); walk_at "w")
      refine ⟨_, hP, (nine.getD 6 []), by unfold prsD; rfl, by decide, ?_⟩
      (refine (Exists.intro _ (And.intro rfl ?_)); walk_at "w")
      exact h _ _ _ (by decide) (Lie.pairs (P := (nine.getD 6 [])) (by decide)) (prV_bd _ (by decide)) hB4
    · (refine (ixD_l rfl ?_); walk_at "w")
      refine ⟨_, hP, (nine.getD 7 []), by unfold prsD; rfl, by decide, ?_⟩
      (refine (Exists.intro _ (And.intro rfl ?_)); walk_at "w")
      exact h _ _ _ (by decide) (Lie.pairs (P := (nine.getD 7 [])) (by decide)) (prV_bd _ (by decide)) hB4
    · (refine (ixD_l rfl ?_); walk_at "w")
      refine ⟨_, hP, (nine.getD 8 []), by unfold prsD; rfl, by decide, ?_⟩
      (refine (Exists.intro _ (And.intro rfl ?_)); walk_at "w")
      exact h _ _ _ (by decide) (Lie.pairs (P := (nine.getD 8 [])) (by decide)) (prV_bd _ (by decide)) hB4
  · (refine (And.intro rfl (And.intro rfl (Exists.intro _ (And.intro rfl (sel_ff rfl (Exists.intro _ (And.intro rfl (sel_ff rfl (And.intro rfl (And.intro rfl (Exists.intro _ (And.intro rfl (sel_ff rfl (Exists.intro _ (And.intro rfl (sel_ff rfl (And.intro rfl (And.intro rfl (Exists.intro _ (And.intro rfl (sel_ff rfl (Exists.intro _ (And.intro rfl (sel_ff rfl (And.intro rfl (And.intro rfl (Exists.intro _ (And.intro rfl (sel_ff rfl (Exists.intro _ (And.intro rfl (sel_ff rfl (And.intro rfl (And.intro rfl (Exists.intro _ (And.intro rfl (sel_ff rfl (Exists.intro _ (And.intro rfl (sel_ff rfl ?_)))))))))))))))))))))))))))))))))))))))); walk_at "w")
    refine ⟨[5, 6], rfl, ?_⟩
    (refine (Exists.intro _ (And.intro rfl (sel_tt rfl ?_))); walk_at "w")
    refine cat_lit (by decide) ?_
    walk_at "w"
    refine ⟨isOw_bag hB3, ?_⟩
    (refine (ixD_l rfl ?_); walk_at "w")
    refine ⟨_, _, _, hT, rfl, rfl, _, _, rfl, ⟨hB3, by decide, by decide⟩, fun z b4 z0 z1 hB4 => ?_⟩
    have hz : z = 0 ∨ z = 1 ∨ z = 2 := by omega
    rcases hz with rfl | rfl | rfl
    · (refine (ixD_l rfl ?_); walk_at "w")
      refine ⟨_, hP, (nine.getD 4 []), by unfold prsD; rfl, by decide, ?_⟩
      (refine (Exists.intro _ (And.intro rfl ?_)); walk_at "w")
      exact h _ _ _ (by decide) (Lie.pairs (P := (nine.getD 4 [])) (by decide)) (prV_bd _ (by decide)) hB4
    · (refine (ixD_l rfl ?_); walk_at "w")
      refine ⟨_, hP, (nine.getD 5 []), by unfold prsD; rfl, by decide, ?_⟩
      (refine (Exists.intro _ (And.intro rfl ?_)); walk_at "w")
      exact h _ _ _ (by decide) (Lie.pairs (P := (nine.getD 5 [])) (by decide)) (prV_bd _ (by decide)) hB4
    · (refine (ixD_l rfl ?_); walk_at "w")
      refine ⟨_, hP, (nine.getD 6 []), by unfold prsD; rfl, by decide, ?_⟩
      (refine (Exists.intro _ (And.intro rfl ?_)); walk_at "w")
      exact h _ _ _ (by decide) (Lie.pairs (P := (nine.getD 6 [])) (by decide)) (prV_bd _ (by decide)) hB4
  · (refine (And.intro rfl (And.intro rfl (Exists.intro _ (And.intro rfl (sel_ff rfl (Exists.intro _ (And.intro rfl (sel_ff rfl (And.intro rfl (And.intro rfl (Exists.intro _ (And.intro rfl (sel_ff rfl (Exists.intro _ (And.intro rfl (sel_ff rfl (And.intro rfl (And.intro rfl (Exists.intro _ (And.intro rfl (sel_ff rfl (Exists.intro _ (And.intro rfl (sel_ff rfl (And.intro rfl (And.intro rfl (Exists.intro _ (And.intro rfl (sel_ff rfl (Exists.intro _ (And.intro rfl (sel_ff rfl (And.intro rfl (And.intro rfl (Exists.intro _ (And.intro rfl (sel_ff rfl (Exists.intro _ (And.intro rfl (sel_ff rfl ?_)))))))))))))))))))))))))))))))))))))))); walk_at "w")
    refine ⟨[5, 6], rfl, ?_⟩
    (refine (Exists.intro _ (And.intro rfl (sel_tt rfl ?_))); walk_at "w")
    refine cat_lit (by decide) ?_
    walk_at "w"
    refine ⟨isOw_bag hB3, ?_⟩
    (refine (ixD_l rfl ?_); walk_at "w")
    refine ⟨_, _, _, hT, rfl, rfl, _, _, rfl, ⟨hB3, by decide, by decide⟩, fun z b4 z0 z1 hB4 => ?_⟩
    have hz : z = 0 ∨ z = 1 ∨ z = 2 ∨ z = 3 ∨ z = 4 := by omega
    rcases hz with rfl | rfl | rfl | rfl | rfl
    · (refine (ixD_l rfl ?_); walk_at "w")
      refine ⟨_, hP, (nine.getD 4 []), by unfold prsD; rfl, by decide, ?_⟩
      (refine (Exists.intro _ (And.intro rfl ?_)); walk_at "w")
      exact h _ _ _ (by decide) (Lie.pairs (P := (nine.getD 4 [])) (by decide)) (prV_bd _ (by decide)) hB4
    · (refine (ixD_l rfl ?_); walk_at "w")
      refine ⟨_, hP, (nine.getD 5 []), by unfold prsD; rfl, by decide, ?_⟩
      (refine (Exists.intro _ (And.intro rfl ?_)); walk_at "w")
      exact h _ _ _ (by decide) (Lie.pairs (P := (nine.getD 5 [])) (by decide)) (prV_bd _ (by decide)) hB4
    · (refine (ixD_l rfl ?_); walk_at "w")
      refine ⟨_, hP, (nine.getD 6 []), by unfold prsD; rfl, by decide, ?_⟩
      (refine (Exists.intro _ (And.intro rfl ?_)); walk_at "w")
      exact h _ _ _ (by decide) (Lie.pairs (P := (nine.getD 6 [])) (by decide)) (prV_bd _ (by decide)) hB4
    · (refine (ixD_l rfl ?_); walk_at "w")
      refine ⟨_, hP, (nine.getD 7 []), by unfold prsD; rfl, by decide, ?_⟩
      (refine (Exists.intro _ (And.intro rfl ?_)); walk_at "w")
      exact h _ _ _ (by decide) (Lie.pairs (P := (nine.getD 7 [])) (by decide)) (prV_bd _ (by decide)) hB4
    · (refine (ixD_l rfl ?_); walk_at "w")
      refine ⟨_, hP, (nine.getD 8 []), by unfold prsD; rfl, by decide, ?_⟩
      (refine (Exists.intro _ (And.intro rfl ?_)); walk_at "w")
      exact h _ _ _ (by decide) (Lie.pairs (P := (nine.getD 8 [])) (by decide)) (prV_bd _ (by decide)) hB4
  · (refine (And.intro rfl (And.intro rfl (Exists.intro _ (And.intro rfl (sel_ff rfl (Exists.intro _ (And.intro rfl (sel_ff rfl (And.intro rfl (And.intro rfl (Exists.intro _ (And.intro rfl (sel_ff rfl (Exists.intro _ (And.intro rfl (sel_ff rfl (And.intro rfl (And.intro rfl (Exists.intro _ (And.intro rfl (sel_ff rfl (Exists.intro _ (And.intro rfl (sel_ff rfl (And.intro rfl (And.intro rfl (Exists.intro _ (And.intro rfl (sel_ff rfl (Exists.intro _ (And.intro rfl (sel_ff rfl (And.intro rfl (And.intro rfl (Exists.intro _ (And.intro rfl (sel_ff rfl (Exists.intro _ (And.intro rfl (sel_ff rfl ?_)))))))))))))))))))))))))))))))))))))))); walk_at "w")
    refine ⟨[5, 6], rfl, ?_⟩
    (refine (Exists.intro _ (And.intro rfl (sel_tt rfl ?_))); walk_at "w")
    refine cat_lit (by decide) ?_
    walk_at "w"
    refine ⟨isOw_bag hB3, ?_⟩
    (refine (ixD_l rfl ?_); walk_at "w")
    refine ⟨_, _, _, hT, rfl, rfl, _, _, rfl, ⟨hB3, by decide, by decide⟩, fun z b4 z0 z1 hB4 => ?_⟩
    have hz : z = 0 ∨ z = 1 ∨ z = 2 ∨ z = 3 ∨ z = 4 := by omega
    rcases hz with rfl | rfl | rfl | rfl | rfl
    · (refine (ixD_l rfl ?_); walk_at "w")
      refine ⟨_, hP, (nine.getD 4 []), by unfold prsD; rfl, by decide, ?_⟩
      (refine (Exists.intro _ (And.intro rfl ?_)); walk_at "w")
      exact h _ _ _ (by decide) (Lie.pairs (P := (nine.getD 4 [])) (by decide)) (prV_bd _ (by decide)) hB4
    · (refine (ixD_l rfl ?_); walk_at "w")
      refine ⟨_, hP, (nine.getD 5 []), by unfold prsD; rfl, by decide, ?_⟩
      (refine (Exists.intro _ (And.intro rfl ?_)); walk_at "w")
      exact h _ _ _ (by decide) (Lie.pairs (P := (nine.getD 5 [])) (by decide)) (prV_bd _ (by decide)) hB4
    · (refine (ixD_l rfl ?_); walk_at "w")
      refine ⟨_, hP, (nine.getD 6 []), by unfold prsD; rfl, by decide, ?_⟩
      (refine (Exists.intro _ (And.intro rfl ?_)); walk_at "w")
      exact h _ _ _ (by decide) (Lie.pairs (P := (nine.getD 6 [])) (by decide)) (prV_bd _ (by decide)) hB4
    · (refine (ixD_l rfl ?_); walk_at "w")
      refine ⟨_, hP, (nine.getD 7 []), by unfold prsD; rfl, by decide, ?_⟩
      (refine (Exists.intro _ (And.intro rfl ?_)); walk_at "w")
      exact h _ _ _ (by decide) (Lie.pairs (P := (nine.getD 7 [])) (by decide)) (prV_bd _ (by decide)) hB4
    · (refine (ixD_l rfl ?_); walk_at "w")
      refine ⟨_, hP, (nine.getD 8 []), by unfold prsD; rfl, by decide, ?_⟩
      (refine (Exists.intro _ (And.intro rfl ?_)); walk_at "w")
      exact h _ _ _ (by decide) (Lie.pairs (P := (nine.getD 8 [])) (by decide)) (prV_bd _ (by decide)) hB4
  · (refine (And.intro rfl (And.intro rfl (Exists.intro _ (And.intro rfl (sel_ff rfl (Exists.intro _ (And.intro rfl (sel_ff rfl (And.intro rfl (And.intro rfl (Exists.intro _ (And.intro rfl (sel_ff rfl (Exists.intro _ (And.intro rfl (sel_ff rfl (And.intro rfl (And.intro rfl (Exists.intro _ (And.intro rfl (sel_ff rfl (Exists.intro _ (And.intro rfl (sel_ff rfl (And.intro rfl (And.intro rfl (Exists.intro _ (And.intro rfl (sel_ff rfl (Exists.intro _ (And.intro rfl (sel_ff rfl (And.intro rfl (And.intro rfl (Exists.intro _ (And.intro rfl (sel_ff rfl (Exists.intro _ (And.intro rfl (sel_ff rfl ?_)))))))))))))))))))))))))))))))))))))))); walk_at "w")
    refine ⟨[5, 6], rfl, ?_⟩
    (refine (Exists.intro _ (And.intro rfl (sel_tt rfl ?_))); walk_at "w")
    refine cat_lit (by decide) ?_
    walk_at "w"
    refine ⟨isOw_bag hB3, ?_⟩
    (refine (ixD_l rfl ?_); walk_at "w")
    refine ⟨_, _, _, hT, rfl, rfl, _, _, rfl, ⟨hB3, by decide, by decide⟩, fun z b4 z0 z1 hB4 => ?_⟩
    have hz : z = 0 ∨ z = 1 ∨ z = 2 ∨ z = 3 ∨ z = 4 := by omega
    rcases hz with rfl | rfl | rfl | rfl | rfl
    · (refine (ixD_l rfl ?_); walk_at "w")
      refine ⟨_, hP, (nine.getD 4 []), by unfold prsD; rfl, by decide, ?_⟩
      (refine (Exists.intro _ (And.intro rfl ?_)); walk_at "w")
      exact h _ _ _ (by decide) (Lie.pairs (P := (nine.getD 4 [])) (by decide)) (prV_bd _ (by decide)) hB4
    · (refine (ixD_l rfl ?_); walk_at "w")
      refine ⟨_, hP, (nine.getD 5 []), by unfold prsD; rfl, by decide, ?_⟩
      (refine (Exists.intro _ (And.intro rfl ?_)); walk_at "w")
      exact h _ _ _ (by decide) (Lie.pairs (P := (nine.getD 5 [])) (by decide)) (prV_bd _ (by decide)) hB4
    · (refine (ixD_l rfl ?_); walk_at "w")
      refine ⟨_, hP, (nine.getD 6 []), by unfold prsD; rfl, by decide, ?_⟩
      (refine (Exists.intro _ (And.intro rfl ?_)); walk_at "w")
      exact h _ _ _ (by decide) (Lie.pairs (P := (nine.getD 6 [])) (by decide)) (prV_bd _ (by decide)) hB4
    · (refine (ixD_l rfl ?_); walk_at "w")
      refine ⟨_, hP, (nine.getD 7 []), by unfold prsD; rfl, by decide, ?_⟩
      (refine (Exists.intro _ (And.intro rfl ?_)); walk_at "w")
      exact h _ _ _ (by decide) (Lie.pairs (P := (nine.getD 7 [])) (by decide)) (prV_bd _ (by decide)) hB4
    · (refine (ixD_l rfl ?_); walk_at "w")
      refine ⟨_, hP, (nine.getD 8 []), by unfold prsD; rfl, by decide, ?_⟩
      (refine (Exists.intro _ (And.intro rfl ?_)); walk_at "w")
      exact h _ _ _ (by decide) (Lie.pairs (P := (nine.getD 8 [])) (by decide)) (prV_bd _ (by decide)) hB4
  · (refine (And.intro rfl (And.intro rfl (Exists.intro _ (And.intro rfl (sel_ff rfl (Exists.intro _ (And.intro rfl (sel_ff rfl (And.intro rfl (And.intro rfl (Exists.intro _ (And.intro rfl (sel_ff rfl (Exists.intro _ (And.intro rfl (sel_ff rfl (And.intro rfl (And.intro rfl (Exists.intro _ (And.intro rfl (sel_ff rfl (Exists.intro _ (And.intro rfl (sel_ff rfl (And.intro rfl (And.intro rfl (Exists.intro _ (And.intro rfl (sel_ff rfl (Exists.intro _ (And.intro rfl (sel_ff rfl (And.intro rfl (And.intro rfl (Exists.intro _ (And.intro rfl (sel_ff rfl (Exists.intro _ (And.intro rfl (sel_ff rfl ?_)))))))))))))))))))))))))))))))))))))))); walk_at "w")
    refine ⟨[5, 6], rfl, ?_⟩
    (refine (Exists.intro _ (And.intro rfl (sel_ff rfl (And.intro rfl (And.intro rfl (Exists.intro _ (And.intro rfl (sel_tt rfl ?_)))))))); walk_at "w")
    refine ⟨isOw_bag hB3, ?_⟩
    walk_at "w"
    refine ⟨isOw_bag hB3, ?_⟩
    walk_at "w"
    refine ⟨_, _, _, hT, rfl, rfl, _, _, rfl, ⟨hB3, by decide, by decide⟩, fun z b4 z0 z1 hB4 => ?_⟩
    walk_at "w"
    refine ⟨_, _, _, hBy, rfl, rfl, b4, 1 + z.toNat, by rw [show (1 : Int) + z = ((1 + z.toNat : Nat) : Int) by omega], ⟨hB4, by omega, by omega⟩, fun A b5 hA hB5 => ?_⟩
    (refine (Exists.intro _ (And.intro rfl ?_)); walk_at "w")
    exact h _ _ _ (by omega) (Lie.byone _ _) (byP_bd hA (by decide)) hB5
  · (refine (And.intro rfl (And.intro rfl (Exists.intro _ (And.intro rfl (sel_ff rfl (Exists.intro _ (And.intro rfl (sel_ff rfl (And.intro rfl (And.intro rfl (Exists.intro _ (And.intro rfl (sel_ff rfl (Exists.intro _ (And.intro rfl (sel_ff rfl (And.intro rfl (And.intro rfl (Exists.intro _ (And.intro rfl (sel_ff rfl (Exists.intro _ (And.intro rfl (sel_ff rfl (And.intro rfl (And.intro rfl (Exists.intro _ (And.intro rfl (sel_ff rfl (Exists.intro _ (And.intro rfl (sel_ff rfl (And.intro rfl (And.intro rfl (Exists.intro _ (And.intro rfl (sel_ff rfl (Exists.intro _ (And.intro rfl (sel_ff rfl ?_)))))))))))))))))))))))))))))))))))))))); walk_at "w")
    refine ⟨[5, 6], rfl, ?_⟩
    (refine (Exists.intro _ (And.intro rfl (sel_ff rfl (And.intro rfl (And.intro rfl (Exists.intro _ (And.intro rfl (sel_tt rfl ?_)))))))); walk_at "w")
    refine ⟨isOw_bag hB3, ?_⟩
    walk_at "w"
    refine ⟨isOw_bag hB3, ?_⟩
    walk_at "w"
    refine ⟨_, _, _, hT, rfl, rfl, _, _, rfl, ⟨hB3, by decide, by decide⟩, fun z b4 z0 z1 hB4 => ?_⟩
    walk_at "w"
    refine ⟨_, _, _, hBy, rfl, rfl, b4, 1 + z.toNat, by rw [show (1 : Int) + z = ((1 + z.toNat : Nat) : Int) by omega], ⟨hB4, by omega, by omega⟩, fun A b5 hA hB5 => ?_⟩
    (refine (Exists.intro _ (And.intro rfl ?_)); walk_at "w")
    exact h _ _ _ (by omega) (Lie.byone _ _) (byP_bd hA (by decide)) hB5
  · (refine (And.intro rfl (And.intro rfl (Exists.intro _ (And.intro rfl (sel_ff rfl (Exists.intro _ (And.intro rfl (sel_ff rfl (And.intro rfl (And.intro rfl (Exists.intro _ (And.intro rfl (sel_ff rfl (Exists.intro _ (And.intro rfl (sel_ff rfl (And.intro rfl (And.intro rfl (Exists.intro _ (And.intro rfl (sel_ff rfl (Exists.intro _ (And.intro rfl (sel_ff rfl (And.intro rfl (And.intro rfl (Exists.intro _ (And.intro rfl (sel_ff rfl (Exists.intro _ (And.intro rfl (sel_ff rfl (And.intro rfl (And.intro rfl (Exists.intro _ (And.intro rfl (sel_ff rfl (Exists.intro _ (And.intro rfl (sel_ff rfl ?_)))))))))))))))))))))))))))))))))))))))); walk_at "w")
    refine ⟨[5, 6], rfl, ?_⟩
    (refine (Exists.intro _ (And.intro rfl (sel_ff rfl (And.intro rfl (And.intro rfl (Exists.intro _ (And.intro rfl (sel_tt rfl ?_)))))))); walk_at "w")
    refine ⟨isOw_bag hB3, ?_⟩
    walk_at "w"
    refine ⟨isOw_bag hB3, ?_⟩
    walk_at "w"
    refine ⟨_, _, _, hT, rfl, rfl, _, _, rfl, ⟨hB3, by decide, by decide⟩, fun z b4 z0 z1 hB4 => ?_⟩
    walk_at "w"
    refine ⟨_, _, _, hBy, rfl, rfl, b4, 1 + z.toNat, by rw [show (1 : Int) + z = ((1 + z.toNat : Nat) : Int) by omega], ⟨hB4, by omega, by omega⟩, fun A b5 hA hB5 => ?_⟩
    (refine (Exists.intro _ (And.intro rfl ?_)); walk_at "w")
    exact h _ _ _ (by omega) (Lie.byone _ _) (byP_bd hA (by decide)) hB5
  · (refine (And.intro rfl (And.intro rfl (Exists.intro _ (And.intro rfl (sel_ff rfl (Exists.intro _ (And.intro rfl (sel_ff rfl (And.intro rfl (And.intro rfl (Exists.intro _ (And.intro rfl (sel_ff rfl (Exists.intro _ (And.intro rfl (sel_ff rfl (And.intro rfl (And.intro rfl (Exists.intro _ (And.intro rfl (sel_ff rfl (Exists.intro _ (And.intro rfl (sel_ff rfl (And.intro rfl (And.intro rfl (Exists.intro _ (And.intro rfl (sel_ff rfl (Exists.intro _ (And.intro rfl (sel_ff rfl (And.intro rfl (And.intro rfl (Exists.intro _ (And.intro rfl (sel_ff rfl (Exists.intro _ (And.intro rfl (sel_ff rfl ?_)))))))))))))))))))))))))))))))))))))))); walk_at "w")
    refine ⟨[5, 6], rfl, ?_⟩
    (refine (Exists.intro _ (And.intro rfl (sel_ff rfl (And.intro rfl (And.intro rfl (Exists.intro _ (And.intro rfl (sel_tt rfl ?_)))))))); walk_at "w")
    refine ⟨isOw_bag hB3, ?_⟩
    walk_at "w"
    refine ⟨isOw_bag hB3, ?_⟩
    walk_at "w"
    refine ⟨_, _, _, hT, rfl, rfl, _, _, rfl, ⟨hB3, by decide, by decide⟩, fun z b4 z0 z1 hB4 => ?_⟩
    walk_at "w"
    refine ⟨_, _, _, hBy, rfl, rfl, b4, 1 + z.toNat, by rw [show (1 : Int) + z = ((1 + z.toNat : Nat) : Int) by omega], ⟨hB4, by omega, by omega⟩, fun A b5 hA hB5 => ?_⟩
    (refine (Exists.intro _ (And.intro rfl ?_)); walk_at "w")
    exact h _ _ _ (by omega) (Lie.byone _ _) (byP_bd hA (by decide)) hB5
  · (refine (And.intro rfl (And.intro rfl (Exists.intro _ (And.intro rfl (sel_ff rfl (Exists.intro _ (And.intro rfl (sel_ff rfl (And.intro rfl (And.intro rfl (Exists.intro _ (And.intro rfl (sel_ff rfl (Exists.intro _ (And.intro rfl (sel_ff rfl (And.intro rfl (And.intro rfl (Exists.intro _ (And.intro rfl (sel_ff rfl (Exists.intro _ (And.intro rfl (sel_ff rfl (And.intro rfl (And.intro rfl (Exists.intro _ (And.intro rfl (sel_ff rfl (Exists.intro _ (And.intro rfl (sel_ff rfl (And.intro rfl (And.intro rfl (Exists.intro _ (And.intro rfl (sel_ff rfl (Exists.intro _ (And.intro rfl (sel_ff rfl ?_)))))))))))))))))))))))))))))))))))))))); walk_at "w")
    refine ⟨[5, 6], rfl, ?_⟩
    (refine (Exists.intro _ (And.intro rfl (sel_ff rfl (And.intro rfl (And.intro rfl (Exists.intro _ (And.intro rfl (sel_ff rfl (And.intro rfl (And.intro rfl (Exists.intro _ (And.intro rfl (sel_tt rfl ?_))))))))))))); walk_at "w")
    refine ⟨isOw_bag hB3, ?_⟩
    walk_at "w"
    refine ⟨_, _, _, hT, rfl, rfl, _, _, rfl, ⟨hB3, by decide, by decide⟩, fun z b4 z0 z1 hB4 => ?_⟩
    walk_at "w"
    refine ⟨_, hN, z.toNat, by rw [show z = ((z.toNat : Nat) : Int) by omega]; rfl, by omega, ?_⟩
    (refine (Exists.intro _ (And.intro rfl ?_)); walk_at "w")
    exact h _ _ _ (by omega) (Lie.none _) (fun _ _ _ => bd0 _) hB4
  · (refine (And.intro rfl (And.intro rfl (Exists.intro _ (And.intro rfl (sel_ff rfl (Exists.intro _ (And.intro rfl (sel_ff rfl (And.intro rfl (And.intro rfl (Exists.intro _ (And.intro rfl (sel_ff rfl (Exists.intro _ (And.intro rfl (sel_ff rfl (And.intro rfl (And.intro rfl (Exists.intro _ (And.intro rfl (sel_ff rfl (Exists.intro _ (And.intro rfl (sel_ff rfl (And.intro rfl (And.intro rfl (Exists.intro _ (And.intro rfl (sel_ff rfl (Exists.intro _ (And.intro rfl (sel_ff rfl (And.intro rfl (And.intro rfl (Exists.intro _ (And.intro rfl (sel_ff rfl (Exists.intro _ (And.intro rfl (sel_ff rfl ?_)))))))))))))))))))))))))))))))))))))))); walk_at "w")
    refine ⟨[5, 6], rfl, ?_⟩
    (refine (Exists.intro _ (And.intro rfl (sel_ff rfl (And.intro rfl (And.intro rfl (Exists.intro _ (And.intro rfl (sel_ff rfl (And.intro rfl (And.intro rfl (Exists.intro _ (And.intro rfl (sel_tt rfl ?_))))))))))))); walk_at "w")
    refine ⟨isOw_bag hB3, ?_⟩
    walk_at "w"
    refine ⟨_, _, _, hT, rfl, rfl, _, _, rfl, ⟨hB3, by decide, by decide⟩, fun z b4 z0 z1 hB4 => ?_⟩
    walk_at "w"
    refine ⟨_, hN, z.toNat, by rw [show z = ((z.toNat : Nat) : Int) by omega]; rfl, by omega, ?_⟩
    (refine (Exists.intro _ (And.intro rfl ?_)); walk_at "w")
    exact h _ _ _ (by omega) (Lie.none _) (fun _ _ _ => bd0 _) hB4
  · (refine (And.intro rfl (And.intro rfl (Exists.intro _ (And.intro rfl (sel_ff rfl (Exists.intro _ (And.intro rfl (sel_ff rfl (And.intro rfl (And.intro rfl (Exists.intro _ (And.intro rfl (sel_ff rfl (Exists.intro _ (And.intro rfl (sel_ff rfl (And.intro rfl (And.intro rfl (Exists.intro _ (And.intro rfl (sel_ff rfl (Exists.intro _ (And.intro rfl (sel_ff rfl (And.intro rfl (And.intro rfl (Exists.intro _ (And.intro rfl (sel_ff rfl (Exists.intro _ (And.intro rfl (sel_ff rfl (And.intro rfl (And.intro rfl (Exists.intro _ (And.intro rfl (sel_ff rfl (Exists.intro _ (And.intro rfl (sel_ff rfl ?_)))))))))))))))))))))))))))))))))))))))); walk_at "w")
    refine ⟨[5, 6], rfl, ?_⟩
    (refine (Exists.intro _ (And.intro rfl (sel_ff rfl (And.intro rfl (And.intro rfl (Exists.intro _ (And.intro rfl (sel_ff rfl (And.intro rfl (And.intro rfl (Exists.intro _ (And.intro rfl (sel_tt rfl ?_))))))))))))); walk_at "w")
    refine ⟨isOw_bag hB3, ?_⟩
    walk_at "w"
    refine ⟨_, _, _, hT, rfl, rfl, _, _, rfl, ⟨hB3, by decide, by decide⟩, fun z b4 z0 z1 hB4 => ?_⟩
    walk_at "w"
    refine ⟨_, hN, z.toNat, by rw [show z = ((z.toNat : Nat) : Int) by omega]; rfl, by omega, ?_⟩
    (refine (Exists.intro _ (And.intro rfl ?_)); walk_at "w")
    exact h _ _ _ (by omega) (Lie.none _) (fun _ _ _ => bd0 _) hB4
  · (refine (And.intro rfl (And.intro rfl (Exists.intro _ (And.intro rfl (sel_ff rfl (Exists.intro _ (And.intro rfl (sel_ff rfl (And.intro rfl (And.intro rfl (Exists.intro _ (And.intro rfl (sel_ff rfl (Exists.intro _ (And.intro rfl (sel_ff rfl (And.intro rfl (And.intro rfl (Exists.intro _ (And.intro rfl (sel_ff rfl (Exists.intro _ (And.intro rfl (sel_ff rfl (And.intro rfl (And.intro rfl (Exists.intro _ (And.intro rfl (sel_ff rfl (Exists.intro _ (And.intro rfl (sel_ff rfl (And.intro rfl (And.intro rfl (Exists.intro _ (And.intro rfl (sel_ff rfl (Exists.intro _ (And.intro rfl (sel_ff rfl ?_)))))))))))))))))))))))))))))))))))))))); walk_at "w")
    refine ⟨[5, 6], rfl, ?_⟩
    (refine (Exists.intro _ (And.intro rfl (sel_ff rfl (And.intro rfl (And.intro rfl (Exists.intro _ (And.intro rfl (sel_ff rfl (And.intro rfl (And.intro rfl (Exists.intro _ (And.intro rfl (sel_tt rfl ?_))))))))))))); walk_at "w")
    refine ⟨isOw_bag hB3, ?_⟩
    walk_at "w"
    refine ⟨_, _, _, hT, rfl, rfl, _, _, rfl, ⟨hB3, by decide, by decide⟩, fun z b4 z0 z1 hB4 => ?_⟩
    walk_at "w"
    refine ⟨_, hN, z.toNat, by rw [show z = ((z.toNat : Nat) : Int) by omega]; rfl, by omega, ?_⟩
    (refine (Exists.intro _ (And.intro rfl ?_)); walk_at "w")
    exact h _ _ _ (by omega) (Lie.none _) (fun _ _ _ => bd0 _) hB4
  · (refine (And.intro rfl (And.intro rfl (Exists.intro _ (And.intro rfl (sel_ff rfl (Exists.intro _ (And.intro rfl (sel_ff rfl (And.intro rfl (And.intro rfl (Exists.intro _ (And.intro rfl (sel_ff rfl (Exists.intro _ (And.intro rfl (sel_ff rfl (And.intro rfl (And.intro rfl (Exists.intro _ (And.intro rfl (sel_ff rfl (Exists.intro _ (And.intro rfl (sel_ff rfl (And.intro rfl (And.intro rfl (Exists.intro _ (And.intro rfl (sel_ff rfl (Exists.intro _ (And.intro rfl (sel_ff rfl (And.intro rfl (And.intro rfl (Exists.intro _ (And.intro rfl (sel_ff rfl (Exists.intro _ (And.intro rfl (sel_ff rfl ?_)))))))))))))))))))))))))))))))))))))))); walk_at "w")
    refine ⟨[5, 6], rfl, ?_⟩
    (refine (Exists.intro _ (And.intro rfl (sel_ff rfl (And.intro rfl (And.intro rfl (Exists.intro _ (And.intro rfl (sel_ff rfl (And.intro rfl (And.intro rfl (Exists.intro _ (And.intro rfl (sel_ff rfl ?_))))))))))))); walk_at "w")
    refine ⟨_, h3, va, vb, vc, rfl, ?_⟩
    walk_at "w"
    refine ⟨_, h3, vx, vy, vz, rfl, ?_⟩
    (refine (And.intro rfl (And.intro rfl (ixD_l rfl (Exists.intro _ (And.intro rfl ?_))))); walk_at "w")
    exact T1 3 _ (by decide) (by decide) rfl hB3
  · (refine (And.intro rfl (And.intro rfl (Exists.intro _ (And.intro rfl (sel_ff rfl (Exists.intro _ (And.intro rfl (sel_ff rfl (And.intro rfl (And.intro rfl (Exists.intro _ (And.intro rfl (sel_ff rfl (Exists.intro _ (And.intro rfl (sel_ff rfl (And.intro rfl (And.intro rfl (Exists.intro _ (And.intro rfl (sel_ff rfl (Exists.intro _ (And.intro rfl (sel_ff rfl (And.intro rfl (And.intro rfl (Exists.intro _ (And.intro rfl (sel_ff rfl (Exists.intro _ (And.intro rfl (sel_ff rfl (And.intro rfl (And.intro rfl (Exists.intro _ (And.intro rfl (sel_ff rfl (Exists.intro _ (And.intro rfl (sel_ff rfl ?_)))))))))))))))))))))))))))))))))))))))); walk_at "w")
    refine ⟨[5, 6], rfl, ?_⟩
    (refine (Exists.intro _ (And.intro rfl (sel_ff rfl (And.intro rfl (And.intro rfl (Exists.intro _ (And.intro rfl (sel_ff rfl (And.intro rfl (And.intro rfl (Exists.intro _ (And.intro rfl (sel_ff rfl ?_))))))))))))); walk_at "w")
    refine ⟨_, h3, va, vb, vc, rfl, ?_⟩
    walk_at "w"
    refine ⟨_, h3, vx, vy, vz, rfl, ?_⟩
    (refine (And.intro rfl (And.intro rfl (ixD_l rfl (Exists.intro _ (And.intro rfl ?_))))); walk_at "w")
    exact T1 4 _ (by decide) (by decide) rfl hB3
  · (refine (And.intro rfl (And.intro rfl (Exists.intro _ (And.intro rfl (sel_ff rfl (Exists.intro _ (And.intro rfl (sel_ff rfl (And.intro rfl (And.intro rfl (Exists.intro _ (And.intro rfl (sel_ff rfl (Exists.intro _ (And.intro rfl (sel_ff rfl (And.intro rfl (And.intro rfl (Exists.intro _ (And.intro rfl (sel_ff rfl (Exists.intro _ (And.intro rfl (sel_ff rfl (And.intro rfl (And.intro rfl (Exists.intro _ (And.intro rfl (sel_ff rfl (Exists.intro _ (And.intro rfl (sel_ff rfl (And.intro rfl (And.intro rfl (Exists.intro _ (And.intro rfl (sel_ff rfl (Exists.intro _ (And.intro rfl (sel_ff rfl ?_)))))))))))))))))))))))))))))))))))))))); walk_at "w")
    refine ⟨[5, 6], rfl, ?_⟩
    (refine (Exists.intro _ (And.intro rfl (sel_ff rfl (And.intro rfl (And.intro rfl (Exists.intro _ (And.intro rfl (sel_ff rfl (And.intro rfl (And.intro rfl (Exists.intro _ (And.intro rfl (sel_ff rfl ?_))))))))))))); walk_at "w")
    refine ⟨_, h3, va, vb, vc, rfl, ?_⟩
    walk_at "w"
    refine ⟨_, h3, vx, vy, vz, rfl, ?_⟩
    (refine (And.intro rfl (And.intro rfl (ixD_l rfl (Exists.intro _ (And.intro rfl ?_))))); walk_at "w")
    exact T1 5 _ (by decide) (by decide) rfl hB3
  · (refine (And.intro rfl (And.intro rfl (Exists.intro _ (And.intro rfl (sel_ff rfl (Exists.intro _ (And.intro rfl (sel_ff rfl (And.intro rfl (And.intro rfl (Exists.intro _ (And.intro rfl (sel_ff rfl (Exists.intro _ (And.intro rfl (sel_ff rfl (And.intro rfl (And.intro rfl (Exists.intro _ (And.intro rfl (sel_ff rfl (Exists.intro _ (And.intro rfl (sel_ff rfl (And.intro rfl (And.intro rfl (Exists.intro _ (And.intro rfl (sel_ff rfl (Exists.intro _ (And.intro rfl (sel_ff rfl (And.intro rfl (And.intro rfl (Exists.intro _ (And.intro rfl (sel_ff rfl (Exists.intro _ (And.intro rfl (sel_ff rfl ?_)))))))))))))))))))))))))))))))))))))))); walk_at "w")
    refine ⟨[5, 6], rfl, ?_⟩
    (refine (Exists.intro _ (And.intro rfl (sel_ff rfl (And.intro rfl (And.intro rfl (Exists.intro _ (And.intro rfl (sel_ff rfl (And.intro rfl (And.intro rfl (Exists.intro _ (And.intro rfl (sel_ff rfl ?_))))))))))))); walk_at "w")
    refine ⟨_, h3, va, vb, vc, rfl, ?_⟩
    walk_at "w"
    refine ⟨_, h3, vx, vy, vz, rfl, ?_⟩
    (refine (And.intro rfl (And.intro rfl (ixD_l rfl (Exists.intro _ (And.intro rfl ?_))))); walk_at "w")
    exact T1 6 _ (by decide) (by decide) rfl hB3
  · (refine (And.intro rfl (And.intro rfl (Exists.intro _ (And.intro rfl (sel_ff rfl (Exists.intro _ (And.intro rfl (sel_ff rfl (And.intro rfl (And.intro rfl (Exists.intro _ (And.intro rfl (sel_ff rfl (Exists.intro _ (And.intro rfl (sel_ff rfl (And.intro rfl (And.intro rfl (Exists.intro _ (And.intro rfl (sel_ff rfl (Exists.intro _ (And.intro rfl (sel_ff rfl (And.intro rfl (And.intro rfl (Exists.intro _ (And.intro rfl (sel_ff rfl (Exists.intro _ (And.intro rfl (sel_ff rfl (And.intro rfl (And.intro rfl (Exists.intro _ (And.intro rfl (sel_ff rfl (Exists.intro _ (And.intro rfl (sel_ff rfl ?_)))))))))))))))))))))))))))))))))))))))); walk_at "w")
    refine ⟨[5, 6], rfl, ?_⟩
    (refine (Exists.intro _ (And.intro rfl (sel_ff rfl (And.intro rfl (And.intro rfl (Exists.intro _ (And.intro rfl (sel_ff rfl (And.intro rfl (And.intro rfl (Exists.intro _ (And.intro rfl (sel_ff rfl ?_))))))))))))); walk_at "w")
    refine ⟨_, h3, va, vb, vc, rfl, ?_⟩
    walk_at "w"
    refine ⟨_, h3, vx, vy, vz, rfl, ?_⟩
    (refine (And.intro rfl (And.intro rfl (ixD_l rfl (Exists.intro _ (And.intro rfl ?_))))); walk_at "w")
    exact T1 3 _ (by decide) (by decide) rfl hB3
  · (refine (And.intro rfl (And.intro rfl (Exists.intro _ (And.intro rfl (sel_ff rfl (Exists.intro _ (And.intro rfl (sel_ff rfl (And.intro rfl (And.intro rfl (Exists.intro _ (And.intro rfl (sel_ff rfl (Exists.intro _ (And.intro rfl (sel_ff rfl (And.intro rfl (And.intro rfl (Exists.intro _ (And.intro rfl (sel_ff rfl (Exists.intro _ (And.intro rfl (sel_ff rfl (And.intro rfl (And.intro rfl (Exists.intro _ (And.intro rfl (sel_ff rfl (Exists.intro _ (And.intro rfl (sel_ff rfl (And.intro rfl (And.intro rfl (Exists.intro _ (And.intro rfl (sel_ff rfl (Exists.intro _ (And.intro rfl (sel_ff rfl ?_)))))))))))))))))))))))))))))))))))))))); walk_at "w")
    refine ⟨[5, 6], rfl, ?_⟩
    (refine (Exists.intro _ (And.intro rfl (sel_ff rfl (And.intro rfl (And.intro rfl (Exists.intro _ (And.intro rfl (sel_ff rfl (And.intro rfl (And.intro rfl (Exists.intro _ (And.intro rfl (sel_ff rfl ?_))))))))))))); walk_at "w")
    refine ⟨_, h3, va, vb, vc, rfl, ?_⟩
    walk_at "w"
    refine ⟨_, h3, vx, vy, vz, rfl, ?_⟩
    (refine (And.intro rfl (And.intro rfl (ixD_l rfl (Exists.intro _ (And.intro rfl ?_))))); walk_at "w")
    exact T1 4 _ (by decide) (by decide) rfl hB3
  · (refine (And.intro rfl (And.intro rfl (Exists.intro _ (And.intro rfl (sel_ff rfl (Exists.intro _ (And.intro rfl (sel_ff rfl (And.intro rfl (And.intro rfl (Exists.intro _ (And.intro rfl (sel_ff rfl (Exists.intro _ (And.intro rfl (sel_ff rfl (And.intro rfl (And.intro rfl (Exists.intro _ (And.intro rfl (sel_ff rfl (Exists.intro _ (And.intro rfl (sel_ff rfl (And.intro rfl (And.intro rfl (Exists.intro _ (And.intro rfl (sel_ff rfl (Exists.intro _ (And.intro rfl (sel_ff rfl (And.intro rfl (And.intro rfl (Exists.intro _ (And.intro rfl (sel_ff rfl (Exists.intro _ (And.intro rfl (sel_ff rfl ?_)))))))))))))))))))))))))))))))))))))))); walk_at "w")
    refine ⟨[5, 6], rfl, ?_⟩
    (refine (Exists.intro _ (And.intro rfl (sel_ff rfl (And.intro rfl (And.intro rfl (Exists.intro _ (And.intro rfl (sel_ff rfl (And.intro rfl (And.intro rfl (Exists.intro _ (And.intro rfl (sel_ff rfl ?_))))))))))))); walk_at "w")
    refine ⟨_, h3, va, vb, vc, rfl, ?_⟩
    walk_at "w"
    refine ⟨_, h3, vx, vy, vz, rfl, ?_⟩
    (refine (And.intro rfl (And.intro rfl (ixD_l rfl (Exists.intro _ (And.intro rfl ?_))))); walk_at "w")
    exact T1 5 _ (by decide) (by decide) rfl hB3
  · (refine (And.intro rfl (And.intro rfl (Exists.intro _ (And.intro rfl (sel_ff rfl (Exists.intro _ (And.intro rfl (sel_ff rfl (And.intro rfl (And.intro rfl (Exists.intro _ (And.intro rfl (sel_ff rfl (Exists.intro _ (And.intro rfl (sel_ff rfl (And.intro rfl (And.intro rfl (Exists.intro _ (And.intro rfl (sel_ff rfl (Exists.intro _ (And.intro rfl (sel_ff rfl (And.intro rfl (And.intro rfl (Exists.intro _ (And.intro rfl (sel_ff rfl (Exists.intro _ (And.intro rfl (sel_ff rfl (And.intro rfl (And.intro rfl (Exists.intro _ (And.intro rfl (sel_ff rfl (Exists.intro _ (And.intro rfl (sel_ff rfl ?_)))))))))))))))))))))))))))))))))))))))); walk_at "w")
    refine ⟨[5, 6], rfl, ?_⟩
    (refine (Exists.intro _ (And.intro rfl (sel_ff rfl (And.intro rfl (And.intro rfl (Exists.intro _ (And.intro rfl (sel_ff rfl (And.intro rfl (And.intro rfl (Exists.intro _ (And.intro rfl (sel_ff rfl ?_))))))))))))); walk_at "w")
    refine ⟨_, h3, va, vb, vc, rfl, ?_⟩
    walk_at "w"
    refine ⟨_, h3, vx, vy, vz, rfl, ?_⟩
    (refine (And.intro rfl (And.intro rfl (ixD_l rfl (Exists.intro _ (And.intro rfl ?_))))); walk_at "w")
    exact T1 6 _ (by decide) (by decide) rfl hB3
  · (refine (And.intro rfl (And.intro rfl (Exists.intro _ (And.intro rfl (sel_ff rfl (Exists.intro _ (And.intro rfl (sel_ff rfl (And.intro rfl (And.intro rfl (Exists.intro _ (And.intro rfl (sel_ff rfl (Exists.intro _ (And.intro rfl (sel_ff rfl (And.intro rfl (And.intro rfl (Exists.intro _ (And.intro rfl (sel_ff rfl (Exists.intro _ (And.intro rfl (sel_ff rfl (And.intro rfl (And.intro rfl (Exists.intro _ (And.intro rfl (sel_ff rfl (Exists.intro _ (And.intro rfl (sel_ff rfl (And.intro rfl (And.intro rfl (Exists.intro _ (And.intro rfl (sel_ff rfl (Exists.intro _ (And.intro rfl (sel_ff rfl ?_)))))))))))))))))))))))))))))))))))))))); walk_at "w")
    refine ⟨[5, 6], rfl, ?_⟩
    (refine (Exists.intro _ (And.intro rfl (sel_ff rfl (And.intro rfl (And.intro rfl (Exists.intro _ (And.intro rfl (sel_ff rfl (And.intro rfl (And.intro rfl (Exists.intro _ (And.intro rfl (sel_ff rfl ?_))))))))))))); walk_at "w")
    refine ⟨_, h3, va, vb, vc, rfl, ?_⟩
    walk_at "w"
    refine ⟨_, h3, vx, vy, vz, rfl, ?_⟩
    (refine (And.intro rfl (And.intro rfl (ixD_l rfl (Exists.intro _ (And.intro rfl ?_))))); walk_at "w")
    exact T2 3 _ (by decide) (by decide) rfl hB3
  · (refine (And.intro rfl (And.intro rfl (Exists.intro _ (And.intro rfl (sel_ff rfl (Exists.intro _ (And.intro rfl (sel_ff rfl (And.intro rfl (And.intro rfl (Exists.intro _ (And.intro rfl (sel_ff rfl (Exists.intro _ (And.intro rfl (sel_ff rfl (And.intro rfl (And.intro rfl (Exists.intro _ (And.intro rfl (sel_ff rfl (Exists.intro _ (And.intro rfl (sel_ff rfl (And.intro rfl (And.intro rfl (Exists.intro _ (And.intro rfl (sel_ff rfl (Exists.intro _ (And.intro rfl (sel_ff rfl (And.intro rfl (And.intro rfl (Exists.intro _ (And.intro rfl (sel_ff rfl (Exists.intro _ (And.intro rfl (sel_ff rfl ?_)))))))))))))))))))))))))))))))))))))))); walk_at "w")
    refine ⟨[5, 6], rfl, ?_⟩
    (refine (Exists.intro _ (And.intro rfl (sel_ff rfl (And.intro rfl (And.intro rfl (Exists.intro _ (And.intro rfl (sel_ff rfl (And.intro rfl (And.intro rfl (Exists.intro _ (And.intro rfl (sel_ff rfl ?_))))))))))))); walk_at "w")
    refine ⟨_, h3, va, vb, vc, rfl, ?_⟩
    walk_at "w"
    refine ⟨_, h3, vx, vy, vz, rfl, ?_⟩
    (refine (And.intro rfl (And.intro rfl (ixD_l rfl (Exists.intro _ (And.intro rfl ?_))))); walk_at "w")
    exact T2 4 _ (by decide) (by decide) rfl hB3
  · (refine (And.intro rfl (And.intro rfl (Exists.intro _ (And.intro rfl (sel_ff rfl (Exists.intro _ (And.intro rfl (sel_ff rfl (And.intro rfl (And.intro rfl (Exists.intro _ (And.intro rfl (sel_ff rfl (Exists.intro _ (And.intro rfl (sel_ff rfl (And.intro rfl (And.intro rfl (Exists.intro _ (And.intro rfl (sel_ff rfl (Exists.intro _ (And.intro rfl (sel_ff rfl (And.intro rfl (And.intro rfl (Exists.intro _ (And.intro rfl (sel_ff rfl (Exists.intro _ (And.intro rfl (sel_ff rfl (And.intro rfl (And.intro rfl (Exists.intro _ (And.intro rfl (sel_ff rfl (Exists.intro _ (And.intro rfl (sel_ff rfl ?_)))))))))))))))))))))))))))))))))))))))); walk_at "w")
    refine ⟨[5, 6], rfl, ?_⟩
    (refine (Exists.intro _ (And.intro rfl (sel_ff rfl (And.intro rfl (And.intro rfl (Exists.intro _ (And.intro rfl (sel_ff rfl (And.intro rfl (And.intro rfl (Exists.intro _ (And.intro rfl (sel_ff rfl ?_))))))))))))); walk_at "w")
    refine ⟨_, h3, va, vb, vc, rfl, ?_⟩
    walk_at "w"
    refine ⟨_, h3, vx, vy, vz, rfl, ?_⟩
    (refine (And.intro rfl (And.intro rfl (ixD_l rfl (Exists.intro _ (And.intro rfl ?_))))); walk_at "w")
    exact T2 5 _ (by decide) (by decide) rfl hB3
  · (refine (And.intro rfl (And.intro rfl (Exists.intro _ (And.intro rfl (sel_ff rfl (Exists.intro _ (And.intro rfl (sel_ff rfl (And.intro rfl (And.intro rfl (Exists.intro _ (And.intro rfl (sel_ff rfl (Exists.intro _ (And.intro rfl (sel_ff rfl (And.intro rfl (And.intro rfl (Exists.intro _ (And.intro rfl (sel_ff rfl (Exists.intro _ (And.intro rfl (sel_ff rfl (And.intro rfl (And.intro rfl (Exists.intro _ (And.intro rfl (sel_ff rfl (Exists.intro _ (And.intro rfl (sel_ff rfl (And.intro rfl (And.intro rfl (Exists.intro _ (And.intro rfl (sel_ff rfl (Exists.intro _ (And.intro rfl (sel_ff rfl ?_)))))))))))))))))))))))))))))))))))))))); walk_at "w")
    refine ⟨[5, 6], rfl, ?_⟩
    (refine (Exists.intro _ (And.intro rfl (sel_ff rfl (And.intro rfl (And.intro rfl (Exists.intro _ (And.intro rfl (sel_ff rfl (And.intro rfl (And.intro rfl (Exists.intro _ (And.intro rfl (sel_ff rfl ?_))))))))))))); walk_at "w")
    refine ⟨_, h3, va, vb, vc, rfl, ?_⟩
    walk_at "w"
    refine ⟨_, h3, vx, vy, vz, rfl, ?_⟩
    (refine (And.intro rfl (And.intro rfl (ixD_l rfl (Exists.intro _ (And.intro rfl ?_))))); walk_at "w")
    exact T2 6 _ (by decide) (by decide) rfl hB3
end Q

local macro_rules | `(tactic| walk_at "w") => `(tactic| (conv => whnf))
namespace Q
open PySem L2
/-! ### an algebra in a drawn base -/
structure AlgOk (n : Nat) (c : Nat → Nat → Nat → Rat) : Prop where
  lie : Lie n c
  sm : ∀ i j k, Sm 1728 (2 ^ 200) (c i j k)
def spAlgebra : FSp := fun ds Φ _ => ∃ (b : D) (most : Nat), ds = [b, .int (most : Nat)] ∧ (Bag b ∧ 3 ≤ most ∧ most ≤ 6) ∧ ∀ (n : Nat) (c : Nat → Nat → Nat → Rat) b', n ≤ most → AlgOk n c → Bag b' → Φ (cubQ n c) b'
theorem stp_bd {f : Nat → Nat → Nat → Int} {n i j m : Nat} {x : Int} (hx : Bd 2 x) (hf : ∀ a b k, Bd m (f a b k)) (a b k : Nat) : Bd (m + 9) (stp n f i j x a b k) := by
  have hA : ∀ a b k, Bd (m + 3) (stpA f i j x n a b k) := fun a b k => by
    unfold stpA
    split
    · exact (((hf _ _ _).up (by omega : m ≤ 2 + m)).add (hx.mul (hf _ _ _))).up (by omega)
    · exact (hf _ _ _).up (by omega)
  have hB : ∀ a b k, Bd (m + 6) (stpB (stpA f i j x n) i j x n a b k) := fun a b k => by
    unfold stpB
    split
    · exact (((hA _ _ _).up (by omega : m + 3 ≤ 2 + (m + 3))).add (hx.mul (hA _ _ _))).up (by omega)
    · exact (hA _ _ _).up (by omega)
  unfold stp stpC
  split
  · exact (((hB _ _ _).up (by omega : m + 6 ≤ 2 + (m + 6))).sub (hx.mul (hB _ _ _))).up (by omega)
  · exact (hB _ _ _).up (by omega)
theorem resc_sm {f : Nat → Nat → Nat → Int} {at_ : Nat} {t b : Int} (hf : ∀ i j k, Bd 150 (f i j k)) (ht : 1 ≤ t ∧ t ≤ 3) (hb : 1 ≤ b ∧ b ≤ 4) (i j k : Nat) : Sm 1728 (2 ^ 200) (resc (toQ f) at_ ((t : Rat) / (b : Rat)) i j k) := by
  have h := resc_val (f := f) (at_ := at_) (i := i) (j := j) (k := k) (t := t) (b := b) (by omega) (by omega)
  rw [← h]
  have hx := hf i j k
  generalize f i j k = x at *
  have ht' : t = 1 ∨ t = 2 ∨ t = 3 := by omega
  have hb' : b = 1 ∨ b = 2 ∨ b = 3 ∨ b = 4 := by omega
  -- top and bottom
  have go : ∀ (u d e : Int), 0 < d → d * e = 1728 → u.natAbs ≤ 48 → Sm 1728 (2 ^ 200) (((x * u : Int) : Rat) / (d : Rat)) := fun u d e hd hde hu => by
    refine ⟨by decide, x * u * e, ?_, ?_⟩
    · have hd' : (d : Rat) ≠ 0 := by
        have : d ≠ 0 := by omega
        simpa using this
      have he : ((d * e : Int) : Rat) = ((1728 : Int) : Rat) := by rw [hde]
      rw [Rat.intCast_mul] at he
      rw [Rat.intCast_mul (x * u) e]
      have h17 : (((1728 : Nat) : Int) : Rat) = (d : Rat) * (e : Rat) := he.symm
      rw [h17]
      have he' : (e : Rat) ≠ 0 := by
        have : e ≠ 0 := fun z => by rw [z] at hde; omega
        simpa using this
      grind
    · have h1 : e.natAbs ≤ 1728 := by
        have : (d * e).natAbs = 1728 := by rw [hde]; rfl
        rw [Int.natAbs_mul] at this
        have h2 : 1 ≤ d.natAbs := by omega
        calc e.natAbs = 1 * e.natAbs := (Nat.one_mul _).symm
          _ ≤ d.natAbs * e.natAbs := Nat.mul_le_mul_right _ h2
          _ = 1728 := this
      have h2 : (x * u * e).natAbs ≤ x.natAbs * 48 * 1728 := by
        rw [Int.natAbs_mul, Int.natAbs_mul]
        exact Nat.mul_le_mul (Nat.mul_le_mul_left _ hu) h1
      have h3 : x.natAbs < 2 ^ 150 := hx
      have h4 : (2 : Nat) ^ 200 = 2 ^ 150 * 2 ^ 50 := by decide
      omega
  rcases ht' with rfl | rfl | rfl <;> rcases hb' with rfl | rfl | rfl | rfl <;> split <;> split <;> split <;> first
    | exact go _ _ 1728 (by decide) (by decide) (by decide) | exact go _ _ 864 (by decide) (by decide) (by decide) | exact go _ _ 576 (by decide) (by decide) (by decide) | exact go _ _ 432 (by decide) (by decide) (by decide) | exact go _ _ 288 (by decide) (by decide) (by decide)
    | exact go _ _ 216 (by decide) (by decide) (by decide) | exact go _ _ 192 (by decide) (by decide) (by decide) | exact go _ _ 144 (by decide) (by decide) (by decide) | exact go _ _ 108 (by decide) (by decide) (by decide) | exact go _ _ 96 (by decide) (by decide) (by decide)
    | exact go _ _ 64 (by decide) (by decide) (by decide) | exact go _ _ 54 (by decide) (by decide) (by decide) | exact go _ _ 36 (by decide) (by decide) (by decide) | exact go _ _ 72 (by decide) (by decide) (by decide) | exact go _ _ 48 (by decide) (by decide) (by decide)
def entIntegers : Ent := ⟨⟨"_law_integers", some 1, 2, 0⟩, spIntegers⟩
theorem pick4 {z : Int} (h0 : 0 ≤ z) (h : z < 4) : ∃ v : Int, atI [PyData.int 1, .int (-1), .int 2, .int (-2)] z = some (.int v) ∧ Sml v := by
  have : z = 0 ∨ z = 1 ∨ z = 2 ∨ z = 3 := by omega
  rcases this with rfl | rfl | rfl | rfl <;> exact ⟨_, rfl, by unfold Sml; decide⟩
theorem ok_algebra {body : Ss} (Γ : List Ent) (iT iI iS iR : Nat) (hT : Γ[iT]? = some entTake) (hI : Γ[iI]? = some entIntegers) (hS : ∃ s, Γ[iS]? = some ⟨s, spStepped⟩) (hR : ∃ s, Γ[iR]? = some ⟨s, spRescaled⟩) (hb : body = bAlgebra iT iI iS iR) : ∀ ds Φ Ξ, ds.length = 2 → spAlgebra ds Φ Ξ → svs Γ body (ktOf (some 1) Φ Ξ) (Q.envOf (some 1) 7 ds) := by
  subst hb
  obtain ⟨sS, hS⟩ := hS
  obtain ⟨sR, hR⟩ := hR
  rintro ds Φ Ξ - ⟨b, most, rfl, ⟨hB, hm3, hm6⟩, h⟩
  walk_at "w"
  refine ⟨isOw_bag hB, ?_⟩
  walk_at "w"
  refine ⟨_, _, _, hI, rfl, rfl, b, most, rfl, ⟨hB, hm3, hm6⟩, fun n f b1 hn hL hf hB1 => ?_⟩
  walk_at "w"
  refine len_tab ?_
  walk_at "w"
  refine ⟨isOw_bag hB1, ?_⟩
  walk_at "w"
  refine ⟨_, _, _, hT, rfl, rfl, _, 6, rfl, ⟨hB1, by decide, by decide⟩, fun z b2 z0 z1 hB2 => ?_⟩
  walk_at "w"
  have hbit : ∀ (b : Bool) (z : Int), 0 ≤ z → z < 6 → IntMulOk z (if b = true then 1 else 0) ∧ (-16777216 ≤ z * (if b = true then 1 else 0) ∧ z * (if b = true then 1 else 0) ≤ 16777216) := fun b z h0 h1 => by
    cases b
    · exact ⟨(show Bd 3 z by unfold Bd; omega).mulok (bd0 3) (by decide), by simp⟩
    · exact ⟨(show Bd 3 z by unfold Bd; omega).mulok (show Bd 1 1 by unfold Bd; decide) (by decide), by simp; omega⟩
  refine ⟨(hbit _ z z0 z1).1, ?_⟩
  (refine (Exists.intro _ (And.intro rfl ?_)); walk_at "w")
  refine ⟨(hbit _ z z0 z1).2, ?_⟩
  refine for_tab (fun t ρ => ∃ f b c4 c5 c6, ρ = [.ow 1 b, .va (.int (most : Nat)), .va (cub n f), .va (.int (n : Nat)), c4, c5, c6] ∧ Lie n f ∧ (∀ i j k, Bd (100 + 9 * t) (f i j k)) ∧ Bag b) ⟨f, b2, .un, .un, .un, rfl, hL, hf, hB2⟩ ?_ ?_
  · rintro t ρ ht ⟨f, b, c4, c5, c6, rfl, hL, hf, hB⟩ W hW
    have ht5 : t < 5 ∧ 1 < n := by
      by_cases q : 1 < n
      · refine ⟨?_, q⟩
        have : decide ((1 : Int) < (n : Nat)) = true := by simp; omega
        rw [this] at ht
        simp at ht
        omega
      · exfalso
        have : decide ((1 : Int) < (n : Nat)) = false := by simp; omega
        rw [this] at ht
        simp at ht
    obtain ⟨ht5, hn1⟩ := ht5
    walk_at "w"
    refine ⟨isOw_bag hB, ?_⟩
    walk_at "w"
    refine ⟨_, _, _, hT, rfl, rfl, _, _, rfl, ⟨hB, by omega, by omega⟩, fun i b3 i0 i1 hB3 => ?_⟩
    walk_at "w"
    refine ⟨isOw_bag hB3, ?_⟩
    walk_at "w"
    refine ⟨_, _, _, hT, rfl, rfl, _, _, rfl, ⟨hB3, by omega, by omega⟩, fun w b4 w0 w1 hB4 => ?_⟩
    walk_at "w"
    refine ⟨by omega, ?_⟩
    (refine (Exists.intro _ (And.intro rfl (Exists.intro _ (And.intro rfl ?_)))); walk_at "w")
    refine ⟨isOw_bag hB4, ?_⟩
    walk_at "w"
    refine ⟨_, _, _, hT, rfl, rfl, _, 4, rfl, ⟨hB4, by decide, by decide⟩, fun v b5 v0 v1 hB5 => ?_⟩
    walk_at "w"
    obtain ⟨x, e1, e2⟩ := pick4 v0 v1
    refine ixD_l e1 ?_
    walk_at "w"
    obtain ⟨i', rfl⟩ : ∃ i' : Nat, i = i' := ⟨i.toNat, by omega⟩
    obtain ⟨w', rfl⟩ : ∃ w' : Nat, w = w' := ⟨w.toNat, by omega⟩
    have hj : ((i' : Int) + 1 + (w' : Int)).fmod (n : Nat) = (((i' + 1 + w') % n : Nat) : Int) := by
      have := fmodN (i' + 1 + w') n (by omega)
      simpa using this
    have hjn : (i' + 1 + w') % n < n := Nat.mod_lt _ (by omega)
    have hij : i' ≠ (i' + 1 + w') % n := by
      by_cases q : i' + 1 + w' < n
      · rw [Nat.mod_eq_of_lt q]; omega
      · rw [Nat.mod_eq_sub_mod (by omega), Nat.mod_eq_of_lt (by omega)]; omega
    refine ⟨_, hS, n, f, i', (i' + 1 + w') % n, x, by rw [hj], ⟨by omega, by omega, hjn, hij, e2.bd (by decide), fun a b k => (hf a b k).up (by omega)⟩, ?_⟩
    refine hW _ ⟨stp n f i' ((i' + 1 + w') % n) x, b5, _, _, _, rfl, hL.stp (by omega) hjn hij, fun a b k => (stp_bd (e2.bd (by decide)) hf a b k).up (by omega), hB5⟩
  · rintro ρ ⟨f, b, c4, c5, c6, rfl, hL, hf, hB⟩
    have hf : ∀ i j k, Bd 150 (f i j k) := fun i j k => (hf i j k).up (by
      have : (z * (if decide ((1 : Int) < (n : Nat)) = true then 1 else 0)).toNat ≤ 5 := by
        cases decide ((1 : Int) < (n : Nat))
        · simp
        · simp; omega
      omega)
    have hq : ∀ (at_ : Nat) (t b : Int), 1 ≤ t ∧ t ≤ 3 → 1 ≤ b ∧ b ≤ 4 → AlgOk n (resc (toQ f) at_ ((t : Rat) / (b : Rat))) := fun at_ t b ht hb => by
      refine ⟨hL.toQ.resc ?_, resc_sm hf ht hb⟩
      have h1 : (t : Rat) ≠ 0 := by
        have : t ≠ 0 := by omega
        simpa using this
      have h2 : (b : Rat) ≠ 0 := by
        have : b ≠ 0 := by omega
        simpa using this
      grind
    (refine (And.intro rfl (And.intro rfl (Exists.intro _ (And.intro rfl ?_)))); walk_at "w")
    refine sel_mk (fun q => ?_) (fun q => ?_)
    · have hn0 : n = 0 := by
        have : ((n : Nat) : Int) = 0 := by simpa using q
        omega
      subst hn0
      have := h 0 _ b (by omega) (hq 0 1 1 (by omega) (by omega)) hB
      have e : cubQ 0 (resc (toQ f) 0 (((1 : Int) : Rat) / ((1 : Int) : Rat))) = .list [] := tab_eq _ _
      rw [e] at this
      (refine (Exists.intro _ (And.intro rfl ?_)); walk_at "w")
      exact this
    · have hn0 : n ≠ 0 := fun z => by
        have : ¬ ((n : Nat) : Int) = 0 := by simpa using q
        omega
      walk_at "w"
      refine ⟨isOw_bag hB, ?_⟩
      walk_at "w"
      refine ⟨_, _, _, hT, rfl, rfl, _, 4, rfl, ⟨hB, by decide, by decide⟩, fun v b3 v0 v1 hB3 => ?_⟩
      (refine (Exists.intro _ (And.intro rfl ?_)); walk_at "w")
      refine sel_mk (fun q => ?_) (fun q => ?_)
      · walk_at "w"
        refine ⟨_, hR, n, 0, f, 1, 1, rfl, ⟨by omega, fun i j k => (hf i j k).up (by decide), by unfold Bd; decide, by unfold Bd; decide, by decide, by decide⟩, ?_⟩
        (refine (Exists.intro _ (And.intro rfl ?_)); walk_at "w")
        exact h n _ _ hn (hq 0 1 1 (by omega) (by omega)) hB3
      · walk_at "w"
        refine ⟨isOw_bag hB3, ?_⟩
        walk_at "w"
        refine ⟨_, _, _, hT, rfl, rfl, _, _, rfl, ⟨hB3, by omega, by omega⟩, fun i b4 i0 i1 hB4 => ?_⟩
        walk_at "w"
        refine ⟨isOw_bag hB4, ?_⟩
        walk_at "w"
        refine ⟨_, _, _, hT, rfl, rfl, _, 3, rfl, ⟨hB4, by decide, by decide⟩, fun t b5 t0 t1 hB5 => ?_⟩
        walk_at "w"
        refine ⟨isOw_bag hB5, ?_⟩
        walk_at "w"
        refine ⟨_, _, _, hT, rfl, rfl, _, 3, rfl, ⟨hB5, by decide, by decide⟩, fun u b6 u0 u1 hB6 => ?_⟩
        walk_at "w"
        obtain ⟨i', rfl⟩ : ∃ i' : Nat, i = i' := ⟨i.toNat, by omega⟩
        refine ⟨_, hR, n, i', f, 1 + t, 2 + u, rfl, ⟨by omega, fun i j k => (hf i j k).up (by decide), by unfold Bd; omega, by unfold Bd; omega, by omega, by omega⟩, ?_⟩
        (refine (Exists.intro _ (And.intro rfl ?_)); walk_at "w")
        exact h n _ _ hn (hq i' (1 + t) (2 + u) (by omega) (by omega)) hB6
end Q

/-! ## Rows and tables of fractions: the laws' own defs -/
local macro_rules | `(tactic| walk_at "w") => `(tactic| (conv => whnf))
namespace Q
open PySem L2
-- _law_more: ['_law_row_here', '_law_other', '_law_number', '_law_u', '_law_v']
def bMore (iPlus iTimes : Nat) : Ss :=
    (.cons (.ite (.cmp .Eq (.ix (.var 2) (.int 0)) (.int 0)) (.cons (.ret (.lof (.var 0)))
    .nil) .nil)
    (.cons (.ret (.comp 0 [3, 4] (.tp (.cons (.nm 3) (.cons (.nm 4) .nil))) (.zip (.var 0) (.var 1)) .none (.call iPlus 0 (.cons (.var 3) (.cons (.call iTimes 0 (.cons (.var 2) (.cons (.var 4) .nil))) .nil)))))
    .nil))
-- _law_led: ['_law_table', '_law_v', '_law_found', '_law_number', '_law_row_here']
def bLed (iMore : Nat) : Ss :=
    (.cons (.set 2 (.comp 0 [3] (.nm 3) (.lst (.var 1)) .none (.tup (.cons (.int 0) (.cons (.int 1) .nil)))))
    (.cons (.for (.tp (.cons (.nm 3) (.cons (.nm 4) .nil))) (.zip (.var 1) (.var 0)) (.cons (.set 2 (.call iMore 0 (.cons (.var 2) (.cons (.var 4) (.cons (.var 3) .nil)))))
    .nil))
    (.cons (.ret (.var 2))
    .nil)))
-- _law_product: ['_law_algebra_here', '_law_u', '_law_v', '_law_found', '_law_number', '_law_table']
def bProduct (iMore iLed : Nat) : Ss :=
    (.cons (.set 3 (.comp 0 [4] (.nm 4) (.lst (.var 1)) .none (.tup (.cons (.int 0) (.cons (.int 1) .nil)))))
    (.cons (.for (.tp (.cons (.nm 4) (.cons (.nm 5) .nil))) (.zip (.var 1) (.var 0)) (.cons (.ite (.cmp .NotEq (.ix (.var 4) (.int 0)) (.int 0)) (.cons (.set 3 (.call iMore 0 (.cons (.var 3) (.cons (.call iLed 0 (.cons (.var 5) (.cons (.var 2) .nil))) (.cons (.var 4) .nil)))))
    .nil) .nil)
    .nil))
    (.cons (.ret (.var 3))
    .nil)))
-- _law_whole: ['_law_thing']
def bWhole : Ss :=
    (.cons (.ret (.and (.isi (.var 0) .int) (.not (.isi (.var 0) .bool))))
    .nil)
-- _law_is_share: ['_law_thing', '_law_part']
def bIsShare (iCommon iWhole : Nat) : Ss :=
    (.cons (.ite (.or (.not (.isi (.var 0) .tuple)) (.or (.cmp .NotEq (.blt .len (.cons (.var 0) .nil)) (.int 2)) (.not (.blt .all (.cons (.comp 0 [1] (.nm 1) (.tup (.var 0)) .none (.call iWhole 0 (.cons (.var 1) .nil))) .nil))))) (.cons (.ret (.bl false))
    .nil) .nil)
    (.cons (.ret (.and (.cmp .Gt (.ix (.var 0) (.int 1)) (.int 0)) (.cmp .Eq (.call iCommon 0 (.cons (.ix (.var 0) (.int 0)) (.cons (.ix (.var 0) (.int 1)) .nil))) (.int 1))))
    .nil))
-- _law_are_rows: ['_law_size', '_law_thing', '_law_row_here', '_law_number']
def bAreRows (iIsShare : Nat) : Ss :=
    (.cons (.ite (.not (.isi (.var 1) .list)) (.cons (.ret (.bl false))
    .nil) .nil)
    (.cons (.for (.nm 2) (.lst (.var 1)) (.cons (.ite (.or (.not (.isi (.var 2) .list)) (.or (.cmp .NotEq (.blt .len (.cons (.var 2) .nil)) (.var 0)) (.not (.blt .all (.cons (.comp 0 [3] (.nm 3) (.lst (.var 2)) .none (.call iIsShare 0 (.cons (.var 3) .nil))) .nil))))) (.cons (.ret (.bl false))
    .nil) .nil)
    .nil))
    (.cons (.ret (.bl true))
    .nil)))
-- _law_trace: ['_law_one', '_law_other', '_law_total', '_law_k', '_law_row_here', '_law_j', '_law_number']
def bTrace (iPlus iTimes : Nat) : Ss :=
    (.cons (.set 2 (.tup (.cons (.int 0) (.cons (.int 1) .nil))))
    (.cons (.for (.tp (.cons (.nm 3) (.cons (.nm 4) .nil))) (.enum (.var 0)) (.cons (.for (.tp (.cons (.nm 5) (.cons (.nm 6) .nil))) (.enum (.var 4)) (.cons (.ite (.cmp .NotEq (.ix (.var 6) (.int 0)) (.int 0)) (.cons (.set 2 (.call iPlus 0 (.cons (.var 2) (.cons (.call iTimes 0 (.cons (.var 6) (.cons (.ix (.ix (.var 1) (.var 5)) (.var 3)) .nil))) .nil))))
    .nil) .nil)
    .nil))
    .nil))
    (.cons (.ret (.var 2))
    .nil)))
-- _law_traces: ['_law_algebra_here', '_law_other', '_law_one']
def bTraces (iTrace : Nat) : Ss :=
    (.cons (.ret (.comp 1 [1] (.nm 1) (.lst (.var 0)) .none (.comp 0 [2] (.nm 2) (.lst (.var 0)) .none (.call iTrace 0 (.cons (.var 2) (.cons (.var 1) .nil))))))
    .nil)
-- _law_copied: ['_law_algebra_here', '_law_rows', '_law_row_here']
def bCopied : Ss :=
    (.cons (.ret (.comp 2 [1] (.nm 1) (.lst (.var 0)) .none (.comp 1 [2] (.nm 2) (.lst (.var 1)) .none (.lof (.var 2)))))
    .nil)
-- _law_row: ['_law_bag_here', '_law_size', '_law_row_here', '_law_place']
def bRow (iTake iLowest : Nat) : Ss :=
    (.cons (.seto 2 1 (.lst 0 .nil))
    (.cons (.for (.nm 3) (.rng (.var 1)) (.cons (.app 2 (.call iLowest 0 (.cons (.ix (.lst 0 (.cons (.int 0) (.cons (.int 1) (.cons (.neg (.int 1)) (.cons (.int 2) (.cons (.int 0) (.cons (.int 3) (.cons (.neg (.int 2)) (.cons (.int 5) .nil))))))))) (.callr iTake 0 0 (.cons (.int 8) .nil))) (.cons (.op .Add (.int 1) (.callr iTake 0 0 (.cons (.int 3) .nil))) .nil))))
    .nil))
    (.cons (.ret (.var 2))
    .nil)))
-- _law_paired: ['_law_table', '_law_u', '_law_v', '_law_total', '_law_number', '_law_other']
def bPaired (iPlus iTimes iLed : Nat) : Ss :=
    (.cons (.set 3 (.tup (.cons (.int 0) (.cons (.int 1) .nil))))
    (.cons (.for (.tp (.cons (.nm 4) (.cons (.nm 5) .nil))) (.zip (.call iLed 0 (.cons (.var 0) (.cons (.var 1) .nil))) (.var 2)) (.cons (.set 3 (.call iPlus 0 (.cons (.var 3) (.cons (.call iTimes 0 (.cons (.var 4) (.cons (.var 5) .nil))) .nil))))
    .nil))
    (.cons (.ret (.var 3))
    .nil)))
-- _law_columns: ['_law_table', '_law_j', '_law_row_here']
def bColumns : Ss :=
    (.cons (.ret (.comp 1 [1] (.nm 1) (.rng (.blt .len (.cons (.var 0) .nil))) .none (.comp 0 [2] (.nm 2) (.lst (.var 0)) .none (.ix (.var 2) (.var 1)))))
    .nil)

theorem compW_nil {own : List Nat} {tg : Tg} {tst : Env → (Env → Bool → Prop) → Prop} {f : Env → (Env → D → Prop) → Prop} {acc : List D} {ρ : Env} {Φ : Env → List D → Prop} (h : Φ ρ acc) : compW own tg tst f [] acc ρ Φ := by rw [compW_n]; exact h
theorem compW_cons {Γ : List Ent} {own : List Nat} {tg : Tg} {f : Env → (Env → D → Prop) → Prop} {d : D} {ds acc : List D} {ρ : Env} {Φ : Env → List D → Prop} (h : asg tg d ρ fun ρ1 => f ρ1 fun ρ3 y => compW own tg (fun ρ k => evO Γ .none ρ k) f ds (acc ++ [y]) (wip ρ3 own) Φ) : compW own tg (fun ρ k => evO Γ .none ρ k) f (d :: ds) acc ρ Φ := by
  rw [compW_c]
  have key : ∀ ρ1, (fun (ρ : Env) (k : Env → Bool → Prop) => evO Γ .none ρ k) ρ1 = fun k => k ρ1 true := fun ρ1 => by
    funext k
    show evO Γ .none ρ1 k = _
    simp only [evO]
  simp only [key, sel_t]
  exact h
/-! ### sizes -/
def Fit (d a : Nat) : Prop := d < 2 ^ 4000 ∧ 40000 * (a + 1) ≤ 2 ^ 4000
theorem Sm.fit {d a : Nat} {x : Rat} (h : Sm d a x) (f : Fit d a) : Bq 4000 x := h.bq (by have := f.2; omega) f.1
theorem Sm.sm {d a : Nat} {f : Nat → Rat} (h : ∀ k, Sm d a (f k)) (n : Nat) : Sm d (n * a + 1) (sm n f) := by
  induction n with
  | zero => exact Sm.zero (h 0).1 (by omega)
  | succ n ih =>
    unfold Q.sm
    refine (ih.add (h n)).mono ?_
    rw [Nat.succ_mul]; omega
theorem Sm.pos {d a : Nat} {x : Rat} (h : Sm d a x) : 0 < d ∧ 0 < a := by
  obtain ⟨h0, n, _, hn⟩ := h
  exact ⟨h0, by omega⟩
theorem Fit.up {d a e b : Nat} (f : Fit e b) (h : d ≤ e) (h2 : a ≤ b) : Fit d a := ⟨by have := f.1; omega, by have := f.2; omega⟩
theorem Sm.fitL {d a e b : Nat} {x y : Rat} (hx : Sm d a x) (hy : Sm e b y) (f : Fit (d * e) (a * b)) : Bq 4000 x :=
  hx.fit (f.up (Nat.le_mul_of_pos_right _ hy.pos.1) (Nat.le_mul_of_pos_right _ hy.pos.2))
theorem Sm.fitR {d a e b : Nat} {x y : Rat} (hx : Sm d a x) (hy : Sm e b y) (f : Fit (d * e) (a * b)) : Bq 4000 y :=
  hy.fit (f.up (Nat.le_mul_of_pos_left _ hx.pos.1) (Nat.le_mul_of_pos_left _ hx.pos.2))
theorem Sm.fitSm {d a i : Nat} {f : Nat → Rat} (h : ∀ k, Sm d a (f k)) (hi : i ≤ 100) (q : Fit d a) : Bq 4000 (Q.sm i f) := by
  refine (Sm.sm h i).bq ?_ q.1
  have h1 := q.2
  have h2 : i * a ≤ 100 * a := Nat.mul_le_mul_right _ hi
  omega
theorem Sm.fitSm2 {d a i j n : Nat} {f : Nat → Nat → Rat} (h : ∀ k l, Sm d a (f k l)) (hi : i ≤ 100) (hj : j ≤ 100) (hn : n ≤ 100) (q : Fit d a) : Bq 4000 (Q.sm i (fun k => Q.sm n (f k)) + Q.sm j (f i)) := by
  refine ((Sm.sm (fun k => Sm.sm (h k) n) i).add (Sm.sm (h i) j)).bq ?_ q.1
  have h1 := q.2
  have h2 : n * a ≤ 100 * a := Nat.mul_le_mul_right _ hn
  have h3 : j * a ≤ 100 * a := Nat.mul_le_mul_right _ hj
  have h4 : i * (n * a + 1) ≤ 100 * (100 * a + 1) := Nat.mul_le_mul hi (by omega)
  omega
/-! ### rows and tables -/
def rowQ (n : Nat) (u : Nat → Rat) : D := tab n fun k => frQ (u k)
def matQ (n : Nat) (g : Nat → Nat → Rat) : D := tab n fun i => rowQ n (g i)
theorem rowQ_congr {n : Nat} {u v : Nat → Rat} (h : ∀ k, k < n → u k = v k) : rowQ n u = rowQ n v := tab_congr fun k hk => by rw [h k hk]
theorem matQ_congr {n : Nat} {u v : Nat → Nat → Rat} (h : ∀ i k, i < n → k < n → u i k = v i k) : matQ n u = matQ n v := tab_congr fun i hi => rowQ_congr fun k hk => h i k hi hk
theorem rowQ_list (n : Nat) (u : Nat → Rat) : .list ((List.range n).map fun k => frQ (u k)) = rowQ n u := by unfold rowQ; rw [tab_eq]
theorem matQ_list (n : Nat) (u : Nat → Nat → Rat) : .list ((List.range n).map fun k => rowQ n (u k)) = matQ n u := by unfold matQ; rw [tab_eq]
theorem eqv_int0 (q : Rat) : PyData.eqv (.int q.num) (.int 0) = decide (q = 0) := by
  rw [eqv_int]
  by_cases h : q = 0
  · subst h; rfl
  · rw [decide_eq_false h, decide_eq_false fun z => h (num_zero.mp z)]
def spMore : FSp := fun ds Φ _ => ∃ (n : Nat) (u v : Nat → Rat) (x : Rat), ds = [rowQ n u, rowQ n v, frQ x] ∧ ((∀ k, Bq 4000 (u k)) ∧ (∀ k, Bq 4000 (v k)) ∧ (∀ k, Bq 4000 (x * v k)) ∧ Bq 4000 x) ∧ Φ (rowQ n fun k => u k + x * v k) .none
theorem ok_more {body : Ss} (Γ : List Ent) (iP iT : Nat) (hP : ∃ s, Γ[iP]? = some ⟨s, spPlus⟩) (hT : ∃ s, Γ[iT]? = some ⟨s, spTimes⟩) (hb : body = bMore iP iT) : ∀ ds Φ Ξ, ds.length = 3 → spMore ds Φ Ξ → svs Γ body (ktOf none Φ Ξ) (Q.envOf none 5 ds) := by
  subst hb
  rintro ds Φ Ξ - ⟨n, u, v, x, rfl, ⟨hu, hv, hxv, hx⟩, h⟩
  obtain ⟨sP, hP⟩ := hP
  obtain ⟨sT, hT⟩ := hT
  (refine (ixD_t rfl (And.intro rfl (And.intro rfl (Exists.intro _ (And.intro rfl ?_))))); walk_at "w")
  rw [eqv_int0]
  refine sel_mk (fun q => ?_) (fun q => ?_)
  · have q : x = 0 := of_decide_eq_true q
    walk_at "w"
    refine lof_tab ?_
    rw [rowQ_congr (v := u) fun k _ => by rw [q]; grind] at h
    exact h
  · walk_at "w"
    refine ⟨_, _, tab_eq _ _, tab_eq _ _, ?_⟩
    (refine (And.intro rfl ?_); walk_at "w")
    refine comp_zip (fun k => frQ (u k + x * v k)) (fun k hk W hW => ?_) ?_
    · walk_at "w"
      refine ⟨_, hT, x, v k, rfl, ⟨hx, hv k⟩, ?_⟩
      walk_at "w"
      refine ⟨_, hP, u k, x * v k, rfl, ⟨hu k, hxv k⟩, ?_⟩
      exact hW
    · rw [rowQ_list]
      exact h
def spLed : FSp := fun ds Φ _ => ∃ (n : Nat) (T : Nat → Nat → Rat) (v : Nat → Rat) (d a e b : Nat), ds = [matQ n T, rowQ n v] ∧ (n ≤ 100 ∧ Fit (d * e) (a * b) ∧ (∀ i, Sm d a (v i)) ∧ ∀ i k, Sm e b (T i k)) ∧ Φ (rowQ n fun k => sm n fun i => v i * T i k) .none
theorem ok_led {body : Ss} (Γ : List Ent) (iM : Nat) (hM : ∃ s, Γ[iM]? = some ⟨s, spMore⟩) (hb : body = bLed iM) : ∀ ds Φ Ξ, ds.length = 2 → spLed ds Φ Ξ → svs Γ body (ktOf none Φ Ξ) (Q.envOf none 5 ds) := by
  subst hb
  rintro ds Φ Ξ - ⟨n, T, v, d, a, e, b, rfl, ⟨hn, hF, hv, hT⟩, h⟩
  obtain ⟨sM, hM⟩ := hM
  walk_at "w"
  refine ⟨_, tab_eq _ _, ?_⟩
  (refine (And.intro rfl ?_); walk_at "w")
  refine comp_tab (fun k => frQ 0) (fun k hk W hW => ?_) ?_
  · walk_at "w"
    exact hW
  · walk_at "w"
    refine ⟨_, _, tab_eq _ _, tab_eq _ _, ?_⟩
    walk_at "w"
    refine for_zip (fun i ρ => ∃ c3 c4, ρ = [.va (matQ n T), .va (rowQ n v), .va (rowQ n fun k => sm i fun i => v i * T i k), c3, c4]) ⟨.un, .un, ?_⟩ ?_ ?_
    · have e : PyData.list ((List.range n).map fun k => frQ 0) = rowQ n fun k => sm 0 fun i => v i * T i k := rowQ_list n _
      rw [← e] <;> rfl
    · rintro i ρ hi ⟨c3, c4, rfl⟩ W hW
      walk_at "w"
      refine ⟨_, hM, n, fun k => sm i fun i => v i * T i k, T i, v i, rfl, ⟨fun k => Sm.fitSm (fun i => (hv i).mul (hT i k)) (by omega) hF, fun k => (hv i).fitR (hT i k) hF, fun k => ((hv i).mul (hT i k)).fit hF, (hv i).fitL (hT i i) hF⟩, ?_⟩
      exact hW _ ⟨_, _, rfl⟩
    · rintro ρ ⟨c3, c4, rfl⟩
      walk_at "w"
      exact h
def spProduct : FSp := fun ds Φ _ => ∃ (n : Nat) (c : Nat → Nat → Nat → Rat) (u v : Nat → Rat) (d a e b f l : Nat), ds = [cubQ n c, rowQ n u, rowQ n v] ∧ (n ≤ 100 ∧ Fit (f * (d * e)) (l * (100 * (a * b) + 1)) ∧ (∀ i, Sm f l (u i)) ∧ (∀ i, Sm d a (v i)) ∧ ∀ i j k, Sm e b (c i j k)) ∧ Φ (rowQ n fun k => sm n fun i => u i * sm n fun j => v j * c i j k) .none
theorem ok_product {body : Ss} (Γ : List Ent) (iM iL : Nat) (hM : ∃ s, Γ[iM]? = some ⟨s, spMore⟩) (hL : ∃ s, Γ[iL]? = some ⟨s, spLed⟩) (hb : body = bProduct iM iL) : ∀ ds Φ Ξ, ds.length = 3 → spProduct ds Φ Ξ → svs Γ body (ktOf none Φ Ξ) (Q.envOf none 6 ds) := by
  subst hb
  rintro ds Φ Ξ - ⟨n, c, u, v, d, a, e, b, f, l, rfl, ⟨hn, hF, hu, hv, hc⟩, h⟩
  obtain ⟨sM, hM⟩ := hM
  obtain ⟨sL, hL⟩ := hL
  have hin : ∀ i k, Sm (d * e) (100 * (a * b) + 1) (sm n fun j => v j * c i j k) := fun i k => (Sm.sm (fun j => (hv j).mul (hc i j k)) n).mono (by have : n * (a * b) ≤ 100 * (a * b) := Nat.mul_le_mul_right _ hn; omega)
  have hF2 : Fit (d * e) (a * b) := by
    have h1 := (hu 0).pos
    refine hF.up (Nat.le_mul_of_pos_left _ h1.1) ?_
    exact Nat.le_trans (by omega) (Nat.le_mul_of_pos_left (100 * (a * b) + 1) h1.2)
  walk_at "w"
  refine ⟨_, tab_eq _ _, ?_⟩
  (refine (And.intro rfl ?_); walk_at "w")
  refine comp_tab (fun k => frQ 0) (fun k hk W hW => ?_) ?_
  · walk_at "w"
    exact hW
  · walk_at "w"
    refine ⟨_, _, tab_eq _ _, tab_eq _ _, ?_⟩
    walk_at "w"
    refine for_zip (fun i ρ => ∃ c4 c5, ρ = [.va (cubQ n c), .va (rowQ n u), .va (rowQ n v), .va (rowQ n fun k => sm i fun i => u i * sm n fun j => v j * c i j k), c4, c5]) ⟨.un, .un, ?_⟩ ?_ ?_
    · have e : PyData.list ((List.range n).map fun k => frQ 0) = rowQ n fun k => sm 0 fun i => u i * sm n fun j => v j * c i j k := rowQ_list n _
      rw [← e] <;> rfl
    · rintro i ρ hi ⟨c4, c5, rfl⟩ W hW
      (refine (ixD_t rfl (And.intro rfl (And.intro rfl (Exists.intro _ (And.intro rfl ?_))))); walk_at "w")
      rw [eqv_int0]
      refine sel_mk (fun q => ?_) (fun q => ?_)
      · walk_at "w"
        refine ⟨_, hL, n, c i, v, d, a, e, b, rfl, ⟨hn, hF2, hv, hc i⟩, ?_⟩
        walk_at "w"
        refine ⟨_, hM, n, fun k => sm i fun i => u i * sm n fun j => v j * c i j k, fun k => sm n fun j => v j * c i j k, u i, rfl, ⟨fun k => Sm.fitSm (fun i => (hu i).mul (hin i k)) (by omega) hF, fun k => (hu i).fitR (hin i k) hF, fun k => ((hu i).mul (hin i k)).fit hF, (hu i).fitL (hin i i) hF⟩, ?_⟩
        exact hW _ ⟨_, _, rfl⟩
      · have q : u i = 0 := by simpa using q
        walk_at "w"
        refine hW _ ⟨.va (frQ (u i)), .va (matQ n (c i)), ?_⟩
        have e : (rowQ n fun k => sm (i + 1) fun i => u i * sm n fun j => v j * c i j k) = rowQ n fun k => sm i fun i => u i * sm n fun j => v j * c i j k := rowQ_congr fun k _ => by
          show sm i _ + u i * _ = _
          rw [q]; grind
        rw [e]
        rfl
    · rintro ρ ⟨c4, c5, rfl⟩
      walk_at "w"
      exact h
/-! ### looks at what is had -/
def spWhole : FSp := fun ds Φ _ => ∃ i : Int, ds = [.int i] ∧ Φ (.bool true) .none
theorem ok_whole {body : Ss} (Γ : List Ent) (hb : body = bWhole) : ∀ ds Φ Ξ, ds.length = 1 → spWhole ds Φ Ξ → svs Γ body (ktOf none Φ Ξ) (Q.envOf none 1 ds) := by
  subst hb
  rintro ds Φ Ξ - ⟨i, rfl, h⟩
  (refine (Exists.intro _ (And.intro rfl (Exists.intro _ (And.intro rfl (sel_tt rfl (Exists.intro _ (And.intro rfl (Exists.intro _ (And.intro rfl ?_))))))))); walk_at "w")
  exact h
def spIsShare : FSp := fun ds Φ _ => ∃ q : Rat, ds = [frQ q] ∧ Φ (.bool true) .none
theorem ok_is_share {body : Ss} (Γ : List Ent) (iC iW : Nat) (hC : ∃ s, Γ[iC]? = some ⟨s, spGcd⟩) (hW : ∃ s, Γ[iW]? = some ⟨s, spWhole⟩) (hb : body = bIsShare iC iW) : ∀ ds Φ Ξ, ds.length = 1 → spIsShare ds Φ Ξ → svs Γ body (ktOf none Φ Ξ) (Q.envOf none 2 ds) := by
  subst hb
  rintro ds Φ Ξ - ⟨q, rfl, h⟩
  obtain ⟨sC, hC⟩ := hC
  obtain ⟨sW, hW⟩ := hW
  (refine (Exists.intro _ (And.intro rfl (Exists.intro _ (And.intro rfl (Exists.intro _ (And.intro rfl (sel_ff rfl (And.intro rfl (And.intro rfl (Exists.intro _ (And.intro rfl (sel_ff rfl (Exists.intro _ (And.intro rfl ?_)))))))))))))); walk_at "w")
  refine ⟨show 2 ≤ 16777216 by decide, ?_⟩
  (refine (And.intro rfl ?_); walk_at "w")
  refine compW_cons ?_
  walk_at "w"
  refine ⟨_, hW, _, rfl, ?_⟩
  walk_at "w"
  refine compW_cons ?_
  walk_at "w"
  refine ⟨_, hW, _, rfl, ?_⟩
  walk_at "w"
  refine compW_nil ?_
  walk_at "w"
  refine ⟨[true, true], rfl, ?_⟩
  (refine (Exists.intro _ (And.intro rfl (Exists.intro _ (And.intro rfl (sel_ff rfl (ixD_t rfl (Exists.intro _ (And.intro rfl ?_)))))))); walk_at "w")
  have e1 : decide ((0 : Int) < (q.den : Int)) = true := decide_eq_true (den_pos q)
  rw [e1]
  (refine (sel_tt rfl (ixD_t rfl (ixD_t rfl ?_))); walk_at "w")
  refine ⟨_, hC, _, _, rfl, ?_⟩
  have e2 : Int.gcd q.num (q.den : Int) = 1 := q.reduced
  rw [e2]
  (refine (And.intro rfl (And.intro rfl ?_)); walk_at "w")
  exact h
def spAreRows : FSp := fun ds Φ _ => ∃ (n : Nat) (g : Nat → Nat → Rat), ds = [.int (n : Nat), matQ n g] ∧ Φ (.bool true) .none
theorem all_true (n : Nat) : ((List.range n).map fun _ => PyData.bool true) = ((List.range n).map fun _ => true).map PyData.bool ∧ ((List.range n).map fun _ => true).all id = true := by
  constructor
  · rw [List.map_map]; rfl
  · rw [List.all_eq_true]
    intro x hx
    obtain ⟨_, _, rfl⟩ := List.mem_map.mp hx
    rfl
theorem isi_tab {n : Nat} {g : Nat → D} : isiD (tab n g) .list = some true := by rw [tab_eq]; rfl
theorem eqv_n (n : Nat) : PyData.eqv (.int (n : Nat)) (.int (n : Nat)) = true := by rw [eqv_int]; simp
theorem ok_are_rows {body : Ss} (Γ : List Ent) (iS : Nat) (hS : ∃ s, Γ[iS]? = some ⟨s, spIsShare⟩) (hb : body = bAreRows iS) : ∀ ds Φ Ξ, ds.length = 2 → spAreRows ds Φ Ξ → svs Γ body (ktOf none Φ Ξ) (Q.envOf none 4 ds) := by
  subst hb
  rintro ds Φ Ξ - ⟨n, g, rfl, h⟩
  obtain ⟨sS, hS⟩ := hS
  walk_at "w"
  refine ⟨_, isi_tab, ?_⟩
  (refine (Exists.intro _ (And.intro rfl (Exists.intro _ (And.intro rfl (sel_ff rfl ?_))))); walk_at "w")
  refine ⟨_, tab_eq _ _, ?_⟩
  walk_at "w"
  refine for_tab (fun i ρ => ∃ c2, ρ = [.va (.int (n : Nat)), .va (matQ n g), c2, .un]) ⟨.un, rfl⟩ ?_ ?_
  · rintro i ρ hi ⟨c2, rfl⟩ W hW
    walk_at "w"
    refine ⟨_, isi_tab, ?_⟩
    (refine (Exists.intro _ (And.intro rfl (Exists.intro _ (And.intro rfl (sel_ff rfl ?_))))); walk_at "w")
    refine len_tab ?_
    (refine (And.intro rfl (And.intro rfl (Exists.intro _ (And.intro rfl ?_)))); walk_at "w")
    rw [eqv_n]
    (refine (sel_ff rfl ?_); walk_at "w")
    refine ⟨_, tab_eq _ _, ?_⟩
    (refine (And.intro rfl ?_); walk_at "w")
    refine comp_tab (fun _ => .bool true) (fun k hk V hV => ?_) ?_
    · walk_at "w"
      refine ⟨_, hS, _, rfl, ?_⟩
      exact hV
    · walk_at "w"
      refine ⟨_, (all_true n).1, ?_⟩
      rw [(all_true n).2]
      (refine (Exists.intro _ (And.intro rfl (Exists.intro _ (And.intro rfl (sel_ff rfl ?_))))); walk_at "w")
      exact hW _ ⟨_, rfl⟩
  · rintro ρ ⟨c2, rfl⟩
    walk_at "w"
    exact h
/-! ### traces -/
def spTrace : FSp := fun ds Φ _ => ∃ (n : Nat) (A B : Nat → Nat → Rat) (d a e b : Nat), ds = [matQ n A, matQ n B] ∧ (n ≤ 100 ∧ Fit (d * e) (a * b) ∧ (∀ i k, Sm d a (A i k)) ∧ ∀ i k, Sm e b (B i k)) ∧ Φ (frQ (sm n fun k => sm n fun j => A k j * B j k)) .none
theorem ok_trace {body : Ss} (Γ : List Ent) (iP iT : Nat) (hP : ∃ s, Γ[iP]? = some ⟨s, spPlus⟩) (hT : ∃ s, Γ[iT]? = some ⟨s, spTimes⟩) (hb : body = bTrace iP iT) : ∀ ds Φ Ξ, ds.length = 2 → spTrace ds Φ Ξ → svs Γ body (ktOf none Φ Ξ) (Q.envOf none 7 ds) := by
  subst hb
  rintro ds Φ Ξ - ⟨n, A, B, d, a, e, b, rfl, ⟨hn, hF, hA, hB⟩, h⟩
  obtain ⟨sP, hP⟩ := hP
  obtain ⟨sT, hT⟩ := hT
  walk_at "w"
  refine ⟨_, tab_eq _ _, ?_⟩
  walk_at "w"
  refine for_enum (fun k ρ => ∃ c3 c4 c5 c6, ρ = [.va (matQ n A), .va (matQ n B), .va (frQ (sm k fun k => sm n fun j => A k j * B j k)), c3, c4, c5, c6]) ⟨.un, .un, .un, .un, rfl⟩ ?_ ?_
  · rintro k ρ hk ⟨c3, c4, c5, c6, rfl⟩ W hW
    walk_at "w"
    refine ⟨_, tab_eq _ _, ?_⟩
    walk_at "w"
    refine for_enum (fun j ρ => ∃ c5 c6, ρ = [.va (matQ n A), .va (matQ n B), .va (frQ ((sm k fun k => sm n fun j => A k j * B j k) + sm j fun j => A k j * B j k)), .va (.int (k : Nat)), .va (rowQ n (A k)), c5, c6]) ⟨c5, c6, ?_⟩ ?_ ?_
    · have e : (sm k fun k => sm n fun j => A k j * B j k) + (sm 0 fun j => A k j * B j k) = sm k fun k => sm n fun j => A k j * B j k := by
        show _ + 0 = _
        grind
      rw [e] <;> rfl
    · rintro j ρ hj ⟨c5, c6, rfl⟩ V hV
      (refine (ixD_t rfl (And.intro rfl (And.intro rfl (Exists.intro _ (And.intro rfl ?_))))); walk_at "w")
      rw [eqv_int0]
      refine sel_mk (fun q => ?_) (fun q => ?_)
      · walk_at "w"
        refine ixD_nat hj ?_
        walk_at "w"
        refine ixD_nat hk ?_
        walk_at "w"
        refine ⟨_, hT, A k j, B j k, rfl, ⟨(hA k j).fitL (hB j k) hF, (hA k j).fitR (hB j k) hF⟩, ?_⟩
        walk_at "w"
        refine ⟨_, hP, (sm k fun k => sm n fun j => A k j * B j k) + sm j fun j => A k j * B j k, A k j * B j k, rfl, ⟨Sm.fitSm2 (fun k j => (hA k j).mul (hB j k)) (by omega) (by omega) (by omega) hF, ((hA k j).mul (hB j k)).fit hF⟩, ?_⟩
        refine hV _ ⟨.va (.int (j : Nat)), .va (frQ (A k j)), ?_⟩
        have e : (sm k fun k => sm n fun j => A k j * B j k) + (sm (j + 1) fun j => A k j * B j k) = ((sm k fun k => sm n fun j => A k j * B j k) + sm j fun j => A k j * B j k) + A k j * B j k := by
          show _ + (_ + _) = _
          grind
        rw [e] <;> rfl
      · have q : A k j = 0 := by simpa using q
        walk_at "w"
        refine hV _ ⟨.va (.int (j : Nat)), .va (frQ (A k j)), ?_⟩
        have e : (sm k fun k => sm n fun j => A k j * B j k) + (sm (j + 1) fun j => A k j * B j k) = ((sm k fun k => sm n fun j => A k j * B j k) + sm j fun j => A k j * B j k) := by
          show _ + (_ + A k j * B j k) = _
          rw [q]; grind
        rw [e] <;> rfl
    · rintro ρ ⟨c5, c6, rfl⟩
      exact hW _ ⟨.va (.int (k : Nat)), .va (rowQ n (A k)), c5, c6, rfl⟩
  · rintro ρ ⟨c3, c4, c5, c6, rfl⟩
    walk_at "w"
    exact h
def spTraces : FSp := fun ds Φ _ => ∃ (n : Nat) (c : Nat → Nat → Nat → Rat) (d a : Nat), ds = [cubQ n c] ∧ (n ≤ 100 ∧ Fit (d * d) (a * a) ∧ ∀ i j k, Sm d a (c i j k)) ∧ Φ (matQ n fun i j => trF n c j i) .none
theorem ok_traces {body : Ss} (Γ : List Ent) (iT : Nat) (hT : ∃ s, Γ[iT]? = some ⟨s, spTrace⟩) (hb : body = bTraces iT) : ∀ ds Φ Ξ, ds.length = 1 → spTraces ds Φ Ξ → svs Γ body (ktOf none Φ Ξ) (Q.envOf none 3 ds) := by
  subst hb
  rintro ds Φ Ξ - ⟨n, c, d, a, rfl, ⟨hn, hF, hc⟩, h⟩
  obtain ⟨sT, hT⟩ := hT
  walk_at "w"
  refine ⟨_, tab_eq _ _, ?_⟩
  (refine (And.intro rfl ?_); walk_at "w")
  refine comp_tab (fun i => rowQ n fun j => trF n c j i) (fun i hi W hW => ?_) ?_
  · walk_at "w"
    refine ⟨_, tab_eq _ _, ?_⟩
    (refine (And.intro rfl ?_); walk_at "w")
    refine comp_tab (fun j => frQ (trF n c j i)) (fun j hj V hV => ?_) ?_
    · walk_at "w"
      refine ⟨_, hT, n, c j, c i, d, a, d, a, rfl, ⟨hn, hF, hc j, hc i⟩, ?_⟩
      exact hV
    · rw [rowQ_list]
      exact hW
  · rw [matQ_list]
    exact h
def spCopied : FSp := fun ds Φ _ => ∃ (n : Nat) (c : Nat → Nat → Nat → Rat), ds = [cubQ n c] ∧ Φ (cubQ n c) .none
theorem ok_copied {body : Ss} (Γ : List Ent) (hb : body = bCopied) : ∀ ds Φ Ξ, ds.length = 1 → spCopied ds Φ Ξ → svs Γ body (ktOf none Φ Ξ) (Q.envOf none 3 ds) := by
  subst hb
  rintro ds Φ Ξ - ⟨n, c, rfl, h⟩
  walk_at "w"
  refine ⟨_, tab_eq _ _, ?_⟩
  (refine (And.intro rfl ?_); walk_at "w")
  refine comp_tab (fun i => matQ n (c i)) (fun i hi W hW => ?_) ?_
  · walk_at "w"
    refine ⟨_, tab_eq _ _, ?_⟩
    (refine (And.intro rfl ?_); walk_at "w")
    refine comp_tab (fun j => rowQ n (c i j)) (fun j hj V hV => ?_) ?_
    · walk_at "w"
      refine lof_tab ?_
      exact hV
    · rw [matQ_list]
      exact hW
  · rw [← tab_eq]
    exact h
def spColumns : FSp := fun ds Φ _ => ∃ (n : Nat) (g : Nat → Nat → Rat), ds = [matQ n g] ∧ n ≤ 100 ∧ Φ (matQ n fun i j => g j i) .none
theorem ok_columns {body : Ss} (Γ : List Ent) (hb : body = bColumns) : ∀ ds Φ Ξ, ds.length = 1 → spColumns ds Φ Ξ → svs Γ body (ktOf none Φ Ξ) (Q.envOf none 3 ds) := by
  subst hb
  rintro ds Φ Ξ - ⟨n, g, rfl, hn, h⟩
  walk_at "w"
  refine len_tab ?_
  (refine (Exists.intro _ (And.intro rfl ?_)); walk_at "w")
  refine ⟨by omega, ?_⟩
  rw [Int.toNat_natCast]
  (refine (And.intro rfl ?_); walk_at "w")
  refine comp_tab (fun i => rowQ n fun j => g j i) (fun i hi W hW => ?_) ?_
  · walk_at "w"
    refine ⟨_, tab_eq _ _, ?_⟩
    (refine (And.intro rfl ?_); walk_at "w")
    refine comp_tab (fun j => frQ (g j i)) (fun j hj V hV => ?_) ?_
    · walk_at "w"
      refine ixD_nat hi ?_
      exact hV
    · rw [rowQ_list]
      exact hW
  · rw [matQ_list]
    exact h
def spPaired : FSp := fun ds Φ _ => ∃ (n : Nat) (T : Nat → Nat → Rat) (u v : Nat → Rat) (d a e b f l : Nat), ds = [matQ n T, rowQ n u, rowQ n v] ∧ (n ≤ 100 ∧ Fit ((d * e) * f) ((100 * (a * b) + 1) * l) ∧ (∀ i, Sm d a (u i)) ∧ (∀ i, Sm f l (v i)) ∧ ∀ i k, Sm e b (T i k)) ∧ Φ (frQ (sm n fun k => (sm n fun i => u i * T i k) * v k)) .none
theorem ok_paired {body : Ss} (Γ : List Ent) (iP iT iL : Nat) (hP : ∃ s, Γ[iP]? = some ⟨s, spPlus⟩) (hT : ∃ s, Γ[iT]? = some ⟨s, spTimes⟩) (hL : ∃ s, Γ[iL]? = some ⟨s, spLed⟩) (hb : body = bPaired iP iT iL) : ∀ ds Φ Ξ, ds.length = 3 → spPaired ds Φ Ξ → svs Γ body (ktOf none Φ Ξ) (Q.envOf none 6 ds) := by
  subst hb
  rintro ds Φ Ξ - ⟨n, T, u, v, d, a, e, b, f, l, rfl, ⟨hn, hF, hu, hv, hc⟩, h⟩
  obtain ⟨sP, hP⟩ := hP
  obtain ⟨sT, hT⟩ := hT
  obtain ⟨sL, hL⟩ := hL
  have hin : ∀ k, Sm (d * e) (100 * (a * b) + 1) (sm n fun i => u i * T i k) := fun k => (Sm.sm (fun j => (hu j).mul (hc j k)) n).mono (by have : n * (a * b) ≤ 100 * (a * b) := Nat.mul_le_mul_right _ hn; omega)
  have hF2 : Fit (d * e) (a * b) := by
    have h1 := (hv 0).pos
    refine hF.up (Nat.le_mul_of_pos_right _ h1.1) ?_
    exact Nat.le_trans (by omega) (Nat.le_mul_of_pos_right (100 * (a * b) + 1) h1.2)
  walk_at "w"
  refine ⟨_, hL, n, T, u, d, a, e, b, rfl, ⟨hn, hF2, hu, hc⟩, ?_⟩
  walk_at "w"
  refine ⟨_, _, tab_eq _ _, tab_eq _ _, ?_⟩
  walk_at "w"
  refine for_zip (fun k ρ => ∃ c4 c5, ρ = [.va (matQ n T), .va (rowQ n u), .va (rowQ n v), .va (frQ (sm k fun k => (sm n fun i => u i * T i k) * v k)), c4, c5]) ⟨.un, .un, rfl⟩ ?_ ?_
  · rintro k ρ hk ⟨c4, c5, rfl⟩ W hW
    walk_at "w"
    refine ⟨_, hT, sm n fun i => u i * T i k, v k, rfl, ⟨(hin k).fitL (hv k) hF, (hin k).fitR (hv k) hF⟩, ?_⟩
    walk_at "w"
    refine ⟨_, hP, sm k fun k => (sm n fun i => u i * T i k) * v k, (sm n fun i => u i * T i k) * v k, rfl, ⟨Sm.fitSm (fun k => (hin k).mul (hv k)) (by omega) hF, ((hin k).mul (hv k)).fit hF⟩, ?_⟩
    exact hW _ ⟨_, _, rfl⟩
  · rintro ρ ⟨c4, c5, rfl⟩
    walk_at "w"
    exact h
/-! ### a drawn row -/
theorem pick8r {z : Int} (h0 : 0 ≤ z) (h : z < 8) : ∃ v : Int, atI [PyData.int 0, .int 1, .int (-1), .int 2, .int 0, .int 3, .int (-2), .int 5] z = some (.int v) ∧ v.natAbs ≤ 5 := by
  have : z = 0 ∨ z = 1 ∨ z = 2 ∨ z = 3 ∨ z = 4 ∨ z = 5 ∨ z = 6 ∨ z = 7 := by omega
  rcases this with rfl | rfl | rfl | rfl | rfl | rfl | rfl | rfl <;> exact ⟨_, rfl, by decide⟩
theorem sm6 {v t : Int} (hv : v.natAbs ≤ 5) (h0 : 0 ≤ t) (h : t < 3) : Sm 6 31 ((v : Rat) / ((1 + t : Int) : Rat)) := by
  have : t = 0 ∨ t = 1 ∨ t = 2 := by omega
  rcases this with rfl | rfl | rfl
  · exact ⟨by decide, v * 6, rat_eq (by decide) (by decide) (by omega), by omega⟩
  · exact ⟨by decide, v * 3, rat_eq (by decide) (by decide) (by omega), by omega⟩
  · exact ⟨by decide, v * 2, rat_eq (by decide) (by decide) (by omega), by omega⟩
def rowL (us : List Rat) : D := .list (us.map frQ)
theorem rowL_rowQ (us : List Rat) : rowL us = rowQ us.length fun k => us.getD k 0 := by
  unfold rowL rowQ
  rw [tab_eq]
  congr 1
  refine List.ext_getElem? fun j => ?_
  by_cases hj : j < us.length
  · have e : us.getD j 0 = us[j] := by rw [List.getD_eq_getElem?_getD, List.getElem?_eq_getElem hj]; rfl
    rw [rmap_get hj, List.getElem?_map, List.getElem?_eq_getElem hj]
    show _ = some (frQ (us.getD j 0))
    rw [e]; rfl
  · rw [List.getElem?_eq_none (by simpa using hj), List.getElem?_eq_none (by simpa using hj)]
def spRow : FSp := fun ds Φ _ => ∃ (b : D) (n : Nat), ds = [b, .int (n : Nat)] ∧ (Bag b ∧ n ≤ 100) ∧ ∀ (u : Nat → Rat) b', (∀ k, Sm 6 31 (u k)) → Bag b' → Φ (rowQ n u) b'
theorem ok_row {body : Ss} (Γ : List Ent) (iT iL : Nat) (hT : Γ[iT]? = some entTake) (hL : ∃ s, Γ[iL]? = some ⟨s, spLowest⟩) (hb : body = bRow iT iL) : ∀ ds Φ Ξ, ds.length = 2 → spRow ds Φ Ξ → svs Γ body (ktOf (some 1) Φ Ξ) (Q.envOf (some 1) 4 ds) := by
  subst hb
  rintro ds Φ Ξ - ⟨b, n, rfl, ⟨hB, hn⟩, h⟩
  obtain ⟨sL, hL⟩ := hL
  (refine (Exists.intro _ (And.intro rfl ?_)); walk_at "w")
  refine ⟨by omega, ?_⟩
  rw [Int.toNat_natCast]
  refine for_tab (fun i ρ => ∃ b us c3, ρ = [.ow 1 b, .va (.int (n : Nat)), .ow 1 (rowL us), c3] ∧ Bag b ∧ us.length = i ∧ ∀ x ∈ us, Sm 6 31 x) ⟨b, [], .un, rfl, hB, rfl, by simp⟩ ?_ ?_
  · rintro i ρ hi ⟨b, us, c3, rfl, hB, hl, hus⟩ W hW
    (refine (And.intro True.intro (Exists.intro _ (And.intro rfl (Exists.intro _ (And.intro rfl ?_))))); walk_at "w")
    refine ⟨isOw_bag hB, ?_⟩
    walk_at "w"
    refine ⟨_, _, _, hT, rfl, rfl, _, 8, rfl, ⟨hB, by decide, by decide⟩, fun z b2 z0 z1 hB2 => ?_⟩
    walk_at "w"
    obtain ⟨v, e1, e2⟩ := pick8r z0 z1
    refine ixD_l e1 ?_
    walk_at "w"
    refine ⟨isOw_bag hB2, ?_⟩
    walk_at "w"
    refine ⟨_, _, _, hT, rfl, rfl, _, 3, rfl, ⟨hB2, by decide, by decide⟩, fun t b3 t0 t1 hB3 => ?_⟩
    walk_at "w"
    refine ⟨_, hL, v, 1 + t, rfl, ⟨by omega, by unfold Bd; exact Nat.lt_of_lt_of_le (show (1 + t).natAbs < 2 ^ 2 by omega) (Nat.pow_le_pow_right (by decide) (by decide))⟩, ?_⟩
    walk_at "w"
    refine ⟨.inl rfl, ?_⟩
    refine ⟨by simp [hl]; omega, ?_⟩
    refine hW _ ⟨b3, us ++ [(v : Rat) / ((1 + t : Int) : Rat)], .va (.int (i : Nat)), ?_, hB3, by simp [hl], fun x hx => ?_⟩
    · unfold rowL
      rw [List.map_append]
      rfl
    · rcases List.mem_append.mp hx with q | q
      · exact hus x q
      · have : x = (v : Rat) / ((1 + t : Int) : Rat) := by simpa using q
        rw [this]; exact sm6 e2 t0 t1
  · rintro ρ ⟨b, us, c3, rfl, hB, hl, hus⟩
    subst hl
    (refine (Exists.intro _ (And.intro rfl ?_)); walk_at "w")
    rw [rowL_rowQ]
    refine h _ b (fun k => ?_) hB
    rw [List.getD_eq_getElem?_getD]
    by_cases q : k < us.length
    · rw [List.getElem?_eq_getElem q]
      exact hus _ (List.getElem_mem q)
    · rw [List.getElem?_eq_none (by omega)]
      exact Sm.zero (by decide) (by decide)
end Q

namespace Q
open PySem L2
/-! ### shapes: what == may look at -/
def shp (k : Nat) (d : D) : Prop := d.canLay0 = true ∧ d.depth ≤ k
theorem shp_up {k m : Nat} {d : D} (h : shp k d) (q : k ≤ m) : shp m d := ⟨h.1, Nat.le_trans h.2 q⟩
theorem shp_int (i : Int) : shp 1 (.int i) := ⟨by simp only [PyData.canLay0], by simp only [PyData.depth]; omega⟩
theorem shp_all {k : Nat} : ∀ {ds : List D}, (∀ d ∈ ds, shp k d) → PyData.canLayAll0 ds = true ∧ PyData.depthAll ds ≤ k
  | [], _ => ⟨by simp only [PyData.canLayAll0], by simp only [PyData.depthAll]; omega⟩
  | d :: ds, h => by
    have h1 := h d (by simp)
    have h2 := shp_all (k := k) (ds := ds) fun d hd => h d (by simp [hd])
    exact ⟨by simp only [PyData.canLayAll0, h1.1, h2.1, Bool.and_self], by simp only [PyData.depthAll]; have := h1.2; have := h2.2; omega⟩
theorem shp_list {k : Nat} {ds : List D} (h : ∀ d ∈ ds, shp k d) : shp (k + 1) (.list ds) := by
  have := shp_all h
  exact ⟨by simp only [PyData.canLay0]; exact this.1, by simp only [PyData.depth]; have := this.2; omega⟩
theorem shp_tuple {k : Nat} {ds : List D} (h : ∀ d ∈ ds, shp k d) : shp (k + 1) (.tuple ds) := by
  have := shp_all h
  exact ⟨by simp only [PyData.canLay0]; exact this.1, by simp only [PyData.depth]; have := this.2; omega⟩
theorem shp_tab {k n : Nat} {g : Nat → D} (h : ∀ i, i < n → shp k (g i)) : shp (k + 1) (tab n g) := by
  rw [tab_eq]
  refine shp_list fun d hd => ?_
  obtain ⟨i, hi, rfl⟩ := List.mem_map.mp hd
  exact h i (List.mem_range.mp hi)
theorem shp_frQ (q : Rat) : shp 2 (frQ q) := shp_tuple fun d hd => by
  rcases List.mem_cons.mp hd with rfl | hd
  · exact shp_int _
  · obtain rfl : d = _ := by simpa using hd
    exact shp_int _
theorem shp_rowQ (n : Nat) (u : Nat → Rat) : shp 3 (rowQ n u) := shp_tab fun i _ => shp_frQ _
theorem shp_matQ (n : Nat) (u : Nat → Nat → Rat) : shp 4 (matQ n u) := shp_tab fun i _ => shp_rowQ n _
theorem shp_cubQ (n : Nat) (u : Nat → Nat → Nat → Rat) : shp 5 (cubQ n u) := shp_tab fun i _ => shp_matQ n _
theorem shaped_of {k : Nat} {d : D} (h : shp k d) (q : k ≤ 64) : SeqAt.shaped d = true := by
  unfold SeqAt.shaped
  rw [h.1, Bool.true_and]
  exact decide_eq_true (Nat.le_trans h.2 q)
theorem eqv_self {k : Nat} {d : D} (h : shp k d) : PyData.eqv d d = true := SeqAt.eqv_refl d h.1
theorem shp2 {k : Nat} {x y : D} {P : Prop} (h : shp k x) (q : k ≤ 64) (e : y = x) (c : PyData.eqv x y = true → P) : SeqAt.shaped x = true ∧ SeqAt.shaped y = true ∧ P := by
  subst e
  exact ⟨shaped_of h q, shaped_of h q, c (eqv_self h)⟩
/-- a thing is what it is -/
theorem ne_self {k : Nat} {x y : D} {p : D → Prop} (h : shp k x) (q : k ≤ 64) (e : y = x) (c : p (.bool false)) : cmpD .NotEq x y p := by
  subst e
  refine ⟨shaped_of h q, shaped_of h q, ?_⟩
  rw [eqv_self h]; exact c
theorem eq_self {k : Nat} {x y : D} {p : D → Prop} (h : shp k x) (q : k ≤ 64) (e : y = x) (c : p (.bool true)) : cmpD .Eq x y p := by
  subst e
  refine ⟨shaped_of h q, shaped_of h q, ?_⟩
  rw [eqv_self h]; exact c
end Q

/-! ## The program's shares and traces -/
local macro_rules | `(tactic| walk_at "w") => `(tactic| (conv => whnf))
namespace Q
open PySem L2
-- share: ['top', 'bottom', 'part']
def bShareP (iCommon : Nat) : Ss :=
    (.cons (.ite (.cmp .Eq (.var 1) (.int 0)) (.cons (.raise "NoShare" "a bottom of 0")
    .nil) .nil)
    (.cons (.set 2 (.call iCommon 0 (.cons (.var 0) (.cons (.var 1) .nil))))
    (.cons (.ite (.cmp .Lt (.var 1) (.int 0)) (.cons (.set 2 (.neg (.var 2)))
    .nil) .nil)
    (.cons (.ret (.tup (.cons (.op .FloorDiv (.var 0) (.var 2)) (.cons (.op .FloorDiv (.var 1) (.var 2)) .nil))))
    .nil))))
-- plus: ['u', 'v']
def bPlusP (iShare : Nat) : Ss :=
    (.cons (.ret (.call iShare 0 (.cons (.op .Add (.op .Mult (.ix (.var 0) (.int 0)) (.ix (.var 1) (.int 1))) (.op .Mult (.ix (.var 1) (.int 0)) (.ix (.var 0) (.int 1)))) (.cons (.op .Mult (.ix (.var 0) (.int 1)) (.ix (.var 1) (.int 1))) .nil))))
    .nil)
-- times: ['u', 'v']
def bTimesP (iShare : Nat) : Ss :=
    (.cons (.ret (.call iShare 0 (.cons (.op .Mult (.ix (.var 0) (.int 0)) (.ix (.var 1) (.int 0))) (.cons (.op .Mult (.ix (.var 0) (.int 1)) (.ix (.var 1) (.int 1))) .nil))))
    .nil)
-- trace_of_both: ['one', 'other', 'total', 'k', 'row', 'j', 'number']
def bTraceOfBoth (iPlus iTimes : Nat) : Ss :=
    (.cons (.set 2 (.gl "NOUGHT" (.tuple [(.int 0), (.int 1)])))
    (.cons (.for (.tp (.cons (.nm 3) (.cons (.nm 4) .nil))) (.enum (.var 0)) (.cons (.for (.tp (.cons (.nm 5) (.cons (.nm 6) .nil))) (.enum (.var 4)) (.cons (.ite (.cmp .NotEq (.var 6) (.gl "NOUGHT" (.tuple [(.int 0), (.int 1)]))) (.cons (.set 2 (.call iPlus 0 (.cons (.var 2) (.cons (.call iTimes 0 (.cons (.var 6) (.cons (.ix (.ix (.var 1) (.var 5)) (.var 3)) .nil))) .nil))))
    .nil) .nil)
    .nil))
    .nil))
    (.cons (.ret (.var 2))
    .nil)))
-- traces: ['algebra', 'other', 'one']
def bTracesP (iTraceOfBoth : Nat) : Ss :=
    (.cons (.ret (.comp 1 [1] (.nm 1) (.lst (.var 0)) .none (.comp 0 [2] (.nm 2) (.lst (.var 0)) .none (.call iTraceOfBoth 0 (.cons (.var 2) (.cons (.var 1) .nil))))))
    .nil)

def spShareP : FSp := fun ds Φ Ξ => ∃ a b : Int, ds = [.int a, .int b] ∧ ((b = 0 → Ξ .none "NoShare") ∧ (b ≠ 0 → Bd 8999 b ∧ Φ (frQ ((a : Rat) / (b : Rat))) .none))
theorem ok_shareP {body : Ss} (Γ : List Ent) (iC : Nat) (hC : ∃ s, Γ[iC]? = some ⟨s, spGcd⟩) (hb : body = bShareP iC) : ∀ ds Φ Ξ, ds.length = 2 → spShareP ds Φ Ξ → svs Γ body (ktOf none Φ Ξ) (Q.envOf none 3 ds) := by
  subst hb
  rintro ds Φ Ξ - ⟨a, b, rfl, ⟨hx, h⟩⟩
  obtain ⟨sg, hC⟩ := hC
  (refine (And.intro rfl (And.intro rfl (Exists.intro _ (And.intro rfl ?_)))); walk_at "w")
  rw [eqv_int]
  refine sel_mk (fun q => ?_) (fun q => ?_)
  · have q : b = 0 := of_decide_eq_true q
    walk_at "w"
    exact hx q
  have hb : b ≠ 0 := of_decide_eq_false q
  obtain ⟨hk, h⟩ := h hb
  have hs := (sgn_bd hb hk : Bd 8999 (sgn a b)).divok (i := a) (Nat.le_refl _)
  have hs2 := (sgn_bd hb hk : Bd 8999 (sgn a b)).divok (i := b) (Nat.le_refl _)
  have hn := sgn_ne (a := a) hb
  rw [← frQ_shr hb] at h
  walk_at "w"
  refine ⟨_, hC, a, b, rfl, ?_⟩
  (refine (Exists.intro _ (And.intro rfl ?_)); walk_at "w")
  refine sel_mk (fun q => ?_) (fun q => ?_)
  · have q : b < 0 := by simpa using q
    have e : sgn a b = -(Int.gcd a b : Int) := by unfold sgn; rw [if_pos q]
    rw [e] at hs hs2 hn
    (refine (Exists.intro _ (And.intro rfl ?_)); walk_at "w")
    refine ⟨hn, hs, ?_⟩
    walk_at "w"
    refine ⟨hn, hs2, ?_⟩
    walk_at "w"
    unfold frD shr at h
    rw [e] at h
    exact h
  · have q : ¬ b < 0 := by simpa using q
    have e : sgn a b = (Int.gcd a b : Int) := if_neg q
    rw [e] at hs hs2 hn
    walk_at "w"
    refine ⟨hn, hs, ?_⟩
    walk_at "w"
    refine ⟨hn, hs2, ?_⟩
    walk_at "w"
    unfold frD shr at h
    rw [e] at h
    exact h
theorem ok_plusP {body : Ss} (Γ : List Ent) (iL : Nat) (hL : ∃ s, Γ[iL]? = some ⟨s, spShareP⟩) (hb : body = bPlusP iL) : ∀ ds Φ Ξ, ds.length = 2 → spPlus ds Φ Ξ → svs Γ body (ktOf none Φ Ξ) (Q.envOf none 2 ds) := by
  subst hb
  rintro ds Φ Ξ - ⟨x, y, rfl, ⟨hx, hy⟩, h⟩
  obtain ⟨sg, hL⟩ := hL
  (refine (ixD_t rfl (ixD_t rfl ?_)); walk_at "w")
  refine ⟨hx.num.mulok hy.den (by decide), ?_⟩
  (refine (ixD_t rfl (ixD_t rfl ?_)); walk_at "w")
  refine ⟨hy.num.mulok hx.den (by decide), ?_⟩
  (refine (ixD_t rfl (ixD_t rfl ?_)); walk_at "w")
  refine ⟨hx.den.mulok hy.den (by decide), ?_⟩
  walk_at "w"
  refine ⟨_, hL, _, _, rfl, ⟨fun z => absurd z (Int.mul_ne_zero (den_ne x) (den_ne y)), fun _ => ⟨(hx.den.mul hy.den).up (by decide), ?_⟩⟩⟩
  rw [add_num]
  exact h
theorem ok_timesP {body : Ss} (Γ : List Ent) (iL : Nat) (hL : ∃ s, Γ[iL]? = some ⟨s, spShareP⟩) (hb : body = bTimesP iL) : ∀ ds Φ Ξ, ds.length = 2 → spTimes ds Φ Ξ → svs Γ body (ktOf none Φ Ξ) (Q.envOf none 2 ds) := by
  subst hb
  rintro ds Φ Ξ - ⟨x, y, rfl, ⟨hx, hy⟩, h⟩
  obtain ⟨sg, hL⟩ := hL
  (refine (ixD_t rfl (ixD_t rfl ?_)); walk_at "w")
  refine ⟨hx.num.mulok hy.num (by decide), ?_⟩
  (refine (ixD_t rfl (ixD_t rfl ?_)); walk_at "w")
  refine ⟨hx.den.mulok hy.den (by decide), ?_⟩
  walk_at "w"
  refine ⟨_, hL, _, _, rfl, ⟨fun z => absurd z (Int.mul_ne_zero (den_ne x) (den_ne y)), fun _ => ⟨(hx.den.mul hy.den).up (by decide), ?_⟩⟩⟩
  rw [mul_num]
  exact h
theorem shp2frQ {x y : Rat} {P : Prop} (c : PyData.eqv (frQ x) (frQ y) = decide (x = y) → P) : SeqAt.shaped (frQ x) = true ∧ SeqAt.shaped (frQ y) = true ∧ P := ⟨shaped_of (shp_frQ x) (by decide), shaped_of (shp_frQ y) (by decide), c (eqv_frQ x y)⟩
theorem ok_traceP {body : Ss} (Γ : List Ent) (iP iT : Nat) (hP : ∃ s, Γ[iP]? = some ⟨s, spPlus⟩) (hT : ∃ s, Γ[iT]? = some ⟨s, spTimes⟩) (hb : body = bTraceOfBoth iP iT) : ∀ ds Φ Ξ, ds.length = 2 → spTrace ds Φ Ξ → svs Γ body (ktOf none Φ Ξ) (Q.envOf none 7 ds) := by
  subst hb
  rintro ds Φ Ξ - ⟨n, A, B, d, a, e, b, rfl, ⟨hn, hF, hA, hB⟩, h⟩
  obtain ⟨sP, hP⟩ := hP
  obtain ⟨sT, hT⟩ := hT
  walk_at "w"
  refine ⟨_, tab_eq _ _, ?_⟩
  walk_at "w"
  refine for_enum (fun k ρ => ∃ c3 c4 c5 c6, ρ = [.va (matQ n A), .va (matQ n B), .va (frQ (sm k fun k => sm n fun j => A k j * B j k)), c3, c4, c5, c6]) ⟨.un, .un, .un, .un, rfl⟩ ?_ ?_
  · rintro k ρ hk ⟨c3, c4, c5, c6, rfl⟩ W hW
    walk_at "w"
    refine ⟨_, tab_eq _ _, ?_⟩
    walk_at "w"
    refine for_enum (fun j ρ => ∃ c5 c6, ρ = [.va (matQ n A), .va (matQ n B), .va (frQ ((sm k fun k => sm n fun j => A k j * B j k) + sm j fun j => A k j * B j k)), .va (.int (k : Nat)), .va (rowQ n (A k)), c5, c6]) ⟨c5, c6, ?_⟩ ?_ ?_
    · have e : (sm k fun k => sm n fun j => A k j * B j k) + (sm 0 fun j => A k j * B j k) = sm k fun k => sm n fun j => A k j * B j k := by
        show _ + 0 = _
        grind
      rw [e] <;> rfl
    · rintro j ρ hj ⟨c5, c6, rfl⟩ V hV
      (refine (And.intro rfl (And.intro rfl (Exists.intro _ (And.intro rfl ?_)))); walk_at "w")
      rw [show PyData.eqv (frQ (A k j)) (PyData.tuple [PyData.int 0, PyData.int 1]) = decide (A k j = 0) from eqv_frQ (A k j) 0]
      refine sel_mk (fun q => ?_) (fun q => ?_)
      · walk_at "w"
        refine ixD_nat hj ?_
        walk_at "w"
        refine ixD_nat hk ?_
        walk_at "w"
        refine ⟨_, hT, A k j, B j k, rfl, ⟨(hA k j).fitL (hB j k) hF, (hA k j).fitR (hB j k) hF⟩, ?_⟩
        walk_at "w"
        refine ⟨_, hP, (sm k fun k => sm n fun j => A k j * B j k) + sm j fun j => A k j * B j k, A k j * B j k, rfl, ⟨Sm.fitSm2 (fun k j => (hA k j).mul (hB j k)) (by omega) (by omega) (by omega) hF, ((hA k j).mul (hB j k)).fit hF⟩, ?_⟩
        refine hV _ ⟨.va (.int (j : Nat)), .va (frQ (A k j)), ?_⟩
        have e : (sm k fun k => sm n fun j => A k j * B j k) + (sm (j + 1) fun j => A k j * B j k) = ((sm k fun k => sm n fun j => A k j * B j k) + sm j fun j => A k j * B j k) + A k j * B j k := by
          show _ + (_ + _) = _
          grind
        rw [e] <;> rfl
      · have q : A k j = 0 := by simpa using q
        walk_at "w"
        refine hV _ ⟨.va (.int (j : Nat)), .va (frQ (A k j)), ?_⟩
        have e : (sm k fun k => sm n fun j => A k j * B j k) + (sm (j + 1) fun j => A k j * B j k) = ((sm k fun k => sm n fun j => A k j * B j k) + sm j fun j => A k j * B j k) := by
          show _ + (_ + A k j * B j k) = _
          rw [q]; grind
        rw [e] <;> rfl
    · rintro ρ ⟨c5, c6, rfl⟩
      exact hW _ ⟨.va (.int (k : Nat)), .va (rowQ n (A k)), c5, c6, rfl⟩
  · rintro ρ ⟨c3, c4, c5, c6, rfl⟩
    walk_at "w"
    exact h
theorem ok_tracesP {body : Ss} (Γ : List Ent) (iT : Nat) (hT : ∃ s, Γ[iT]? = some ⟨s, spTrace⟩) (hb : body = bTracesP iT) : ∀ ds Φ Ξ, ds.length = 1 → spTraces ds Φ Ξ → svs Γ body (ktOf none Φ Ξ) (Q.envOf none 3 ds) := by
  subst hb
  rintro ds Φ Ξ - ⟨n, c, d, a, rfl, ⟨hn, hF, hc⟩, h⟩
  obtain ⟨sT, hT⟩ := hT
  walk_at "w"
  refine ⟨_, tab_eq _ _, ?_⟩
  (refine (And.intro rfl ?_); walk_at "w")
  refine comp_tab (fun i => rowQ n fun j => trF n c j i) (fun i hi W hW => ?_) ?_
  · walk_at "w"
    refine ⟨_, tab_eq _ _, ?_⟩
    (refine (And.intro rfl ?_); walk_at "w")
    refine comp_tab (fun j => frQ (trF n c j i)) (fun j hj V hV => ?_) ?_
    · walk_at "w"
      refine ⟨_, hT, n, c j, c i, d, a, d, a, rfl, ⟨hn, hF, hc j, hc i⟩, ?_⟩
      exact hV
    · rw [rowQ_list]
      exact hW
  · rw [matQ_list]
    exact h
/-! ### three rows by the trace form -/
theorem sm_L0 (n : Nat) (u : Nat → Rat) (g : Nat → Nat → Rat) (t : Nat → Rat) : sm n (fun m => (sm n fun i => u i * g i m) * t m) = sm n fun i => u i * sm n fun m => g i m * t m := by
  rw [sm_congr fun m _ => (sm_mulR n (t m) _).symm, sm_swap]
  refine sm_congr fun i _ => ?_
  rw [← sm_mul]
  exact sm_congr fun m _ => by grind
theorem sm_L1 (n : Nat) (u v : Nat → Rat) (c : Nat → Nat → Nat → Rat) (t : Nat → Rat) : sm n (fun m => (sm n fun i => u i * sm n fun j => v j * c i j m) * t m) = sm n fun i => u i * sm n fun j => v j * sm n fun m => c i j m * t m := by
  rw [sm_L0]
  refine sm_congr fun i _ => ?_
  rw [sm_L0]
/-- of a product and a third row the form gives what it gives of the first row and the product of the others -/
theorem form_inv {n : Nat} {c : Nat → Nat → Nat → Rat} (L : Lie n c) (u v w : Nat → Rat) :
    sm n (fun k => (sm n fun m => (sm n fun i => u i * sm n fun j => v j * c i j m) * trF n c k m) * w k) =
    sm n (fun k => (sm n fun i => u i * trF n c k i) * sm n fun j => v j * sm n fun l => w l * c j l k) := by
  rw [sm_congr fun k _ => by rw [sm_L1], sm_L1 n u v (fun i j k => sm n fun m => c i j m * trF n c k m) w]
  rw [sm_L0]
  refine sm_congr fun i hi => ?_
  congr 1
  rw [sm_congr (f := fun m => trF n c m i * sm n fun j => v j * sm n fun l => w l * c j l m) fun m _ => Rat.mul_comm _ _, sm_L1]
  refine sm_congr fun j hj => ?_
  congr 1
  refine sm_congr fun l hl => ?_
  rw [Rat.mul_comm]
  congr 1
  have h := trF_inv L hi hj hl
  rw [sm_congr fun m _ => by rw [trF_sym n c l m], h]
  exact sm_congr fun m _ => by rw [trF_sym n c i m]
end Q

/-! ## How long the text of data is -/
namespace Q
open PySem L2
structure Shw (k m : Nat) (d : D) : Prop where
  sh : d.showable = true
  nd : d.hasDict = false
  dp : d.depth ≤ k
  ln : d.shown.length ≤ m
theorem Shw.up {k m k' m' : Nat} {d : D} (h : Shw k m d) (h1 : k ≤ k') (h2 : m ≤ m') : Shw k' m' d := ⟨h.sh, h.nd, Nat.le_trans h.dp h1, Nat.le_trans h.ln h2⟩
theorem Shw.ok {k m : Nat} {d : D} (h : Shw k m d) (h1 : k ≤ 60) (h2 : m ≤ 16777216) : ShwOk d := ⟨h.sh, h.nd, Nat.le_trans h.dp h1, by rw [sizeLine_eq]; exact Nat.le_trans h.ln h2⟩
theorem shw_int {i : Int} (h : Bd 1919 i) : Shw 0 1921 (.int i) := by
  have hl : i.natAbs.log2 < 1920 := by
    by_cases q : i.natAbs = 0
    · rw [q]; decide
    · have : i.natAbs < 2 ^ 1920 := Nat.lt_of_lt_of_le h (Nat.pow_le_pow_right (by decide) (by decide))
      exact (Nat.log2_lt q).mpr this
  exact ⟨by simp only [PyData.showable]; exact decide_eq_true hl, by simp only [PyData.hasDict], by simp only [PyData.depth]; omega, by simp only [PyData.shown]; exact PyProof.Rows.int_text_len_1921 hl⟩
theorem shw_all {k m : Nat} : ∀ {ds : List D}, (∀ d ∈ ds, Shw k m d) → PyData.showableAll ds = true ∧ PyData.hasDictAll ds = false ∧ PyData.depthAll ds ≤ k ∧ (PyData.shownAll ds).length = ds.length ∧ ∀ t ∈ PyData.shownAll ds, t.length ≤ m
  | [], _ => ⟨by simp only [PyData.showableAll], by simp only [PyData.hasDictAll], by simp only [PyData.depthAll]; omega, by simp only [PyData.shownAll, List.length_nil], by simp only [PyData.shownAll]; intro t ht; cases ht⟩
  | d :: ds, h => by
    have h1 := h d (by simp)
    obtain ⟨a, b, c, e, f⟩ := shw_all (k := k) (m := m) (ds := ds) fun d hd => h d (by simp [hd])
    refine ⟨by simp only [PyData.showableAll, h1.sh, a, Bool.and_self], by simp only [PyData.hasDictAll, h1.nd, b, Bool.or_self], by simp only [PyData.depthAll]; have := h1.dp; omega, by simp only [PyData.shownAll, List.length_cons, e], ?_⟩
    simp only [PyData.shownAll]
    intro t ht
    rcases List.mem_cons.mp ht with rfl | ht
    · exact h1.ln
    · exact f t ht
theorem textFrom_le {m : Nat} : ∀ (ts : List Str) (k : Nat) (acc : Str), (∀ t ∈ ts, t.length ≤ m) → (textFrom k acc ts).length ≤ acc.length + ts.length * (m + 2)
  | [], k, acc, _ => by show acc.length ≤ _; simp
  | t :: ts, k, acc, h => by
    have ih := textFrom_le ts (k + 1) (acc ++ (if k > 0 then ", " else "" : String) ++ t) fun u hu => h u (by simp [hu])
    have e : (acc ++ (if k > 0 then ", " else "" : String) ++ t).length ≤ acc.length + 2 + m := by
      rw [Str.length_append, Str.length_append]
      have h1 := h t (by simp)
      have h2 : ((if k > 0 then ", " else "" : String) : Str).length ≤ 2 := by split <;> decide
      omega
    show (textFrom (k + 1) _ ts).length ≤ _
    rw [List.length_cons, Nat.succ_mul]
    omega
theorem piled_le {m : Nat} : ∀ (ts : List Str), (∀ t ∈ ts, t.length ≤ m) → piled ts ≤ ts.length * (m + 2)
  | [], _ => by simp [piled]
  | t :: ts, h => by
    have ih := piled_le ts fun u hu => h u (by simp [hu])
    have := h t (by simp)
    rw [List.length_cons, Nat.succ_mul]
    unfold piled at ih ⊢
    rw [List.map_cons, List.sum_cons]
    omega
theorem shw_list {k m : Nat} {ds : List D} (h : ∀ d ∈ ds, Shw k m d) : Shw (k + 1) (ds.length * (m + 2) + 4) (.list ds) := by
  obtain ⟨a, b, c, e, f⟩ := shw_all h
  refine ⟨by simp only [PyData.showable]; exact a, by simp only [PyData.hasDict]; exact b, by simp only [PyData.depth]; omega, ?_⟩
  simp only [PyData.shown]
  unfold listText
  rw [Str.length_append]
  have h1 := textFrom_le (m := m) (PyData.shownAll ds) 0 "[" f
  rw [e] at h1
  have h2 : ((("[" : String) : Str)).length = 1 := rfl
  have h3 : ((("]" : String) : Str)).length = 1 := rfl
  rw [h2] at h1
  rw [h3]
  omega
theorem shw_tuple {k m : Nat} {ds : List D} (h : ∀ d ∈ ds, Shw k m d) : Shw (k + 1) (ds.length * (m + 2) + 4) (.tuple ds) := by
  obtain ⟨a, b, c, e, f⟩ := shw_all h
  refine ⟨by simp only [PyData.showable]; exact a, by simp only [PyData.hasDict]; exact b, by simp only [PyData.depth]; omega, ?_⟩
  simp only [PyData.shown]
  unfold tupleText
  rw [Str.length_append, Str.length_append]
  have h1 := piled_le (m := m) (PyData.shownAll ds) f
  rw [e] at h1
  have h2 : ((("(" : String) : Str)).length = 1 := rfl
  have h3 : (((if (PyData.shownAll ds).length == 1 then ",)" else ")" : String) : Str)).length ≤ 2 := by split <;> decide
  have h4 : (Str.join ", " (PyData.shownAll ds)).length ≤ piled (PyData.shownAll ds) := by
    by_cases q : PyData.shownAll ds = []
    · rw [q]; decide
    · have := join_length_add _ q; omega
  omega
theorem shw_tab {k m n : Nat} {g : Nat → D} (h : ∀ i, i < n → Shw k m (g i)) : Shw (k + 1) (n * (m + 2) + 4) (tab n g) := by
  rw [tab_eq]
  have := shw_list (k := k) (m := m) (ds := (List.range n).map g) fun d hd => by
    obtain ⟨i, hi, rfl⟩ := List.mem_map.mp hd
    exact h i (List.mem_range.mp hi)
  simpa using this
theorem shw_frQ {q : Rat} (h : Bq 1919 q) : Shw 1 3850 (frQ q) :=
  (shw_tuple (k := 0) (m := 1921) fun d hd => by
    rcases List.mem_cons.mp hd with rfl | hd
    · exact shw_int h.num
    · obtain rfl : d = _ := by simpa using hd
      exact shw_int h.den).up (by decide) (show 2 * (1921 + 2) + 4 ≤ 3850 by decide)
theorem shw_rowQ {n : Nat} {u : Nat → Rat} (hn : n ≤ 40) (h : ∀ k, Bq 1919 (u k)) : Shw 2 154084 (rowQ n u) := (shw_tab fun i _ => shw_frQ (h i)).up (by decide) (by
  have : n * 3852 ≤ 40 * 3852 := Nat.mul_le_mul_right 3852 hn
  omega)
theorem shw_rowQ7 {n : Nat} {u : Nat → Rat} (hn : n ≤ 7) (h : ∀ k, Bq 1919 (u k)) : Shw 2 27000 (rowQ n u) := (shw_tab fun i _ => shw_frQ (h i)).up (by decide) (by
  have : n * 3852 ≤ 7 * 3852 := Nat.mul_le_mul_right 3852 hn
  omega)
theorem shw_matQ7 {n : Nat} {u : Nat → Nat → Rat} (hn : n ≤ 7) (h : ∀ i k, Bq 1919 (u i k)) : Shw 3 190000 (matQ n u) := (shw_tab fun i _ => shw_rowQ7 hn (h i)).up (by decide) (by
  have : n * 27002 ≤ 7 * 27002 := Nat.mul_le_mul_right 27002 hn
  omega)
theorem shw_cubQ7 {n : Nat} {u : Nat → Nat → Nat → Rat} (hn : n ≤ 7) (h : ∀ i j k, Bq 1919 (u i j k)) : Shw 4 1400000 (cubQ n u) := (shw_tab fun i _ => shw_matQ7 hn (h i)).up (by decide) (Nat.le_trans (Nat.add_le_add_right (Nat.mul_le_mul_right (190000 + 2) hn) 4) (by decide))
end Q

/-! ## The program's sums of rows, products, deeds -/
local macro_rules | `(tactic| walk_at "w") => `(tactic| (conv => whnf))
namespace Q
open PySem L2
-- added: ['one', 'other', 'number', 'u', 'v']
def bAddedP (iPlus iTimes : Nat) : Ss :=
    (.cons (.ret (.comp 0 [3, 4] (.tp (.cons (.nm 3) (.cons (.nm 4) .nil))) (.zip (.var 0) (.var 1)) .none (.call iPlus 0 (.cons (.var 3) (.cons (.call iTimes 0 (.cons (.var 2) (.cons (.var 4) .nil))) .nil)))))
    .nil)
-- sum_of: ['size', 'rows', 'numbers', 'found', 'row', 'number', 'place']
def bSumOfP (iAdded : Nat) : Ss :=
    (.cons (.seto 3 1 (.comp 0 [6] (.nm 6) (.rng (.var 0)) .none (.gl "NOUGHT" (.tuple [(.int 0), (.int 1)]))))
    (.cons (.for (.tp (.cons (.nm 4) (.cons (.nm 5) .nil))) (.zip (.var 1) (.var 2)) (.cons (.ite (.cmp .NotEq (.var 5) (.gl "NOUGHT" (.tuple [(.int 0), (.int 1)]))) (.cons (.seto 3 1 (.call iAdded 1 (.cons (.var 3) (.cons (.var 4) (.cons (.var 5) .nil)))))
    .nil) .nil)
    .nil))
    (.cons (.ret (.mv 3 1))
    .nil)))
-- product: ['algebra', 'u', 'v', 'size', 'rows']
def bProductP (iSumOf : Nat) : Ss :=
    (.cons (.set 3 (.blt .len (.cons (.var 0) .nil)))
    (.cons (.ret (.call iSumOf 1 (.cons (.var 3) (.cons (.comp 1 [4] (.nm 4) (.lst (.var 0)) .none (.call iSumOf 1 (.cons (.var 3) (.cons (.var 4) (.cons (.var 2) .nil))))) (.cons (.var 1) .nil)))))
    .nil))
-- deed: ['algebra', 'u', 'size', 'j', 'i']
def bDeedP (iSumOf : Nat) : Ss :=
    (.cons (.set 2 (.blt .len (.cons (.var 0) .nil)))
    (.cons (.ret (.comp 1 [3] (.nm 3) (.rng (.var 2)) .none (.call iSumOf 1 (.cons (.var 2) (.cons (.comp 0 [4] (.nm 4) (.rng (.var 2)) .none (.ix (.ix (.var 0) (.var 4)) (.var 3))) (.cons (.var 1) .nil))))))
    .nil))
-- led: ['table', 'v']
def bLedP (iSumOf : Nat) : Ss :=
    (.cons (.ret (.call iSumOf 1 (.cons (.blt .len (.cons (.ix (.var 0) (.int 0)) .nil)) (.cons (.var 0) (.cons (.var 1) .nil)))))
    .nil)

/-- m rows of n places -/
def matR (m n : Nat) (g : Nat → Nat → Rat) : D := tab m fun i => rowQ n (g i)
theorem ok_addedP {body : Ss} (Γ : List Ent) (iP iT : Nat) (hP : ∃ s, Γ[iP]? = some ⟨s, spPlus⟩) (hT : ∃ s, Γ[iT]? = some ⟨s, spTimes⟩) (hb : body = bAddedP iP iT) : ∀ ds Φ Ξ, ds.length = 3 → spMore ds Φ Ξ → svs Γ body (ktOf none Φ Ξ) (Q.envOf none 5 ds) := by
  subst hb
  rintro ds Φ Ξ - ⟨n, u, v, x, rfl, ⟨hu, hv, hxv, hx⟩, h⟩
  obtain ⟨sP, hP⟩ := hP
  obtain ⟨sT, hT⟩ := hT
  walk_at "w"
  refine ⟨_, _, tab_eq _ _, tab_eq _ _, ?_⟩
  (refine (And.intro rfl ?_); walk_at "w")
  refine comp_zip (fun k => frQ (u k + x * v k)) (fun k hk W hW => ?_) ?_
  · walk_at "w"
    refine ⟨_, hT, x, v k, rfl, ⟨hx, hv k⟩, ?_⟩
    walk_at "w"
    refine ⟨_, hP, u k, x * v k, rfl, ⟨hu k, hxv k⟩, ?_⟩
    exact hW
  · rw [rowQ_list]
    exact h
def spSumOf : FSp := fun ds Φ _ => ∃ (n m : Nat) (R : Nat → Nat → Rat) (w : Nat → Rat) (d a e b : Nat), ds = [.int (n : Nat), matR m n R, rowQ m w] ∧ (n ≤ 100 ∧ m ≤ 100 ∧ Fit (d * e) (a * b) ∧ (∀ i, Sm d a (w i)) ∧ ∀ i k, Sm e b (R i k)) ∧ Φ (rowQ n fun k => sm m fun i => w i * R i k) .none
theorem ok_sumOfP {body : Ss} (Γ : List Ent) (iA : Nat) (hA : ∃ s, Γ[iA]? = some ⟨s, spMore⟩) (hb : body = bSumOfP iA) : ∀ ds Φ Ξ, ds.length = 3 → spSumOf ds Φ Ξ → svs Γ body (ktOf none Φ Ξ) (Q.envOf none 7 ds) := by
  subst hb
  rintro ds Φ Ξ - ⟨n, m, R, w, d, a, e, b, rfl, ⟨hn, hm, hF, hw, hR⟩, h⟩
  obtain ⟨sA, hA⟩ := hA
  (refine (Exists.intro _ (And.intro rfl ?_)); walk_at "w")
  refine ⟨by omega, ?_⟩
  rw [Int.toNat_natCast]
  (refine (And.intro rfl ?_); walk_at "w")
  refine comp_tab (fun k => frQ 0) (fun k hk W hW => ?_) ?_
  · walk_at "w"
    exact hW
  · walk_at "w"
    refine ⟨_, _, tab_eq _ _, tab_eq _ _, ?_⟩
    walk_at "w"
    refine for_zip (fun i ρ => ∃ c4 c5, ρ = [.va (.int (n : Nat)), .va (matR m n R), .va (rowQ m w), .ow 1 (rowQ n fun k => sm i fun i => w i * R i k), c4, c5, .un]) ⟨.un, .un, ?_⟩ ?_ ?_
    · have e : PyData.list ((List.range n).map fun k => frQ 0) = rowQ n fun k => sm 0 fun i => w i * R i k := rowQ_list n _
      rw [← e] <;> rfl
    · rintro i ρ hi ⟨c4, c5, rfl⟩ W hW
      (refine (And.intro rfl (And.intro rfl (Exists.intro _ (And.intro rfl ?_)))); walk_at "w")
      rw [show PyData.eqv (frQ (w i)) (PyData.tuple [PyData.int 0, PyData.int 1]) = decide (w i = 0) from eqv_frQ (w i) 0]
      refine sel_mk (fun q => ?_) (fun q => ?_)
      · walk_at "w"
        refine ⟨_, hA, n, fun k => sm i fun i => w i * R i k, R i, w i, rfl, ⟨fun k => Sm.fitSm (fun i => (hw i).mul (hR i k)) (by omega) hF, fun k => (hw i).fitR (hR i k) hF, fun k => ((hw i).mul (hR i k)).fit hF, (hw i).fitL (hR i i) hF⟩, ?_⟩
        exact hW _ ⟨_, _, rfl⟩
      · have q : w i = 0 := by simpa using q
        walk_at "w"
        refine hW _ ⟨.va (rowQ n (R i)), .va (frQ (w i)), ?_⟩
        have e : (rowQ n fun k => sm (i + 1) fun i => w i * R i k) = rowQ n fun k => sm i fun i => w i * R i k := rowQ_congr fun k _ => by
          show sm i _ + w i * R i k = _
          rw [q]; grind
        rw [e] <;> rfl
    · rintro ρ ⟨c4, c5, rfl⟩
      (refine (Exists.intro _ (And.intro rfl ?_)); walk_at "w")
      exact h
theorem ok_productP {body : Ss} (Γ : List Ent) (iS : Nat) (hS : ∃ s, Γ[iS]? = some ⟨s, spSumOf⟩) (hb : body = bProductP iS) : ∀ ds Φ Ξ, ds.length = 3 → spProduct ds Φ Ξ → svs Γ body (ktOf none Φ Ξ) (Q.envOf none 5 ds) := by
  subst hb
  rintro ds Φ Ξ - ⟨n, c, u, v, d, a, e, b, f, l, rfl, ⟨hn, hF, hu, hv, hc⟩, h⟩
  obtain ⟨sS, hS⟩ := hS
  have hin : ∀ i k, Sm (d * e) (100 * (a * b) + 1) (sm n fun j => v j * c i j k) := fun i k => (Sm.sm (fun j => (hv j).mul (hc i j k)) n).mono (by have : n * (a * b) ≤ 100 * (a * b) := Nat.mul_le_mul_right _ hn; omega)
  have hF2 : Fit (d * e) (a * b) := by
    have h1 := (hu 0).pos
    refine hF.up (Nat.le_mul_of_pos_left _ h1.1) ?_
    exact Nat.le_trans (by omega) (Nat.le_mul_of_pos_left (100 * (a * b) + 1) h1.2)
  walk_at "w"
  refine len_tab ?_
  walk_at "w"
  refine ⟨_, tab_eq _ _, ?_⟩
  (refine (And.intro rfl ?_); walk_at "w")
  refine comp_tab (fun i => rowQ n fun k => sm n fun j => v j * c i j k) (fun i hi W hW => ?_) ?_
  · walk_at "w"
    refine ⟨_, hS, n, n, c i, v, d, a, e, b, rfl, ⟨hn, hn, hF2, hv, hc i⟩, ?_⟩
    exact hW
  · rw [show PyData.list ((List.range n).map fun i => rowQ n fun k => sm n fun j => v j * c i j k) = matR n n (fun i k => sm n fun j => v j * c i j k) from matQ_list n _]
    walk_at "w"
    refine ⟨_, hS, n, n, _, u, f, l, _, _, rfl, ⟨hn, hn, hF, hu, hin⟩, ?_⟩
    exact h
def spDeed : FSp := fun ds Φ _ => ∃ (n : Nat) (c : Nat → Nat → Nat → Rat) (u : Nat → Rat) (d a e b : Nat), ds = [cubQ n c, rowQ n u] ∧ (n ≤ 100 ∧ Fit (d * e) (a * b) ∧ (∀ i, Sm d a (u i)) ∧ ∀ i j k, Sm e b (c i j k)) ∧ Φ (matQ n fun j k => sm n fun i => u i * c i j k) .none
theorem ok_deedP {body : Ss} (Γ : List Ent) (iS : Nat) (hS : ∃ s, Γ[iS]? = some ⟨s, spSumOf⟩) (hb : body = bDeedP iS) : ∀ ds Φ Ξ, ds.length = 2 → spDeed ds Φ Ξ → svs Γ body (ktOf none Φ Ξ) (Q.envOf none 5 ds) := by
  subst hb
  rintro ds Φ Ξ - ⟨n, c, u, d, a, e, b, rfl, ⟨hn, hF, hu, hc⟩, h⟩
  obtain ⟨sS, hS⟩ := hS
  walk_at "w"
  refine len_tab ?_
  (refine (Exists.intro _ (And.intro rfl ?_)); walk_at "w")
  refine ⟨by omega, ?_⟩
  rw [Int.toNat_natCast]
  (refine (And.intro rfl ?_); walk_at "w")
  refine comp_tab (fun j => rowQ n fun k => sm n fun i => u i * c i j k) (fun j hj W hW => ?_) ?_
  · (refine (Exists.intro _ (And.intro rfl ?_)); walk_at "w")
    refine ⟨by omega, ?_⟩
    rw [Int.toNat_natCast]
    (refine (And.intro rfl ?_); walk_at "w")
    refine comp_tab (fun i => rowQ n (c i j)) (fun i hi V hV => ?_) ?_
    · walk_at "w"
      refine ixD_nat hi ?_
      walk_at "w"
      refine ixD_nat hj ?_
      exact hV
    · rw [show PyData.list ((List.range n).map fun i => rowQ n (c i j)) = matR n n (fun i k => c i j k) from matQ_list n _]
      walk_at "w"
      refine ⟨_, hS, n, n, _, u, d, a, e, b, rfl, ⟨hn, hn, hF, hu, fun i k => hc i j k⟩, ?_⟩
      exact hW
  · rw [matQ_list]
    exact h
def spLed2 : FSp := fun ds Φ _ => ∃ (n m : Nat) (T : Nat → Nat → Rat) (v : Nat → Rat) (d a e b : Nat), ds = [matR m n T, rowQ m v] ∧ (n ≤ 100 ∧ m ≤ 100 ∧ 0 < m ∧ Fit (d * e) (a * b) ∧ (∀ i, Sm d a (v i)) ∧ ∀ i k, Sm e b (T i k)) ∧ Φ (rowQ n fun k => sm m fun i => v i * T i k) .none
theorem ok_ledP {body : Ss} (Γ : List Ent) (iS : Nat) (hS : ∃ s, Γ[iS]? = some ⟨s, spSumOf⟩) (hb : body = bLedP iS) : ∀ ds Φ Ξ, ds.length = 2 → spLed2 ds Φ Ξ → svs Γ body (ktOf none Φ Ξ) (Q.envOf none 2 ds) := by
  subst hb
  rintro ds Φ Ξ - ⟨n, m, T, v, d, a, e, b, rfl, ⟨hn, hm, hm0, hF, hv, hT⟩, h⟩
  obtain ⟨sS, hS⟩ := hS
  walk_at "w"
  refine ixD_nat (i := 0) hm0 ?_
  walk_at "w"
  refine len_tab ?_
  walk_at "w"
  refine ⟨_, hS, n, m, T, v, d, a, e, b, rfl, ⟨hn, hm, hF, hv, hT⟩, ?_⟩
  exact h
end Q

/-! ## k11: the law's own rows and products -/
local macro_rules | `(tactic| walk_at "w") => `(tactic| (conv => whnf))
namespace Q
open PySem L2
-- _law_put: ['_law_row_here', '_law_number', '_law_other', '_law_u', '_law_v']
def bPut (iPlus iTimes : Nat) : Ss :=
    (.cons (.ret (.comp 0 [3, 4] (.tp (.cons (.nm 3) (.cons (.nm 4) .nil))) (.zip (.var 0) (.var 2)) .none (.call iPlus 0 (.cons (.var 3) (.cons (.call iTimes 0 (.cons (.var 1) (.cons (.var 4) .nil))) .nil)))))
    .nil)
-- _law_product: ['_law_found', '_law_u', '_law_v', '_law_size', '_law_total', '_law_i', '_law_j']
def bProduct11 (iTimes iPut : Nat) : Ss :=
    (.cons (.set 3 (.blt .len (.cons (.var 0) .nil)))
    (.cons (.set 4 (.rep (.lst 0 (.cons (.tup (.cons (.int 0) (.cons (.int 1) .nil))) .nil)) (.var 3)))
    (.cons (.for (.nm 5) (.rng (.var 3)) (.cons (.for (.nm 6) (.rng (.var 3)) (.cons (.ite (.and (.cmp .NotEq (.ix (.ix (.var 1) (.var 5)) (.int 0)) (.int 0)) (.cmp .NotEq (.ix (.ix (.var 2) (.var 6)) (.int 0)) (.int 0))) (.cons (.set 4 (.call iPut 0 (.cons (.var 4) (.cons (.call iTimes 0 (.cons (.ix (.var 1) (.var 5)) (.cons (.ix (.var 2) (.var 6)) .nil))) (.cons (.ix (.ix (.var 0) (.var 5)) (.var 6)) .nil)))))
    .nil) .nil)
    .nil))
    .nil))
    (.cons (.ret (.var 4))
    .nil))))
-- _law_unit: ['_law_size', '_law_place', '_law_k']
def bUnit : Ss :=
    (.cons (.ret (.comp 0 [2] (.nm 2) (.rng (.var 0)) .none (.tup (.cons (.blt .int (.cons (.cmp .Eq (.var 2) (.var 1)) .nil)) (.cons (.int 1) .nil)))))
    .nil)
-- _law_row: ['_law_bag_here', '_law_size', '_law_found', '_law_place', '_law_way', '_law_number']
def bRow11 (iTake iLowest : Nat) : Ss :=
    (.cons (.seto 2 1 (.lst 0 .nil))
    (.cons (.for (.nm 3) (.rng (.var 1)) (.cons (.set 4 (.callr iTake 0 0 (.cons (.int 8) .nil)))
    (.cons (.app 2 (.call iLowest 0 (.cons (.op .Sub (.callr iTake 0 0 (.cons (.int 13) .nil)) (.int 6)) (.cons (.op .Add (.int 1) (.callr iTake 0 0 (.cons (.int 4) .nil))) .nil))))
    (.cons (.ite (.cmp .Eq (.var 4) (.int 0)) (.cons (.set 5 (.op .Add (.op .Mult (.callr iTake 0 0 (.cons (.op .Pow (.int 10) (.int 6)) .nil)) (.op .Pow (.int 10) (.int 6))) (.callr iTake 0 0 (.cons (.op .Pow (.int 10) (.int 6)) .nil))))
    (.cons (.stp 2 0 .nil (.neg (.int 1)) (.call iLowest 0 (.cons (.var 5) (.cons (.op .Add (.int 1) (.callr iTake 0 0 (.cons (.op .Pow (.int 10) (.int 6)) .nil))) .nil))))
    .nil)) .nil)
    (.cons (.ite (.cmp .Gt (.var 4) (.int 5)) (.cons (.stp 2 0 .nil (.neg (.int 1)) (.tup (.cons (.int 0) (.cons (.int 1) .nil))))
    .nil) .nil)
    .nil)))))
    (.cons (.ret (.var 2))
    .nil)))

def spPut : FSp := fun ds Φ _ => ∃ (n : Nat) (u v : Nat → Rat) (x : Rat), ds = [rowQ n u, frQ x, rowQ n v] ∧ ((∀ k, Bq 4000 (u k)) ∧ (∀ k, Bq 4000 (v k)) ∧ (∀ k, Bq 4000 (x * v k)) ∧ Bq 4000 x) ∧ Φ (rowQ n fun k => u k + x * v k) .none
theorem ok_put {body : Ss} (Γ : List Ent) (iP iT : Nat) (hP : ∃ s, Γ[iP]? = some ⟨s, spPlus⟩) (hT : ∃ s, Γ[iT]? = some ⟨s, spTimes⟩) (hb : body = bPut iP iT) : ∀ ds Φ Ξ, ds.length = 3 → spPut ds Φ Ξ → svs Γ body (ktOf none Φ Ξ) (Q.envOf none 5 ds) := by
  subst hb
  rintro ds Φ Ξ - ⟨n, u, v, x, rfl, ⟨hu, hv, hxv, hx⟩, h⟩
  obtain ⟨sP, hP⟩ := hP
  obtain ⟨sT, hT⟩ := hT
  walk_at "w"
  refine ⟨_, _, tab_eq _ _, tab_eq _ _, ?_⟩
  (refine (And.intro rfl ?_); walk_at "w")
  refine comp_zip (fun k => frQ (u k + x * v k)) (fun k hk W hW => ?_) ?_
  · walk_at "w"
    refine ⟨_, hT, x, v k, rfl, ⟨hx, hv k⟩, ?_⟩
    walk_at "w"
    refine ⟨_, hP, u k, x * v k, rfl, ⟨hu k, hxv k⟩, ?_⟩
    exact hW
  · rw [rowQ_list]
    exact h
/-- a unit row -/
def unitQ (i k : Nat) : Rat := if k = i then 1 else 0
def spUnit : FSp := fun ds Φ _ => ∃ n i : Nat, ds = [.int (n : Nat), .int (i : Nat)] ∧ n ≤ 100 ∧ Φ (rowQ n (unitQ i)) .none
theorem unit_fr (i k : Nat) : PyData.tuple [.int (if PyData.eqv (.int (k : Nat)) (.int (i : Nat)) = true then 1 else 0), .int 1] = frQ (unitQ i k) := by
  rw [eqv_int]
  unfold unitQ
  by_cases h : k = i
  · subst h
    simp
  · have : ¬ ((k : Nat) : Int) = (i : Nat) := by omega
    simp [h, this]
theorem ok_unit {body : Ss} (Γ : List Ent) (hb : body = bUnit) : ∀ ds Φ Ξ, ds.length = 2 → spUnit ds Φ Ξ → svs Γ body (ktOf none Φ Ξ) (Q.envOf none 3 ds) := by
  subst hb
  rintro ds Φ Ξ - ⟨n, i, rfl, hn, h⟩
  (refine (Exists.intro _ (And.intro rfl ?_)); walk_at "w")
  refine ⟨by omega, ?_⟩
  rw [Int.toNat_natCast]
  (refine (And.intro rfl ?_); walk_at "w")
  refine comp_tab (fun k => frQ (unitQ i k)) (fun k hk W hW => ?_) ?_
  · (refine (And.intro rfl (And.intro rfl ?_)); walk_at "w")
    rw [unit_fr]
    exact hW
  · rw [rowQ_list]
    exact h
/-- the law's own product of two rows -/
def spProduct11 : FSp := fun ds Φ _ => ∃ (n : Nat) (c : Nat → Nat → Nat → Rat) (u v : Nat → Rat) (d a e b f l : Nat), ds = [cubQ n c, rowQ n u, rowQ n v] ∧ (n ≤ 100 ∧ Fit ((f * d) * e) ((l * a) * b) ∧ (∀ i, Sm f l (u i)) ∧ (∀ i, Sm d a (v i)) ∧ ∀ i j k, Sm e b (c i j k)) ∧ Φ (rowQ n fun k => sm n fun i => u i * sm n fun j => v j * c i j k) .none
theorem ok_product11 {body : Ss} (Γ : List Ent) (iT iP : Nat) (hT : ∃ s, Γ[iT]? = some ⟨s, spTimes⟩) (hP : ∃ s, Γ[iP]? = some ⟨s, spPut⟩) (hb : body = bProduct11 iT iP) : ∀ ds Φ Ξ, ds.length = 3 → spProduct11 ds Φ Ξ → svs Γ body (ktOf none Φ Ξ) (Q.envOf none 7 ds) := by
  subst hb
  rintro ds Φ Ξ - ⟨n, c, u, v, d, a, e, b, f, l, rfl, ⟨hn, hF, hu, hv, hc⟩, h⟩
  obtain ⟨sP, hP⟩ := hP
  obtain ⟨sT, hT⟩ := hT
  have huv : ∀ i j, Sm (f * d) (l * a) (u i * v j) := fun i j => (hu i).mul (hv j)
  have hF2 : Fit (f * d) (l * a) := hF.up (Nat.le_mul_of_pos_right _ (hc 0 0 0).pos.1) (Nat.le_mul_of_pos_right _ (hc 0 0 0).pos.2)
  generalize hS : (fun i j k => u i * v j * c i j k) = S
  have hSm : ∀ i j k, Sm ((f * d) * e) ((l * a) * b) (S i j k) := fun i j k => by subst hS; exact (huv i j).mul (hc i j k)
  have res : (rowQ n fun k => sm n fun i => u i * sm n fun j => v j * c i j k) = rowQ n fun k => sm n fun i => sm n fun j => S i j k := rowQ_congr fun k _ => sm_congr fun i _ => by
    subst hS
    rw [← sm_mul]
    exact sm_congr fun j _ => by grind
  rw [res] at h
  walk_at "w"
  refine len_tab ?_
  walk_at "w"
  refine rep_tabN rfl (by omega) ?_
  (refine (Exists.intro _ (And.intro rfl ?_)); walk_at "w")
  refine ⟨by omega, ?_⟩
  rw [Int.toNat_natCast]
  refine for_tab (fun i ρ => ∃ c5 c6, ρ = [.va (cubQ n c), .va (rowQ n u), .va (rowQ n v), .va (.int (n : Nat)), .va (rowQ n fun k => sm i fun i => sm n fun j => S i j k), c5, c6]) ⟨.un, .un, rfl⟩ ?_ ?_
  · rintro i ρ hi ⟨c5, c6, rfl⟩ W hW
    (refine (Exists.intro _ (And.intro rfl ?_)); walk_at "w")
    refine ⟨by omega, ?_⟩
    rw [Int.toNat_natCast]
    refine for_tab (fun j ρ => ∃ c6, ρ = [.va (cubQ n c), .va (rowQ n u), .va (rowQ n v), .va (.int (n : Nat)), .va (rowQ n fun k => (sm i fun i => sm n fun j => S i j k) + sm j fun j => S i j k), .va (.int (i : Nat)), c6]) ⟨c6, ?_⟩ ?_ ?_
    · have e : (rowQ n fun k => (sm i fun i => sm n fun j => S i j k) + sm 0 fun j => S i j k) = rowQ n fun k => sm i fun i => sm n fun j => S i j k := rowQ_congr fun k _ => by
        show _ + 0 = _
        grind
      rw [e] <;> rfl
    · rintro j ρ hj ⟨c6, rfl⟩ V hV
      have skip : u i * v j = 0 → (rowQ n fun k => (sm i fun i => sm n fun j => S i j k) + sm (j + 1) fun j => S i j k) = rowQ n fun k => (sm i fun i => sm n fun j => S i j k) + sm j fun j => S i j k := fun z => rowQ_congr fun k _ => by
        show _ + (_ + S i j k) = _
        have : S i j k = 0 := by subst hS; show u i * v j * c i j k = 0; rw [z]; grind
        rw [this]; grind
      have skipped : u i * v j = 0 → V [.va (cubQ n c), .va (rowQ n u), .va (rowQ n v), .va (.int (n : Nat)), .va (rowQ n fun k => (sm i fun i => sm n fun j => S i j k) + sm j fun j => S i j k), .va (.int (i : Nat)), .va (.int (j : Nat))] := fun z => by
        rw [← skip z]
        exact hV _ ⟨_, rfl⟩
      walk_at "w"
      refine ixD_nat hi ?_
      (refine (ixD_t rfl (And.intro rfl (And.intro rfl (Exists.intro _ (And.intro rfl ?_))))); walk_at "w")
      rw [eqv_int0]
      refine sel_mk (fun q => ?_) (fun q => ?_)
      · walk_at "w"
        refine ixD_nat hj ?_
        (refine (ixD_t rfl (And.intro rfl (And.intro rfl (Exists.intro _ (And.intro rfl ?_))))); walk_at "w")
        rw [eqv_int0]
        refine sel_mk (fun q2 => ?_) (fun q2 => ?_)
        · walk_at "w"
          refine ixD_nat hi ?_
          walk_at "w"
          refine ixD_nat hj ?_
          walk_at "w"
          refine ⟨_, hT, u i, v j, rfl, ⟨(hu i).fitL (hv j) hF2, (hu i).fitR (hv j) hF2⟩, ?_⟩
          walk_at "w"
          refine ixD_nat hi ?_
          walk_at "w"
          refine ixD_nat hj ?_
          walk_at "w"
          refine ⟨_, hP, n, fun k => (sm i fun i => sm n fun j => S i j k) + sm j fun j => S i j k, c i j, u i * v j, rfl, ⟨fun k => Sm.fitSm2 (fun i j => hSm i j k) (by omega) (by omega) hn hF, fun k => (huv i j).fitR (hc i j k) hF, fun k => ((huv i j).mul (hc i j k)).fit hF, (huv i j).fit hF2⟩, ?_⟩
          refine hV _ ⟨.va (.int (j : Nat)), ?_⟩
          have e : (rowQ n fun k => (sm i fun i => sm n fun j => S i j k) + sm (j + 1) fun j => S i j k) = rowQ n fun k => ((sm i fun i => sm n fun j => S i j k) + sm j fun j => S i j k) + u i * v j * c i j k := rowQ_congr fun k _ => by
            show _ + (_ + S i j k) = _
            subst hS
            grind
          rw [e] <;> rfl
        · have q2 : v j = 0 := by simpa using q2
          walk_at "w"
          exact skipped (by rw [q2]; grind)
      · have q : u i = 0 := by simpa using q
        (refine (Exists.intro _ (And.intro rfl (sel_ff rfl ?_))); walk_at "w")
        exact skipped (by rw [q]; grind)
    · rintro ρ ⟨c6, rfl⟩
      exact hW _ ⟨.va (.int (i : Nat)), c6, rfl⟩
  · rintro ρ ⟨c5, c6, rfl⟩
    walk_at "w"
    exact h
end Q

local macro_rules | `(tactic| walk_at "w") => `(tactic| (conv => whnf))
namespace Q
open PySem L2
theorem pset_last (ds : List D) (x y : D) : pset (.list (ds ++ [x])) [.int (-1)] y = some (.list (ds ++ [y])) := by
  have h : ixN (ds ++ [x]).length (-1) = some ds.length := by
    unfold ixN
    rw [if_neg (by decide), List.length_append, List.length_singleton, if_pos (by omega)]
    congr 1
    omega
  have g : (ds ++ [x])[ds.length]? = some x := by simp
  simp only [pset, h, g]
  simp
/-- a drawn number: a bottom of its own -/
def NumG (y : Rat) : Prop := ∃ b : Nat, 0 < b ∧ b ≤ 2 ^ 20 ∧ Sm b (2 ^ 41) y
def RowG (i : Nat) (us : List Rat) : Prop := ∃ d : Nat, 0 < d ∧ d ≤ 2 ^ (20 * i) ∧ ∀ x ∈ us, Sm d (2 ^ (60 + 20 * i)) x
theorem RowG.snoc {i : Nat} {us : List Rat} {y : Rat} (h : RowG i us) (g : NumG y) : RowG (i + 1) (us ++ [y]) := by
  obtain ⟨d, d0, d1, hd⟩ := h
  obtain ⟨b, b0, b1, hb⟩ := g
  have e1 : 2 ^ (20 * (i + 1)) = 2 ^ (20 * i) * 2 ^ 20 := by rw [← Nat.pow_add]; congr 1
  have e2 : 2 ^ (60 + 20 * (i + 1)) = 2 ^ (60 + 20 * i) * 2 ^ 20 := by rw [← Nat.pow_add]; congr 1
  have e3 : 2 ^ 41 * 2 ^ (20 * i) ≤ 2 ^ (60 + 20 * (i + 1)) := by
    have : 2 ^ 41 * 2 ^ (20 * i) = 2 ^ (41 + 20 * i) := (Nat.pow_add 2 41 (20 * i)).symm
    rw [this]
    exact Nat.pow_le_pow_right (by decide) (by omega)
  refine ⟨d * b, Nat.mul_pos d0 b0, by rw [e1]; exact Nat.mul_le_mul d1 b1, fun x hx => ?_⟩
  rcases List.mem_append.mp hx with q | q
  · have := (hd x q).scale b b0
    refine this.mono ?_
    rw [e2]; exact Nat.mul_le_mul_left _ b1
  · obtain rfl : x = y := by simpa using q
    have := (hb.scale d d0)
    rw [Nat.mul_comm b d] at this
    exact this.mono (Nat.le_trans (Nat.mul_le_mul_left _ d1) e3)
theorem numG {a b : Int} (ha : a.natAbs < 2 ^ 41) (h0 : 0 < b) (hb : b ≤ 2 ^ 20) : NumG ((a : Rat) / (b : Rat)) := by
  obtain ⟨n, rfl⟩ : ∃ n : Nat, b = n := ⟨b.toNat, by omega⟩
  exact ⟨n, by omega, by omega, ⟨by omega, a, rfl, ha⟩⟩
theorem numG0 : NumG 0 := ⟨1, by decide, by decide, Sm.zero (by decide) (by decide)⟩
def spRow11 : FSp := fun ds Φ _ => ∃ (b : D) (n : Nat), ds = [b, .int (n : Nat)] ∧ (Bag b ∧ n ≤ 7) ∧ ∀ (u : Nat → Rat) (d : Nat) b', (0 < d ∧ d ≤ 2 ^ 140) → (∀ k, Sm d (2 ^ 200) (u k)) → Bag b' → Φ (rowQ n u) b'
theorem rowL_snoc (us : List Rat) (x : Rat) : PyData.list (us.map frQ ++ [frQ x]) = rowL (us ++ [x]) := by unfold rowL; rw [List.map_append]; rfl
theorem ok_row11 {body : Ss} (Γ : List Ent) (iT iL : Nat) (hT : Γ[iT]? = some entTake) (hL : ∃ s, Γ[iL]? = some ⟨s, spLowest⟩) (hb : body = bRow11 iT iL) : ∀ ds Φ Ξ, ds.length = 2 → spRow11 ds Φ Ξ → svs Γ body (ktOf (some 1) Φ Ξ) (Q.envOf (some 1) 6 ds) := by
  subst hb
  rintro ds Φ Ξ - ⟨b, n, rfl, ⟨hB, hn⟩, h⟩
  obtain ⟨sL, hL⟩ := hL
  (refine (Exists.intro _ (And.intro rfl ?_)); walk_at "w")
  refine ⟨by omega, ?_⟩
  rw [Int.toNat_natCast]
  refine for_tab (fun i ρ => ∃ b us c3 c4 c5, ρ = [.ow 1 b, .va (.int (n : Nat)), .ow 1 (rowL us), c3, c4, c5] ∧ Bag b ∧ us.length = i ∧ RowG i us) ⟨b, [], .un, .un, .un, rfl, hB, rfl, ⟨1, by decide, by decide, fun _ h => nomatch h⟩⟩ ?_ ?_
  · rintro i ρ hi ⟨b, us, c3, c4, c5, rfl, hB, hl, hR⟩ W hW
    walk_at "w"
    refine ⟨isOw_bag hB, ?_⟩
    walk_at "w"
    refine ⟨_, _, _, hT, rfl, rfl, _, 8, rfl, ⟨hB, by decide, by decide⟩, fun way b2 w0 w1 hB2 => ?_⟩
    (refine (And.intro True.intro ?_); walk_at "w")
    refine ⟨isOw_bag hB2, ?_⟩
    walk_at "w"
    refine ⟨_, _, _, hT, rfl, rfl, _, 13, rfl, ⟨hB2, by decide, by decide⟩, fun s b3 s0 s1 hB3 => ?_⟩
    walk_at "w"
    refine ⟨isOw_bag hB3, ?_⟩
    walk_at "w"
    refine ⟨_, _, _, hT, rfl, rfl, _, 4, rfl, ⟨hB3, by decide, by decide⟩, fun t b4 t0 t1 hB4 => ?_⟩
    walk_at "w"
    refine ⟨_, hL, s - 6, 1 + t, rfl, ⟨by omega, by unfold Bd; exact Nat.lt_of_lt_of_le (show (1 + t).natAbs < 2 ^ 4 by omega) (Nat.pow_le_pow_right (by decide) (by decide))⟩, ?_⟩
    walk_at "w"
    refine ⟨.inl rfl, ?_⟩
    refine ⟨by simp [hl]; omega, ?_⟩
    have g1 : NumG (((s - 6 : Int) : Rat) / ((1 + t : Int) : Rat)) := numG (by omega) (by omega) (by omega)
    generalize ((s - 6 : Int) : Rat) / ((1 + t : Int) : Rat) = x at *
    rw [rowL_snoc]
    (refine (And.intro rfl (And.intro rfl (Exists.intro _ (And.intro rfl ?_)))); walk_at "w")
    refine ite_join fun N hN => ?_
    have tail : ∀ (y : Rat) b c5, NumG y → Bag b → N [.ow 1 b, .va (.int (n : Nat)), .ow 1 (rowL (us ++ [y])), .va (.int (i : Nat)), .va (.int way), c5] := fun y b c5 g hB => by
      rw [hN]
      (refine (Exists.intro _ (And.intro rfl ?_)); walk_at "w")
      refine sel_mk (fun q => ?_) (fun q => ?_)
      · (refine (Exists.intro _ (And.intro rfl (Exists.intro _ (And.intro rfl ?_)))); walk_at "w")
        refine ⟨_, by rw [← rowL_snoc]; exact pset_last _ _ _, ?_⟩
        rw [show PyData.list (us.map frQ ++ [PyData.tuple [PyData.int 0, PyData.int 1]]) = rowL (us ++ [0]) from rowL_snoc us 0]
        exact hW _ ⟨_, _, _, _, _, rfl, hB, by simp [hl], hR.snoc numG0⟩
      · walk_at "w"
        exact hW _ ⟨_, _, _, _, _, rfl, hB, by simp [hl], hR.snoc g⟩
    refine sel_mk (fun q => ?_) (fun q => ?_)
    · walk_at "w"
      refine ⟨isOw_bag hB4, ?_⟩
      (refine (And.intro (by decide) (And.intro (by decide) ?_)); walk_at "w")
      refine ⟨_, _, _, hT, rfl, rfl, _, _, rfl, ⟨hB4, by decide, by decide⟩, fun p b5 p0 p1 hB5 => ?_⟩
      (refine (And.intro (by decide) (And.intro (by decide) ?_)); walk_at "w")
      refine ⟨(bdB (n := 20) p0 (by have : (10 : Int) ^ Int.toNat 6 = 1000000 := by decide
                                    omega) : Bd 20 p).mulok (show Bd 20 ((10 : Int) ^ Int.toNat 6) by unfold Bd; decide) (by decide), ?_⟩
      walk_at "w"
      refine ⟨isOw_bag hB5, ?_⟩
      (refine (And.intro (by decide) (And.intro (by decide) ?_)); walk_at "w")
      refine ⟨_, _, _, hT, rfl, rfl, _, _, rfl, ⟨hB5, by decide, by decide⟩, fun r b6 r0 r1 hB6 => ?_⟩
      walk_at "w"
      refine ⟨isOw_bag hB6, ?_⟩
      (refine (And.intro (by decide) (And.intro (by decide) ?_)); walk_at "w")
      refine ⟨_, _, _, hT, rfl, rfl, _, _, rfl, ⟨hB6, by decide, by decide⟩, fun m b7 m0 m1 hB7 => ?_⟩
      have e6 : (10 : Int) ^ Int.toNat 6 = 1000000 := by decide
      rw [e6] at p1 r1 m1
      walk_at "w"
      refine ⟨_, hL, _, 1 + m, rfl, ⟨by omega, by unfold Bd; exact Nat.lt_of_lt_of_le (show (1 + m).natAbs < 2 ^ 21 by omega) (Nat.pow_le_pow_right (by decide) (by decide))⟩, ?_⟩
      (refine (Exists.intro _ (And.intro rfl (Exists.intro _ (And.intro rfl ?_)))); walk_at "w")
      refine ⟨_, by rw [← rowL_snoc]; exact pset_last _ _ _, ?_⟩
      rw [rowL_snoc]
      refine tail _ _ _ (numG ?_ (by omega) (by omega)) hB7
      rw [e6]; omega
    · walk_at "w"
      exact tail x _ _ g1 hB4
  · rintro ρ ⟨b, us, c3, c4, c5, rfl, hB, hl, d, d0, d1, hd⟩
    subst hl
    (refine (Exists.intro _ (And.intro rfl ?_)); walk_at "w")
    rw [rowL_rowQ]
    have h140 : d ≤ 2 ^ 140 := Nat.le_trans d1 (Nat.pow_le_pow_right (by decide) (by omega))
    refine h _ d b ⟨d0, h140⟩ (fun k => ?_) hB
    rw [List.getD_eq_getElem?_getD]
    by_cases q : k < us.length
    · rw [List.getElem?_eq_getElem q]
      exact (hd _ (List.getElem_mem q)).mono (Nat.pow_le_pow_right (by decide) (by omega))
    · rw [List.getElem?_eq_none (by omega)]
      exact Sm.zero d0 (Nat.two_pow_pos _)
end Q

/-! ## k11: what a table leads to, unit rows -/
local macro_rules | `(tactic| walk_at "w") => `(tactic| (conv => whnf))
namespace Q
open PySem L2
-- _law_led_right: ['_law_bag_here', '_law_table', '_law_other', '_law_place', '_law_u', '_law_due', '_law_ahead', '_law_turn', '_law_number', '_law_row_here', '_law_made']
def bLedRight (iLedP iTake iPut iUnit iRow : Nat) : Ss :=
    (.cons (.seto 1 1 (.lst 0 .nil))
    (.cons (.set 2 (.callr iTake 0 0 (.cons (.int 7) .nil)))
    (.cons (.for (.nm 3) (.rng (.op .Add (.int 1) (.callr iTake 0 0 (.cons (.int 6) .nil)))) (.cons (.app 1 (.callr iRow 0 0 (.cons (.var 2) .nil)))
    .nil))
    (.cons (.set 4 (.callr iRow 0 0 (.cons (.lenv 1) .nil)))
    (.cons (.set 5 (.rep (.lst 0 (.cons (.tup (.cons (.int 0) (.cons (.int 1) .nil))) .nil)) (.var 2)))
    (.cons (.for (.tp (.cons (.nm 8) (.cons (.nm 9) .nil))) (.zip (.var 4) (.var 1)) (.cons (.set 5 (.call iPut 0 (.cons (.var 5) (.cons (.var 8) (.cons (.var 9) .nil)))))
    .nil))
    (.cons (.set 6 (.lend (.shw (.lst 0 (.cons (.var 1) (.cons (.var 4) .nil))))))
    (.cons (.for (.nm 7) (.rng (.int 2)) (.cons (.seto 10 1 (.lend (.call iLedP 1 (.cons (.var 1) (.cons (.var 4) .nil)))))
    (.cons (.ite (.lend (.or (.cmp .NotEq (.var 10) (.var 5)) (.cmps true (.shw (.lst 0 (.cons (.var 1) (.cons (.var 4) .nil)))) (.var 6)))) (.cons (.ret (.bl false))
    .nil) .nil)
    (.cons (.app 10 (.tup (.cons (.int 1) (.cons (.int 1) .nil))))
    .nil))))
    (.cons (.for (.nm 3) (.rng (.lenv 1)) (.cons (.seto 10 1 (.lend (.call iLedP 1 (.cons (.var 1) (.cons (.call iUnit 0 (.cons (.lenv 1) (.cons (.var 3) .nil))) .nil)))))
    (.cons (.ite (.lend (.cmp .NotEq (.var 10) (.ix (.var 1) (.var 3)))) (.cons (.ret (.bl false))
    .nil) .nil)
    (.cons (.app 10 (.tup (.cons (.int 1) (.cons (.int 1) .nil))))
    (.cons (.ite (.lend (.cmps true (.shw (.lst 0 (.cons (.var 1) (.cons (.var 4) .nil)))) (.var 6))) (.cons (.ret (.bl false))
    .nil) .nil)
    .nil)))))
    (.cons (.ret (.bl true))
    .nil))))))))))
-- _law_units_right: ['_law_found', '_law_size', '_law_ahead', '_law_i', '_law_often', '_law_u', '_law_table', '_law_j', '_law_row_here', '_law_v', '_law_kept', '_law_told', '_law_k', '_law_place']
def bUnitsRight (iProductP iDeedP iLedP iProduct iUnit : Nat) : Ss :=
    (.cons (.set 1 (.blt .len (.cons (.var 0) .nil)))
    (.cons (.set 2 (.shw (.var 0)))
    (.cons (.for (.nm 3) (.rng (.var 1)) (.cons (.for (.nm 4) (.lst (.lst 0 (.cons (.int 1) (.cons (.neg (.int 1)) (.cons (.int 2) .nil))))) (.cons (.set 5 (.comp 0 [12] (.nm 12) (.rng (.var 1)) .none (.tup (.cons (.op .Mult (.var 4) (.blt .int (.cons (.cmp .Eq (.var 12) (.var 3)) .nil))) (.cons (.int 1) .nil)))))
    (.cons (.seto 6 2 (.call iDeedP 2 (.cons (.var 0) (.cons (.var 5) .nil))))
    (.cons (.ite (.lend (.cmp .NotEq (.var 6) (.comp 0 [13] (.nm 13) (.rng (.var 1)) .none (.call iProduct 0 (.cons (.var 0) (.cons (.var 5) (.cons (.call iUnit 0 (.cons (.var 1) (.cons (.var 13) .nil))) .nil))))))) (.cons (.ret (.bl false))
    .nil) .nil)
    (.cons (.for (.nm 7) (.rng (.var 1)) (.cons (.set 9 (.call iUnit 0 (.cons (.var 1) (.cons (.var 7) .nil))))
    (.cons (.set 10 (.lend (.shw (.lst 0 (.cons (.var 5) (.cons (.var 6) (.cons (.var 9) .nil)))))))
    (.cons (.forl 11 1 (.lend (.lst 1 (.cons (.call iProductP 1 (.cons (.var 0) (.cons (.var 5) (.cons (.var 9) .nil)))) (.cons (.call iLedP 1 (.cons (.var 6) (.cons (.var 9) .nil))) .nil)))) (.cons (.ite (.lend (.cmp .NotEq (.var 11) (.call iProduct 0 (.cons (.var 0) (.cons (.var 5) (.cons (.var 9) .nil)))))) (.cons (.ret (.bl false))
    .nil) .nil)
    (.cons (.stp 11 0 .nil (.int 0) (.tup (.cons (.int 77) (.cons (.int 1) .nil))))
    (.cons (.app 11 (.tup (.cons (.int 1) (.cons (.int 1) .nil))))
    .nil))))
    (.cons (.ite (.lend (.cmps true (.shw (.lst 0 (.cons (.var 5) (.cons (.var 6) (.cons (.var 9) .nil))))) (.var 10))) (.cons (.ret (.bl false))
    .nil) .nil)
    .nil)))))
    (.cons (.forb none 8 6 (.cons (.stp 8 0 .nil (.int 0) (.tup (.cons (.int 77) (.cons (.int 1) .nil))))
    (.cons (.app 8 (.tup (.cons (.int 1) (.cons (.int 1) .nil))))
    .nil)))
    (.cons (.ite (.cmps true (.shw (.var 0)) (.var 2)) (.cons (.ret (.bl false))
    .nil) .nil)
    .nil)))))))
    .nil))
    (.cons (.ret (.bl true))
    .nil))))

theorem app_tab {j p n : Nat} {g : Nat → D} {d : D} {k : Cell → Prop} (h : j = 0 ∨ j = p ∨ flat d = true) (hn : n < 16777216) (q : k (.ow (j + 1) (.list ((List.range n).map g ++ [d])))) : appC p (.ow (j + 1) (tab n g)) d k := by
  rw [tab_eq]
  exact ⟨h, by simpa using hn, q⟩
theorem leaf_rowQ (n : Nat) (u : Nat → Rat) : leaf 1 (rowQ n u) = true := leaf_tab fun _ _ => rfl
theorem leaf_matQ (n : Nat) (u : Nat → Nat → Rat) : leaf 2 (matQ n u) = true := leaf_tab fun _ _ => leaf_rowQ n _
theorem mul_le_pow {a b x y : Nat} (h1 : a ≤ 2 ^ x) (h2 : b ≤ 2 ^ y) : a * b ≤ 2 ^ (x + y) := by rw [Nat.pow_add]; exact Nat.mul_le_mul h1 h2
theorem fit_of {D A x y : Nat} (h1 : D ≤ 2 ^ x) (h2 : A ≤ 2 ^ y) (hx : x < 4000) (hy : y ≤ 3980) : Fit D A := by
  refine ⟨Nat.lt_of_le_of_lt h1 (Nat.pow_lt_pow_right (by decide) hx), ?_⟩
  have h3 : A + 1 ≤ 2 ^ (y + 1) := by
    have : 1 ≤ 2 ^ y := Nat.one_le_two_pow
    rw [Nat.pow_succ]; omega
  have h4 : 40000 * (A + 1) ≤ 2 ^ 16 * 2 ^ (y + 1) := Nat.mul_le_mul (by decide) h3
  rw [← Nat.pow_add] at h4
  exact Nat.le_trans h4 (Nat.pow_le_pow_right (by decide) (by omega))
theorem shw_matR7 {m n : Nat} {u : Nat → Nat → Rat} (hm : m ≤ 7) (hn : n ≤ 7) (h : ∀ i k, Bq 1919 (u i k)) : Shw 3 190000 (matR m n u) := (shw_tab fun i _ => shw_rowQ7 hn (h i)).up (by decide) (by
  have : m * 27002 ≤ 7 * 27002 := Nat.mul_le_mul_right 27002 hm
  omega)
theorem shp_matR (m n : Nat) (u : Nat → Nat → Rat) : shp 4 (matR m n u) := shp_tab fun i _ => shp_rowQ n _
theorem Sm.bq1919 {d a x y : Nat} {q : Rat} (h : Sm d a q) (h1 : d ≤ 2 ^ x) (h2 : a ≤ 2 ^ y) (hx : x < 1919) (hy : y ≤ 1919) : Bq 1919 q :=
  h.bq (Nat.le_trans h2 (Nat.pow_le_pow_right (by decide) hy)) (Nat.lt_of_le_of_lt h1 (Nat.pow_lt_pow_right (by decide) hx))
/-- rows drawn one by one, over one bottom -/
def TabG (i : Nat) (T : Nat → Nat → Rat) : Prop := ∃ d : Nat, 0 < d ∧ d ≤ 2 ^ (140 * i) ∧ ∀ j k, Sm d (2 ^ (200 + 140 * i)) (T j k)
theorem TabG.snoc {i : Nat} {T : Nat → Nat → Rat} {u : Nat → Rat} {e : Nat} (h : TabG i T) (he : 0 < e ∧ e ≤ 2 ^ 140) (hu : ∀ k, Sm e (2 ^ 200) (u k)) : TabG (i + 1) (fun j => if j < i then T j else u) := by
  obtain ⟨d, d0, d1, hd⟩ := h
  have e1 : 2 ^ (140 * (i + 1)) = 2 ^ (140 * i) * 2 ^ 140 := by rw [← Nat.pow_add]; congr 1
  have e2 : 2 ^ (200 + 140 * (i + 1)) = 2 ^ (200 + 140 * i) * 2 ^ 140 := by rw [← Nat.pow_add]; congr 1
  have e3 : 2 ^ 200 * 2 ^ (140 * i) ≤ 2 ^ (200 + 140 * (i + 1)) := by
    have : 2 ^ 200 * 2 ^ (140 * i) = 2 ^ (200 + 140 * i) := (Nat.pow_add 2 200 (140 * i)).symm
    rw [this]
    exact Nat.pow_le_pow_right (by decide) (by omega)
  refine ⟨d * e, Nat.mul_pos d0 he.1, by rw [e1]; exact Nat.mul_le_mul d1 he.2, fun j k => ?_⟩
  by_cases q : j < i
  · simp only [q, if_true]
    refine ((hd j k).scale e he.1).mono ?_
    rw [e2]; exact Nat.mul_le_mul_left _ he.2
  · simp only [q, if_false]
    have := (hu k).scale d d0
    rw [Nat.mul_comm e d] at this
    exact this.mono (Nat.le_trans (Nat.mul_le_mul_left _ d1) e3)
theorem matR_snoc {i n : Nat} {T : Nat → Nat → Rat} {u : Nat → Rat} : PyData.list (((List.range i).map fun j => rowQ n (T j)) ++ [rowQ n u]) = matR (i + 1) n (fun j => if j < i then T j else u) := by
  unfold matR
  rw [tab_eq, List.range_succ, List.map_append]
  congr 1
  congr 1
  · exact List.map_congr_left fun j hj => by simp only [List.mem_range.mp hj, if_true]
  · simp
def entRow11 : Ent := ⟨⟨"_law_row", some 1, 2, 0⟩, spRow11⟩
def spLedRight : FSp := fun ds Φ _ => ∃ b : D, ds = [b] ∧ Bag b ∧ ∀ b', Bag b' → Φ (.bool true) b'
theorem ok_led_right {body : Ss} (Γ : List Ent) (iLed iTake iPut iUnit iRow : Nat) (hLed : ∃ s, Γ[iLed]? = some ⟨s, spLed2⟩) (hT : Γ[iTake]? = some entTake) (hPut : ∃ s, Γ[iPut]? = some ⟨s, spPut⟩) (hUnit : ∃ s, Γ[iUnit]? = some ⟨s, spUnit⟩) (hRow : ∃ s, Γ[iRow]? = some ⟨s, spRow11⟩ ∧ s.own = some 1) (hb : body = bLedRight iLed iTake iPut iUnit iRow) : ∀ ds Φ Ξ, ds.length = 1 → spLedRight ds Φ Ξ → svs Γ body (ktOf (some 1) Φ Ξ) (Q.envOf (some 1) 11 ds) := by
  subst hb
  rintro ds Φ Ξ - ⟨b, rfl, hB, h⟩
  obtain ⟨sL, hLed⟩ := hLed
  obtain ⟨sP, hPut⟩ := hPut
  obtain ⟨sU, hUnit⟩ := hUnit
  obtain ⟨sR, hRow, oR⟩ := hRow
  walk_at "w"
  refine ⟨isOw_bag hB, ?_⟩
  walk_at "w"
  refine ⟨_, _, _, hT, rfl, rfl, _, 7, rfl, ⟨hB, by decide, by decide⟩, fun n b2 n0 n1 hB2 => ?_⟩
  obtain ⟨n, rfl⟩ : ∃ n' : Nat, n = n' := ⟨n.toNat, by omega⟩
  walk_at "w"
  refine ⟨isOw_bag hB2, ?_⟩
  walk_at "w"
  refine ⟨_, _, _, hT, rfl, rfl, _, 6, rfl, ⟨hB2, by decide, by decide⟩, fun m b3 m0 m1 hB3 => ?_⟩
  obtain ⟨m, rfl⟩ : ∃ m' : Nat, m = m' := ⟨m.toNat, by omega⟩
  (refine (Exists.intro _ (And.intro rfl ?_)); walk_at "w")
  refine ⟨by omega, ?_⟩
  have em : ((1 : Int) + (m : Nat)).toNat = m + 1 := by omega
  rw [em]
  have hm : m + 1 ≤ 6 := by omega
  have hm0 : 0 < m + 1 := by omega
  generalize m + 1 = m at *
  refine for_tab (fun i ρ => ∃ b T c3, ρ = [.ow 1 b, .ow 1 (matR i n T), .va (.int (n : Nat)), c3, .un, .un, .un, .un, .un, .un, .un] ∧ Bag b ∧ TabG i T) ⟨b3, fun _ _ => 0, .un, ?_, hB3, 1, by decide, by decide, fun _ _ => Sm.zero (by decide) (by decide)⟩ ?_ ?_
  · unfold matR; rw [tab_eq]; rfl
  · rintro i ρ hi ⟨b, T, c3, rfl, hB, hT'⟩ W hW
    (refine (And.intro isOw_tab ?_); walk_at "w")
    refine ⟨isOw_bag hB, ?_⟩
    walk_at "w"
    refine ⟨_, _, _, hRow, oR, rfl, b, n, rfl, ⟨hB, by omega⟩, fun u d b' hd hu hB' => ?_⟩
    walk_at "w"
    refine app_tab (.inl rfl) (by omega) ?_
    rw [matR_snoc]
    exact hW _ ⟨_, _, _, rfl, hB', hT'.snoc hd hu⟩
  · rintro ρ ⟨b, T, c3, rfl, hB, e, e0, e1, hT'⟩
    have e1 : e ≤ 2 ^ 840 := Nat.le_trans e1 (Nat.pow_le_pow_right (by decide) (by omega))
    have hT' : ∀ j k, Sm e (2 ^ 1040) (T j k) := fun j k => (hT' j k).mono (Nat.pow_le_pow_right (by decide) (by omega))
    walk_at "w"
    refine ⟨isOw_bag hB, ?_⟩
    walk_at "w"
    refine lenC_tab ?_
    walk_at "w"
    refine ⟨_, _, _, hRow, oR, rfl, b, m, rfl, ⟨hB, by omega⟩, fun u d b' hd hu hB' => ?_⟩
    walk_at "w"
    refine rep_tabN rfl (by omega) ?_
    walk_at "w"
    have hF : Fit (d * e) (2 ^ 200 * 2 ^ 1040) := fit_of (mul_le_pow hd.2 e1) (mul_le_pow (Nat.le_refl _) (Nat.le_refl _)) (by decide) (by decide)
    have hT1 : ∀ i k, Bq 1919 (T i k) := fun i k => (hT' i k).bq1919 e1 (Nat.le_refl _) (by decide) (by decide)
    have hu1 : ∀ k, Bq 1919 (u k) := fun k => (hu k).bq1919 hd.2 (Nat.le_refl _) (by decide) (by decide)
    have hS : ShwOk (.list [matR m n T, rowQ m u]) := (shw_list (k := 3) (m := 190000) fun x hx => by
      rcases List.mem_cons.mp hx with rfl | hx
      · exact shw_matR7 (by omega) (by omega) hT1
      · obtain rfl : x = _ := by simpa using hx
        exact (shw_rowQ7 (by omega) hu1).up (by decide) (by decide)).ok (by decide) (by simp)
    refine ⟨_, _, tab_eq _ _, tab_eq _ _, ?_⟩
    walk_at "w"
    refine for_zip (fun i ρ => ∃ c8 c9, ρ = [.ow 1 b', .va (matR m n T), .va (.int (n : Nat)), c3, .va (rowQ m u), .va (rowQ n fun k => sm i fun i => u i * T i k), .un, .un, c8, c9, .un]) ⟨.un, .un, rfl⟩ ?_ ?_
    · rintro i ρ hi ⟨c8, c9, rfl⟩ W hW
      walk_at "w"
      refine ⟨_, hPut, n, fun k => sm i fun i => u i * T i k, T i, u i, rfl, ⟨fun k => Sm.fitSm (fun i => (hu i).mul (hT' i k)) (by omega) hF, fun k => (hu i).fitR (hT' i k) hF, fun k => ((hu i).mul (hT' i k)).fit hF, (hu i).fitL (hT' i i) hF⟩, ?_⟩
      exact hW _ ⟨_, _, rfl⟩
    · rintro ρ ⟨c8, c9, rfl⟩
      (refine (And.intro rfl ?_); walk_at "w")
      refine ⟨hS, ?_⟩
      (refine (And.intro rfl (Exists.intro _ (And.intro rfl (And.intro (by decide) ?_)))); walk_at "w")
      refine for_tab (n := 2) (g := fun i => .int (i : Nat)) (fun t ρ => ∃ c7 c10, ρ = [.ow 1 b', .va (matR m n T), .va (.int (n : Nat)), c3, .va (rowQ m u), .va (rowQ n fun k => sm m fun i => u i * T i k), .va (.str (PyData.list [matR m n T, rowQ m u]).shown), c7, c8, c9, c10]) ⟨.un, .un, rfl⟩ ?_ ?_
      · rintro t ρ ht ⟨c7, c10, rfl⟩ W hW
        walk_at "w"
        refine ⟨_, hLed, n, m, T, u, d, 2 ^ 200, e, 2 ^ 1040, rfl, ⟨by omega, by omega, hm0, hF, hu, hT'⟩, ?_⟩
        refine ⟨leaf_rowQ n _, ?_⟩
        walk_at "w"
        refine shp2 (shp_rowQ n _) (by decide) rfl fun e => ?_
        rw [e]
        (refine (Exists.intro _ (And.intro rfl (sel_ff rfl (And.intro rfl ?_)))); walk_at "w")
        refine ⟨hS, ?_⟩
        (refine (And.intro rfl (Exists.intro _ (And.intro rfl ?_))); walk_at "w")
        rw [decide_eq_true rfl]
        (refine (sel_ff rfl (And.intro isOw_tab ?_)); walk_at "w")
        refine app_tab (.inl rfl) (by omega) ?_
        exact hW _ ⟨_, _, rfl⟩
      · rintro ρ ⟨c7, c10, rfl⟩
        walk_at "w"
        refine lenC_tabV ?_
        (refine (Exists.intro _ (And.intro rfl ?_)); walk_at "w")
        refine ⟨by omega, ?_⟩
        rw [Int.toNat_natCast]
        refine for_tab (fun i ρ => ∃ c3 c10, ρ = [.ow 1 b', .va (matR m n T), .va (.int (n : Nat)), c3, .va (rowQ m u), .va (rowQ n fun k => sm m fun i => u i * T i k), .va (.str (PyData.list [matR m n T, rowQ m u]).shown), c7, c8, c9, c10]) ⟨c3, c10, rfl⟩ ?_ ?_
        · rintro i ρ hi ⟨c3, c10, rfl⟩ W hW
          walk_at "w"
          refine lenC_tabV ?_
          walk_at "w"
          refine ⟨_, hUnit, m, i, rfl, by omega, ?_⟩
          walk_at "w"
          refine ⟨_, hLed, n, m, T, unitQ i, 1, 2, e, 2 ^ 1040, rfl, ⟨by omega, by omega, hm0, fit_of (mul_le_pow (show 1 ≤ 2 ^ 1 by decide) e1) (mul_le_pow (show 2 ≤ 2 ^ 1 by decide) (Nat.le_refl _)) (by decide) (by decide), fun k => ?_, hT'⟩, ?_⟩
          · unfold unitQ; split
            · exact Sm.int (i := 1) (by decide)
            · exact Sm.zero (by decide) (by decide)
          refine ⟨leaf_rowQ n _, ?_⟩
          walk_at "w"
          refine ixD_nat hi ?_
          walk_at "w"
          refine shp2 (shp_rowQ n _) (by decide) (rowQ_congr fun k _ => ?_) fun e => ?_
          · rw [sm_one (f := fun j => unitQ i j * T j k) hi fun j hj hn => by unfold unitQ; rw [if_neg hn]; grind]
            unfold unitQ; rw [if_pos rfl]; grind
          rw [e]
          (refine (And.intro rfl (Exists.intro _ (And.intro rfl (sel_ff rfl (And.intro isOw_tab ?_))))); walk_at "w")
          refine app_tab (.inl rfl) (by omega) ?_
          (refine (And.intro rfl ?_); walk_at "w")
          refine ⟨hS, ?_⟩
          (refine (And.intro rfl (Exists.intro _ (And.intro rfl ?_))); walk_at "w")
          rw [decide_eq_true rfl]
          (refine (sel_ff rfl ?_); walk_at "w")
          exact hW _ ⟨_, _, rfl⟩
        · rintro ρ ⟨c3, c10, rfl⟩
          (refine (Exists.intro _ (And.intro rfl ?_)); walk_at "w")
          exact h _ hB'
end Q

local macro_rules | `(tactic| walk_at "w") => `(tactic| (conv => whnf))
namespace Q
open PySem L2
/-- a unit row so many times -/
def oftQ (x : Int) (i k : Nat) : Rat := if k = i then (x : Rat) else 0
theorem oft_fr (x : Int) (i k : Nat) : PyData.tuple [.int (x * (if PyData.eqv (.int (k : Nat)) (.int (i : Nat)) = true then 1 else 0)), .int 1] = frQ (oftQ x i k) := by
  rw [eqv_int]
  unfold oftQ
  by_cases h : k = i
  · subst h
    simp only [decide_true, if_true]
    rw [Int.mul_one, frQ_int]
  · have : ¬ ((k : Nat) : Int) = (i : Nat) := by omega
    simp [h, this]
theorem oft_sm {x : Int} (hx : x.natAbs < 3) (i k : Nat) : Sm 1 3 (oftQ x i k) := by
  unfold oftQ
  split
  · exact Sm.int hx
  · exact Sm.zero (by decide) (by decide)
theorem unit_sm (i k : Nat) : Sm 1 2 (unitQ i k) := by
  unfold unitQ; split
  · exact Sm.int (i := 1) (by decide)
  · exact Sm.zero (by decide) (by decide)
theorem sm_unit {n i : Nat} (hi : i < n) (f : Nat → Rat) : sm n (fun j => unitQ i j * f j) = f i := by
  rw [sm_one (f := fun j => unitQ i j * f j) hi fun j hj hn => by unfold unitQ; rw [if_neg hn]; grind]
  unfold unitQ; rw [if_pos rfl]; grind
theorem stp_tab0 {n : Nat} {g : Nat → D} {x : D} (h : 0 < n) : pset (tab n g) [.int 0] x = some (tab n fun a => if a = 0 then x else g a) := pset_nat1 (i := 0) h
theorem isSq_tab (n : Nat) (g : Nat → D) : isSq (tab n g) = true := by rw [tab_eq]; rfl
theorem Sm.sm100 {d a n : Nat} {f : Nat → Rat} (h : ∀ k, Sm d a (f k)) (hn : n ≤ 100) : Sm d (100 * a + 1) (Q.sm n f) := (Sm.sm h n).mono (by
  have : n * a ≤ 100 * a := Nat.mul_le_mul_right _ hn
  omega)
theorem leaf_two {k : Nat} {x y : D} (h1 : leaf k x = true) (h2 : leaf k y = true) : leaf (k + 1) (.list [x, y]) = true := by
  show ([x, y].all (leaf k)) = true
  simp [h1, h2]
theorem matQ_R (n : Nat) (T : Nat → Nat → Rat) : matQ n T = matR n n T := rfl
def spUnitsRight : FSp := fun ds Φ _ => ∃ (n : Nat) (c : Nat → Nat → Nat → Rat), ds = [cubQ n c] ∧ (n ≤ 6 ∧ ∀ i j k, Sm 1728 (2 ^ 200) (c i j k)) ∧ Φ (.bool true) .none
theorem ok_units_right {body : Ss} (Γ : List Ent) (iProductP iDeedP iLedP iProduct iUnit : Nat) (hProductP : ∃ s, Γ[iProductP]? = some ⟨s, spProduct⟩) (hDeedP : ∃ s, Γ[iDeedP]? = some ⟨s, spDeed⟩) (hLedP : ∃ s, Γ[iLedP]? = some ⟨s, spLed2⟩) (hProduct : ∃ s, Γ[iProduct]? = some ⟨s, spProduct11⟩) (hUnit : ∃ s, Γ[iUnit]? = some ⟨s, spUnit⟩) (hb : body = bUnitsRight iProductP iDeedP iLedP iProduct iUnit) : ∀ ds Φ Ξ, ds.length = 1 → spUnitsRight ds Φ Ξ → svs Γ body (ktOf none Φ Ξ) (Q.envOf none 14 ds) := by
  subst hb
  rintro ds Φ Ξ - ⟨n, c, rfl, ⟨hn, hc⟩, h⟩
  obtain ⟨sPr, hProductP⟩ := hProductP
  obtain ⟨sD, hDeedP⟩ := hDeedP
  obtain ⟨sL, hLedP⟩ := hLedP
  obtain ⟨sP, hProduct⟩ := hProduct
  obtain ⟨sU, hUnit⟩ := hUnit
  have hS : ShwOk (cubQ n c) := (shw_cubQ7 (by omega) fun i j k => (hc i j k).bq1919 (x := 11) (by decide) (Nat.le_refl _) (by decide) (by decide)).ok (by decide) (by decide)
  have h11 : 1728 ≤ 2 ^ 11 := by decide
  walk_at "w"
  refine len_tab ?_
  walk_at "w"
  refine ⟨isSq_tab _ _, hS, ?_⟩
  (refine (Exists.intro _ (And.intro rfl ?_)); walk_at "w")
  refine ⟨by omega, ?_⟩
  rw [Int.toNat_natCast]
  refine for_tab (fun i ρ => ∃ c3 c4 c5 c6 c7 c8 c9 c10 c11, ρ = [.va (cubQ n c), .va (.int (n : Nat)), .va (.str (cubQ n c).shown), c3, c4, c5, c6, c7, c8, c9, c10, c11, .un, .un]) ⟨_, _, _, _, _, _, _, _, _, rfl⟩ ?_ ?_
  · rintro i ρ hi ⟨c3, c4, c5, c6, c7, c8, c9, c10, c11, rfl⟩ W hW
    (refine (Exists.intro _ (And.intro rfl (Exists.intro _ (And.intro rfl ?_)))); walk_at "w")
    refine for_of (fun _ ρ => ∃ c4 c5 c6 c7 c8 c9 c10 c11, ρ = [.va (cubQ n c), .va (.int (n : Nat)), .va (.str (cubQ n c).shown), .va (.int (i : Nat)), c4, c5, c6, c7, c8, c9, c10, c11, .un, .un]) ⟨_, _, _, _, _, _, _, _, rfl⟩ (fun t d ρ hd hI V hV => ?_) (fun ρ hI => ?_)
    · obtain ⟨c4, c5, c6, c7, c8, c9, c10, c11, rfl⟩ := hI
      obtain ⟨x, rfl, hx⟩ : ∃ x : Int, d = .int x ∧ x.natAbs < 3 := by
        have hm := List.mem_of_getElem? hd
        rcases List.mem_cons.mp hm with rfl | hm
        · exact ⟨_, rfl, by decide⟩
        rcases List.mem_cons.mp hm with rfl | hm
        · exact ⟨_, rfl, by decide⟩
        obtain rfl : d = _ := by simpa using hm
        exact ⟨_, rfl, by decide⟩
      have hu := oft_sm hx i
      have hTs : ∀ j k, Sm (1 * 1728) (100 * (3 * 2 ^ 200) + 1) (sm n fun a => oftQ x i a * c a j k) := fun j k => Sm.sm100 (fun a => (hu a).mul (hc a j k)) (by omega)
      have hFd : Fit (1 * 1728) (3 * 2 ^ 200) := fit_of (x := 11) (y := 202) (by decide) (by decide) (by decide) (by decide)
      have hFl : Fit (1 * (1 * 1728)) (2 * (100 * (3 * 2 ^ 200) + 1)) := fit_of (x := 11) (y := 212) (by decide) (by decide) (by decide) (by decide)
      have hFp : Fit (1 * (1 * 1728)) (3 * (100 * (2 * 2 ^ 200) + 1)) := fit_of (x := 11) (y := 212) (by decide) (by decide) (by decide) (by decide)
      have hFq : Fit ((1 * 1) * 1728) ((3 * 2) * 2 ^ 200) := fit_of (x := 11) (y := 212) (by decide) (by decide) (by decide) (by decide)
      (refine (Exists.intro _ (And.intro rfl ?_)); walk_at "w")
      refine ⟨by omega, ?_⟩
      rw [Int.toNat_natCast]
      (refine (And.intro rfl ?_); walk_at "w")
      refine comp_tab (fun k => frQ (oftQ x i k)) (fun k hk U hU => ?_) ?_
      · (refine (And.intro rfl (And.intro rfl ?_)); walk_at "w")
        refine ⟨(show Bd 2 x by unfold Bd; omega).mulok (show Bd 1 _ by unfold Bd; split <;> decide) (by decide), ?_⟩
        walk_at "w"
        rw [oft_fr]
        exact hU
      rw [rowQ_list]
      walk_at "w"
      refine ⟨_, hDeedP, n, c, oftQ x i, 1, 3, 1728, 2 ^ 200, rfl, ⟨by omega, hFd, hu, hc⟩, ?_⟩
      (refine (Exists.intro _ (And.intro rfl ?_)); walk_at "w")
      refine ⟨by omega, ?_⟩
      rw [Int.toNat_natCast]
      (refine (And.intro rfl ?_); walk_at "w")
      refine comp_tab (fun j => rowQ n fun k => sm n fun a => oftQ x i a * sm n fun b => unitQ j b * c a b k) (fun j hj U hU => ?_) ?_
      · walk_at "w"
        refine ⟨_, hUnit, n, j, rfl, by omega, ?_⟩
        walk_at "w"
        refine ⟨_, hProduct, n, c, oftQ x i, unitQ j, 1, 2, 1728, 2 ^ 200, 1, 3, rfl, ⟨by omega, hFq, hu, unit_sm j, hc⟩, ?_⟩
        exact hU
      rw [show PyData.list ((List.range n).map fun j => rowQ n fun k => sm n fun a => oftQ x i a * sm n fun b => unitQ j b * c a b k) = matQ n fun j k => sm n fun a => oftQ x i a * sm n fun b => unitQ j b * c a b k from matQ_list n _]
      walk_at "w"
      refine shp2 (shp_matQ n _) (by decide) (matQ_congr fun j k hj hk => sm_congr fun a ha => by rw [sm_unit hj]) fun e => ?_
      rw [e]
      (refine (And.intro rfl (Exists.intro _ (And.intro rfl (sel_ff rfl (Exists.intro _ (And.intro rfl ?_)))))); walk_at "w")
      refine ⟨by omega, ?_⟩
      rw [Int.toNat_natCast]
      have hTb : ∀ j k, Bq 1919 (sm n fun a => oftQ x i a * c a j k) := fun j k => (hTs j k).bq1919 (x := 11) (y := 212) (by decide) (by decide) (by decide) (by decide)
      have hub : ∀ k, Bq 1919 (oftQ x i k) := fun k => (hu k).bq1919 (x := 1) (y := 2) (by decide) (by decide) (by decide) (by decide)
      have hK : ∀ j, ShwOk (.list [rowQ n (oftQ x i), matQ n fun j k => sm n fun a => oftQ x i a * c a j k, rowQ n (unitQ j)]) := fun j => (shw_list (k := 3) (m := 190000) fun x hx => by
        rcases List.mem_cons.mp hx with rfl | hx
        · exact (shw_rowQ7 (by omega) hub).up (by decide) (by decide)
        rcases List.mem_cons.mp hx with rfl | hx
        · exact shw_matQ7 (by omega) hTb
        · obtain rfl : x = _ := by simpa using hx
          exact (shw_rowQ7 (by omega) fun k => (unit_sm j k).bq1919 (x := 1) (y := 2) (by decide) (by decide) (by decide) (by decide)).up (by decide) (by decide)).ok (by decide) (by simp)
      refine for_tab (fun j ρ => ∃ c7 c9 c10 c11, ρ = [.va (cubQ n c), .va (.int (n : Nat)), .va (.str (cubQ n c).shown), .va (.int (i : Nat)), .va (.int x), .va (rowQ n (oftQ x i)), .ow 2 (matQ n fun j k => sm n fun a => oftQ x i a * c a j k), c7, c8, c9, c10, c11, .un, .un]) ⟨_, _, _, _, rfl⟩ ?_ ?_
      · rintro j ρ hj ⟨c7, c9, c10, c11, rfl⟩ U hU
        walk_at "w"
        refine ⟨_, hUnit, n, j, rfl, by omega, ?_⟩
        (refine (And.intro rfl ?_); walk_at "w")
        refine ⟨hK j, ?_⟩
        (refine (And.intro rfl ?_); walk_at "w")
        refine ⟨_, hProductP, n, c, oftQ x i, unitQ j, 1, 2, 1728, 2 ^ 200, 1, 3, rfl, ⟨by omega, hFp, hu, unit_sm j, hc⟩, ?_⟩
        walk_at "w"
        refine ⟨_, hLedP, n, n, _, unitQ j, 1, 2, _, _, rfl, ⟨by omega, by omega, by omega, hFl, unit_sm j, hTs⟩, ?_⟩
        walk_at "w"
        have hp : ∀ k, (sm n fun a => unitQ j a * sm n fun b => oftQ x i b * c b a k) = sm n fun a => oftQ x i a * sm n fun b => unitQ j b * c a b k := fun k => by
          rw [sm_unit hj]
          exact sm_congr fun a ha => by rw [sm_unit hj]
        refine ⟨leaf_two (leaf_rowQ n _) (leaf_rowQ n _), ?_⟩
        rw [rowQ_congr fun k _ => hp k]
        (refine (Exists.intro _ (And.intro rfl ?_)); walk_at "w")
        rw [forlW_c]
        walk_at "w"
        refine ⟨_, hProduct, n, c, oftQ x i, unitQ j, 1, 2, 1728, 2 ^ 200, 1, 3, rfl, ⟨by omega, hFq, hu, unit_sm j, hc⟩, ?_⟩
        walk_at "w"
        refine shp2 (shp_rowQ n _) (by decide) rfl fun e => ?_
        rw [e]
        (refine (And.intro rfl (Exists.intro _ (And.intro rfl (sel_ff rfl (Exists.intro _ (And.intro rfl ?_)))))); walk_at "w")
        refine ⟨_, stp_tab0 (by omega), ?_⟩
        (refine (And.intro isOw_tab ?_); walk_at "w")
        refine app_tab (.inl rfl) (by omega) ?_
        walk_at "w"
        rw [forlW_c]
        walk_at "w"
        refine ⟨_, hProduct, n, c, oftQ x i, unitQ j, 1, 2, 1728, 2 ^ 200, 1, 3, rfl, ⟨by omega, hFq, hu, unit_sm j, hc⟩, ?_⟩
        walk_at "w"
        refine shp2 (shp_rowQ n _) (by decide) rfl fun e => ?_
        rw [e]
        (refine (And.intro rfl (Exists.intro _ (And.intro rfl (sel_ff rfl (Exists.intro _ (And.intro rfl ?_)))))); walk_at "w")
        refine ⟨_, stp_tab0 (by omega), ?_⟩
        (refine (And.intro isOw_tab ?_); walk_at "w")
        refine app_tab (.inl rfl) (by omega) ?_
        walk_at "w"
        rw [forlW_n]
        (refine (And.intro rfl ?_); walk_at "w")
        refine ⟨hK j, ?_⟩
        (refine (And.intro rfl (Exists.intro _ (And.intro rfl ?_))); walk_at "w")
        rw [decide_eq_true rfl]
        (refine (sel_ff rfl ?_); walk_at "w")
        exact hU _ ⟨_, _, _, _, rfl⟩
      · rintro ρ ⟨c7, c9, c10, c11, rfl⟩
        walk_at "w"
        refine forb_tab (k := 0) (g := fun j => rowQ n fun k => sm n fun a => oftQ x i a * c a j k) (fun c' d => [.va (cubQ n c), .va (.int (n : Nat)), .va (.str (cubQ n c).shown), .va (.int (i : Nat)), .va (.int x), .va (rowQ n (oftQ x i)), c', c7, d, c9, c10, c11, .un, .un]) (fun a => .list ((List.range n).map (fun k => if k = 0 then PyData.tuple [.int 77, .int 1] else frQ (sm n fun b => oftQ x i b * c b a k)) ++ [frQ 1])) (fun _ _ _ => rfl) (fun _ _ _ => rfl) (fun _ _ => rfl) (fun _ _ => rfl) (fun a ha v pre post κ' hp hl hn' => ?_) (fun c' hc' => ?_)
        · (refine (Exists.intro _ (And.intro rfl ?_)); walk_at "w")
          refine ⟨_, stp_tab0 (by omega), ?_⟩
          (refine (And.intro isOw_tab ?_); walk_at "w")
          refine app_tab (.inl rfl) (by omega) ?_
          exact hn'
        · walk_at "w"
          refine ⟨isSq_tab _ _, hS, ?_⟩
          (refine (Exists.intro _ (And.intro rfl ?_)); walk_at "w")
          rw [decide_eq_true rfl]
          (refine (sel_ff rfl ?_); walk_at "w")
          exact hV _ ⟨_, _, _, _, _, _, _, _, rfl⟩
    · obtain ⟨c4, c5, c6, c7, c8, c9, c10, c11, rfl⟩ := hI
      exact hW _ ⟨_, _, _, _, _, _, _, _, _, rfl⟩
  · rintro ρ ⟨c3, c4, c5, c6, c7, c8, c9, c10, c11, rfl⟩
    walk_at "w"
    exact h
end Q

/-! ## k11: the law itself -/
local macro_rules | `(tactic| walk_at "w") => `(tactic| (conv => whnf))
namespace Q
open PySem L2
-- law: ['_law_script', '_law_k', '_law_bag_here', '_law_found', '_law_size', '_law_u', '_law_v', '_law_due', '_law_table', '_law_ahead', '_law_turn', '_law_made', '_law_done', '_law_row_here', '_law_place']
def bLaw11 (iProductP iDeedP iLedP iBag iAlgebra iProduct iUnit iRow iLedRight iUnitsRight : Nat) : Ss :=
    (.cons (.for (.nm 1) (.rng (.blt .mx (.cons (.int 2) (.cons (.blt .mn (.cons (.blt .len (.cons (.var 0) .nil)) (.cons (.int 4) .nil))) .nil)))) (.cons (.seto 2 1 (.call iBag 1 (.cons (.var 0) (.cons (.var 1) .nil))))
    (.cons (.set 3 (.callr iAlgebra 0 2 (.cons (.int 6) .nil)))
    (.cons (.set 4 (.blt .len (.cons (.var 3) .nil)))
    (.cons (.set 5 (.callr iRow 0 2 (.cons (.var 4) .nil)))
    (.cons (.set 6 (.callr iRow 0 2 (.cons (.var 4) .nil)))
    (.cons (.set 7 (.call iProduct 0 (.cons (.var 3) (.cons (.var 5) (.cons (.var 6) .nil)))))
    (.cons (.set 8 (.comp 0 [14] (.nm 14) (.rng (.var 4)) .none (.call iProduct 0 (.cons (.var 3) (.cons (.var 5) (.cons (.call iUnit 0 (.cons (.var 4) (.cons (.var 14) .nil))) .nil))))))
    (.cons (.set 9 (.shw (.lst 0 (.cons (.var 3) (.cons (.var 5) (.cons (.var 6) .nil))))))
    (.cons (.for (.nm 10) (.rng (.int 2)) (.cons (.seto 11 1 (.call iProductP 1 (.cons (.var 3) (.cons (.var 5) (.cons (.var 6) .nil)))))
    (.cons (.seto 12 2 (.call iDeedP 2 (.cons (.var 3) (.cons (.var 5) .nil))))
    (.cons (.ite (.lend (.or (.not (.isi (.var 11) .list)) (.or (.cmp .NotEq (.var 11) (.var 7)) (.or (.not (.isi (.var 12) .list)) (.cmp .NotEq (.var 12) (.var 8)))))) (.cons (.ret (.bl false))
    .nil) .nil)
    (.cons (.ite (.lend (.and (.cmp .Gt (.var 4) (.int 0)) (.cmp .NotEq (.call iLedP 1 (.cons (.var 12) (.cons (.var 6) .nil))) (.var 7)))) (.cons (.ret (.bl false))
    .nil) .nil)
    (.cons (.app 11 (.tup (.cons (.int 1) (.cons (.int 1) .nil))))
    (.cons (.forb none 13 12 (.cons (.app 13 (.tup (.cons (.int 1) (.cons (.int 1) .nil))))
    .nil))
    (.cons (.ite (.lend (.blt .any (.cons (.comp 0 [13] (.nm 13) (.lst (.cat 0 (.var 12) (.lst 0 (.cons (.var 11) .nil)))) .none (.cmp .NotEq (.lenv 13) (.op .Add (.var 4) (.int 1)))) .nil))) (.cons (.ret (.bl false))
    .nil) .nil)
    .nil))))))))
    (.cons (.ite (.cmps true (.shw (.lst 0 (.cons (.var 3) (.cons (.var 5) (.cons (.var 6) .nil))))) (.var 9)) (.cons (.ret (.bl false))
    .nil) .nil)
    (.cons (.ite (.or (.not (.callr iLedRight 0 2 .nil)) (.not (.call iUnitsRight 0 (.cons (.var 3) .nil)))) (.cons (.ret (.bl false))
    .nil) .nil)
    .nil))))))))))))
    (.cons (.ret (.bl true))
    .nil))

def rowX (n : Nat) (u : Nat → Rat) : D := .list (((List.range n).map fun k => frQ (u k)) ++ [frQ 1])
theorem cat_one {n : Nat} {g : Nat → D} {x : D} {k : D → Prop} (hn : n + 1 ≤ 16777216) (q : k (tab (n + 1) fun a => if a < n then g a else x)) : catD (tab n g) (.list [x]) k := by
  have e : PyData.list [x] = tab 1 fun _ => x := by rw [tab_eq]; rfl
  rw [e]
  exact cat_tab hn q
structure Ents11 (Γ : List Ent) (iProductP iDeedP iLedP iBag iAlgebra iProduct iUnit iRow iLedRight iUnitsRight : Nat) : Prop where
  hProductP : ∃ s, Γ[iProductP]? = some ⟨s, spProduct⟩
  hDeedP : ∃ s, Γ[iDeedP]? = some ⟨s, spDeed⟩
  hLedP : ∃ s, Γ[iLedP]? = some ⟨s, spLed2⟩
  hBag : ∃ s, Γ[iBag]? = some ⟨s, spBag⟩
  hAlgebra : ∃ s, Γ[iAlgebra]? = some ⟨s, spAlgebra⟩ ∧ s.own = some 1
  hProduct : ∃ s, Γ[iProduct]? = some ⟨s, spProduct11⟩
  hUnit : ∃ s, Γ[iUnit]? = some ⟨s, spUnit⟩
  hRow : ∃ s, Γ[iRow]? = some ⟨s, spRow11⟩ ∧ s.own = some 1
  hLedRight : ∃ s, Γ[iLedRight]? = some ⟨s, spLedRight⟩ ∧ s.own = some 1
  hUnitsRight : ∃ s, Γ[iUnitsRight]? = some ⟨s, spUnitsRight⟩
def spLaw : FSp := fun ds Φ _ => ∃ ks : List Int, ds = [.list (ks.map PyData.int)] ∧ Φ (.bool true) .none
theorem ok_law11 {body : Ss} (Γ : List Ent) (iProductP iDeedP iLedP iBag iAlgebra iProduct iUnit iRow iLedRight iUnitsRight : Nat) (E : Ents11 Γ iProductP iDeedP iLedP iBag iAlgebra iProduct iUnit iRow iLedRight iUnitsRight) (hb : body = bLaw11 iProductP iDeedP iLedP iBag iAlgebra iProduct iUnit iRow iLedRight iUnitsRight) : ∀ ds Φ Ξ, ds.length = 1 → spLaw ds Φ Ξ → svs Γ body (ktOf none Φ Ξ) (Q.envOf none 15 ds) := by
  subst hb
  obtain ⟨⟨s0, hProductP⟩, ⟨s1, hDeedP⟩, ⟨s2, hLedP⟩, ⟨s3, hBag⟩, ⟨s4, hAlgebra, oAlgebra⟩, ⟨s5, hProduct⟩, ⟨s6, hUnit⟩, ⟨s7, hRow, oRow⟩, ⟨s8, hLedRight, oLedRight⟩, ⟨s9, hUnitsRight⟩⟩ := E
  rintro ds Φ Ξ - ⟨ks, rfl, h⟩
  (refine (Exists.intro _ (And.intro rfl ?_)); walk_at "w")
  refine ⟨by split <;> (try split) <;> omega, ?_⟩
  refine for_tab (fun i ρ => ∃ c1 c2 c3 c4 c5 c6 c7 c8 c9 c10 c11 c12, ρ = [.va (.list (ks.map PyData.int)), c1, c2, c3, c4, c5, c6, c7, c8, c9, c10, c11, c12, .un, .un]) ⟨_, _, _, _, _, _, _, _, _, _, _, _, rfl⟩ ?_ ?_
  · rintro i ρ hi ⟨c1, c2, c3, c4, c5, c6, c7, c8, c9, c10, c11, c12, rfl⟩ W hW
    have hi4 : i < 4 := by
      refine Nat.lt_of_lt_of_le hi ?_
      split <;> (try split) <;> omega
    walk_at "w"
    refine ⟨_, hBag, ks, i, rfl, ⟨by omega, by omega⟩, fun b hB => ?_⟩
    walk_at "w"
    refine ⟨isOw_bag hB, ?_⟩
    walk_at "w"
    refine ⟨_, _, _, hAlgebra, oAlgebra, rfl, b, 6, rfl, ⟨hB, by decide, by decide⟩, fun n c b1 hn hc hB1 => ?_⟩
    walk_at "w"
    refine len_tab ?_
    walk_at "w"
    refine ⟨isOw_bag hB1, ?_⟩
    walk_at "w"
    refine ⟨_, _, _, hRow, oRow, rfl, b1, n, rfl, ⟨hB1, by omega⟩, fun u du b2 hdu hu hB2 => ?_⟩
    walk_at "w"
    refine ⟨isOw_bag hB2, ?_⟩
    walk_at "w"
    refine ⟨_, _, _, hRow, oRow, rfl, b2, n, rfl, ⟨hB2, by omega⟩, fun v dv b3 hdv hv hB3 => ?_⟩
    have hFq : Fit ((du * dv) * 1728) ((2 ^ 200 * 2 ^ 200) * 2 ^ 200) := fit_of (mul_le_pow (mul_le_pow hdu.2 hdv.2) (show 1728 ≤ 2 ^ 11 by decide)) (mul_le_pow (mul_le_pow (Nat.le_refl _) (Nat.le_refl _)) (Nat.le_refl _)) (by decide) (by decide)
    have hFu : Fit ((du * 1) * 1728) ((2 ^ 200 * 2) * 2 ^ 200) := fit_of (mul_le_pow (mul_le_pow hdu.2 (show 1 ≤ 2 ^ 0 by decide)) (show 1728 ≤ 2 ^ 11 by decide)) (mul_le_pow (mul_le_pow (Nat.le_refl _) (show 2 ≤ 2 ^ 1 by decide)) (Nat.le_refl _)) (by decide) (by decide)
    have hFp : Fit (du * (dv * 1728)) (2 ^ 200 * (100 * (2 ^ 200 * 2 ^ 200) + 1)) := fit_of (mul_le_pow hdu.2 (mul_le_pow hdv.2 (show 1728 ≤ 2 ^ 11 by decide))) (mul_le_pow (Nat.le_refl _) (show 100 * (2 ^ 200 * 2 ^ 200) + 1 ≤ 2 ^ 410 by decide)) (by decide) (by decide)
    have hFd : Fit (du * 1728) (2 ^ 200 * 2 ^ 200) := fit_of (mul_le_pow hdu.2 (show 1728 ≤ 2 ^ 11 by decide)) (mul_le_pow (Nat.le_refl _) (Nat.le_refl _)) (by decide) (by decide)
    have hFl : Fit (dv * (du * 1728)) (2 ^ 200 * (100 * (2 ^ 200 * 2 ^ 200) + 1)) := fit_of (mul_le_pow hdv.2 (mul_le_pow hdu.2 (show 1728 ≤ 2 ^ 11 by decide))) (mul_le_pow (Nat.le_refl _) (show 100 * (2 ^ 200 * 2 ^ 200) + 1 ≤ 2 ^ 410 by decide)) (by decide) (by decide)
    have hTs : ∀ j k, Sm (du * 1728) (100 * (2 ^ 200 * 2 ^ 200) + 1) (sm n fun a => u a * c a j k) := fun j k => Sm.sm100 (fun a => (hu a).mul (hc.sm a j k)) (by omega)
    have hK : ShwOk (.list [cubQ n c, rowQ n u, rowQ n v]) := (shw_list (k := 4) (m := 1400000) fun x hx => by
      rcases List.mem_cons.mp hx with rfl | hx
      · exact shw_cubQ7 (by omega) fun i j k => (hc.sm i j k).bq1919 (x := 11) (by decide) (Nat.le_refl _) (by decide) (by decide)
      rcases List.mem_cons.mp hx with rfl | hx
      · exact (shw_rowQ7 (by omega) fun k => (hu k).bq1919 hdu.2 (Nat.le_refl _) (by decide) (by decide)).up (by decide) (by decide)
      · obtain rfl : x = _ := by simpa using hx
        exact (shw_rowQ7 (by omega) fun k => (hv k).bq1919 hdv.2 (Nat.le_refl _) (by decide) (by decide)).up (by decide) (by decide)).ok (by decide) (by simp)
    walk_at "w"
    refine ⟨_, hProduct, n, c, u, v, dv, 2 ^ 200, 1728, 2 ^ 200, du, 2 ^ 200, rfl, ⟨by omega, hFq, hu, hv, hc.sm⟩, ?_⟩
    (refine (Exists.intro _ (And.intro rfl ?_)); walk_at "w")
    refine ⟨by omega, ?_⟩
    rw [Int.toNat_natCast]
    (refine (And.intro rfl ?_); walk_at "w")
    refine comp_tab (fun j => rowQ n fun k => sm n fun a => u a * sm n fun b => unitQ j b * c a b k) (fun j hj U hU => ?_) ?_
    · walk_at "w"
      refine ⟨_, hUnit, n, j, rfl, by omega, ?_⟩
      walk_at "w"
      refine ⟨_, hProduct, n, c, u, unitQ j, 1, 2, 1728, 2 ^ 200, du, 2 ^ 200, rfl, ⟨by omega, hFu, hu, unit_sm j, hc.sm⟩, ?_⟩
      exact hU
    rw [show PyData.list ((List.range n).map fun j => rowQ n fun k => sm n fun a => u a * sm n fun b => unitQ j b * c a b k) = matQ n fun j k => sm n fun a => u a * sm n fun b => unitQ j b * c a b k from matQ_list n _]
    rw [matQ_congr (v := fun j k => sm n fun a => u a * c a j k) fun j k hj hk => sm_congr fun a ha => by rw [sm_unit hj]]
    (refine (And.intro rfl ?_); walk_at "w")
    refine ⟨hK, ?_⟩
    (refine (Exists.intro _ (And.intro rfl (And.intro (by decide) ?_))); walk_at "w")
    refine for_tab (n := 2) (g := fun i => .int (i : Nat)) (fun t ρ => ∃ c10 c11 c12, ρ = [.va (.list (ks.map PyData.int)), .va (.int (i : Nat)), .ow 1 b3, .va (cubQ n c), .va (.int (n : Nat)), .va (rowQ n u), .va (rowQ n v), .va (rowQ n fun k => sm n fun i => u i * sm n fun j => v j * c i j k), .va (matQ n fun j k => sm n fun a => u a * c a j k), .va (.str (PyData.list [cubQ n c, rowQ n u, rowQ n v]).shown), c10, c11, c12, .un, .un]) ⟨_, _, _, rfl⟩ ?_ ?_
    · rintro t ρ ht ⟨c10, c11, c12, rfl⟩ V hV
      walk_at "w"
      refine ⟨_, hProductP, n, c, u, v, dv, 2 ^ 200, 1728, 2 ^ 200, du, 2 ^ 200, rfl, ⟨by omega, hFp, hu, hv, hc.sm⟩, ?_⟩
      walk_at "w"
      refine ⟨_, hDeedP, n, c, u, du, 2 ^ 200, 1728, 2 ^ 200, rfl, ⟨by omega, hFd, hu, hc.sm⟩, ?_⟩
      walk_at "w"
      refine ⟨_, isi_tab, ?_⟩
      (refine (Exists.intro _ (And.intro rfl (Exists.intro _ (And.intro rfl (sel_ff rfl ?_))))); walk_at "w")
      refine shp2 (shp_rowQ n _) (by decide) rfl fun e => ?_
      rw [e]
      (refine (Exists.intro _ (And.intro rfl (sel_ff rfl ?_))); walk_at "w")
      refine ⟨_, isi_tab, ?_⟩
      (refine (Exists.intro _ (And.intro rfl (Exists.intro _ (And.intro rfl (sel_ff rfl ?_))))); walk_at "w")
      refine shp2 (shp_matQ n _) (by decide) rfl fun e => ?_
      rw [e]
      (refine (And.intro rfl (Exists.intro _ (And.intro rfl (sel_ff rfl (Exists.intro _ (And.intro rfl ?_)))))); walk_at "w")
      refine sel_mk (fun q => ?_) (fun q => ?_)
      all_goals
        first
        | (have q : 0 < n := by simpa using q
           walk_at "w"
           rw [matQ_R]
           refine ⟨_, hLedP, n, n, _, v, dv, 2 ^ 200, _, _, rfl, ⟨by omega, by omega, q, hFl, hv, hTs⟩, ?_⟩
           walk_at "w"
           refine shp2 (shp_rowQ n _) (by decide) (rowQ_congr fun k _ => ?_) fun e => ?_
           · rw [sm_congr fun a _ => (sm_mul n (v a) _).symm, sm_swap]
             refine sm_congr fun a _ => ?_
             rw [← sm_mul]
             exact sm_congr fun b _ => by grind
           rw [e]
           (refine (And.intro rfl (Exists.intro _ (And.intro rfl (sel_ff rfl (And.intro isOw_tab ?_))))); walk_at "w"))
        | (have q : ¬ 0 < n := by simpa using q
           (refine (And.intro rfl (Exists.intro _ (And.intro rfl (sel_ff rfl (And.intro isOw_tab ?_))))); walk_at "w"))
        refine app_tab (.inl rfl) (by omega) ?_
        walk_at "w"
        refine forb_tab (k := 0) (g := fun j => rowQ n fun k => sm n fun a => u a * c a j k) (fun c' d => [.va (.list (ks.map PyData.int)), .va (.int (i : Nat)), .ow 1 b3, .va (cubQ n c), .va (.int (n : Nat)), .va (rowQ n u), .va (rowQ n v), .va (rowQ n fun k => sm n fun i => u i * sm n fun j => v j * c i j k), .va (matQ n fun j k => sm n fun a => u a * c a j k), .va (.str (PyData.list [cubQ n c, rowQ n u, rowQ n v]).shown), .va (.int (t : Nat)), .ow 1 (rowX n fun k => sm n fun i => u i * sm n fun j => v j * c i j k), c', d, .un]) (fun j => rowX n fun k => sm n fun a => u a * c a j k) (fun _ _ _ => rfl) (fun _ _ _ => rfl) (fun _ _ => rfl) (fun _ _ => rfl) (fun a ha v pre post κ' hp hl hn' => ?_) (fun c' hc' => ?_)
        · (refine (And.intro isOw_tab ?_); walk_at "w")
          refine app_tab (.inl rfl) (by omega) ?_
          exact hn'
        · obtain rfl : c' = .un := hc'.elim id id
          walk_at "w"
          refine cat_one (by omega) ?_
          rw [tab_congr (n := n + 1) (h := fun a => rowX n fun k => if a < n then sm n fun b => u b * c b a k else sm n fun i => u i * sm n fun j => v j * c i j k) fun a ha => by
            by_cases q : a < n
            · simp only [q, if_true]
            · simp only [q, if_false]]
          walk_at "w"
          refine ⟨_, tab_eq _ _, ?_⟩
          (refine (And.intro rfl ?_); walk_at "w")
          refine comp_tab (fun _ => .bool false) (fun a ha U hU => ?_) ?_
          · (refine (And.intro rfl (And.intro rfl ?_)); walk_at "w")
            rw [show ((((List.range n).map fun k => frQ (if a < n then sm n fun b => u b * c b a k else sm n fun i => u i * sm n fun j => v j * c i j k)) ++ [frQ 1]).length) = n + 1 by simp]
            walk_at "w"
            rw [show PyData.eqv (.int ((n + 1 : Nat) : Int)) (.int ((n : Nat) + 1 : Int)) = true by rw [eqv_int]; simp]
            exact hU
          · walk_at "w"
            refine ⟨List.replicate (n + 1) false, ?_, ?_⟩
            · refine List.ext_getElem? fun j => ?_
              by_cases hj : j < n + 1
              · rw [rmap_get hj, List.getElem?_map, List.getElem?_replicate, if_pos hj]; rfl
              · rw [List.getElem?_eq_none (by simpa using hj), List.getElem?_eq_none (by simpa using hj)]
            rw [show (List.replicate (n + 1) false).any id = false by simp]
            (refine (And.intro rfl (Exists.intro _ (And.intro rfl (sel_ff rfl ?_)))); walk_at "w")
            exact hV _ ⟨_, _, _, rfl⟩
    · rintro ρ ⟨c10, c11, c12, rfl⟩
      (refine (And.intro rfl ?_); walk_at "w")
      refine ⟨hK, ?_⟩
      (refine (Exists.intro _ (And.intro rfl ?_)); walk_at "w")
      rw [decide_eq_true rfl]
      (refine (sel_ff rfl ?_); walk_at "w")
      refine ⟨isOw_bag hB3, ?_⟩
      walk_at "w"
      refine ⟨_, _, _, hLedRight, oLedRight, rfl, b3, rfl, hB3, fun b4 hB4 => ?_⟩
      (refine (Exists.intro _ (And.intro rfl (Exists.intro _ (And.intro rfl (sel_ff rfl ?_))))); walk_at "w")
      refine ⟨_, hUnitsRight, n, c, rfl, ⟨hn, hc.sm⟩, ?_⟩
      (refine (Exists.intro _ (And.intro rfl (Exists.intro _ (And.intro rfl (sel_ff rfl ?_))))); walk_at "w")
      exact hW _ ⟨_, _, _, _, _, _, _, _, _, _, _, _, rfl⟩
  · rintro ρ ⟨c1, c2, c3, c4, c5, c6, c7, c8, c9, c10, c11, c12, rfl⟩
    walk_at "w"
    exact h
end Q

namespace K11
open PySem PySem.Spec PyProof.Rows L2 Q
def topS (i : Nat) : Stmt := PySem.Challenge.pw_turnalgebra_k11_products_and_deeds.main.body.getD i (.Pass ⟨0, 0, 0, 0⟩)
abbrev s_common : Stmt := topS 4
def N_common : List Str := ["one", "other"]
def b_common : Ss :=
    (.cons (.whl (.cmp .NotEq (.var 1) (.int 0)) (.cons (.par 0 1 (.var 1) (.op .Mod (.var 0) (.var 1)))
    .nil))
    (.cons (.ret (.blt .abs (.cons (.var 0) .nil)))
    .nil))
abbrev s_share : Stmt := topS 5
def N_share : List Str := ["top", "bottom", "part"]
def b_share : Ss :=
    (.cons (.ite (.cmp .Eq (.var 1) (.int 0)) (.cons (.raise "NoShare" "a bottom of 0")
    .nil) .nil)
    (.cons (.set 2 (.call 0 0 (.cons (.var 0) (.cons (.var 1) .nil))))
    (.cons (.ite (.cmp .Lt (.var 1) (.int 0)) (.cons (.set 2 (.neg (.var 2)))
    .nil) .nil)
    (.cons (.ret (.tup (.cons (.op .FloorDiv (.var 0) (.var 2)) (.cons (.op .FloorDiv (.var 1) (.var 2)) .nil))))
    .nil))))
abbrev s_plus : Stmt := topS 6
def N_plus : List Str := ["u", "v"]
def b_plus : Ss :=
    (.cons (.ret (.call 1 0 (.cons (.op .Add (.op .Mult (.ix (.var 0) (.int 0)) (.ix (.var 1) (.int 1))) (.op .Mult (.ix (.var 1) (.int 0)) (.ix (.var 0) (.int 1)))) (.cons (.op .Mult (.ix (.var 0) (.int 1)) (.ix (.var 1) (.int 1))) .nil))))
    .nil)
abbrev s_times : Stmt := topS 7
def N_times : List Str := ["u", "v"]
def b_times : Ss :=
    (.cons (.ret (.call 1 0 (.cons (.op .Mult (.ix (.var 0) (.int 0)) (.ix (.var 1) (.int 0))) (.cons (.op .Mult (.ix (.var 0) (.int 1)) (.ix (.var 1) (.int 1))) .nil))))
    .nil)
abbrev s_added : Stmt := topS 10
def N_added : List Str := ["one", "other", "number", "u", "v"]
def b_added : Ss :=
    (.cons (.ret (.comp 0 [3, 4] (.tp (.cons (.nm 3) (.cons (.nm 4) .nil))) (.zip (.var 0) (.var 1)) .none (.call 2 0 (.cons (.var 3) (.cons (.call 3 0 (.cons (.var 2) (.cons (.var 4) .nil))) .nil)))))
    .nil)
abbrev s_sum_of : Stmt := topS 11
def N_sum_of : List Str := ["size", "rows", "numbers", "found", "row", "number", "place"]
def b_sum_of : Ss :=
    (.cons (.seto 3 1 (.comp 0 [6] (.nm 6) (.rng (.var 0)) .none (.gl "NOUGHT" (.tuple [(.int 0), (.int 1)]))))
    (.cons (.for (.tp (.cons (.nm 4) (.cons (.nm 5) .nil))) (.zip (.var 1) (.var 2)) (.cons (.ite (.cmp .NotEq (.var 5) (.gl "NOUGHT" (.tuple [(.int 0), (.int 1)]))) (.cons (.seto 3 1 (.call 4 1 (.cons (.var 3) (.cons (.var 4) (.cons (.var 5) .nil)))))
    .nil) .nil)
    .nil))
    (.cons (.ret (.mv 3 1))
    .nil)))
abbrev s_product : Stmt := topS 12
def N_product : List Str := ["algebra", "u", "v", "size", "rows"]
def b_product : Ss :=
    (.cons (.set 3 (.blt .len (.cons (.var 0) .nil)))
    (.cons (.ret (.call 5 1 (.cons (.var 3) (.cons (.comp 1 [4] (.nm 4) (.lst (.var 0)) .none (.call 5 1 (.cons (.var 3) (.cons (.var 4) (.cons (.var 2) .nil))))) (.cons (.var 1) .nil)))))
    .nil))
abbrev s_deed : Stmt := topS 13
def N_deed : List Str := ["algebra", "u", "size", "j", "i"]
def b_deed : Ss :=
    (.cons (.set 2 (.blt .len (.cons (.var 0) .nil)))
    (.cons (.ret (.comp 1 [3] (.nm 3) (.rng (.var 2)) .none (.call 5 1 (.cons (.var 2) (.cons (.comp 0 [4] (.nm 4) (.rng (.var 2)) .none (.ix (.ix (.var 0) (.var 4)) (.var 3))) (.cons (.var 1) .nil))))))
    .nil))
abbrev s_led : Stmt := topS 14
def N_led : List Str := ["table", "v"]
def b_led : Ss :=
    (.cons (.ret (.call 5 1 (.cons (.blt .len (.cons (.ix (.var 0) (.int 0)) .nil)) (.cons (.var 0) (.cons (.var 1) .nil)))))
    .nil)
abbrev s_l_bag : Stmt := topS 16
def N_l_bag : List Str := ["_law_script", "_law_at", "_law_cell", "_law_mix", "_law_k"]
def b_l_bag : Ss :=
    (.cons (.set 2 (.int 0))
    (.cons (.ite (.cmp .Lt (.var 1) (.blt .len (.cons (.var 0) .nil))) (.cons (.set 2 (.blt .abs (.cons (.ix (.var 0) (.var 1)) .nil)))
    .nil) .nil)
    (.cons (.set 3 (.op .Mod (.op .Pow (.op .Add (.op .Add (.op .Mod (.var 2) (.int 2147483629)) (.op .Mult (.int 104729) (.var 1))) (.int 17)) (.int 5)) (.int 2147483647)))
    (.cons (.for (.nm 4) (.rng (.blt .mn (.cons (.blt .len (.cons (.var 0) .nil)) (.cons (.int 60) .nil)))) (.cons (.set 3 (.op .Mod (.op .Add (.op .Add (.op .Mult (.var 3) (.int 48271)) (.op .Mult (.op .Mod (.ix (.var 0) (.var 4)) (.int 2147483587)) (.op .Add (.var 4) (.int 3)))) (.var 4)) (.int 2147483629)))
    .nil))
    (.cons (.ite (.cmp .Lt (.var 2) (.op .Pow (.int 10) (.int 18))) (.cons (.set 2 (.int 0))
    .nil) .nil)
    (.cons (.ret (.lst 0 (.cons (.var 2) (.cons (.var 3) .nil))))
    .nil))))))
abbrev s_l_take : Stmt := topS 17
def N_l_take : List Str := ["_law_bag_here", "_law_many", "_law_digit"]
abbrev b_l_take : Ss := bTake
abbrev s_l_none : Stmt := topS 18
def N_l_none : List Str := ["_law_size", "_law_i", "_law_j"]
def b_l_none : Ss :=
    (.cons (.ret (.comp 2 [1] (.nm 1) (.rng (.var 0)) .none (.comp 1 [2] (.nm 2) (.rng (.var 0)) .none (.rep (.lst 0 (.cons (.int 0) .nil)) (.var 0)))))
    .nil)
abbrev s_l_set : Stmt := topS 19
def N_l_set : List Str := ["_law_found", "_law_i", "_law_j", "_law_row_here", "_law_number"]
def b_l_set : Ss :=
    (.cons (.stp 0 0 (.cons (.var 1) .nil) (.var 2) (.lof (.var 3)))
    (.cons (.stp 0 0 (.cons (.var 2) .nil) (.var 1) (.comp 0 [4] (.nm 4) (.lst (.var 3)) .none (.op .Sub (.int 0) (.var 4))))
    .nil))
abbrev s_l_three : Stmt := topS 20
def N_l_three : List Str := ["_law_a", "_law_b", "_law_c", "_law_found"]
def b_l_three : Ss :=
    (.cons (.seto 3 2 (.call 11 3 (.cons (.int 3) .nil)))
    (.cons (.expr (.callr 12 0 3 (.cons (.int 0) (.cons (.int 1) (.cons (.lst 0 (.cons (.int 0) (.cons (.int 0) (.cons (.var 2) .nil)))) .nil)))))
    (.cons (.expr (.callr 12 0 3 (.cons (.int 1) (.cons (.int 2) (.cons (.lst 0 (.cons (.var 0) (.cons (.int 0) (.cons (.int 0) .nil)))) .nil)))))
    (.cons (.expr (.callr 12 0 3 (.cons (.int 2) (.cons (.int 0) (.cons (.lst 0 (.cons (.int 0) (.cons (.var 1) (.cons (.int 0) .nil)))) .nil)))))
    (.cons (.ret (.var 3))
    .nil)))))
abbrev s_l_by_one : Stmt := topS 21
def N_l_by_one : List Str := ["_law_bag_here", "_law_many", "_law_found", "_law_k", "_law_row_here", "_law_j"]
def b_l_by_one : Ss :=
    (.cons (.seto 2 2 (.call 11 3 (.cons (.op .Add (.int 1) (.var 1)) .nil)))
    (.cons (.for (.nm 3) (.rng (.var 1)) (.cons (.seto 4 1 (.lst 0 (.cons (.int 0) .nil)))
    (.cons (.for (.nm 5) (.rng (.var 1)) (.cons (.app 4 (.ix (.lst 0 (.cons (.int 0) (.cons (.int 0) (.cons (.int 1) (.cons (.neg (.int 1)) (.cons (.int 2) (.cons (.int 1) .nil))))))) (.callr 10 0 0 (.cons (.int 6) .nil))))
    .nil))
    (.cons (.expr (.callr 12 0 2 (.cons (.int 0) (.cons (.op .Add (.int 1) (.var 3)) (.cons (.var 4) .nil)))))
    .nil))))
    (.cons (.ret (.var 2))
    .nil)))
abbrev s_l_pairs : Stmt := topS 22
def N_l_pairs : List Str := ["_law_pairs_here", "_law_found", "_law_i", "_law_p", "_law_q", "_law_j", "_law_r", "_law_s"]
def b_l_pairs : Ss :=
    (.cons (.seto 1 3 (.call 11 3 (.cons (.blt .len (.cons (.var 0) .nil)) .nil)))
    (.cons (.for (.tp (.cons (.nm 2) (.cons (.tp (.cons (.nm 3) (.cons (.nm 4) .nil))) .nil))) (.enum (.var 0)) (.cons (.for (.tp (.cons (.nm 5) (.cons (.tp (.cons (.nm 6) (.cons (.nm 7) .nil))) .nil))) (.enum (.var 0)) (.cons (.ite (.cmp .Eq (.var 4) (.var 6)) (.cons (.aug 1 (.cons (.var 2) (.cons (.var 5) .nil)) (.idx (.var 0) (.tup (.cons (.var 3) (.cons (.var 7) .nil)))) .Add (.int 1))
    .nil) .nil)
    (.cons (.ite (.cmp .Eq (.var 7) (.var 3)) (.cons (.aug 1 (.cons (.var 2) (.cons (.var 5) .nil)) (.idx (.var 0) (.tup (.cons (.var 6) (.cons (.var 4) .nil)))) .Sub (.int 1))
    .nil) .nil)
    .nil)))
    .nil))
    (.cons (.ret (.var 1))
    .nil)))
abbrev s_l_doubled : Stmt := topS 23
def N_l_doubled : List Str := ["_law_three_here", "_law_a", "_law_b", "_law_found", "_law_i", "_law_j", "_law_row_here", "_law_third", "_law_x"]
def b_l_doubled : Ss :=
    (.cons (.seto 3 2 (.call 11 3 (.cons (.int 6) .nil)))
    (.cons (.for (.nm 4) (.rng (.int 6)) (.cons (.for (.nm 5) (.rng (.int 6)) (.cons (.set 6 (.ix (.ix (.var 0) (.op .Mod (.var 4) (.int 3))) (.op .Mod (.var 5) (.int 3))))
    (.cons (.set 7 (.cat 0 (.comp 0 [8] (.nm 8) (.lst (.var 6)) .none (.op .Mult (.var 2) (.var 8))) (.comp 0 [8] (.nm 8) (.lst (.var 6)) .none (.op .Mult (.var 1) (.var 8)))))
    (.cons (.stp 3 0 (.cons (.var 4) .nil) (.var 5) (.ix (.lst 0 (.cons (.cat 0 (.var 6) (.lst 0 (.cons (.int 0) (.cons (.int 0) (.cons (.int 0) .nil))))) (.cons (.cat 0 (.lst 0 (.cons (.int 0) (.cons (.int 0) (.cons (.int 0) .nil)))) (.var 6)) (.cons (.var 7) .nil)))) (.op .Add (.op .FloorDiv (.var 4) (.int 3)) (.op .FloorDiv (.var 5) (.int 3)))))
    .nil))))
    .nil))
    (.cons (.ret (.var 3))
    .nil)))
abbrev s_l_moving : Stmt := topS 24
def N_l_moving : List Str := ["_law_number", "_law_more", "_law_found", "_law_some", "_law_i", "_law_j", "_law_k", "_law_x", "_law_row_here"]
def b_l_moving : Ss :=
    (.cons (.seto 2 2 (.call 11 3 (.cons (.op .Add (.int 5) (.var 1)) .nil)))
    (.cons (.set 3 (.lst 0 (.cons (.tup (.cons (.int 0) (.cons (.int 1) (.cons (.int 1) (.cons (.int 2) .nil))))) (.cons (.tup (.cons (.int 0) (.cons (.int 2) (.cons (.int 2) (.cons (.neg (.int 2)) .nil))))) (.cons (.tup (.cons (.int 1) (.cons (.int 2) (.cons (.int 0) (.cons (.int 1) .nil))))) (.cons (.tup (.cons (.int 0) (.cons (.int 3) (.cons (.int 3) (.cons (.int 1) .nil))))) (.cons (.tup (.cons (.int 0) (.cons (.int 4) (.cons (.int 4) (.cons (.neg (.int 1)) .nil))))) (.cons (.tup (.cons (.int 1) (.cons (.int 4) (.cons (.int 3) (.cons (.int 1) .nil))))) (.cons (.tup (.cons (.int 2) (.cons (.int 3) (.cons (.int 4) (.cons (.int 1) .nil))))) .nil)))))))))
    (.cons (.for (.tp (.cons (.nm 4) (.cons (.nm 5) (.cons (.nm 6) (.cons (.nm 7) .nil))))) (.lst (.var 3)) (.cons (.seto 8 1 (.rep (.lst 0 (.cons (.int 0) .nil)) (.op .Add (.int 5) (.var 1))))
    (.cons (.stp 8 0 .nil (.var 6) (.var 7))
    (.cons (.expr (.callr 12 0 2 (.cons (.var 4) (.cons (.var 5) (.cons (.var 8) .nil)))))
    .nil))))
    (.cons (.ite (.cmp .Eq (.var 1) (.int 1)) (.cons (.expr (.callr 12 0 2 (.cons (.int 3) (.cons (.int 4) (.cons (.lst 0 (.cons (.int 0) (.cons (.int 0) (.cons (.int 0) (.cons (.int 0) (.cons (.int 0) (.cons (.var 0) .nil))))))) .nil)))))
    .nil) .nil)
    (.cons (.ret (.var 2))
    .nil)))))
abbrev s_l_side : Stmt := topS 25
def N_l_side : List Str := ["_law_one", "_law_other", "_law_found", "_law_i", "_law_rows", "_law_j", "_law_row_here"]
def b_l_side : Ss :=
    (.cons (.seto 2 2 (.call 11 3 (.cons (.op .Add (.blt .len (.cons (.var 0) .nil)) (.blt .len (.cons (.var 1) .nil))) .nil)))
    (.cons (.for (.tp (.cons (.nm 3) (.cons (.nm 4) .nil))) (.enum (.var 0)) (.cons (.for (.tp (.cons (.nm 5) (.cons (.nm 6) .nil))) (.enum (.var 4)) (.cons (.stp 2 0 (.cons (.var 3) .nil) (.var 5) (.cat 0 (.var 6) (.rep (.lst 0 (.cons (.int 0) .nil)) (.blt .len (.cons (.var 1) .nil)))))
    .nil))
    .nil))
    (.cons (.for (.tp (.cons (.nm 3) (.cons (.nm 4) .nil))) (.enum (.var 1)) (.cons (.for (.tp (.cons (.nm 5) (.cons (.nm 6) .nil))) (.enum (.var 4)) (.cons (.stp 2 0 (.cons (.op .Add (.lenv 0) (.var 3)) .nil) (.op .Add (.lenv 0) (.var 5)) (.cat 0 (.rep (.lst 0 (.cons (.int 0) .nil)) (.blt .len (.cons (.var 0) .nil))) (.var 6)))
    .nil))
    .nil))
    (.cons (.ret (.var 2))
    .nil))))
abbrev s_l_integers : Stmt := topS 26
def N_l_integers : List Str := ["_law_bag_here", "_law_most", "_law_kind", "_law_a", "_law_b", "_law_c", "_law_x", "_law_y", "_law_z", "_law_some", "_law_k"]
def b_l_integers : Ss :=
    (.cons (.set 2 (.callr 10 0 0 (.cons (.int 12) .nil)))
    (.cons (.unp (.cons (.nm 3) (.cons (.nm 4) (.cons (.nm 5) .nil))) (.comp 0 [10] (.nm 10) (.rng (.int 3)) .none (.ix (.lst 0 (.cons (.int 1) (.cons (.neg (.int 1)) (.cons (.int 2) (.cons (.neg (.int 2)) (.cons (.int 3) (.cons (.int 1) .nil))))))) (.callr 10 0 0 (.cons (.int 6) .nil)))))
    (.cons (.unp (.cons (.nm 6) (.cons (.nm 7) (.cons (.nm 8) .nil))) (.comp 0 [10] (.nm 10) (.rng (.int 3)) .none (.ix (.lst 0 (.cons (.int 0) (.cons (.int 1) (.cons (.neg (.int 1)) (.cons (.int 2) (.cons (.int 0) (.cons (.int 1) (.cons (.neg (.int 2)) (.cons (.int 3) .nil))))))))) (.callr 10 0 0 (.cons (.int 8) .nil)))))
    (.cons (.ite (.and (.cmp .Eq (.var 2) (.int 0)) (.cmp .Gt (.var 1) (.int 5))) (.cons (.ret (.call 16 0 (.cons (.call 13 0 (.cons (.var 3) (.cons (.var 4) (.cons (.var 5) .nil)))) (.cons (.op .Sub (.callr 10 0 0 (.cons (.int 5) .nil)) (.int 2)) (.cons (.op .Sub (.callr 10 0 0 (.cons (.int 7) .nil)) (.int 2)) .nil)))))
    .nil) .nil)
    (.cons (.ite (.and (.cmp .Eq (.var 2) (.int 1)) (.cmp .Gt (.var 1) (.int 5))) (.cons (.ret (.call 18 0 (.cons (.call 13 0 (.cons (.var 3) (.cons (.var 4) (.cons (.var 5) .nil)))) (.cons (.call 13 0 (.cons (.var 6) (.cons (.var 7) (.cons (.var 8) .nil)))) .nil))))
    .nil) .nil)
    (.cons (.ite (.and (.cmp .Eq (.var 2) (.int 2)) (.cmp .Gt (.var 1) (.int 4))) (.cons (.ret (.call 17 0 (.cons (.op .Add (.int 1) (.callr 10 0 0 (.cons (.int 3) .nil))) (.cons (.op .Mult (.blt .int (.cons (.cmp .Gt (.var 1) (.int 5)) .nil)) (.callr 10 0 0 (.cons (.int 2) .nil))) .nil))))
    .nil) .nil)
    (.cons (.ite (.and (.cmp .Eq (.var 2) (.int 3)) (.cmp .Gt (.var 1) (.int 4))) (.cons (.ret (.call 18 0 (.cons (.call 13 0 (.cons (.var 3) (.cons (.var 4) (.cons (.var 5) .nil)))) (.cons (.callr 14 0 0 (.cons (.op .Add (.int 1) (.callr 10 0 0 (.cons (.op .Sub (.var 1) (.int 4)) .nil))) .nil)) .nil))))
    .nil) .nil)
    (.cons (.ite (.and (.cmp .Eq (.var 2) (.int 4)) (.cmp .Gt (.var 1) (.int 4))) (.cons (.seto 9 1 (.lst 1 (.cons (.lst 0 (.cons (.tup (.cons (.int 0) (.cons (.int 1) .nil))) (.cons (.tup (.cons (.int 0) (.cons (.int 2) .nil))) (.cons (.tup (.cons (.int 1) (.cons (.int 2) .nil))) (.cons (.tup (.cons (.int 0) (.cons (.int 3) .nil))) (.cons (.tup (.cons (.int 1) (.cons (.int 3) .nil))) .nil)))))) (.cons (.lst 0 (.cons (.tup (.cons (.int 0) (.cons (.int 0) .nil))) (.cons (.tup (.cons (.int 1) (.cons (.int 1) .nil))) (.cons (.tup (.cons (.int 0) (.cons (.int 1) .nil))) (.cons (.tup (.cons (.int 1) (.cons (.int 0) .nil))) (.cons (.tup (.cons (.int 0) (.cons (.int 2) .nil))) (.cons (.tup (.cons (.int 1) (.cons (.int 2) .nil))) .nil))))))) .nil))))
    (.cons (.app 9 (.lst 0 (.cons (.tup (.cons (.int 0) (.cons (.int 0) .nil))) (.cons (.tup (.cons (.int 0) (.cons (.int 1) .nil))) (.cons (.tup (.cons (.int 0) (.cons (.int 2) .nil))) (.cons (.tup (.cons (.int 1) (.cons (.int 1) .nil))) (.cons (.tup (.cons (.int 1) (.cons (.int 2) .nil))) (.cons (.tup (.cons (.int 2) (.cons (.int 2) .nil))) .nil))))))))
    (.cons (.app 9 (.lst 0 (.cons (.tup (.cons (.int 0) (.cons (.int 1) .nil))) (.cons (.tup (.cons (.int 0) (.cons (.int 2) .nil))) (.cons (.tup (.cons (.int 0) (.cons (.int 3) .nil))) (.cons (.tup (.cons (.int 1) (.cons (.int 2) .nil))) (.cons (.tup (.cons (.int 1) (.cons (.int 3) .nil))) (.cons (.tup (.cons (.int 2) (.cons (.int 3) .nil))) .nil))))))))
    (.cons (.ret (.call 15 0 (.cons (.ix (.var 9) (.op .Mult (.callr 10 0 0 (.cons (.int 4) .nil)) (.blt .int (.cons (.cmp .Gt (.var 1) (.int 5)) .nil)))) .nil)))
    .nil)))) .nil)
    (.cons (.ite (.inn false (.var 2) (.tup (.cons (.int 5) (.cons (.int 6) .nil)))) (.cons (.seto 9 1 (.lst 1 (.cons (.lst 0 (.cons (.tup (.cons (.int 0) (.cons (.int 0) .nil))) (.cons (.tup (.cons (.int 0) (.cons (.int 1) .nil))) .nil))) (.cons (.lst 0 (.cons (.tup (.cons (.int 0) (.cons (.int 1) .nil))) (.cons (.tup (.cons (.int 0) (.cons (.int 2) .nil))) (.cons (.tup (.cons (.int 1) (.cons (.int 2) .nil))) .nil)))) (.cons (.lst 0 (.cons (.tup (.cons (.int 0) (.cons (.int 0) .nil))) (.cons (.tup (.cons (.int 0) (.cons (.int 1) .nil))) (.cons (.tup (.cons (.int 1) (.cons (.int 1) .nil))) .nil)))) .nil)))))
    (.cons (.seto 9 1 (.cat 0 (.var 9) (.lst 1 (.cons (.lst 0 (.cons (.tup (.cons (.int 0) (.cons (.int 0) .nil))) (.cons (.tup (.cons (.int 0) (.cons (.int 1) .nil))) (.cons (.tup (.cons (.int 0) (.cons (.int 2) .nil))) (.cons (.tup (.cons (.int 1) (.cons (.int 2) .nil))) .nil))))) (.cons (.lst 0 (.cons (.tup (.cons (.int 0) (.cons (.int 0) .nil))) (.cons (.tup (.cons (.int 0) (.cons (.int 1) .nil))) (.cons (.tup (.cons (.int 1) (.cons (.int 0) .nil))) (.cons (.tup (.cons (.int 1) (.cons (.int 1) .nil))) .nil))))) .nil)))))
    (.cons (.ret (.call 15 0 (.cons (.ix (.var 9) (.callr 10 0 0 (.cons (.ix (.lst 0 (.cons (.int 3) (.cons (.int 5) .nil))) (.blt .int (.cons (.cmp .Gt (.var 1) (.int 3)) .nil))) .nil))) .nil)))
    .nil))) .nil)
    (.cons (.ite (.cmp .Eq (.var 2) (.int 7)) (.cons (.ret (.callr 14 0 0 (.cons (.op .Add (.int 1) (.callr 10 0 0 (.cons (.op .Sub (.blt .mn (.cons (.var 1) (.cons (.int 5) .nil))) (.int 1)) .nil))) .nil)))
    .nil) .nil)
    (.cons (.ite (.cmp .Eq (.var 2) (.int 8)) (.cons (.ret (.call 11 3 (.cons (.callr 10 0 0 (.cons (.op .Add (.var 1) (.int 1)) .nil)) .nil)))
    .nil) .nil)
    (.cons (.ret (.ix (.lst 0 (.cons (.call 13 0 (.cons (.var 3) (.cons (.var 4) (.cons (.var 5) .nil)))) (.cons (.call 13 0 (.cons (.var 6) (.cons (.var 7) (.cons (.var 8) .nil)))) .nil))) (.blt .int (.cons (.cmp .Eq (.var 2) (.int 11)) .nil))))
    .nil))))))))))))
abbrev s_l_stepped : Stmt := topS 27
def N_l_stepped : List Str := ["_law_found", "_law_i", "_law_j", "_law_number", "_law_rows", "_law_k", "_law_some", "_law_row_here", "_law_x", "_law_y"]
def b_l_stepped : Ss :=
    (.cons (.seto 4 3 (.comp 2 [6] (.nm 6) (.lst (.var 0)) .none (.comp 1 [7] (.nm 7) (.lst (.var 6)) .none (.lof (.var 7)))))
    (.cons (.for (.nm 5) (.rng (.blt .len (.cons (.var 0) .nil))) (.cons (.stp 4 1 (.cons (.var 1) .nil) (.var 5) (.lend (.comp 0 [8, 9] (.tp (.cons (.nm 8) (.cons (.nm 9) .nil))) (.zip (.ix (.ix (.var 4) (.var 1)) (.var 5)) (.ix (.ix (.var 4) (.var 2)) (.var 5))) .none (.op .Add (.var 8) (.op .Mult (.var 3) (.var 9))))))
    .nil))
    (.cons (.for (.nm 5) (.rng (.blt .len (.cons (.var 0) .nil))) (.cons (.stp 4 1 (.cons (.var 5) .nil) (.var 1) (.lend (.comp 0 [8, 9] (.tp (.cons (.nm 8) (.cons (.nm 9) .nil))) (.zip (.ix (.ix (.var 4) (.var 5)) (.var 1)) (.ix (.ix (.var 4) (.var 5)) (.var 2))) .none (.op .Add (.var 8) (.op .Mult (.var 3) (.var 9))))))
    .nil))
    (.cons (.forb none 6 4 (.cons (.forb none 7 6 (.cons (.stp 7 0 .nil (.var 2) (.lend (.op .Sub (.ix (.var 7) (.var 2)) (.op .Mult (.var 3) (.ix (.var 7) (.var 1))))))
    .nil))
    .nil))
    (.cons (.ret (.var 4))
    .nil)))))
abbrev s_l_common : Stmt := topS 28
def N_l_common : List Str := ["_law_one", "_law_other"]
def b_l_common : Ss :=
    (.cons (.whl (.cmp .NotEq (.var 1) (.int 0)) (.cons (.par 0 1 (.var 1) (.op .Mod (.var 0) (.var 1)))
    .nil))
    (.cons (.ret (.blt .abs (.cons (.var 0) .nil)))
    .nil))
abbrev s_l_lowest : Stmt := topS 29
def N_l_lowest : List Str := ["_law_top", "_law_bottom", "_law_part"]
def b_l_lowest : Ss :=
    (.cons (.set 2 (.call 21 0 (.cons (.var 0) (.cons (.var 1) .nil))))
    (.cons (.ite (.cmp .Lt (.var 1) (.int 0)) (.cons (.set 2 (.op .Sub (.int 0) (.var 2)))
    .nil) .nil)
    (.cons (.ret (.tup (.cons (.op .FloorDiv (.var 0) (.var 2)) (.cons (.op .FloorDiv (.var 1) (.var 2)) .nil))))
    .nil)))
abbrev s_l_rescaled : Stmt := topS 30
def N_l_rescaled : List Str := ["_law_found", "_law_at", "_law_top", "_law_bottom", "_law_rows", "_law_i", "_law_some", "_law_j", "_law_row_here", "_law_k", "_law_x", "_law_up", "_law_down"]
def b_l_rescaled : Ss :=
    (.cons (.seto 4 3 (.call 11 3 (.cons (.blt .len (.cons (.var 0) .nil)) .nil)))
    (.cons (.for (.tp (.cons (.nm 5) (.cons (.nm 6) .nil))) (.enum (.var 0)) (.cons (.for (.tp (.cons (.nm 7) (.cons (.nm 8) .nil))) (.enum (.var 6)) (.cons (.for (.tp (.cons (.nm 9) (.cons (.nm 10) .nil))) (.enum (.var 8)) (.cons (.set 11 (.op .Mult (.op .Mult (.ix (.lst 0 (.cons (.int 1) (.cons (.var 2) .nil))) (.blt .int (.cons (.cmp .Eq (.var 5) (.var 1)) .nil))) (.ix (.lst 0 (.cons (.int 1) (.cons (.var 2) .nil))) (.blt .int (.cons (.cmp .Eq (.var 7) (.var 1)) .nil)))) (.ix (.lst 0 (.cons (.int 1) (.cons (.var 3) .nil))) (.blt .int (.cons (.cmp .Eq (.var 9) (.var 1)) .nil)))))
    (.cons (.set 12 (.op .Mult (.op .Mult (.ix (.lst 0 (.cons (.int 1) (.cons (.var 3) .nil))) (.blt .int (.cons (.cmp .Eq (.var 5) (.var 1)) .nil))) (.ix (.lst 0 (.cons (.int 1) (.cons (.var 3) .nil))) (.blt .int (.cons (.cmp .Eq (.var 7) (.var 1)) .nil)))) (.ix (.lst 0 (.cons (.int 1) (.cons (.var 2) .nil))) (.blt .int (.cons (.cmp .Eq (.var 9) (.var 1)) .nil)))))
    (.cons (.stp 4 0 (.cons (.var 5) (.cons (.var 7) .nil)) (.var 9) (.call 22 0 (.cons (.op .Mult (.var 10) (.var 11)) (.cons (.var 12) .nil))))
    .nil))))
    .nil))
    .nil))
    (.cons (.ret (.var 4))
    .nil)))
abbrev s_l_algebra : Stmt := topS 31
def N_l_algebra : List Str := ["_law_bag_here", "_law_most", "_law_found", "_law_size", "_law_turn", "_law_i", "_law_j"]
def b_l_algebra : Ss :=
    (.cons (.set 2 (.callr 19 0 0 (.cons (.var 1) .nil)))
    (.cons (.set 3 (.blt .len (.cons (.var 2) .nil)))
    (.cons (.for (.nm 4) (.rng (.op .Mult (.callr 10 0 0 (.cons (.int 6) .nil)) (.blt .int (.cons (.cmp .Gt (.var 3) (.int 1)) .nil)))) (.cons (.set 5 (.callr 10 0 0 (.cons (.var 3) .nil)))
    (.cons (.set 6 (.op .Mod (.op .Add (.op .Add (.var 5) (.int 1)) (.callr 10 0 0 (.cons (.op .Sub (.var 3) (.int 1)) .nil))) (.var 3)))
    (.cons (.set 2 (.call 20 0 (.cons (.var 2) (.cons (.var 5) (.cons (.var 6) (.cons (.ix (.lst 0 (.cons (.int 1) (.cons (.neg (.int 1)) (.cons (.int 2) (.cons (.neg (.int 2)) .nil))))) (.callr 10 0 0 (.cons (.int 4) .nil))) .nil))))))
    .nil))))
    (.cons (.ite (.cmp .Eq (.var 3) (.int 0)) (.cons (.ret (.lst 0 .nil))
    .nil) .nil)
    (.cons (.ite (.cmp .Gt (.callr 10 0 0 (.cons (.int 4) .nil)) (.int 0)) (.cons (.ret (.call 23 0 (.cons (.var 2) (.cons (.int 0) (.cons (.int 1) (.cons (.int 1) .nil))))))
    .nil) .nil)
    (.cons (.ret (.call 23 0 (.cons (.var 2) (.cons (.callr 10 0 0 (.cons (.var 3) .nil)) (.cons (.op .Add (.int 1) (.callr 10 0 0 (.cons (.int 3) .nil))) (.cons (.op .Add (.int 2) (.callr 10 0 0 (.cons (.int 3) .nil))) .nil))))))
    .nil))))))
abbrev s_l_plus : Stmt := topS 32
def N_l_plus : List Str := ["_law_u", "_law_v"]
def b_l_plus : Ss :=
    (.cons (.ret (.call 22 0 (.cons (.op .Add (.op .Mult (.ix (.var 0) (.int 0)) (.ix (.var 1) (.int 1))) (.op .Mult (.ix (.var 1) (.int 0)) (.ix (.var 0) (.int 1)))) (.cons (.op .Mult (.ix (.var 0) (.int 1)) (.ix (.var 1) (.int 1))) .nil))))
    .nil)
abbrev s_l_times : Stmt := topS 33
def N_l_times : List Str := ["_law_u", "_law_v"]
def b_l_times : Ss :=
    (.cons (.ret (.call 22 0 (.cons (.op .Mult (.ix (.var 0) (.int 0)) (.ix (.var 1) (.int 0))) (.cons (.op .Mult (.ix (.var 0) (.int 1)) (.ix (.var 1) (.int 1))) .nil))))
    .nil)
abbrev s_l_put : Stmt := topS 34
def N_l_put : List Str := ["_law_row_here", "_law_number", "_law_other", "_law_u", "_law_v"]
def b_l_put : Ss :=
    (.cons (.ret (.comp 0 [3, 4] (.tp (.cons (.nm 3) (.cons (.nm 4) .nil))) (.zip (.var 0) (.var 2)) .none (.call 25 0 (.cons (.var 3) (.cons (.call 26 0 (.cons (.var 1) (.cons (.var 4) .nil))) .nil)))))
    .nil)
abbrev s_l_sum : Stmt := topS 35
abbrev s_l_product : Stmt := topS 36
def N_l_product : List Str := ["_law_found", "_law_u", "_law_v", "_law_size", "_law_total", "_law_i", "_law_j"]
def b_l_product : Ss :=
    (.cons (.set 3 (.blt .len (.cons (.var 0) .nil)))
    (.cons (.set 4 (.rep (.lst 0 (.cons (.tup (.cons (.int 0) (.cons (.int 1) .nil))) .nil)) (.var 3)))
    (.cons (.for (.nm 5) (.rng (.var 3)) (.cons (.for (.nm 6) (.rng (.var 3)) (.cons (.ite (.and (.cmp .NotEq (.ix (.ix (.var 1) (.var 5)) (.int 0)) (.int 0)) (.cmp .NotEq (.ix (.ix (.var 2) (.var 6)) (.int 0)) (.int 0))) (.cons (.set 4 (.call 27 0 (.cons (.var 4) (.cons (.call 26 0 (.cons (.ix (.var 1) (.var 5)) (.cons (.ix (.var 2) (.var 6)) .nil))) (.cons (.ix (.ix (.var 0) (.var 5)) (.var 6)) .nil)))))
    .nil) .nil)
    .nil))
    .nil))
    (.cons (.ret (.var 4))
    .nil))))
abbrev s_l_unit : Stmt := topS 37
def N_l_unit : List Str := ["_law_size", "_law_place", "_law_k"]
def b_l_unit : Ss :=
    (.cons (.ret (.comp 0 [2] (.nm 2) (.rng (.var 0)) .none (.tup (.cons (.blt .int (.cons (.cmp .Eq (.var 2) (.var 1)) .nil)) (.cons (.int 1) .nil)))))
    .nil)
abbrev s_l_row : Stmt := topS 38
def N_l_row : List Str := ["_law_bag_here", "_law_size", "_law_found", "_law_place", "_law_way", "_law_number"]
def b_l_row : Ss :=
    (.cons (.seto 2 1 (.lst 0 .nil))
    (.cons (.for (.nm 3) (.rng (.var 1)) (.cons (.set 4 (.callr 10 0 0 (.cons (.int 8) .nil)))
    (.cons (.app 2 (.call 22 0 (.cons (.op .Sub (.callr 10 0 0 (.cons (.int 13) .nil)) (.int 6)) (.cons (.op .Add (.int 1) (.callr 10 0 0 (.cons (.int 4) .nil))) .nil))))
    (.cons (.ite (.cmp .Eq (.var 4) (.int 0)) (.cons (.set 5 (.op .Add (.op .Mult (.callr 10 0 0 (.cons (.op .Pow (.int 10) (.int 6)) .nil)) (.op .Pow (.int 10) (.int 6))) (.callr 10 0 0 (.cons (.op .Pow (.int 10) (.int 6)) .nil))))
    (.cons (.stp 2 0 .nil (.neg (.int 1)) (.call 22 0 (.cons (.var 5) (.cons (.op .Add (.int 1) (.callr 10 0 0 (.cons (.op .Pow (.int 10) (.int 6)) .nil))) .nil))))
    .nil)) .nil)
    (.cons (.ite (.cmp .Gt (.var 4) (.int 5)) (.cons (.stp 2 0 .nil (.neg (.int 1)) (.tup (.cons (.int 0) (.cons (.int 1) .nil))))
    .nil) .nil)
    .nil)))))
    (.cons (.ret (.var 2))
    .nil)))
abbrev s_l_led_right : Stmt := topS 39
def N_l_led_right : List Str := ["_law_bag_here", "_law_table", "_law_other", "_law_place", "_law_u", "_law_due", "_law_ahead", "_law_turn", "_law_number", "_law_row_here", "_law_made"]
def b_l_led_right : Ss :=
    (.cons (.seto 1 1 (.lst 0 .nil))
    (.cons (.set 2 (.callr 10 0 0 (.cons (.int 7) .nil)))
    (.cons (.for (.nm 3) (.rng (.op .Add (.int 1) (.callr 10 0 0 (.cons (.int 6) .nil)))) (.cons (.app 1 (.callr 30 0 0 (.cons (.var 2) .nil)))
    .nil))
    (.cons (.set 4 (.callr 30 0 0 (.cons (.lenv 1) .nil)))
    (.cons (.set 5 (.rep (.lst 0 (.cons (.tup (.cons (.int 0) (.cons (.int 1) .nil))) .nil)) (.var 2)))
    (.cons (.for (.tp (.cons (.nm 8) (.cons (.nm 9) .nil))) (.zip (.var 4) (.var 1)) (.cons (.set 5 (.call 27 0 (.cons (.var 5) (.cons (.var 8) (.cons (.var 9) .nil)))))
    .nil))
    (.cons (.set 6 (.lend (.shw (.lst 0 (.cons (.var 1) (.cons (.var 4) .nil))))))
    (.cons (.for (.nm 7) (.rng (.int 2)) (.cons (.seto 10 1 (.lend (.call 8 1 (.cons (.var 1) (.cons (.var 4) .nil)))))
    (.cons (.ite (.lend (.or (.cmp .NotEq (.var 10) (.var 5)) (.cmps true (.shw (.lst 0 (.cons (.var 1) (.cons (.var 4) .nil)))) (.var 6)))) (.cons (.ret (.bl false))
    .nil) .nil)
    (.cons (.app 10 (.tup (.cons (.int 1) (.cons (.int 1) .nil))))
    .nil))))
    (.cons (.for (.nm 3) (.rng (.lenv 1)) (.cons (.seto 10 1 (.lend (.call 8 1 (.cons (.var 1) (.cons (.call 29 0 (.cons (.lenv 1) (.cons (.var 3) .nil))) .nil)))))
    (.cons (.ite (.lend (.cmp .NotEq (.var 10) (.ix (.var 1) (.var 3)))) (.cons (.ret (.bl false))
    .nil) .nil)
    (.cons (.app 10 (.tup (.cons (.int 1) (.cons (.int 1) .nil))))
    (.cons (.ite (.lend (.cmps true (.shw (.lst 0 (.cons (.var 1) (.cons (.var 4) .nil)))) (.var 6))) (.cons (.ret (.bl false))
    .nil) .nil)
    .nil)))))
    (.cons (.ret (.bl true))
    .nil))))))))))
abbrev s_l_units_right : Stmt := topS 40
def N_l_units_right : List Str := ["_law_found", "_law_size", "_law_ahead", "_law_i", "_law_often", "_law_u", "_law_table", "_law_j", "_law_row_here", "_law_v", "_law_kept", "_law_told", "_law_k", "_law_place"]
def b_l_units_right : Ss :=
    (.cons (.set 1 (.blt .len (.cons (.var 0) .nil)))
    (.cons (.set 2 (.shw (.var 0)))
    (.cons (.for (.nm 3) (.rng (.var 1)) (.cons (.for (.nm 4) (.lst (.lst 0 (.cons (.int 1) (.cons (.neg (.int 1)) (.cons (.int 2) .nil))))) (.cons (.set 5 (.comp 0 [12] (.nm 12) (.rng (.var 1)) .none (.tup (.cons (.op .Mult (.var 4) (.blt .int (.cons (.cmp .Eq (.var 12) (.var 3)) .nil))) (.cons (.int 1) .nil)))))
    (.cons (.seto 6 2 (.call 7 2 (.cons (.var 0) (.cons (.var 5) .nil))))
    (.cons (.ite (.lend (.cmp .NotEq (.var 6) (.comp 0 [13] (.nm 13) (.rng (.var 1)) .none (.call 28 0 (.cons (.var 0) (.cons (.var 5) (.cons (.call 29 0 (.cons (.var 1) (.cons (.var 13) .nil))) .nil))))))) (.cons (.ret (.bl false))
    .nil) .nil)
    (.cons (.for (.nm 7) (.rng (.var 1)) (.cons (.set 9 (.call 29 0 (.cons (.var 1) (.cons (.var 7) .nil))))
    (.cons (.set 10 (.lend (.shw (.lst 0 (.cons (.var 5) (.cons (.var 6) (.cons (.var 9) .nil)))))))
    (.cons (.forl 11 1 (.lend (.lst 1 (.cons (.call 6 1 (.cons (.var 0) (.cons (.var 5) (.cons (.var 9) .nil)))) (.cons (.call 8 1 (.cons (.var 6) (.cons (.var 9) .nil))) .nil)))) (.cons (.ite (.lend (.cmp .NotEq (.var 11) (.call 28 0 (.cons (.var 0) (.cons (.var 5) (.cons (.var 9) .nil)))))) (.cons (.ret (.bl false))
    .nil) .nil)
    (.cons (.stp 11 0 .nil (.int 0) (.tup (.cons (.int 77) (.cons (.int 1) .nil))))
    (.cons (.app 11 (.tup (.cons (.int 1) (.cons (.int 1) .nil))))
    .nil))))
    (.cons (.ite (.lend (.cmps true (.shw (.lst 0 (.cons (.var 5) (.cons (.var 6) (.cons (.var 9) .nil))))) (.var 10))) (.cons (.ret (.bl false))
    .nil) .nil)
    .nil)))))
    (.cons (.forb none 8 6 (.cons (.stp 8 0 .nil (.int 0) (.tup (.cons (.int 77) (.cons (.int 1) .nil))))
    (.cons (.app 8 (.tup (.cons (.int 1) (.cons (.int 1) .nil))))
    .nil)))
    (.cons (.ite (.cmps true (.shw (.var 0)) (.var 2)) (.cons (.ret (.bl false))
    .nil) .nil)
    .nil)))))))
    .nil))
    (.cons (.ret (.bl true))
    .nil))))
abbrev s_law : Stmt := topS 41
def N_law : List Str := ["_law_script", "_law_k", "_law_bag_here", "_law_found", "_law_size", "_law_u", "_law_v", "_law_due", "_law_table", "_law_ahead", "_law_turn", "_law_made", "_law_done", "_law_row_here", "_law_place"]
def b_law : Ss :=
    (.cons (.for (.nm 1) (.rng (.blt .mx (.cons (.int 2) (.cons (.blt .mn (.cons (.blt .len (.cons (.var 0) .nil)) (.cons (.int 4) .nil))) .nil)))) (.cons (.seto 2 1 (.call 9 1 (.cons (.var 0) (.cons (.var 1) .nil))))
    (.cons (.set 3 (.callr 24 0 2 (.cons (.int 6) .nil)))
    (.cons (.set 4 (.blt .len (.cons (.var 3) .nil)))
    (.cons (.set 5 (.callr 30 0 2 (.cons (.var 4) .nil)))
    (.cons (.set 6 (.callr 30 0 2 (.cons (.var 4) .nil)))
    (.cons (.set 7 (.call 28 0 (.cons (.var 3) (.cons (.var 5) (.cons (.var 6) .nil)))))
    (.cons (.set 8 (.comp 0 [14] (.nm 14) (.rng (.var 4)) .none (.call 28 0 (.cons (.var 3) (.cons (.var 5) (.cons (.call 29 0 (.cons (.var 4) (.cons (.var 14) .nil))) .nil))))))
    (.cons (.set 9 (.shw (.lst 0 (.cons (.var 3) (.cons (.var 5) (.cons (.var 6) .nil))))))
    (.cons (.for (.nm 10) (.rng (.int 2)) (.cons (.seto 11 1 (.call 6 1 (.cons (.var 3) (.cons (.var 5) (.cons (.var 6) .nil)))))
    (.cons (.seto 12 2 (.call 7 2 (.cons (.var 3) (.cons (.var 5) .nil))))
    (.cons (.ite (.lend (.or (.not (.isi (.var 11) .list)) (.or (.cmp .NotEq (.var 11) (.var 7)) (.or (.not (.isi (.var 12) .list)) (.cmp .NotEq (.var 12) (.var 8)))))) (.cons (.ret (.bl false))
    .nil) .nil)
    (.cons (.ite (.lend (.and (.cmp .Gt (.var 4) (.int 0)) (.cmp .NotEq (.call 8 1 (.cons (.var 12) (.cons (.var 6) .nil))) (.var 7)))) (.cons (.ret (.bl false))
    .nil) .nil)
    (.cons (.app 11 (.tup (.cons (.int 1) (.cons (.int 1) .nil))))
    (.cons (.forb none 13 12 (.cons (.app 13 (.tup (.cons (.int 1) (.cons (.int 1) .nil))))
    .nil))
    (.cons (.ite (.lend (.blt .any (.cons (.comp 0 [13] (.nm 13) (.lst (.cat 0 (.var 12) (.lst 0 (.cons (.var 11) .nil)))) .none (.cmp .NotEq (.lenv 13) (.op .Add (.var 4) (.int 1)))) .nil))) (.cons (.ret (.bl false))
    .nil) .nil)
    .nil))))))))
    (.cons (.ite (.cmps true (.shw (.lst 0 (.cons (.var 3) (.cons (.var 5) (.cons (.var 6) .nil))))) (.var 9)) (.cons (.ret (.bl false))
    .nil) .nil)
    (.cons (.ite (.or (.not (.callr 31 0 2 .nil)) (.not (.call 32 0 (.cons (.var 3) .nil)))) (.cons (.ret (.bl false))
    .nil) .nil)
    .nil))))))))))))
    (.cons (.ret (.bl true))
    .nil))

def blts : Bl := ⟨["abs", "any", "enumerate", "int", "isinstance", "len", "list", "max", "min", "range", "str", "zip"], ["NoShare"], [("NOUGHT", (.tuple [(.int 0), (.int 1)]))]⟩
abbrev g0 : Ent := ⟨⟨"common", none, 2, 0⟩, spGcd⟩
abbrev g1 : Ent := ⟨⟨"share", none, 2, 0⟩, spShareP⟩
abbrev g2 : Ent := ⟨⟨"plus", none, 2, 0⟩, spPlus⟩
abbrev g3 : Ent := ⟨⟨"times", none, 2, 0⟩, spTimes⟩
abbrev g4 : Ent := ⟨⟨"added", none, 3, 1⟩, spMore⟩
abbrev g5 : Ent := ⟨⟨"sum_of", none, 3, 1⟩, spSumOf⟩
abbrev g6 : Ent := ⟨⟨"product", none, 3, 1⟩, spProduct⟩
abbrev g7 : Ent := ⟨⟨"deed", none, 2, 2⟩, spDeed⟩
abbrev g8 : Ent := ⟨⟨"led", none, 2, 1⟩, spLed2⟩
abbrev g9 : Ent := ⟨⟨"_law_bag", none, 2, 1⟩, spBag⟩
abbrev g10 : Ent := ⟨⟨"_law_take", some 1, 2, 0⟩, spTake⟩
abbrev g11 : Ent := ⟨⟨"_law_none", none, 1, 3⟩, spNone⟩
abbrev g12 : Ent := ⟨⟨"_law_set", some 2, 4, 0⟩, spSet⟩
abbrev g13 : Ent := ⟨⟨"_law_three", none, 3, 0⟩, spThree⟩
abbrev g14 : Ent := ⟨⟨"_law_by_one", some 1, 2, 0⟩, spByOne⟩
abbrev g15 : Ent := ⟨⟨"_law_pairs", none, 1, 0⟩, spPairs⟩
abbrev g16 : Ent := ⟨⟨"_law_doubled", none, 3, 0⟩, spDoubled⟩
abbrev g17 : Ent := ⟨⟨"_law_moving", none, 2, 0⟩, spMoving⟩
abbrev g18 : Ent := ⟨⟨"_law_side", none, 2, 0⟩, spSide⟩
abbrev g19 : Ent := ⟨⟨"_law_integers", some 1, 2, 0⟩, spIntegers⟩
abbrev g20 : Ent := ⟨⟨"_law_stepped", none, 4, 0⟩, spStepped⟩
abbrev g21 : Ent := ⟨⟨"_law_common", none, 2, 0⟩, spGcd⟩
abbrev g22 : Ent := ⟨⟨"_law_lowest", none, 2, 0⟩, spLowest⟩
abbrev g23 : Ent := ⟨⟨"_law_rescaled", none, 4, 0⟩, spRescaled⟩
abbrev g24 : Ent := ⟨⟨"_law_algebra", some 1, 2, 0⟩, spAlgebra⟩
abbrev g25 : Ent := ⟨⟨"_law_plus", none, 2, 0⟩, spPlus⟩
abbrev g26 : Ent := ⟨⟨"_law_times", none, 2, 0⟩, spTimes⟩
abbrev g27 : Ent := ⟨⟨"_law_put", none, 3, 0⟩, spPut⟩
abbrev g28 : Ent := ⟨⟨"_law_product", none, 3, 0⟩, spProduct11⟩
abbrev g29 : Ent := ⟨⟨"_law_unit", none, 2, 0⟩, spUnit⟩
abbrev g30 : Ent := ⟨⟨"_law_row", some 1, 2, 0⟩, spRow11⟩
abbrev g31 : Ent := ⟨⟨"_law_led_right", some 1, 1, 0⟩, spLedRight⟩
abbrev g32 : Ent := ⟨⟨"_law_units_right", none, 1, 0⟩, spUnitsRight⟩
abbrev g33 : Ent := ⟨⟨"law", none, 1, 0⟩, spLaw⟩
theorem p0 : ∀ ds Φ Ξ, ds.length = 2 → (g0).sp ds Φ Ξ → svs [] b_common (ktOf none Φ Ξ) (Q.envOf none 2 ds) := ok_gcd []   rfl
theorem p1 : ∀ ds Φ Ξ, ds.length = 2 → (g1).sp ds Φ Ξ → svs [g0] b_share (ktOf none Φ Ξ) (Q.envOf none 3 ds) := ok_shareP [g0] 0 ⟨_, rfl⟩ rfl
theorem p2 : ∀ ds Φ Ξ, ds.length = 2 → (g2).sp ds Φ Ξ → svs [g0, g1] b_plus (ktOf none Φ Ξ) (Q.envOf none 2 ds) := ok_plusP [g0, g1] 1 ⟨_, rfl⟩ rfl
theorem p3 : ∀ ds Φ Ξ, ds.length = 2 → (g3).sp ds Φ Ξ → svs [g0, g1, g2] b_times (ktOf none Φ Ξ) (Q.envOf none 2 ds) := ok_timesP [g0, g1, g2] 1 ⟨_, rfl⟩ rfl
theorem p4 : ∀ ds Φ Ξ, ds.length = 3 → (g4).sp ds Φ Ξ → svs [g0, g1, g2, g3] b_added (ktOf none Φ Ξ) (Q.envOf none 5 ds) := ok_addedP [g0, g1, g2, g3] 2 3 ⟨_, rfl⟩ ⟨_, rfl⟩ rfl
theorem p5 : ∀ ds Φ Ξ, ds.length = 3 → (g5).sp ds Φ Ξ → svs [g0, g1, g2, g3, g4] b_sum_of (ktOf none Φ Ξ) (Q.envOf none 7 ds) := ok_sumOfP [g0, g1, g2, g3, g4] 4 ⟨_, rfl⟩ rfl
theorem p6 : ∀ ds Φ Ξ, ds.length = 3 → (g6).sp ds Φ Ξ → svs [g0, g1, g2, g3, g4, g5] b_product (ktOf none Φ Ξ) (Q.envOf none 5 ds) := ok_productP [g0, g1, g2, g3, g4, g5] 5 ⟨_, rfl⟩ rfl
theorem p7 : ∀ ds Φ Ξ, ds.length = 2 → (g7).sp ds Φ Ξ → svs [g0, g1, g2, g3, g4, g5, g6] b_deed (ktOf none Φ Ξ) (Q.envOf none 5 ds) := ok_deedP [g0, g1, g2, g3, g4, g5, g6] 5 ⟨_, rfl⟩ rfl
theorem p8 : ∀ ds Φ Ξ, ds.length = 2 → (g8).sp ds Φ Ξ → svs [g0, g1, g2, g3, g4, g5, g6, g7] b_led (ktOf none Φ Ξ) (Q.envOf none 2 ds) := ok_ledP [g0, g1, g2, g3, g4, g5, g6, g7] 5 ⟨_, rfl⟩ rfl
theorem p9 : ∀ ds Φ Ξ, ds.length = 2 → (g9).sp ds Φ Ξ → svs [g0, g1, g2, g3, g4, g5, g6, g7, g8] b_l_bag (ktOf none Φ Ξ) (Q.envOf none 5 ds) := ok_bag [g0, g1, g2, g3, g4, g5, g6, g7, g8]   rfl
theorem p10 : ∀ ds Φ Ξ, ds.length = 2 → (g10).sp ds Φ Ξ → svs [g0, g1, g2, g3, g4, g5, g6, g7, g8, g9] b_l_take (ktOf (some 1) Φ Ξ) (Q.envOf (some 1) 3 ds) := ok_take [g0, g1, g2, g3, g4, g5, g6, g7, g8, g9]   rfl
theorem p11 : ∀ ds Φ Ξ, ds.length = 1 → (g11).sp ds Φ Ξ → svs [g0, g1, g2, g3, g4, g5, g6, g7, g8, g9, g10] b_l_none (ktOf none Φ Ξ) (Q.envOf none 3 ds) := ok_none [g0, g1, g2, g3, g4, g5, g6, g7, g8, g9, g10]   rfl
theorem p12 : ∀ ds Φ Ξ, ds.length = 4 → (g12).sp ds Φ Ξ → svs [g0, g1, g2, g3, g4, g5, g6, g7, g8, g9, g10, g11] b_l_set (ktOf (some 2) Φ Ξ) (Q.envOf (some 2) 5 ds) := ok_set [g0, g1, g2, g3, g4, g5, g6, g7, g8, g9, g10, g11]   rfl
theorem p13 : ∀ ds Φ Ξ, ds.length = 3 → (g13).sp ds Φ Ξ → svs [g0, g1, g2, g3, g4, g5, g6, g7, g8, g9, g10, g11, g12] b_l_three (ktOf none Φ Ξ) (Q.envOf none 4 ds) := ok_three [g0, g1, g2, g3, g4, g5, g6, g7, g8, g9, g10, g11, g12] 11 12 rfl rfl rfl
theorem p14 : ∀ ds Φ Ξ, ds.length = 2 → (g14).sp ds Φ Ξ → svs [g0, g1, g2, g3, g4, g5, g6, g7, g8, g9, g10, g11, g12, g13] b_l_by_one (ktOf (some 1) Φ Ξ) (Q.envOf (some 1) 6 ds) := ok_byone [g0, g1, g2, g3, g4, g5, g6, g7, g8, g9, g10, g11, g12, g13] 10 11 12 rfl rfl rfl rfl
theorem p15 : ∀ ds Φ Ξ, ds.length = 1 → (g15).sp ds Φ Ξ → svs [g0, g1, g2, g3, g4, g5, g6, g7, g8, g9, g10, g11, g12, g13, g14] b_l_pairs (ktOf none Φ Ξ) (Q.envOf none 8 ds) := ok_pairs [g0, g1, g2, g3, g4, g5, g6, g7, g8, g9, g10, g11, g12, g13, g14] 11 rfl rfl
theorem p16 : ∀ ds Φ Ξ, ds.length = 3 → (g16).sp ds Φ Ξ → svs [g0, g1, g2, g3, g4, g5, g6, g7, g8, g9, g10, g11, g12, g13, g14, g15] b_l_doubled (ktOf none Φ Ξ) (Q.envOf none 9 ds) := ok_doubled [g0, g1, g2, g3, g4, g5, g6, g7, g8, g9, g10, g11, g12, g13, g14, g15] 11 rfl rfl
theorem p17 : ∀ ds Φ Ξ, ds.length = 2 → (g17).sp ds Φ Ξ → svs [g0, g1, g2, g3, g4, g5, g6, g7, g8, g9, g10, g11, g12, g13, g14, g15, g16] b_l_moving (ktOf none Φ Ξ) (Q.envOf none 9 ds) := ok_moving [g0, g1, g2, g3, g4, g5, g6, g7, g8, g9, g10, g11, g12, g13, g14, g15, g16] 11 12 rfl rfl rfl
theorem p18 : ∀ ds Φ Ξ, ds.length = 2 → (g18).sp ds Φ Ξ → svs [g0, g1, g2, g3, g4, g5, g6, g7, g8, g9, g10, g11, g12, g13, g14, g15, g16, g17] b_l_side (ktOf none Φ Ξ) (Q.envOf none 7 ds) := ok_side [g0, g1, g2, g3, g4, g5, g6, g7, g8, g9, g10, g11, g12, g13, g14, g15, g16, g17] 11 rfl rfl
theorem p19 : ∀ ds Φ Ξ, ds.length = 2 → (g19).sp ds Φ Ξ → svs [g0, g1, g2, g3, g4, g5, g6, g7, g8, g9, g10, g11, g12, g13, g14, g15, g16, g17, g18] b_l_integers (ktOf (some 1) Φ Ξ) (Q.envOf (some 1) 11 ds) := ok_integers [g0, g1, g2, g3, g4, g5, g6, g7, g8, g9, g10, g11, g12, g13, g14, g15, g16, g17, g18] 10 11 13 14 15 16 17 18 ⟨rfl, rfl, ⟨_, rfl⟩, ⟨_, rfl⟩, ⟨_, rfl⟩, ⟨_, rfl⟩, ⟨_, rfl⟩, ⟨_, rfl⟩⟩ rfl
theorem p20 : ∀ ds Φ Ξ, ds.length = 4 → (g20).sp ds Φ Ξ → svs [g0, g1, g2, g3, g4, g5, g6, g7, g8, g9, g10, g11, g12, g13, g14, g15, g16, g17, g18, g19] b_l_stepped (ktOf none Φ Ξ) (Q.envOf none 10 ds) := ok_stepped [g0, g1, g2, g3, g4, g5, g6, g7, g8, g9, g10, g11, g12, g13, g14, g15, g16, g17, g18, g19]   rfl
theorem p21 : ∀ ds Φ Ξ, ds.length = 2 → (g21).sp ds Φ Ξ → svs [g0, g1, g2, g3, g4, g5, g6, g7, g8, g9, g10, g11, g12, g13, g14, g15, g16, g17, g18, g19, g20] b_l_common (ktOf none Φ Ξ) (Q.envOf none 2 ds) := ok_gcd [g0, g1, g2, g3, g4, g5, g6, g7, g8, g9, g10, g11, g12, g13, g14, g15, g16, g17, g18, g19, g20]   rfl
theorem p22 : ∀ ds Φ Ξ, ds.length = 2 → (g22).sp ds Φ Ξ → svs [g0, g1, g2, g3, g4, g5, g6, g7, g8, g9, g10, g11, g12, g13, g14, g15, g16, g17, g18, g19, g20, g21] b_l_lowest (ktOf none Φ Ξ) (Q.envOf none 3 ds) := ok_lowest [g0, g1, g2, g3, g4, g5, g6, g7, g8, g9, g10, g11, g12, g13, g14, g15, g16, g17, g18, g19, g20, g21] 21 ⟨_, rfl⟩ rfl
theorem p23 : ∀ ds Φ Ξ, ds.length = 4 → (g23).sp ds Φ Ξ → svs [g0, g1, g2, g3, g4, g5, g6, g7, g8, g9, g10, g11, g12, g13, g14, g15, g16, g17, g18, g19, g20, g21, g22] b_l_rescaled (ktOf none Φ Ξ) (Q.envOf none 13 ds) := ok_rescaled [g0, g1, g2, g3, g4, g5, g6, g7, g8, g9, g10, g11, g12, g13, g14, g15, g16, g17, g18, g19, g20, g21, g22] 11 22 rfl ⟨_, rfl⟩ rfl
theorem p24 : ∀ ds Φ Ξ, ds.length = 2 → (g24).sp ds Φ Ξ → svs [g0, g1, g2, g3, g4, g5, g6, g7, g8, g9, g10, g11, g12, g13, g14, g15, g16, g17, g18, g19, g20, g21, g22, g23] b_l_algebra (ktOf (some 1) Φ Ξ) (Q.envOf (some 1) 7 ds) := ok_algebra [g0, g1, g2, g3, g4, g5, g6, g7, g8, g9, g10, g11, g12, g13, g14, g15, g16, g17, g18, g19, g20, g21, g22, g23] 10 19 20 23 rfl rfl ⟨_, rfl⟩ ⟨_, rfl⟩ rfl
theorem p25 : ∀ ds Φ Ξ, ds.length = 2 → (g25).sp ds Φ Ξ → svs [g0, g1, g2, g3, g4, g5, g6, g7, g8, g9, g10, g11, g12, g13, g14, g15, g16, g17, g18, g19, g20, g21, g22, g23, g24] b_l_plus (ktOf none Φ Ξ) (Q.envOf none 2 ds) := ok_plus2 [g0, g1, g2, g3, g4, g5, g6, g7, g8, g9, g10, g11, g12, g13, g14, g15, g16, g17, g18, g19, g20, g21, g22, g23, g24] 22 ⟨_, rfl⟩ rfl
theorem p26 : ∀ ds Φ Ξ, ds.length = 2 → (g26).sp ds Φ Ξ → svs [g0, g1, g2, g3, g4, g5, g6, g7, g8, g9, g10, g11, g12, g13, g14, g15, g16, g17, g18, g19, g20, g21, g22, g23, g24, g25] b_l_times (ktOf none Φ Ξ) (Q.envOf none 2 ds) := ok_times2 [g0, g1, g2, g3, g4, g5, g6, g7, g8, g9, g10, g11, g12, g13, g14, g15, g16, g17, g18, g19, g20, g21, g22, g23, g24, g25] 22 ⟨_, rfl⟩ rfl
theorem p27 : ∀ ds Φ Ξ, ds.length = 3 → (g27).sp ds Φ Ξ → svs [g0, g1, g2, g3, g4, g5, g6, g7, g8, g9, g10, g11, g12, g13, g14, g15, g16, g17, g18, g19, g20, g21, g22, g23, g24, g25, g26] b_l_put (ktOf none Φ Ξ) (Q.envOf none 5 ds) := ok_put [g0, g1, g2, g3, g4, g5, g6, g7, g8, g9, g10, g11, g12, g13, g14, g15, g16, g17, g18, g19, g20, g21, g22, g23, g24, g25, g26] 25 26 ⟨_, rfl⟩ ⟨_, rfl⟩ rfl
theorem p28 : ∀ ds Φ Ξ, ds.length = 3 → (g28).sp ds Φ Ξ → svs [g0, g1, g2, g3, g4, g5, g6, g7, g8, g9, g10, g11, g12, g13, g14, g15, g16, g17, g18, g19, g20, g21, g22, g23, g24, g25, g26, g27] b_l_product (ktOf none Φ Ξ) (Q.envOf none 7 ds) := ok_product11 [g0, g1, g2, g3, g4, g5, g6, g7, g8, g9, g10, g11, g12, g13, g14, g15, g16, g17, g18, g19, g20, g21, g22, g23, g24, g25, g26, g27] 26 27 ⟨_, rfl⟩ ⟨_, rfl⟩ rfl
theorem p29 : ∀ ds Φ Ξ, ds.length = 2 → (g29).sp ds Φ Ξ → svs [g0, g1, g2, g3, g4, g5, g6, g7, g8, g9, g10, g11, g12, g13, g14, g15, g16, g17, g18, g19, g20, g21, g22, g23, g24, g25, g26, g27, g28] b_l_unit (ktOf none Φ Ξ) (Q.envOf none 3 ds) := ok_unit [g0, g1, g2, g3, g4, g5, g6, g7, g8, g9, g10, g11, g12, g13, g14, g15, g16, g17, g18, g19, g20, g21, g22, g23, g24, g25, g26, g27, g28]   rfl
theorem p30 : ∀ ds Φ Ξ, ds.length = 2 → (g30).sp ds Φ Ξ → svs [g0, g1, g2, g3, g4, g5, g6, g7, g8, g9, g10, g11, g12, g13, g14, g15, g16, g17, g18, g19, g20, g21, g22, g23, g24, g25, g26, g27, g28, g29] b_l_row (ktOf (some 1) Φ Ξ) (Q.envOf (some 1) 6 ds) := ok_row11 [g0, g1, g2, g3, g4, g5, g6, g7, g8, g9, g10, g11, g12, g13, g14, g15, g16, g17, g18, g19, g20, g21, g22, g23, g24, g25, g26, g27, g28, g29] 10 22 rfl ⟨_, rfl⟩ rfl
theorem p31 : ∀ ds Φ Ξ, ds.length = 1 → (g31).sp ds Φ Ξ → svs [g0, g1, g2, g3, g4, g5, g6, g7, g8, g9, g10, g11, g12, g13, g14, g15, g16, g17, g18, g19, g20, g21, g22, g23, g24, g25, g26, g27, g28, g29, g30] b_l_led_right (ktOf (some 1) Φ Ξ) (Q.envOf (some 1) 11 ds) := ok_led_right [g0, g1, g2, g3, g4, g5, g6, g7, g8, g9, g10, g11, g12, g13, g14, g15, g16, g17, g18, g19, g20, g21, g22, g23, g24, g25, g26, g27, g28, g29, g30] 8 10 27 29 30 ⟨_, rfl⟩ rfl ⟨_, rfl⟩ ⟨_, rfl⟩ ⟨_, rfl, rfl⟩ rfl
theorem p32 : ∀ ds Φ Ξ, ds.length = 1 → (g32).sp ds Φ Ξ → svs [g0, g1, g2, g3, g4, g5, g6, g7, g8, g9, g10, g11, g12, g13, g14, g15, g16, g17, g18, g19, g20, g21, g22, g23, g24, g25, g26, g27, g28, g29, g30, g31] b_l_units_right (ktOf none Φ Ξ) (Q.envOf none 14 ds) := ok_units_right [g0, g1, g2, g3, g4, g5, g6, g7, g8, g9, g10, g11, g12, g13, g14, g15, g16, g17, g18, g19, g20, g21, g22, g23, g24, g25, g26, g27, g28, g29, g30, g31] 6 7 8 28 29 ⟨_, rfl⟩ ⟨_, rfl⟩ ⟨_, rfl⟩ ⟨_, rfl⟩ ⟨_, rfl⟩ rfl
theorem p33 : ∀ ds Φ Ξ, ds.length = 1 → (g33).sp ds Φ Ξ → svs [g0, g1, g2, g3, g4, g5, g6, g7, g8, g9, g10, g11, g12, g13, g14, g15, g16, g17, g18, g19, g20, g21, g22, g23, g24, g25, g26, g27, g28, g29, g30, g31, g32] b_law (ktOf none Φ Ξ) (Q.envOf none 15 ds) := ok_law11 [g0, g1, g2, g3, g4, g5, g6, g7, g8, g9, g10, g11, g12, g13, g14, g15, g16, g17, g18, g19, g20, g21, g22, g23, g24, g25, g26, g27, g28, g29, g30, g31, g32] 6 7 8 9 24 28 29 30 31 32 ⟨⟨_, rfl⟩, ⟨_, rfl⟩, ⟨_, rfl⟩, ⟨_, rfl⟩, ⟨_, rfl, rfl⟩, ⟨_, rfl⟩, ⟨_, rfl⟩, ⟨_, rfl, rfl⟩, ⟨_, rfl, rfl⟩, ⟨_, rfl⟩⟩ rfl
theorem cok_pair {K : PySem.W.Frag} {mg : Str → Option Value} {x : Str} {a : Addr} {od : Option Addr} {m : Nat} {sl : Array (Option Value)} {i j : Int} {t1 t2 : Tok} (h : mg x = some (.ref a)) (l : K.lookup a = some ⟨.type "tuple", od, .seq #[.int i t1, .int j t2] m, sl⟩) : COk K mg x (.tuple [.int i, .int j]) :=
  ⟨.ref a, .ref a, h, rfl, fun H => .tup (xs := [.int i, .int j]) (.inr ⟨_, #[.int i t1, .int j t2], m, l, rfl, rfl, show 2 ≤ sizeLine by decide, .cons (show RelV (.int i) (.int i t1) from ⟨t1, rfl⟩) (.cons (show RelV (.int j) (.int j t2) from ⟨t2, rfl⟩) .nil)⟩) (.cons (.int i) (.cons (.int j) .nil))⟩
theorem cx_no {P : Program} {w : World} {H : Hp} {s : Shared} {e : Value} {s' : Shared} (z : L2N.CX P w [] H s (fun _ _ _ => False) e s') : False := by
  unfold L2N.CX at z
  obtain ⟨_, _, _, _, _, _, _, _, _, _, _, _, y⟩ := z
  exact y
theorem law_at (ks : List Int) (Φ : D → D → Prop) (Ξ : D → XD → Prop) (_ : ks.length ≤ 63) (_ : ∀ z ∈ ks, Builtin.Int.intBits z ≤ 1048576) (h : Φ (.bool true) .none) : g33.sp [.list (ks.map PyData.int)] Φ Ξ := ⟨ks, rfl, h⟩
section
variable {P : Program} {w : World} {K : PySem.W.Frag} {mg : Str → Option Value} {base : Heap}
theorem c0 : chkSs ⟨N_common, ([] : List Ent).map (·.sig), blts⟩ (defScope s_common) (prot none) 0 b_common (defBody s_common) = true := by decide +kernel
theorem n0 : namesB N_common ["one", "other"] (defScope s_common) = true := by decide +kernel
theorem d0 {f : Addr} {fd : FuncData} (F : Fun K "common" "common" s_common f fd) (gok : GOk P w K mg base [] 0) (bok : ∀ x ∈ blts.b, mg x = none) (xok : ∀ x ∈ blts.x, XOk K mg x) (cok : ∀ p ∈ blts.c, COk K mg p.1 p.2) : FnG P w K mg base (L2N.CX P w) 1 f fd ["one", "other"] (toSp K mg g0) :=
  fn_ok F b_common n0 rfl (by decide) c0 gok bok xok cok p0
theorem c1 : chkSs ⟨N_share, ([g0] : List Ent).map (·.sig), blts⟩ (defScope s_share) (prot none) 0 b_share (defBody s_share) = true := by decide +kernel
theorem n1 : namesB N_share ["top", "bottom"] (defScope s_share) = true := by decide +kernel
theorem d1 {f : Addr} {fd : FuncData} (F : Fun K "share" "share" s_share f fd) (gok : GOk P w K mg base [g0] 1) (bok : ∀ x ∈ blts.b, mg x = none) (xok : ∀ x ∈ blts.x, XOk K mg x) (cok : ∀ p ∈ blts.c, COk K mg p.1 p.2) : FnG P w K mg base (L2N.CX P w) 2 f fd ["top", "bottom"] (toSp K mg g1) :=
  fn_ok F b_share n1 rfl (by decide) c1 gok bok xok cok p1
theorem c2 : chkSs ⟨N_plus, ([g0, g1] : List Ent).map (·.sig), blts⟩ (defScope s_plus) (prot none) 0 b_plus (defBody s_plus) = true := by decide +kernel
theorem n2 : namesB N_plus ["u", "v"] (defScope s_plus) = true := by decide +kernel
theorem d2 {f : Addr} {fd : FuncData} (F : Fun K "plus" "plus" s_plus f fd) (gok : GOk P w K mg base [g0, g1] 2) (bok : ∀ x ∈ blts.b, mg x = none) (xok : ∀ x ∈ blts.x, XOk K mg x) (cok : ∀ p ∈ blts.c, COk K mg p.1 p.2) : FnG P w K mg base (L2N.CX P w) 3 f fd ["u", "v"] (toSp K mg g2) :=
  fn_ok F b_plus n2 rfl (by decide) c2 gok bok xok cok p2
theorem c3 : chkSs ⟨N_times, ([g0, g1, g2] : List Ent).map (·.sig), blts⟩ (defScope s_times) (prot none) 0 b_times (defBody s_times) = true := by decide +kernel
theorem n3 : namesB N_times ["u", "v"] (defScope s_times) = true := by decide +kernel
theorem d3 {f : Addr} {fd : FuncData} (F : Fun K "times" "times" s_times f fd) (gok : GOk P w K mg base [g0, g1, g2] 3) (bok : ∀ x ∈ blts.b, mg x = none) (xok : ∀ x ∈ blts.x, XOk K mg x) (cok : ∀ p ∈ blts.c, COk K mg p.1 p.2) : FnG P w K mg base (L2N.CX P w) 4 f fd ["u", "v"] (toSp K mg g3) :=
  fn_ok F b_times n3 rfl (by decide) c3 gok bok xok cok p3
theorem c4 : chkSs ⟨N_added, ([g0, g1, g2, g3] : List Ent).map (·.sig), blts⟩ (defScope s_added) (prot none) 1 b_added (defBody s_added) = true := by decide +kernel
theorem n4 : namesB N_added ["one", "other", "number"] (defScope s_added) = true := by decide +kernel
theorem d4 {f : Addr} {fd : FuncData} (F : Fun K "added" "added" s_added f fd) (gok : GOk P w K mg base [g0, g1, g2, g3] 4) (bok : ∀ x ∈ blts.b, mg x = none) (xok : ∀ x ∈ blts.x, XOk K mg x) (cok : ∀ p ∈ blts.c, COk K mg p.1 p.2) : FnG P w K mg base (L2N.CX P w) 5 f fd ["one", "other", "number"] (toSp K mg g4) :=
  fn_ok F b_added n4 rfl (by decide) c4 gok bok xok cok p4
theorem c5 : chkSs ⟨N_sum_of, ([g0, g1, g2, g3, g4] : List Ent).map (·.sig), blts⟩ (defScope s_sum_of) (prot none) 1 b_sum_of (defBody s_sum_of) = true := by decide +kernel
theorem n5 : namesB N_sum_of ["size", "rows", "numbers"] (defScope s_sum_of) = true := by decide +kernel
theorem d5 {f : Addr} {fd : FuncData} (F : Fun K "sum_of" "sum_of" s_sum_of f fd) (gok : GOk P w K mg base [g0, g1, g2, g3, g4] 5) (bok : ∀ x ∈ blts.b, mg x = none) (xok : ∀ x ∈ blts.x, XOk K mg x) (cok : ∀ p ∈ blts.c, COk K mg p.1 p.2) : FnG P w K mg base (L2N.CX P w) 6 f fd ["size", "rows", "numbers"] (toSp K mg g5) :=
  fn_ok F b_sum_of n5 rfl (by decide) c5 gok bok xok cok p5
theorem c6 : chkSs ⟨N_product, ([g0, g1, g2, g3, g4, g5] : List Ent).map (·.sig), blts⟩ (defScope s_product) (prot none) 1 b_product (defBody s_product) = true := by decide +kernel
theorem n6 : namesB N_product ["algebra", "u", "v"] (defScope s_product) = true := by decide +kernel
theorem d6 {f : Addr} {fd : FuncData} (F : Fun K "product" "product" s_product f fd) (gok : GOk P w K mg base [g0, g1, g2, g3, g4, g5] 6) (bok : ∀ x ∈ blts.b, mg x = none) (xok : ∀ x ∈ blts.x, XOk K mg x) (cok : ∀ p ∈ blts.c, COk K mg p.1 p.2) : FnG P w K mg base (L2N.CX P w) 7 f fd ["algebra", "u", "v"] (toSp K mg g6) :=
  fn_ok F b_product n6 rfl (by decide) c6 gok bok xok cok p6
theorem c7 : chkSs ⟨N_deed, ([g0, g1, g2, g3, g4, g5, g6] : List Ent).map (·.sig), blts⟩ (defScope s_deed) (prot none) 2 b_deed (defBody s_deed) = true := by decide +kernel
theorem n7 : namesB N_deed ["algebra", "u"] (defScope s_deed) = true := by decide +kernel
theorem d7 {f : Addr} {fd : FuncData} (F : Fun K "deed" "deed" s_deed f fd) (gok : GOk P w K mg base [g0, g1, g2, g3, g4, g5, g6] 7) (bok : ∀ x ∈ blts.b, mg x = none) (xok : ∀ x ∈ blts.x, XOk K mg x) (cok : ∀ p ∈ blts.c, COk K mg p.1 p.2) : FnG P w K mg base (L2N.CX P w) 8 f fd ["algebra", "u"] (toSp K mg g7) :=
  fn_ok F b_deed n7 rfl (by decide) c7 gok bok xok cok p7
theorem c8 : chkSs ⟨N_led, ([g0, g1, g2, g3, g4, g5, g6, g7] : List Ent).map (·.sig), blts⟩ (defScope s_led) (prot none) 1 b_led (defBody s_led) = true := by decide +kernel
theorem n8 : namesB N_led ["table", "v"] (defScope s_led) = true := by decide +kernel
theorem d8 {f : Addr} {fd : FuncData} (F : Fun K "led" "led" s_led f fd) (gok : GOk P w K mg base [g0, g1, g2, g3, g4, g5, g6, g7] 8) (bok : ∀ x ∈ blts.b, mg x = none) (xok : ∀ x ∈ blts.x, XOk K mg x) (cok : ∀ p ∈ blts.c, COk K mg p.1 p.2) : FnG P w K mg base (L2N.CX P w) 9 f fd ["table", "v"] (toSp K mg g8) :=
  fn_ok F b_led n8 rfl (by decide) c8 gok bok xok cok p8
theorem c9 : chkSs ⟨N_l_bag, ([g0, g1, g2, g3, g4, g5, g6, g7, g8] : List Ent).map (·.sig), blts⟩ (defScope s_l_bag) (prot none) 1 b_l_bag (defBody s_l_bag) = true := by decide +kernel
theorem n9 : namesB N_l_bag ["_law_script", "_law_at"] (defScope s_l_bag) = true := by decide +kernel
theorem d9 {f : Addr} {fd : FuncData} (F : Fun K "_law_bag" "_law_bag" s_l_bag f fd) (gok : GOk P w K mg base [g0, g1, g2, g3, g4, g5, g6, g7, g8] 9) (bok : ∀ x ∈ blts.b, mg x = none) (xok : ∀ x ∈ blts.x, XOk K mg x) (cok : ∀ p ∈ blts.c, COk K mg p.1 p.2) : FnG P w K mg base (L2N.CX P w) 10 f fd ["_law_script", "_law_at"] (toSp K mg g9) :=
  fn_ok F b_l_bag n9 rfl (by decide) c9 gok bok xok cok p9
theorem c10 : chkSs ⟨N_l_take, ([g0, g1, g2, g3, g4, g5, g6, g7, g8, g9] : List Ent).map (·.sig), blts⟩ (defScope s_l_take) (prot (some 1)) 0 b_l_take (defBody s_l_take) = true := by decide +kernel
theorem n10 : namesB N_l_take ["_law_bag_here", "_law_many"] (defScope s_l_take) = true := by decide +kernel
theorem d10 {f : Addr} {fd : FuncData} (F : Fun K "_law_take" "_law_take" s_l_take f fd) (gok : GOk P w K mg base [g0, g1, g2, g3, g4, g5, g6, g7, g8, g9] 10) (bok : ∀ x ∈ blts.b, mg x = none) (xok : ∀ x ∈ blts.x, XOk K mg x) (cok : ∀ p ∈ blts.c, COk K mg p.1 p.2) : FnG P w K mg base (L2N.CX P w) 11 f fd ["_law_bag_here", "_law_many"] (toSp K mg g10) :=
  fn_ok F b_l_take n10 rfl (by decide) c10 gok bok xok cok p10
theorem c11 : chkSs ⟨N_l_none, ([g0, g1, g2, g3, g4, g5, g6, g7, g8, g9, g10] : List Ent).map (·.sig), blts⟩ (defScope s_l_none) (prot none) 3 b_l_none (defBody s_l_none) = true := by decide +kernel
theorem n11 : namesB N_l_none ["_law_size"] (defScope s_l_none) = true := by decide +kernel
theorem d11 {f : Addr} {fd : FuncData} (F : Fun K "_law_none" "_law_none" s_l_none f fd) (gok : GOk P w K mg base [g0, g1, g2, g3, g4, g5, g6, g7, g8, g9, g10] 11) (bok : ∀ x ∈ blts.b, mg x = none) (xok : ∀ x ∈ blts.x, XOk K mg x) (cok : ∀ p ∈ blts.c, COk K mg p.1 p.2) : FnG P w K mg base (L2N.CX P w) 12 f fd ["_law_size"] (toSp K mg g11) :=
  fn_ok F b_l_none n11 rfl (by decide) c11 gok bok xok cok p11
theorem c12 : chkSs ⟨N_l_set, ([g0, g1, g2, g3, g4, g5, g6, g7, g8, g9, g10, g11] : List Ent).map (·.sig), blts⟩ (defScope s_l_set) (prot (some 2)) 0 b_l_set (defBody s_l_set) = true := by decide +kernel
theorem n12 : namesB N_l_set ["_law_found", "_law_i", "_law_j", "_law_row_here"] (defScope s_l_set) = true := by decide +kernel
theorem d12 {f : Addr} {fd : FuncData} (F : Fun K "_law_set" "_law_set" s_l_set f fd) (gok : GOk P w K mg base [g0, g1, g2, g3, g4, g5, g6, g7, g8, g9, g10, g11] 12) (bok : ∀ x ∈ blts.b, mg x = none) (xok : ∀ x ∈ blts.x, XOk K mg x) (cok : ∀ p ∈ blts.c, COk K mg p.1 p.2) : FnG P w K mg base (L2N.CX P w) 13 f fd ["_law_found", "_law_i", "_law_j", "_law_row_here"] (toSp K mg g12) :=
  fn_ok F b_l_set n12 rfl (by decide) c12 gok bok xok cok p12
theorem c13 : chkSs ⟨N_l_three, ([g0, g1, g2, g3, g4, g5, g6, g7, g8, g9, g10, g11, g12] : List Ent).map (·.sig), blts⟩ (defScope s_l_three) (prot none) 0 b_l_three (defBody s_l_three) = true := by decide +kernel
theorem n13 : namesB N_l_three ["_law_a", "_law_b", "_law_c"] (defScope s_l_three) = true := by decide +kernel
theorem d13 {f : Addr} {fd : FuncData} (F : Fun K "_law_three" "_law_three" s_l_three f fd) (gok : GOk P w K mg base [g0, g1, g2, g3, g4, g5, g6, g7, g8, g9, g10, g11, g12] 13) (bok : ∀ x ∈ blts.b, mg x = none) (xok : ∀ x ∈ blts.x, XOk K mg x) (cok : ∀ p ∈ blts.c, COk K mg p.1 p.2) : FnG P w K mg base (L2N.CX P w) 14 f fd ["_law_a", "_law_b", "_law_c"] (toSp K mg g13) :=
  fn_ok F b_l_three n13 rfl (by decide) c13 gok bok xok cok p13
theorem c14 : chkSs ⟨N_l_by_one, ([g0, g1, g2, g3, g4, g5, g6, g7, g8, g9, g10, g11, g12, g13] : List Ent).map (·.sig), blts⟩ (defScope s_l_by_one) (prot (some 1)) 0 b_l_by_one (defBody s_l_by_one) = true := by decide +kernel
theorem n14 : namesB N_l_by_one ["_law_bag_here", "_law_many"] (defScope s_l_by_one) = true := by decide +kernel
theorem d14 {f : Addr} {fd : FuncData} (F : Fun K "_law_by_one" "_law_by_one" s_l_by_one f fd) (gok : GOk P w K mg base [g0, g1, g2, g3, g4, g5, g6, g7, g8, g9, g10, g11, g12, g13] 14) (bok : ∀ x ∈ blts.b, mg x = none) (xok : ∀ x ∈ blts.x, XOk K mg x) (cok : ∀ p ∈ blts.c, COk K mg p.1 p.2) : FnG P w K mg base (L2N.CX P w) 15 f fd ["_law_bag_here", "_law_many"] (toSp K mg g14) :=
  fn_ok F b_l_by_one n14 rfl (by decide) c14 gok bok xok cok p14
theorem c15 : chkSs ⟨N_l_pairs, ([g0, g1, g2, g3, g4, g5, g6, g7, g8, g9, g10, g11, g12, g13, g14] : List Ent).map (·.sig), blts⟩ (defScope s_l_pairs) (prot none) 0 b_l_pairs (defBody s_l_pairs) = true := by decide +kernel
theorem n15 : namesB N_l_pairs ["_law_pairs_here"] (defScope s_l_pairs) = true := by decide +kernel
theorem d15 {f : Addr} {fd : FuncData} (F : Fun K "_law_pairs" "_law_pairs" s_l_pairs f fd) (gok : GOk P w K mg base [g0, g1, g2, g3, g4, g5, g6, g7, g8, g9, g10, g11, g12, g13, g14] 15) (bok : ∀ x ∈ blts.b, mg x = none) (xok : ∀ x ∈ blts.x, XOk K mg x) (cok : ∀ p ∈ blts.c, COk K mg p.1 p.2) : FnG P w K mg base (L2N.CX P w) 16 f fd ["_law_pairs_here"] (toSp K mg g15) :=
  fn_ok F b_l_pairs n15 rfl (by decide) c15 gok bok xok cok p15
theorem c16 : chkSs ⟨N_l_doubled, ([g0, g1, g2, g3, g4, g5, g6, g7, g8, g9, g10, g11, g12, g13, g14, g15] : List Ent).map (·.sig), blts⟩ (defScope s_l_doubled) (prot none) 0 b_l_doubled (defBody s_l_doubled) = true := by decide +kernel
theorem n16 : namesB N_l_doubled ["_law_three_here", "_law_a", "_law_b"] (defScope s_l_doubled) = true := by decide +kernel
theorem d16 {f : Addr} {fd : FuncData} (F : Fun K "_law_doubled" "_law_doubled" s_l_doubled f fd) (gok : GOk P w K mg base [g0, g1, g2, g3, g4, g5, g6, g7, g8, g9, g10, g11, g12, g13, g14, g15] 16) (bok : ∀ x ∈ blts.b, mg x = none) (xok : ∀ x ∈ blts.x, XOk K mg x) (cok : ∀ p ∈ blts.c, COk K mg p.1 p.2) : FnG P w K mg base (L2N.CX P w) 17 f fd ["_law_three_here", "_law_a", "_law_b"] (toSp K mg g16) :=
  fn_ok F b_l_doubled n16 rfl (by decide) c16 gok bok xok cok p16
theorem c17 : chkSs ⟨N_l_moving, ([g0, g1, g2, g3, g4, g5, g6, g7, g8, g9, g10, g11, g12, g13, g14, g15, g16] : List Ent).map (·.sig), blts⟩ (defScope s_l_moving) (prot none) 0 b_l_moving (defBody s_l_moving) = true := by decide +kernel
theorem n17 : namesB N_l_moving ["_law_number", "_law_more"] (defScope s_l_moving) = true := by decide +kernel
theorem d17 {f : Addr} {fd : FuncData} (F : Fun K "_law_moving" "_law_moving" s_l_moving f fd) (gok : GOk P w K mg base [g0, g1, g2, g3, g4, g5, g6, g7, g8, g9, g10, g11, g12, g13, g14, g15, g16] 17) (bok : ∀ x ∈ blts.b, mg x = none) (xok : ∀ x ∈ blts.x, XOk K mg x) (cok : ∀ p ∈ blts.c, COk K mg p.1 p.2) : FnG P w K mg base (L2N.CX P w) 18 f fd ["_law_number", "_law_more"] (toSp K mg g17) :=
  fn_ok F b_l_moving n17 rfl (by decide) c17 gok bok xok cok p17
theorem c18 : chkSs ⟨N_l_side, ([g0, g1, g2, g3, g4, g5, g6, g7, g8, g9, g10, g11, g12, g13, g14, g15, g16, g17] : List Ent).map (·.sig), blts⟩ (defScope s_l_side) (prot none) 0 b_l_side (defBody s_l_side) = true := by decide +kernel
theorem n18 : namesB N_l_side ["_law_one", "_law_other"] (defScope s_l_side) = true := by decide +kernel
theorem d18 {f : Addr} {fd : FuncData} (F : Fun K "_law_side" "_law_side" s_l_side f fd) (gok : GOk P w K mg base [g0, g1, g2, g3, g4, g5, g6, g7, g8, g9, g10, g11, g12, g13, g14, g15, g16, g17] 18) (bok : ∀ x ∈ blts.b, mg x = none) (xok : ∀ x ∈ blts.x, XOk K mg x) (cok : ∀ p ∈ blts.c, COk K mg p.1 p.2) : FnG P w K mg base (L2N.CX P w) 19 f fd ["_law_one", "_law_other"] (toSp K mg g18) :=
  fn_ok F b_l_side n18 rfl (by decide) c18 gok bok xok cok p18
theorem c19 : chkSs ⟨N_l_integers, ([g0, g1, g2, g3, g4, g5, g6, g7, g8, g9, g10, g11, g12, g13, g14, g15, g16, g17, g18] : List Ent).map (·.sig), blts⟩ (defScope s_l_integers) (prot (some 1)) 0 b_l_integers (defBody s_l_integers) = true := by decide +kernel
theorem n19 : namesB N_l_integers ["_law_bag_here", "_law_most"] (defScope s_l_integers) = true := by decide +kernel
theorem d19 {f : Addr} {fd : FuncData} (F : Fun K "_law_integers" "_law_integers" s_l_integers f fd) (gok : GOk P w K mg base [g0, g1, g2, g3, g4, g5, g6, g7, g8, g9, g10, g11, g12, g13, g14, g15, g16, g17, g18] 19) (bok : ∀ x ∈ blts.b, mg x = none) (xok : ∀ x ∈ blts.x, XOk K mg x) (cok : ∀ p ∈ blts.c, COk K mg p.1 p.2) : FnG P w K mg base (L2N.CX P w) 20 f fd ["_law_bag_here", "_law_most"] (toSp K mg g19) :=
  fn_ok F b_l_integers n19 rfl (by decide) c19 gok bok xok cok p19
theorem c20 : chkSs ⟨N_l_stepped, ([g0, g1, g2, g3, g4, g5, g6, g7, g8, g9, g10, g11, g12, g13, g14, g15, g16, g17, g18, g19] : List Ent).map (·.sig), blts⟩ (defScope s_l_stepped) (prot none) 0 b_l_stepped (defBody s_l_stepped) = true := by decide +kernel
theorem n20 : namesB N_l_stepped ["_law_found", "_law_i", "_law_j", "_law_number"] (defScope s_l_stepped) = true := by decide +kernel
theorem d20 {f : Addr} {fd : FuncData} (F : Fun K "_law_stepped" "_law_stepped" s_l_stepped f fd) (gok : GOk P w K mg base [g0, g1, g2, g3, g4, g5, g6, g7, g8, g9, g10, g11, g12, g13, g14, g15, g16, g17, g18, g19] 20) (bok : ∀ x ∈ blts.b, mg x = none) (xok : ∀ x ∈ blts.x, XOk K mg x) (cok : ∀ p ∈ blts.c, COk K mg p.1 p.2) : FnG P w K mg base (L2N.CX P w) 21 f fd ["_law_found", "_law_i", "_law_j", "_law_number"] (toSp K mg g20) :=
  fn_ok F b_l_stepped n20 rfl (by decide) c20 gok bok xok cok p20
theorem c21 : chkSs ⟨N_l_common, ([g0, g1, g2, g3, g4, g5, g6, g7, g8, g9, g10, g11, g12, g13, g14, g15, g16, g17, g18, g19, g20] : List Ent).map (·.sig), blts⟩ (defScope s_l_common) (prot none) 0 b_l_common (defBody s_l_common) = true := by decide +kernel
theorem n21 : namesB N_l_common ["_law_one", "_law_other"] (defScope s_l_common) = true := by decide +kernel
theorem d21 {f : Addr} {fd : FuncData} (F : Fun K "_law_common" "_law_common" s_l_common f fd) (gok : GOk P w K mg base [g0, g1, g2, g3, g4, g5, g6, g7, g8, g9, g10, g11, g12, g13, g14, g15, g16, g17, g18, g19, g20] 21) (bok : ∀ x ∈ blts.b, mg x = none) (xok : ∀ x ∈ blts.x, XOk K mg x) (cok : ∀ p ∈ blts.c, COk K mg p.1 p.2) : FnG P w K mg base (L2N.CX P w) 22 f fd ["_law_one", "_law_other"] (toSp K mg g21) :=
  fn_ok F b_l_common n21 rfl (by decide) c21 gok bok xok cok p21
theorem c22 : chkSs ⟨N_l_lowest, ([g0, g1, g2, g3, g4, g5, g6, g7, g8, g9, g10, g11, g12, g13, g14, g15, g16, g17, g18, g19, g20, g21] : List Ent).map (·.sig), blts⟩ (defScope s_l_lowest) (prot none) 0 b_l_lowest (defBody s_l_lowest) = true := by decide +kernel
theorem n22 : namesB N_l_lowest ["_law_top", "_law_bottom"] (defScope s_l_lowest) = true := by decide +kernel
theorem d22 {f : Addr} {fd : FuncData} (F : Fun K "_law_lowest" "_law_lowest" s_l_lowest f fd) (gok : GOk P w K mg base [g0, g1, g2, g3, g4, g5, g6, g7, g8, g9, g10, g11, g12, g13, g14, g15, g16, g17, g18, g19, g20, g21] 22) (bok : ∀ x ∈ blts.b, mg x = none) (xok : ∀ x ∈ blts.x, XOk K mg x) (cok : ∀ p ∈ blts.c, COk K mg p.1 p.2) : FnG P w K mg base (L2N.CX P w) 23 f fd ["_law_top", "_law_bottom"] (toSp K mg g22) :=
  fn_ok F b_l_lowest n22 rfl (by decide) c22 gok bok xok cok p22
theorem c23 : chkSs ⟨N_l_rescaled, ([g0, g1, g2, g3, g4, g5, g6, g7, g8, g9, g10, g11, g12, g13, g14, g15, g16, g17, g18, g19, g20, g21, g22] : List Ent).map (·.sig), blts⟩ (defScope s_l_rescaled) (prot none) 0 b_l_rescaled (defBody s_l_rescaled) = true := by decide +kernel
theorem n23 : namesB N_l_rescaled ["_law_found", "_law_at", "_law_top", "_law_bottom"] (defScope s_l_rescaled) = true := by decide +kernel
theorem d23 {f : Addr} {fd : FuncData} (F : Fun K "_law_rescaled" "_law_rescaled" s_l_rescaled f fd) (gok : GOk P w K mg base [g0, g1, g2, g3, g4, g5, g6, g7, g8, g9, g10, g11, g12, g13, g14, g15, g16, g17, g18, g19, g20, g21, g22] 23) (bok : ∀ x ∈ blts.b, mg x = none) (xok : ∀ x ∈ blts.x, XOk K mg x) (cok : ∀ p ∈ blts.c, COk K mg p.1 p.2) : FnG P w K mg base (L2N.CX P w) 24 f fd ["_law_found", "_law_at", "_law_top", "_law_bottom"] (toSp K mg g23) :=
  fn_ok F b_l_rescaled n23 rfl (by decide) c23 gok bok xok cok p23
theorem c24 : chkSs ⟨N_l_algebra, ([g0, g1, g2, g3, g4, g5, g6, g7, g8, g9, g10, g11, g12, g13, g14, g15, g16, g17, g18, g19, g20, g21, g22, g23] : List Ent).map (·.sig), blts⟩ (defScope s_l_algebra) (prot (some 1)) 0 b_l_algebra (defBody s_l_algebra) = true := by decide +kernel
theorem n24 : namesB N_l_algebra ["_law_bag_here", "_law_most"] (defScope s_l_algebra) = true := by decide +kernel
theorem d24 {f : Addr} {fd : FuncData} (F : Fun K "_law_algebra" "_law_algebra" s_l_algebra f fd) (gok : GOk P w K mg base [g0, g1, g2, g3, g4, g5, g6, g7, g8, g9, g10, g11, g12, g13, g14, g15, g16, g17, g18, g19, g20, g21, g22, g23] 24) (bok : ∀ x ∈ blts.b, mg x = none) (xok : ∀ x ∈ blts.x, XOk K mg x) (cok : ∀ p ∈ blts.c, COk K mg p.1 p.2) : FnG P w K mg base (L2N.CX P w) 25 f fd ["_law_bag_here", "_law_most"] (toSp K mg g24) :=
  fn_ok F b_l_algebra n24 rfl (by decide) c24 gok bok xok cok p24
theorem c25 : chkSs ⟨N_l_plus, ([g0, g1, g2, g3, g4, g5, g6, g7, g8, g9, g10, g11, g12, g13, g14, g15, g16, g17, g18, g19, g20, g21, g22, g23, g24] : List Ent).map (·.sig), blts⟩ (defScope s_l_plus) (prot none) 0 b_l_plus (defBody s_l_plus) = true := by decide +kernel
theorem n25 : namesB N_l_plus ["_law_u", "_law_v"] (defScope s_l_plus) = true := by decide +kernel
theorem d25 {f : Addr} {fd : FuncData} (F : Fun K "_law_plus" "_law_plus" s_l_plus f fd) (gok : GOk P w K mg base [g0, g1, g2, g3, g4, g5, g6, g7, g8, g9, g10, g11, g12, g13, g14, g15, g16, g17, g18, g19, g20, g21, g22, g23, g24] 25) (bok : ∀ x ∈ blts.b, mg x = none) (xok : ∀ x ∈ blts.x, XOk K mg x) (cok : ∀ p ∈ blts.c, COk K mg p.1 p.2) : FnG P w K mg base (L2N.CX P w) 26 f fd ["_law_u", "_law_v"] (toSp K mg g25) :=
  fn_ok F b_l_plus n25 rfl (by decide) c25 gok bok xok cok p25
theorem c26 : chkSs ⟨N_l_times, ([g0, g1, g2, g3, g4, g5, g6, g7, g8, g9, g10, g11, g12, g13, g14, g15, g16, g17, g18, g19, g20, g21, g22, g23, g24, g25] : List Ent).map (·.sig), blts⟩ (defScope s_l_times) (prot none) 0 b_l_times (defBody s_l_times) = true := by decide +kernel
theorem n26 : namesB N_l_times ["_law_u", "_law_v"] (defScope s_l_times) = true := by decide +kernel
theorem d26 {f : Addr} {fd : FuncData} (F : Fun K "_law_times" "_law_times" s_l_times f fd) (gok : GOk P w K mg base [g0, g1, g2, g3, g4, g5, g6, g7, g8, g9, g10, g11, g12, g13, g14, g15, g16, g17, g18, g19, g20, g21, g22, g23, g24, g25] 26) (bok : ∀ x ∈ blts.b, mg x = none) (xok : ∀ x ∈ blts.x, XOk K mg x) (cok : ∀ p ∈ blts.c, COk K mg p.1 p.2) : FnG P w K mg base (L2N.CX P w) 27 f fd ["_law_u", "_law_v"] (toSp K mg g26) :=
  fn_ok F b_l_times n26 rfl (by decide) c26 gok bok xok cok p26
theorem c27 : chkSs ⟨N_l_put, ([g0, g1, g2, g3, g4, g5, g6, g7, g8, g9, g10, g11, g12, g13, g14, g15, g16, g17, g18, g19, g20, g21, g22, g23, g24, g25, g26] : List Ent).map (·.sig), blts⟩ (defScope s_l_put) (prot none) 0 b_l_put (defBody s_l_put) = true := by decide +kernel
theorem n27 : namesB N_l_put ["_law_row_here", "_law_number", "_law_other"] (defScope s_l_put) = true := by decide +kernel
theorem d27 {f : Addr} {fd : FuncData} (F : Fun K "_law_put" "_law_put" s_l_put f fd) (gok : GOk P w K mg base [g0, g1, g2, g3, g4, g5, g6, g7, g8, g9, g10, g11, g12, g13, g14, g15, g16, g17, g18, g19, g20, g21, g22, g23, g24, g25, g26] 27) (bok : ∀ x ∈ blts.b, mg x = none) (xok : ∀ x ∈ blts.x, XOk K mg x) (cok : ∀ p ∈ blts.c, COk K mg p.1 p.2) : FnG P w K mg base (L2N.CX P w) 28 f fd ["_law_row_here", "_law_number", "_law_other"] (toSp K mg g27) :=
  fn_ok F b_l_put n27 rfl (by decide) c27 gok bok xok cok p27
theorem c28 : chkSs ⟨N_l_product, ([g0, g1, g2, g3, g4, g5, g6, g7, g8, g9, g10, g11, g12, g13, g14, g15, g16, g17, g18, g19, g20, g21, g22, g23, g24, g25, g26, g27] : List Ent).map (·.sig), blts⟩ (defScope s_l_product) (prot none) 0 b_l_product (defBody s_l_product) = true := by decide +kernel
theorem n28 : namesB N_l_product ["_law_found", "_law_u", "_law_v"] (defScope s_l_product) = true := by decide +kernel
theorem d28 {f : Addr} {fd : FuncData} (F : Fun K "_law_product" "_law_product" s_l_product f fd) (gok : GOk P w K mg base [g0, g1, g2, g3, g4, g5, g6, g7, g8, g9, g10, g11, g12, g13, g14, g15, g16, g17, g18, g19, g20, g21, g22, g23, g24, g25, g26, g27] 28) (bok : ∀ x ∈ blts.b, mg x = none) (xok : ∀ x ∈ blts.x, XOk K mg x) (cok : ∀ p ∈ blts.c, COk K mg p.1 p.2) : FnG P w K mg base (L2N.CX P w) 29 f fd ["_law_found", "_law_u", "_law_v"] (toSp K mg g28) :=
  fn_ok F b_l_product n28 rfl (by decide) c28 gok bok xok cok p28
theorem c29 : chkSs ⟨N_l_unit, ([g0, g1, g2, g3, g4, g5, g6, g7, g8, g9, g10, g11, g12, g13, g14, g15, g16, g17, g18, g19, g20, g21, g22, g23, g24, g25, g26, g27, g28] : List Ent).map (·.sig), blts⟩ (defScope s_l_unit) (prot none) 0 b_l_unit (defBody s_l_unit) = true := by decide +kernel
theorem n29 : namesB N_l_unit ["_law_size", "_law_place"] (defScope s_l_unit) = true := by decide +kernel
theorem d29 {f : Addr} {fd : FuncData} (F : Fun K "_law_unit" "_law_unit" s_l_unit f fd) (gok : GOk P w K mg base [g0, g1, g2, g3, g4, g5, g6, g7, g8, g9, g10, g11, g12, g13, g14, g15, g16, g17, g18, g19, g20, g21, g22, g23, g24, g25, g26, g27, g28] 29) (bok : ∀ x ∈ blts.b, mg x = none) (xok : ∀ x ∈ blts.x, XOk K mg x) (cok : ∀ p ∈ blts.c, COk K mg p.1 p.2) : FnG P w K mg base (L2N.CX P w) 30 f fd ["_law_size", "_law_place"] (toSp K mg g29) :=
  fn_ok F b_l_unit n29 rfl (by decide) c29 gok bok xok cok p29
theorem c30 : chkSs ⟨N_l_row, ([g0, g1, g2, g3, g4, g5, g6, g7, g8, g9, g10, g11, g12, g13, g14, g15, g16, g17, g18, g19, g20, g21, g22, g23, g24, g25, g26, g27, g28, g29] : List Ent).map (·.sig), blts⟩ (defScope s_l_row) (prot (some 1)) 0 b_l_row (defBody s_l_row) = true := by decide +kernel
theorem n30 : namesB N_l_row ["_law_bag_here", "_law_size"] (defScope s_l_row) = true := by decide +kernel
theorem d30 {f : Addr} {fd : FuncData} (F : Fun K "_law_row" "_law_row" s_l_row f fd) (gok : GOk P w K mg base [g0, g1, g2, g3, g4, g5, g6, g7, g8, g9, g10, g11, g12, g13, g14, g15, g16, g17, g18, g19, g20, g21, g22, g23, g24, g25, g26, g27, g28, g29] 30) (bok : ∀ x ∈ blts.b, mg x = none) (xok : ∀ x ∈ blts.x, XOk K mg x) (cok : ∀ p ∈ blts.c, COk K mg p.1 p.2) : FnG P w K mg base (L2N.CX P w) 31 f fd ["_law_bag_here", "_law_size"] (toSp K mg g30) :=
  fn_ok F b_l_row n30 rfl (by decide) c30 gok bok xok cok p30
theorem c31 : chkSs ⟨N_l_led_right, ([g0, g1, g2, g3, g4, g5, g6, g7, g8, g9, g10, g11, g12, g13, g14, g15, g16, g17, g18, g19, g20, g21, g22, g23, g24, g25, g26, g27, g28, g29, g30] : List Ent).map (·.sig), blts⟩ (defScope s_l_led_right) (prot (some 1)) 0 b_l_led_right (defBody s_l_led_right) = true := by decide +kernel
theorem n31 : namesB N_l_led_right ["_law_bag_here"] (defScope s_l_led_right) = true := by decide +kernel
theorem d31 {f : Addr} {fd : FuncData} (F : Fun K "_law_led_right" "_law_led_right" s_l_led_right f fd) (gok : GOk P w K mg base [g0, g1, g2, g3, g4, g5, g6, g7, g8, g9, g10, g11, g12, g13, g14, g15, g16, g17, g18, g19, g20, g21, g22, g23, g24, g25, g26, g27, g28, g29, g30] 31) (bok : ∀ x ∈ blts.b, mg x = none) (xok : ∀ x ∈ blts.x, XOk K mg x) (cok : ∀ p ∈ blts.c, COk K mg p.1 p.2) : FnG P w K mg base (L2N.CX P w) 32 f fd ["_law_bag_here"] (toSp K mg g31) :=
  fn_ok F b_l_led_right n31 rfl (by decide) c31 gok bok xok cok p31
theorem c32 : chkSs ⟨N_l_units_right, ([g0, g1, g2, g3, g4, g5, g6, g7, g8, g9, g10, g11, g12, g13, g14, g15, g16, g17, g18, g19, g20, g21, g22, g23, g24, g25, g26, g27, g28, g29, g30, g31] : List Ent).map (·.sig), blts⟩ (defScope s_l_units_right) (prot none) 0 b_l_units_right (defBody s_l_units_right) = true := by decide +kernel
theorem n32 : namesB N_l_units_right ["_law_found"] (defScope s_l_units_right) = true := by decide +kernel
theorem d32 {f : Addr} {fd : FuncData} (F : Fun K "_law_units_right" "_law_units_right" s_l_units_right f fd) (gok : GOk P w K mg base [g0, g1, g2, g3, g4, g5, g6, g7, g8, g9, g10, g11, g12, g13, g14, g15, g16, g17, g18, g19, g20, g21, g22, g23, g24, g25, g26, g27, g28, g29, g30, g31] 32) (bok : ∀ x ∈ blts.b, mg x = none) (xok : ∀ x ∈ blts.x, XOk K mg x) (cok : ∀ p ∈ blts.c, COk K mg p.1 p.2) : FnG P w K mg base (L2N.CX P w) 33 f fd ["_law_found"] (toSp K mg g32) :=
  fn_ok F b_l_units_right n32 rfl (by decide) c32 gok bok xok cok p32
theorem c33 : chkSs ⟨N_law, ([g0, g1, g2, g3, g4, g5, g6, g7, g8, g9, g10, g11, g12, g13, g14, g15, g16, g17, g18, g19, g20, g21, g22, g23, g24, g25, g26, g27, g28, g29, g30, g31, g32] : List Ent).map (·.sig), blts⟩ (defScope s_law) (prot none) 0 b_law (defBody s_law) = true := by decide +kernel
theorem n33 : namesB N_law ["_law_script"] (defScope s_law) = true := by decide +kernel
theorem d33 {f : Addr} {fd : FuncData} (F : Fun K "law" "law" s_law f fd) (gok : GOk P w K mg base [g0, g1, g2, g3, g4, g5, g6, g7, g8, g9, g10, g11, g12, g13, g14, g15, g16, g17, g18, g19, g20, g21, g22, g23, g24, g25, g26, g27, g28, g29, g30, g31, g32] 33) (bok : ∀ x ∈ blts.b, mg x = none) (xok : ∀ x ∈ blts.x, XOk K mg x) (cok : ∀ p ∈ blts.c, COk K mg p.1 p.2) : FnG P w K mg base (L2N.CX P w) 34 f fd ["_law_script"] (toSp K mg g33) :=
  fn_ok F b_law n33 rfl (by decide) c33 gok bok xok cok p33
end
theorem all_mk {l : PySem.W.OpenLaw} {w : World} {K : PySem.W.Frag} {h : Heap} {mg : Str → Option Value} {fa f0 f1 f2 f3 f4 f5 f6 f7 f8 f9 f10 f11 f12 f13 f14 f15 f16 f17 f18 f19 f20 f21 f22 f23 f24 f25 f26 f27 f28 f29 f30 f31 f32 f33 : Addr} (X : K.In h) (G : h.Ns mainGlobals mg) (hfa : mg "law" = some (.ref fa))
    {od0 an0 od1 an1 od2 an2 od3 an3 od4 an4 od5 an5 od6 an6 od7 an7 od8 an8 od9 an9 od10 an10 od11 an11 od12 an12 od13 an13 od14 an14 od15 an15 od16 an16 od17 an17 od18 an18 od19 an19 od20 an20 od21 an21 od22 an22 od23 an23 od24 an24 od25 an25 od26 an26 od27 an27 od28 an28 od29 an29 od30 an30 od31 an31 od32 an32 od33 an33 : Option Addr} {sl0 sl1 sl2 sl3 sl4 sl5 sl6 sl7 sl8 sl9 sl10 sl11 sl12 sl13 sl14 sl15 sl16 sl17 sl18 sl19 sl20 sl21 sl22 sl23 sl24 sl25 sl26 sl27 sl28 sl29 sl30 sl31 sl32 sl33 : Array (Option Value)} {oc0 kV0 dc0 pm0 cd0 ct0 oc1 kV1 dc1 pm1 cd1 ct1 oc2 kV2 dc2 pm2 cd2 ct2 oc3 kV3 dc3 pm3 cd3 ct3 oc4 kV4 dc4 pm4 cd4 ct4 oc5 kV5 dc5 pm5 cd5 ct5 oc6 kV6 dc6 pm6 cd6 ct6 oc7 kV7 dc7 pm7 cd7 ct7 oc8 kV8 dc8 pm8 cd8 ct8 oc9 kV9 dc9 pm9 cd9 ct9 oc10 kV10 dc10 pm10 cd10 ct10 oc11 kV11 dc11 pm11 cd11 ct11 oc12 kV12 dc12 pm12 cd12 ct12 oc13 kV13 dc13 pm13 cd13 ct13 oc14 kV14 dc14 pm14 cd14 ct14 oc15 kV15 dc15 pm15 cd15 ct15 oc16 kV16 dc16 pm16 cd16 ct16 oc17 kV17 dc17 pm17 cd17 ct17 oc18 kV18 dc18 pm18 cd18 ct18 oc19 kV19 dc19 pm19 cd19 ct19 oc20 kV20 dc20 pm20 cd20 ct20 oc21 kV21 dc21 pm21 cd21 ct21 oc22 kV22 dc22 pm22 cd22 ct22 oc23 kV23 dc23 pm23 cd23 ct23 oc24 kV24 dc24 pm24 cd24 ct24 oc25 kV25 dc25 pm25 cd25 ct25 oc26 kV26 dc26 pm26 cd26 ct26 oc27 kV27 dc27 pm27 cd27 ct27 oc28 kV28 dc28 pm28 cd28 ct28 oc29 kV29 dc29 pm29 cd29 ct29 oc30 kV30 dc30 pm30 cd30 ct30 oc31 kV31 dc31 pm31 cd31 ct31 oc32 kV32 dc32 pm32 cd32 ct32 oc33 kV33 dc33 pm33 cd33 ct33 : Value}
    (a0 : PySem.W.nsIn K mainGlobals "common" = some (some (.ref f0))) (l0 : K.lookup f0 = some ⟨oc0, od0, .func (PySem.W.fnOf "common" "common" (defArgs s_common) (defBody s_common) (defScope s_common) .none kV0 dc0 pm0 an0 cd0 ct0), sl0⟩) (c0 : PySem.W.codeIn K cd0 "common" = true) (k0 : PySem.W.keepIn K (.ref f0) = true)
    (a1 : PySem.W.nsIn K mainGlobals "share" = some (some (.ref f1))) (l1 : K.lookup f1 = some ⟨oc1, od1, .func (PySem.W.fnOf "share" "share" (defArgs s_share) (defBody s_share) (defScope s_share) .none kV1 dc1 pm1 an1 cd1 ct1), sl1⟩) (c1 : PySem.W.codeIn K cd1 "share" = true) (k1 : PySem.W.keepIn K (.ref f1) = true)
    (a2 : PySem.W.nsIn K mainGlobals "plus" = some (some (.ref f2))) (l2 : K.lookup f2 = some ⟨oc2, od2, .func (PySem.W.fnOf "plus" "plus" (defArgs s_plus) (defBody s_plus) (defScope s_plus) .none kV2 dc2 pm2 an2 cd2 ct2), sl2⟩) (c2 : PySem.W.codeIn K cd2 "plus" = true) (k2 : PySem.W.keepIn K (.ref f2) = true)
    (a3 : PySem.W.nsIn K mainGlobals "times" = some (some (.ref f3))) (l3 : K.lookup f3 = some ⟨oc3, od3, .func (PySem.W.fnOf "times" "times" (defArgs s_times) (defBody s_times) (defScope s_times) .none kV3 dc3 pm3 an3 cd3 ct3), sl3⟩) (c3 : PySem.W.codeIn K cd3 "times" = true) (k3 : PySem.W.keepIn K (.ref f3) = true)
    (a4 : PySem.W.nsIn K mainGlobals "added" = some (some (.ref f4))) (l4 : K.lookup f4 = some ⟨oc4, od4, .func (PySem.W.fnOf "added" "added" (defArgs s_added) (defBody s_added) (defScope s_added) .none kV4 dc4 pm4 an4 cd4 ct4), sl4⟩) (c4 : PySem.W.codeIn K cd4 "added" = true) (k4 : PySem.W.keepIn K (.ref f4) = true)
    (a5 : PySem.W.nsIn K mainGlobals "sum_of" = some (some (.ref f5))) (l5 : K.lookup f5 = some ⟨oc5, od5, .func (PySem.W.fnOf "sum_of" "sum_of" (defArgs s_sum_of) (defBody s_sum_of) (defScope s_sum_of) .none kV5 dc5 pm5 an5 cd5 ct5), sl5⟩) (c5 : PySem.W.codeIn K cd5 "sum_of" = true) (k5 : PySem.W.keepIn K (.ref f5) = true)
    (a6 : PySem.W.nsIn K mainGlobals "product" = some (some (.ref f6))) (l6 : K.lookup f6 = some ⟨oc6, od6, .func (PySem.W.fnOf "product" "product" (defArgs s_product) (defBody s_product) (defScope s_product) .none kV6 dc6 pm6 an6 cd6 ct6), sl6⟩) (c6 : PySem.W.codeIn K cd6 "product" = true) (k6 : PySem.W.keepIn K (.ref f6) = true)
    (a7 : PySem.W.nsIn K mainGlobals "deed" = some (some (.ref f7))) (l7 : K.lookup f7 = some ⟨oc7, od7, .func (PySem.W.fnOf "deed" "deed" (defArgs s_deed) (defBody s_deed) (defScope s_deed) .none kV7 dc7 pm7 an7 cd7 ct7), sl7⟩) (c7 : PySem.W.codeIn K cd7 "deed" = true) (k7 : PySem.W.keepIn K (.ref f7) = true)
    (a8 : PySem.W.nsIn K mainGlobals "led" = some (some (.ref f8))) (l8 : K.lookup f8 = some ⟨oc8, od8, .func (PySem.W.fnOf "led" "led" (defArgs s_led) (defBody s_led) (defScope s_led) .none kV8 dc8 pm8 an8 cd8 ct8), sl8⟩) (c8 : PySem.W.codeIn K cd8 "led" = true) (k8 : PySem.W.keepIn K (.ref f8) = true)
    (a9 : PySem.W.nsIn K mainGlobals "_law_bag" = some (some (.ref f9))) (l9 : K.lookup f9 = some ⟨oc9, od9, .func (PySem.W.fnOf "_law_bag" "_law_bag" (defArgs s_l_bag) (defBody s_l_bag) (defScope s_l_bag) .none kV9 dc9 pm9 an9 cd9 ct9), sl9⟩) (c9 : PySem.W.codeIn K cd9 "_law_bag" = true) (k9 : PySem.W.keepIn K (.ref f9) = true)
    (a10 : PySem.W.nsIn K mainGlobals "_law_take" = some (some (.ref f10))) (l10 : K.lookup f10 = some ⟨oc10, od10, .func (PySem.W.fnOf "_law_take" "_law_take" (defArgs s_l_take) (defBody s_l_take) (defScope s_l_take) .none kV10 dc10 pm10 an10 cd10 ct10), sl10⟩) (c10 : PySem.W.codeIn K cd10 "_law_take" = true) (k10 : PySem.W.keepIn K (.ref f10) = true)
    (a11 : PySem.W.nsIn K mainGlobals "_law_none" = some (some (.ref f11))) (l11 : K.lookup f11 = some ⟨oc11, od11, .func (PySem.W.fnOf "_law_none" "_law_none" (defArgs s_l_none) (defBody s_l_none) (defScope s_l_none) .none kV11 dc11 pm11 an11 cd11 ct11), sl11⟩) (c11 : PySem.W.codeIn K cd11 "_law_none" = true) (k11 : PySem.W.keepIn K (.ref f11) = true)
    (a12 : PySem.W.nsIn K mainGlobals "_law_set" = some (some (.ref f12))) (l12 : K.lookup f12 = some ⟨oc12, od12, .func (PySem.W.fnOf "_law_set" "_law_set" (defArgs s_l_set) (defBody s_l_set) (defScope s_l_set) .none kV12 dc12 pm12 an12 cd12 ct12), sl12⟩) (c12 : PySem.W.codeIn K cd12 "_law_set" = true) (k12 : PySem.W.keepIn K (.ref f12) = true)
    (a13 : PySem.W.nsIn K mainGlobals "_law_three" = some (some (.ref f13))) (l13 : K.lookup f13 = some ⟨oc13, od13, .func (PySem.W.fnOf "_law_three" "_law_three" (defArgs s_l_three) (defBody s_l_three) (defScope s_l_three) .none kV13 dc13 pm13 an13 cd13 ct13), sl13⟩) (c13 : PySem.W.codeIn K cd13 "_law_three" = true) (k13 : PySem.W.keepIn K (.ref f13) = true)
    (a14 : PySem.W.nsIn K mainGlobals "_law_by_one" = some (some (.ref f14))) (l14 : K.lookup f14 = some ⟨oc14, od14, .func (PySem.W.fnOf "_law_by_one" "_law_by_one" (defArgs s_l_by_one) (defBody s_l_by_one) (defScope s_l_by_one) .none kV14 dc14 pm14 an14 cd14 ct14), sl14⟩) (c14 : PySem.W.codeIn K cd14 "_law_by_one" = true) (k14 : PySem.W.keepIn K (.ref f14) = true)
    (a15 : PySem.W.nsIn K mainGlobals "_law_pairs" = some (some (.ref f15))) (l15 : K.lookup f15 = some ⟨oc15, od15, .func (PySem.W.fnOf "_law_pairs" "_law_pairs" (defArgs s_l_pairs) (defBody s_l_pairs) (defScope s_l_pairs) .none kV15 dc15 pm15 an15 cd15 ct15), sl15⟩) (c15 : PySem.W.codeIn K cd15 "_law_pairs" = true) (k15 : PySem.W.keepIn K (.ref f15) = true)
    (a16 : PySem.W.nsIn K mainGlobals "_law_doubled" = some (some (.ref f16))) (l16 : K.lookup f16 = some ⟨oc16, od16, .func (PySem.W.fnOf "_law_doubled" "_law_doubled" (defArgs s_l_doubled) (defBody s_l_doubled) (defScope s_l_doubled) .none kV16 dc16 pm16 an16 cd16 ct16), sl16⟩) (c16 : PySem.W.codeIn K cd16 "_law_doubled" = true) (k16 : PySem.W.keepIn K (.ref f16) = true)
    (a17 : PySem.W.nsIn K mainGlobals "_law_moving" = some (some (.ref f17))) (l17 : K.lookup f17 = some ⟨oc17, od17, .func (PySem.W.fnOf "_law_moving" "_law_moving" (defArgs s_l_moving) (defBody s_l_moving) (defScope s_l_moving) .none kV17 dc17 pm17 an17 cd17 ct17), sl17⟩) (c17 : PySem.W.codeIn K cd17 "_law_moving" = true) (k17 : PySem.W.keepIn K (.ref f17) = true)
    (a18 : PySem.W.nsIn K mainGlobals "_law_side" = some (some (.ref f18))) (l18 : K.lookup f18 = some ⟨oc18, od18, .func (PySem.W.fnOf "_law_side" "_law_side" (defArgs s_l_side) (defBody s_l_side) (defScope s_l_side) .none kV18 dc18 pm18 an18 cd18 ct18), sl18⟩) (c18 : PySem.W.codeIn K cd18 "_law_side" = true) (k18 : PySem.W.keepIn K (.ref f18) = true)
    (a19 : PySem.W.nsIn K mainGlobals "_law_integers" = some (some (.ref f19))) (l19 : K.lookup f19 = some ⟨oc19, od19, .func (PySem.W.fnOf "_law_integers" "_law_integers" (defArgs s_l_integers) (defBody s_l_integers) (defScope s_l_integers) .none kV19 dc19 pm19 an19 cd19 ct19), sl19⟩) (c19 : PySem.W.codeIn K cd19 "_law_integers" = true) (k19 : PySem.W.keepIn K (.ref f19) = true)
    (a20 : PySem.W.nsIn K mainGlobals "_law_stepped" = some (some (.ref f20))) (l20 : K.lookup f20 = some ⟨oc20, od20, .func (PySem.W.fnOf "_law_stepped" "_law_stepped" (defArgs s_l_stepped) (defBody s_l_stepped) (defScope s_l_stepped) .none kV20 dc20 pm20 an20 cd20 ct20), sl20⟩) (c20 : PySem.W.codeIn K cd20 "_law_stepped" = true) (k20 : PySem.W.keepIn K (.ref f20) = true)
    (a21 : PySem.W.nsIn K mainGlobals "_law_common" = some (some (.ref f21))) (l21 : K.lookup f21 = some ⟨oc21, od21, .func (PySem.W.fnOf "_law_common" "_law_common" (defArgs s_l_common) (defBody s_l_common) (defScope s_l_common) .none kV21 dc21 pm21 an21 cd21 ct21), sl21⟩) (c21 : PySem.W.codeIn K cd21 "_law_common" = true) (k21 : PySem.W.keepIn K (.ref f21) = true)
    (a22 : PySem.W.nsIn K mainGlobals "_law_lowest" = some (some (.ref f22))) (l22 : K.lookup f22 = some ⟨oc22, od22, .func (PySem.W.fnOf "_law_lowest" "_law_lowest" (defArgs s_l_lowest) (defBody s_l_lowest) (defScope s_l_lowest) .none kV22 dc22 pm22 an22 cd22 ct22), sl22⟩) (c22 : PySem.W.codeIn K cd22 "_law_lowest" = true) (k22 : PySem.W.keepIn K (.ref f22) = true)
    (a23 : PySem.W.nsIn K mainGlobals "_law_rescaled" = some (some (.ref f23))) (l23 : K.lookup f23 = some ⟨oc23, od23, .func (PySem.W.fnOf "_law_rescaled" "_law_rescaled" (defArgs s_l_rescaled) (defBody s_l_rescaled) (defScope s_l_rescaled) .none kV23 dc23 pm23 an23 cd23 ct23), sl23⟩) (c23 : PySem.W.codeIn K cd23 "_law_rescaled" = true) (k23 : PySem.W.keepIn K (.ref f23) = true)
    (a24 : PySem.W.nsIn K mainGlobals "_law_algebra" = some (some (.ref f24))) (l24 : K.lookup f24 = some ⟨oc24, od24, .func (PySem.W.fnOf "_law_algebra" "_law_algebra" (defArgs s_l_algebra) (defBody s_l_algebra) (defScope s_l_algebra) .none kV24 dc24 pm24 an24 cd24 ct24), sl24⟩) (c24 : PySem.W.codeIn K cd24 "_law_algebra" = true) (k24 : PySem.W.keepIn K (.ref f24) = true)
    (a25 : PySem.W.nsIn K mainGlobals "_law_plus" = some (some (.ref f25))) (l25 : K.lookup f25 = some ⟨oc25, od25, .func (PySem.W.fnOf "_law_plus" "_law_plus" (defArgs s_l_plus) (defBody s_l_plus) (defScope s_l_plus) .none kV25 dc25 pm25 an25 cd25 ct25), sl25⟩) (c25 : PySem.W.codeIn K cd25 "_law_plus" = true) (k25 : PySem.W.keepIn K (.ref f25) = true)
    (a26 : PySem.W.nsIn K mainGlobals "_law_times" = some (some (.ref f26))) (l26 : K.lookup f26 = some ⟨oc26, od26, .func (PySem.W.fnOf "_law_times" "_law_times" (defArgs s_l_times) (defBody s_l_times) (defScope s_l_times) .none kV26 dc26 pm26 an26 cd26 ct26), sl26⟩) (c26 : PySem.W.codeIn K cd26 "_law_times" = true) (k26 : PySem.W.keepIn K (.ref f26) = true)
    (a27 : PySem.W.nsIn K mainGlobals "_law_put" = some (some (.ref f27))) (l27 : K.lookup f27 = some ⟨oc27, od27, .func (PySem.W.fnOf "_law_put" "_law_put" (defArgs s_l_put) (defBody s_l_put) (defScope s_l_put) .none kV27 dc27 pm27 an27 cd27 ct27), sl27⟩) (c27 : PySem.W.codeIn K cd27 "_law_put" = true) (k27 : PySem.W.keepIn K (.ref f27) = true)
    (a28 : PySem.W.nsIn K mainGlobals "_law_product" = some (some (.ref f28))) (l28 : K.lookup f28 = some ⟨oc28, od28, .func (PySem.W.fnOf "_law_product" "_law_product" (defArgs s_l_product) (defBody s_l_product) (defScope s_l_product) .none kV28 dc28 pm28 an28 cd28 ct28), sl28⟩) (c28 : PySem.W.codeIn K cd28 "_law_product" = true) (k28 : PySem.W.keepIn K (.ref f28) = true)
    (a29 : PySem.W.nsIn K mainGlobals "_law_unit" = some (some (.ref f29))) (l29 : K.lookup f29 = some ⟨oc29, od29, .func (PySem.W.fnOf "_law_unit" "_law_unit" (defArgs s_l_unit) (defBody s_l_unit) (defScope s_l_unit) .none kV29 dc29 pm29 an29 cd29 ct29), sl29⟩) (c29 : PySem.W.codeIn K cd29 "_law_unit" = true) (k29 : PySem.W.keepIn K (.ref f29) = true)
    (a30 : PySem.W.nsIn K mainGlobals "_law_row" = some (some (.ref f30))) (l30 : K.lookup f30 = some ⟨oc30, od30, .func (PySem.W.fnOf "_law_row" "_law_row" (defArgs s_l_row) (defBody s_l_row) (defScope s_l_row) .none kV30 dc30 pm30 an30 cd30 ct30), sl30⟩) (c30 : PySem.W.codeIn K cd30 "_law_row" = true) (k30 : PySem.W.keepIn K (.ref f30) = true)
    (a31 : PySem.W.nsIn K mainGlobals "_law_led_right" = some (some (.ref f31))) (l31 : K.lookup f31 = some ⟨oc31, od31, .func (PySem.W.fnOf "_law_led_right" "_law_led_right" (defArgs s_l_led_right) (defBody s_l_led_right) (defScope s_l_led_right) .none kV31 dc31 pm31 an31 cd31 ct31), sl31⟩) (c31 : PySem.W.codeIn K cd31 "_law_led_right" = true) (k31 : PySem.W.keepIn K (.ref f31) = true)
    (a32 : PySem.W.nsIn K mainGlobals "_law_units_right" = some (some (.ref f32))) (l32 : K.lookup f32 = some ⟨oc32, od32, .func (PySem.W.fnOf "_law_units_right" "_law_units_right" (defArgs s_l_units_right) (defBody s_l_units_right) (defScope s_l_units_right) .none kV32 dc32 pm32 an32 cd32 ct32), sl32⟩) (c32 : PySem.W.codeIn K cd32 "_law_units_right" = true) (k32 : PySem.W.keepIn K (.ref f32) = true)
    (a33 : PySem.W.nsIn K mainGlobals "law" = some (some (.ref f33))) (l33 : K.lookup f33 = some ⟨oc33, od33, .func (PySem.W.fnOf "law" "law" (defArgs s_law) (defBody s_law) (defScope s_law) .none kV33 dc33 pm33 an33 cd33 ct33), sl33⟩) (c33 : PySem.W.codeIn K cd33 "law" = true) (k33 : PySem.W.keepIn K (.ref f33) = true)
    {C0 : Addr} (aX0 : PySem.W.nsIn K mainGlobals "NoShare" = some (some (.ref C0))) (xX0 : PySem.W.excIn K C0 [.type "ValueError", .type "Exception", .type "BaseException", .type "object"] "ValueError.__new__" = true) (kX0 : PySem.W.keepIn K (.ref C0) = true) (bX0 : PySem.W.subIn K (.ref C0) (.type "BaseException") = some true) (tX0 : PySem.W.typeIn K (.ref C0) = some (.type "type"))
    {T0 : Addr} {odT0 : Option Addr} {mT0 : Nat} {slT0 : Array (Option Value)} {uT0 vT0 : Tok} (aT0 : PySem.W.nsIn K mainGlobals "NOUGHT" = some (some (.ref T0))) (lT0 : K.lookup T0 = some ⟨.type "tuple", odT0, .seq #[.int 0 uT0, .int 1 vT0] mT0, slT0⟩)
    (z0 : PySem.W.nsIn K mainGlobals "abs" = some none) (z1 : PySem.W.nsIn K mainGlobals "any" = some none) (z2 : PySem.W.nsIn K mainGlobals "enumerate" = some none) (z3 : PySem.W.nsIn K mainGlobals "int" = some none) (z4 : PySem.W.nsIn K mainGlobals "isinstance" = some none) (z5 : PySem.W.nsIn K mainGlobals "len" = some none) (z6 : PySem.W.nsIn K mainGlobals "list" = some none) (z7 : PySem.W.nsIn K mainGlobals "max" = some none) (z8 : PySem.W.nsIn K mainGlobals "min" = some none) (z9 : PySem.W.nsIn K mainGlobals "range" = some none) (z10 : PySem.W.nsIn K mainGlobals "str" = some none) (z11 : PySem.W.nsIn K mainGlobals "zip" = some none) :
    ∃ fd : FuncData, (∀ (s : Shared) (v : Value), BindsTo s fd ⟨[v], []⟩ [("_law_script", v)]) ∧ ∀ base : Heap, K.In base → base.Ns mainGlobals mg → FnG l.prog w K mg base (L2N.CX l.prog w) 34 fa fd ["_law_script"] (lawSp K) := by
  have e := hfa.symm.trans (PySem.W.mg_of X G a33)
  cases e
  have bok : ∀ x ∈ blts.b, mg x = none := by
    intro x hx
    simp only [blts, List.mem_cons, List.not_mem_nil, or_false] at hx
    rcases hx with rfl | rfl | rfl | rfl | rfl | rfl | rfl | rfl | rfl | rfl | rfl | rfl
    · exact PySem.W.mg_none_of X G z0
    · exact PySem.W.mg_none_of X G z1
    · exact PySem.W.mg_none_of X G z2
    · exact PySem.W.mg_none_of X G z3
    · exact PySem.W.mg_none_of X G z4
    · exact PySem.W.mg_none_of X G z5
    · exact PySem.W.mg_none_of X G z6
    · exact PySem.W.mg_none_of X G z7
    · exact PySem.W.mg_none_of X G z8
    · exact PySem.W.mg_none_of X G z9
    · exact PySem.W.mg_none_of X G z10
    · exact PySem.W.mg_none_of X G z11
  have xok : ∀ x ∈ blts.x, XOk K mg x := by
    intro x hx
    simp only [blts, List.mem_cons, List.not_mem_nil, or_false] at hx
    rcases hx with rfl
    · exact ⟨C0, _, _, _, _, PySem.W.mg_of X G aX0, kX0, PySem.F.excBase_ValueError, xX0, bX0, tX0⟩
  have cok : ∀ p ∈ blts.c, COk K mg p.1 p.2 := by
    intro x hx
    simp only [blts, List.mem_cons, List.not_mem_nil, or_false] at hx
    rcases hx with rfl
    · exact cok_pair (PySem.W.mg_of X G aT0) lT0
  have F0 := fun_mk (st := s_common) l0 c0 k0
  have b0 := F0.binds (ps := ["one", "other"]) fun _ _ _ _ _ _ us hl => match us, hl with | [_, _], _ => rfl
  have F1 := fun_mk (st := s_share) l1 c1 k1
  have b1 := F1.binds (ps := ["top", "bottom"]) fun _ _ _ _ _ _ us hl => match us, hl with | [_, _], _ => rfl
  have F2 := fun_mk (st := s_plus) l2 c2 k2
  have b2 := F2.binds (ps := ["u", "v"]) fun _ _ _ _ _ _ us hl => match us, hl with | [_, _], _ => rfl
  have F3 := fun_mk (st := s_times) l3 c3 k3
  have b3 := F3.binds (ps := ["u", "v"]) fun _ _ _ _ _ _ us hl => match us, hl with | [_, _], _ => rfl
  have F4 := fun_mk (st := s_added) l4 c4 k4
  have b4 := F4.binds (ps := ["one", "other", "number"]) fun _ _ _ _ _ _ us hl => match us, hl with | [_, _, _], _ => rfl
  have F5 := fun_mk (st := s_sum_of) l5 c5 k5
  have b5 := F5.binds (ps := ["size", "rows", "numbers"]) fun _ _ _ _ _ _ us hl => match us, hl with | [_, _, _], _ => rfl
  have F6 := fun_mk (st := s_product) l6 c6 k6
  have b6 := F6.binds (ps := ["algebra", "u", "v"]) fun _ _ _ _ _ _ us hl => match us, hl with | [_, _, _], _ => rfl
  have F7 := fun_mk (st := s_deed) l7 c7 k7
  have b7 := F7.binds (ps := ["algebra", "u"]) fun _ _ _ _ _ _ us hl => match us, hl with | [_, _], _ => rfl
  have F8 := fun_mk (st := s_led) l8 c8 k8
  have b8 := F8.binds (ps := ["table", "v"]) fun _ _ _ _ _ _ us hl => match us, hl with | [_, _], _ => rfl
  have F9 := fun_mk (st := s_l_bag) l9 c9 k9
  have b9 := F9.binds (ps := ["_law_script", "_law_at"]) fun _ _ _ _ _ _ us hl => match us, hl with | [_, _], _ => rfl
  have F10 := fun_mk (st := s_l_take) l10 c10 k10
  have b10 := F10.binds (ps := ["_law_bag_here", "_law_many"]) fun _ _ _ _ _ _ us hl => match us, hl with | [_, _], _ => rfl
  have F11 := fun_mk (st := s_l_none) l11 c11 k11
  have b11 := F11.binds (ps := ["_law_size"]) fun _ _ _ _ _ _ us hl => match us, hl with | [_], _ => rfl
  have F12 := fun_mk (st := s_l_set) l12 c12 k12
  have b12 := F12.binds (ps := ["_law_found", "_law_i", "_law_j", "_law_row_here"]) fun _ _ _ _ _ _ us hl => match us, hl with | [_, _, _, _], _ => rfl
  have F13 := fun_mk (st := s_l_three) l13 c13 k13
  have b13 := F13.binds (ps := ["_law_a", "_law_b", "_law_c"]) fun _ _ _ _ _ _ us hl => match us, hl with | [_, _, _], _ => rfl
  have F14 := fun_mk (st := s_l_by_one) l14 c14 k14
  have b14 := F14.binds (ps := ["_law_bag_here", "_law_many"]) fun _ _ _ _ _ _ us hl => match us, hl with | [_, _], _ => rfl
  have F15 := fun_mk (st := s_l_pairs) l15 c15 k15
  have b15 := F15.binds (ps := ["_law_pairs_here"]) fun _ _ _ _ _ _ us hl => match us, hl with | [_], _ => rfl
  have F16 := fun_mk (st := s_l_doubled) l16 c16 k16
  have b16 := F16.binds (ps := ["_law_three_here", "_law_a", "_law_b"]) fun _ _ _ _ _ _ us hl => match us, hl with | [_, _, _], _ => rfl
  have F17 := fun_mk (st := s_l_moving) l17 c17 k17
  have b17 := F17.binds (ps := ["_law_number", "_law_more"]) fun _ _ _ _ _ _ us hl => match us, hl with | [_, _], _ => rfl
  have F18 := fun_mk (st := s_l_side) l18 c18 k18
  have b18 := F18.binds (ps := ["_law_one", "_law_other"]) fun _ _ _ _ _ _ us hl => match us, hl with | [_, _], _ => rfl
  have F19 := fun_mk (st := s_l_integers) l19 c19 k19
  have b19 := F19.binds (ps := ["_law_bag_here", "_law_most"]) fun _ _ _ _ _ _ us hl => match us, hl with | [_, _], _ => rfl
  have F20 := fun_mk (st := s_l_stepped) l20 c20 k20
  have b20 := F20.binds (ps := ["_law_found", "_law_i", "_law_j", "_law_number"]) fun _ _ _ _ _ _ us hl => match us, hl with | [_, _, _, _], _ => rfl
  have F21 := fun_mk (st := s_l_common) l21 c21 k21
  have b21 := F21.binds (ps := ["_law_one", "_law_other"]) fun _ _ _ _ _ _ us hl => match us, hl with | [_, _], _ => rfl
  have F22 := fun_mk (st := s_l_lowest) l22 c22 k22
  have b22 := F22.binds (ps := ["_law_top", "_law_bottom"]) fun _ _ _ _ _ _ us hl => match us, hl with | [_, _], _ => rfl
  have F23 := fun_mk (st := s_l_rescaled) l23 c23 k23
  have b23 := F23.binds (ps := ["_law_found", "_law_at", "_law_top", "_law_bottom"]) fun _ _ _ _ _ _ us hl => match us, hl with | [_, _, _, _], _ => rfl
  have F24 := fun_mk (st := s_l_algebra) l24 c24 k24
  have b24 := F24.binds (ps := ["_law_bag_here", "_law_most"]) fun _ _ _ _ _ _ us hl => match us, hl with | [_, _], _ => rfl
  have F25 := fun_mk (st := s_l_plus) l25 c25 k25
  have b25 := F25.binds (ps := ["_law_u", "_law_v"]) fun _ _ _ _ _ _ us hl => match us, hl with | [_, _], _ => rfl
  have F26 := fun_mk (st := s_l_times) l26 c26 k26
  have b26 := F26.binds (ps := ["_law_u", "_law_v"]) fun _ _ _ _ _ _ us hl => match us, hl with | [_, _], _ => rfl
  have F27 := fun_mk (st := s_l_put) l27 c27 k27
  have b27 := F27.binds (ps := ["_law_row_here", "_law_number", "_law_other"]) fun _ _ _ _ _ _ us hl => match us, hl with | [_, _, _], _ => rfl
  have F28 := fun_mk (st := s_l_product) l28 c28 k28
  have b28 := F28.binds (ps := ["_law_found", "_law_u", "_law_v"]) fun _ _ _ _ _ _ us hl => match us, hl with | [_, _, _], _ => rfl
  have F29 := fun_mk (st := s_l_unit) l29 c29 k29
  have b29 := F29.binds (ps := ["_law_size", "_law_place"]) fun _ _ _ _ _ _ us hl => match us, hl with | [_, _], _ => rfl
  have F30 := fun_mk (st := s_l_row) l30 c30 k30
  have b30 := F30.binds (ps := ["_law_bag_here", "_law_size"]) fun _ _ _ _ _ _ us hl => match us, hl with | [_, _], _ => rfl
  have F31 := fun_mk (st := s_l_led_right) l31 c31 k31
  have b31 := F31.binds (ps := ["_law_bag_here"]) fun _ _ _ _ _ _ us hl => match us, hl with | [_], _ => rfl
  have F32 := fun_mk (st := s_l_units_right) l32 c32 k32
  have b32 := F32.binds (ps := ["_law_found"]) fun _ _ _ _ _ _ us hl => match us, hl with | [_], _ => rfl
  have F33 := fun_mk (st := s_law) l33 c33 k33
  have b33 := F33.binds (ps := ["_law_script"]) fun _ _ _ _ _ _ us hl => match us, hl with | [_], _ => rfl
  refine ⟨PySem.W.fnOf "law" "law" (defArgs s_law) (defBody s_law) (defScope s_law) .none kV33 dc33 pm33 an33 cd33 ct33, fun s v => .of_eq rfl, fun base _ _ => ?_⟩
  have t0 : GOk l.prog w K mg base [] 0 := GOk.nil
  have t1 : GOk l.prog w K mg base [g0] 1 := GOk.snoc t0 (d0 F0 t0 bok xok cok) (PySem.W.mg_of X G a0) k0 b0
  have t2 : GOk l.prog w K mg base [g0, g1] 2 := GOk.snoc t1 (d1 F1 t1 bok xok cok) (PySem.W.mg_of X G a1) k1 b1
  have t3 : GOk l.prog w K mg base [g0, g1, g2] 3 := GOk.snoc t2 (d2 F2 t2 bok xok cok) (PySem.W.mg_of X G a2) k2 b2
  have t4 : GOk l.prog w K mg base [g0, g1, g2, g3] 4 := GOk.snoc t3 (d3 F3 t3 bok xok cok) (PySem.W.mg_of X G a3) k3 b3
  have t5 : GOk l.prog w K mg base [g0, g1, g2, g3, g4] 5 := GOk.snoc t4 (d4 F4 t4 bok xok cok) (PySem.W.mg_of X G a4) k4 b4
  have t6 : GOk l.prog w K mg base [g0, g1, g2, g3, g4, g5] 6 := GOk.snoc t5 (d5 F5 t5 bok xok cok) (PySem.W.mg_of X G a5) k5 b5
  have t7 : GOk l.prog w K mg base [g0, g1, g2, g3, g4, g5, g6] 7 := GOk.snoc t6 (d6 F6 t6 bok xok cok) (PySem.W.mg_of X G a6) k6 b6
  have t8 : GOk l.prog w K mg base [g0, g1, g2, g3, g4, g5, g6, g7] 8 := GOk.snoc t7 (d7 F7 t7 bok xok cok) (PySem.W.mg_of X G a7) k7 b7
  have t9 : GOk l.prog w K mg base [g0, g1, g2, g3, g4, g5, g6, g7, g8] 9 := GOk.snoc t8 (d8 F8 t8 bok xok cok) (PySem.W.mg_of X G a8) k8 b8
  have t10 : GOk l.prog w K mg base [g0, g1, g2, g3, g4, g5, g6, g7, g8, g9] 10 := GOk.snoc t9 (d9 F9 t9 bok xok cok) (PySem.W.mg_of X G a9) k9 b9
  have t11 : GOk l.prog w K mg base [g0, g1, g2, g3, g4, g5, g6, g7, g8, g9, g10] 11 := GOk.snoc t10 (d10 F10 t10 bok xok cok) (PySem.W.mg_of X G a10) k10 b10
  have t12 : GOk l.prog w K mg base [g0, g1, g2, g3, g4, g5, g6, g7, g8, g9, g10, g11] 12 := GOk.snoc t11 (d11 F11 t11 bok xok cok) (PySem.W.mg_of X G a11) k11 b11
  have t13 : GOk l.prog w K mg base [g0, g1, g2, g3, g4, g5, g6, g7, g8, g9, g10, g11, g12] 13 := GOk.snoc t12 (d12 F12 t12 bok xok cok) (PySem.W.mg_of X G a12) k12 b12
  have t14 : GOk l.prog w K mg base [g0, g1, g2, g3, g4, g5, g6, g7, g8, g9, g10, g11, g12, g13] 14 := GOk.snoc t13 (d13 F13 t13 bok xok cok) (PySem.W.mg_of X G a13) k13 b13
  have t15 : GOk l.prog w K mg base [g0, g1, g2, g3, g4, g5, g6, g7, g8, g9, g10, g11, g12, g13, g14] 15 := GOk.snoc t14 (d14 F14 t14 bok xok cok) (PySem.W.mg_of X G a14) k14 b14
  have t16 : GOk l.prog w K mg base [g0, g1, g2, g3, g4, g5, g6, g7, g8, g9, g10, g11, g12, g13, g14, g15] 16 := GOk.snoc t15 (d15 F15 t15 bok xok cok) (PySem.W.mg_of X G a15) k15 b15
  have t17 : GOk l.prog w K mg base [g0, g1, g2, g3, g4, g5, g6, g7, g8, g9, g10, g11, g12, g13, g14, g15, g16] 17 := GOk.snoc t16 (d16 F16 t16 bok xok cok) (PySem.W.mg_of X G a16) k16 b16
  have t18 : GOk l.prog w K mg base [g0, g1, g2, g3, g4, g5, g6, g7, g8, g9, g10, g11, g12, g13, g14, g15, g16, g17] 18 := GOk.snoc t17 (d17 F17 t17 bok xok cok) (PySem.W.mg_of X G a17) k17 b17
  have t19 : GOk l.prog w K mg base [g0, g1, g2, g3, g4, g5, g6, g7, g8, g9, g10, g11, g12, g13, g14, g15, g16, g17, g18] 19 := GOk.snoc t18 (d18 F18 t18 bok xok cok) (PySem.W.mg_of X G a18) k18 b18
  have t20 : GOk l.prog w K mg base [g0, g1, g2, g3, g4, g5, g6, g7, g8, g9, g10, g11, g12, g13, g14, g15, g16, g17, g18, g19] 20 := GOk.snoc t19 (d19 F19 t19 bok xok cok) (PySem.W.mg_of X G a19) k19 b19
  have t21 : GOk l.prog w K mg base [g0, g1, g2, g3, g4, g5, g6, g7, g8, g9, g10, g11, g12, g13, g14, g15, g16, g17, g18, g19, g20] 21 := GOk.snoc t20 (d20 F20 t20 bok xok cok) (PySem.W.mg_of X G a20) k20 b20
  have t22 : GOk l.prog w K mg base [g0, g1, g2, g3, g4, g5, g6, g7, g8, g9, g10, g11, g12, g13, g14, g15, g16, g17, g18, g19, g20, g21] 22 := GOk.snoc t21 (d21 F21 t21 bok xok cok) (PySem.W.mg_of X G a21) k21 b21
  have t23 : GOk l.prog w K mg base [g0, g1, g2, g3, g4, g5, g6, g7, g8, g9, g10, g11, g12, g13, g14, g15, g16, g17, g18, g19, g20, g21, g22] 23 := GOk.snoc t22 (d22 F22 t22 bok xok cok) (PySem.W.mg_of X G a22) k22 b22
  have t24 : GOk l.prog w K mg base [g0, g1, g2, g3, g4, g5, g6, g7, g8, g9, g10, g11, g12, g13, g14, g15, g16, g17, g18, g19, g20, g21, g22, g23] 24 := GOk.snoc t23 (d23 F23 t23 bok xok cok) (PySem.W.mg_of X G a23) k23 b23
  have t25 : GOk l.prog w K mg base [g0, g1, g2, g3, g4, g5, g6, g7, g8, g9, g10, g11, g12, g13, g14, g15, g16, g17, g18, g19, g20, g21, g22, g23, g24] 25 := GOk.snoc t24 (d24 F24 t24 bok xok cok) (PySem.W.mg_of X G a24) k24 b24
  have t26 : GOk l.prog w K mg base [g0, g1, g2, g3, g4, g5, g6, g7, g8, g9, g10, g11, g12, g13, g14, g15, g16, g17, g18, g19, g20, g21, g22, g23, g24, g25] 26 := GOk.snoc t25 (d25 F25 t25 bok xok cok) (PySem.W.mg_of X G a25) k25 b25
  have t27 : GOk l.prog w K mg base [g0, g1, g2, g3, g4, g5, g6, g7, g8, g9, g10, g11, g12, g13, g14, g15, g16, g17, g18, g19, g20, g21, g22, g23, g24, g25, g26] 27 := GOk.snoc t26 (d26 F26 t26 bok xok cok) (PySem.W.mg_of X G a26) k26 b26
  have t28 : GOk l.prog w K mg base [g0, g1, g2, g3, g4, g5, g6, g7, g8, g9, g10, g11, g12, g13, g14, g15, g16, g17, g18, g19, g20, g21, g22, g23, g24, g25, g26, g27] 28 := GOk.snoc t27 (d27 F27 t27 bok xok cok) (PySem.W.mg_of X G a27) k27 b27
  have t29 : GOk l.prog w K mg base [g0, g1, g2, g3, g4, g5, g6, g7, g8, g9, g10, g11, g12, g13, g14, g15, g16, g17, g18, g19, g20, g21, g22, g23, g24, g25, g26, g27, g28] 29 := GOk.snoc t28 (d28 F28 t28 bok xok cok) (PySem.W.mg_of X G a28) k28 b28
  have t30 : GOk l.prog w K mg base [g0, g1, g2, g3, g4, g5, g6, g7, g8, g9, g10, g11, g12, g13, g14, g15, g16, g17, g18, g19, g20, g21, g22, g23, g24, g25, g26, g27, g28, g29] 30 := GOk.snoc t29 (d29 F29 t29 bok xok cok) (PySem.W.mg_of X G a29) k29 b29
  have t31 : GOk l.prog w K mg base [g0, g1, g2, g3, g4, g5, g6, g7, g8, g9, g10, g11, g12, g13, g14, g15, g16, g17, g18, g19, g20, g21, g22, g23, g24, g25, g26, g27, g28, g29, g30] 31 := GOk.snoc t30 (d30 F30 t30 bok xok cok) (PySem.W.mg_of X G a30) k30 b30
  have t32 : GOk l.prog w K mg base [g0, g1, g2, g3, g4, g5, g6, g7, g8, g9, g10, g11, g12, g13, g14, g15, g16, g17, g18, g19, g20, g21, g22, g23, g24, g25, g26, g27, g28, g29, g30, g31] 32 := GOk.snoc t31 (d31 F31 t31 bok xok cok) (PySem.W.mg_of X G a31) k31 b31
  have t33 : GOk l.prog w K mg base [g0, g1, g2, g3, g4, g5, g6, g7, g8, g9, g10, g11, g12, g13, g14, g15, g16, g17, g18, g19, g20, g21, g22, g23, g24, g25, g26, g27, g28, g29, g30, g31, g32] 33 := GOk.snoc t32 (d32 F32 t32 bok xok cok) (PySem.W.mg_of X G a32) k32 b32
  exact (d33 F33 t33 bok xok cok).imp fun vs H Q E q => law_imp rfl rfl rfl law_at vs H Q E q
theorem walk {l : PySem.W.OpenLaw} {q : Program} {loose : List Str} {XP : (Str → Option Value) → Heap → Prop} {YP : World → Heap → Prop} {d : DefRec} {K : Params → PySem.W.Frag} (hn : l.most = some 63) (hdf : d.params.defaults = [])
    (hY : ∀ (w : World) (h : Heap), YP w h → (K w.params).In h)
    (F : ∀ (w : World) (mg : Str → Option Value) (fa : Addr) (h : Heap), (K w.params).In h → h.Ns mainGlobals mg → mg d.name = some (.ref fa) →
      ∃ fd : FuncData, (∀ (s : Shared) (u : Value), BindsTo s fd ⟨[u], []⟩ [("_law_script", u)]) ∧ ∀ base : Heap, (K w.params).In base → base.Ns mainGlobals mg → FnG l.prog w (K w.params) mg base (L2N.CX l.prog w) 34 fa fd ["_law_script"] (lawSp (K w.params))) :
    PySem.W.WalkO q loose XP YP l.row.toRowW d [] (fun f vs => PySem.call f vs) :=
  Q.walkG (n := 63) (k := 34) (x := "_law_script") (CX := fun w => L2N.CX l.prog w) (sp := fun w => lawSp (K w.params)) hn (by decide) hdf ⟨rfl, by decide, by decide⟩ hY F (fun _ H a ns hl hb hO hS => ⟨a, ns, rfl, hl, hb, hO, hS, fun _ => rfl⟩) (fun _ _ _ _ _ z => cx_no z)
end K11

open PySem PySem.W PyProof.Rows in
set_option maxRecDepth 100000 in
set_option maxHeartbeats 0 in
theorem PySem.Challenge.cw_turnalgebra_k11_products_and_deeds_holds : PySem.Challenge.rw_turnalgebra_k11_products_and_deeds.Holds := by
  w_on; o_law; k_head; (case hw => w_witness2)
  k_fill
  refine K11.walk (l := PySem.Challenge.rw_turnalgebra_k11_products_and_deeds) rfl rfl (fun w h Y => PySem.W.kIn_of Y) ?F
  case F =>
    intro w mg fa h KX G hmg
    refine' K11.all_mk KX G hmg ?a0 ?l0 ?c0 ?k0 ?a1 ?l1 ?c1 ?k1 ?a2 ?l2 ?c2 ?k2 ?a3 ?l3 ?c3 ?k3 ?a4 ?l4 ?c4 ?k4 ?a5 ?l5 ?c5 ?k5 ?a6 ?l6 ?c6 ?k6 ?a7 ?l7 ?c7 ?k7 ?a8 ?l8 ?c8 ?k8 ?a9 ?l9 ?c9 ?k9 ?a10 ?l10 ?c10 ?k10 ?a11 ?l11 ?c11 ?k11 ?a12 ?l12 ?c12 ?k12 ?a13 ?l13 ?c13 ?k13 ?a14 ?l14 ?c14 ?k14 ?a15 ?l15 ?c15 ?k15 ?a16 ?l16 ?c16 ?k16 ?a17 ?l17 ?c17 ?k17 ?a18 ?l18 ?c18 ?k18 ?a19 ?l19 ?c19 ?k19 ?a20 ?l20 ?c20 ?k20 ?a21 ?l21 ?c21 ?k21 ?a22 ?l22 ?c22 ?k22 ?a23 ?l23 ?c23 ?k23 ?a24 ?l24 ?c24 ?k24 ?a25 ?l25 ?c25 ?k25 ?a26 ?l26 ?c26 ?k26 ?a27 ?l27 ?c27 ?k27 ?a28 ?l28 ?c28 ?k28 ?a29 ?l29 ?c29 ?k29 ?a30 ?l30 ?c30 ?k30 ?a31 ?l31 ?c31 ?k31 ?a32 ?l32 ?c32 ?k32 ?a33 ?l33 ?c33 ?k33 ?aX0 ?xX0 ?kX0 ?bX0 ?tX0 ?aT0 ?lT0 ?z0 ?z1 ?z2 ?z3 ?z4 ?z5 ?z6 ?z7 ?z8 ?z9 ?z10 ?z11
    (case a0 => k_is)
    (case l0 => k_is)
    (case c0 => k_is)
    (case k0 => k_is)
    (case a1 => k_is)
    (case l1 => k_is)
    (case c1 => k_is)
    (case k1 => k_is)
    (case a2 => k_is)
    (case l2 => k_is)
    (case c2 => k_is)
    (case k2 => k_is)
    (case a3 => k_is)
    (case l3 => k_is)
    (case c3 => k_is)
    (case k3 => k_is)
    (case a4 => k_is)
    (case l4 => k_is)
    (case c4 => k_is)
    (case k4 => k_is)
    (case a5 => k_is)
    (case l5 => k_is)
    (case c5 => k_is)
    (case k5 => k_is)
    (case a6 => k_is)
    (case l6 => k_is)
    (case c6 => k_is)
    (case k6 => k_is)
    (case a7 => k_is)
    (case l7 => k_is)
    (case c7 => k_is)
    (case k7 => k_is)
    (case a8 => k_is)
    (case l8 => k_is)
    (case c8 => k_is)
    (case k8 => k_is)
    (case a9 => k_is)
    (case l9 => k_is)
    (case c9 => k_is)
    (case k9 => k_is)
    (case a10 => k_is)
    (case l10 => k_is)
    (case c10 => k_is)
    (case k10 => k_is)
    (case a11 => k_is)
    (case l11 => k_is)
    (case c11 => k_is)
    (case k11 => k_is)
    (case a12 => k_is)
    (case l12 => k_is)
    (case c12 => k_is)
    (case k12 => k_is)
    (case a13 => k_is)
    (case l13 => k_is)
    (case c13 => k_is)
    (case k13 => k_is)
    (case a14 => k_is)
    (case l14 => k_is)
    (case c14 => k_is)
    (case k14 => k_is)
    (case a15 => k_is)
    (case l15 => k_is)
    (case c15 => k_is)
    (case k15 => k_is)
    (case a16 => k_is)
    (case l16 => k_is)
    (case c16 => k_is)
    (case k16 => k_is)
    (case a17 => k_is)
    (case l17 => k_is)
    (case c17 => k_is)
    (case k17 => k_is)
    (case a18 => k_is)
    (case l18 => k_is)
    (case c18 => k_is)
    (case k18 => k_is)
    (case a19 => k_is)
    (case l19 => k_is)
    (case c19 => k_is)
    (case k19 => k_is)
    (case a20 => k_is)
    (case l20 => k_is)
    (case c20 => k_is)
    (case k20 => k_is)
    (case a21 => k_is)
    (case l21 => k_is)
    (case c21 => k_is)
    (case k21 => k_is)
    (case a22 => k_is)
    (case l22 => k_is)
    (case c22 => k_is)
    (case k22 => k_is)
    (case a23 => k_is)
    (case l23 => k_is)
    (case c23 => k_is)
    (case k23 => k_is)
    (case a24 => k_is)
    (case l24 => k_is)
    (case c24 => k_is)
    (case k24 => k_is)
    (case a25 => k_is)
    (case l25 => k_is)
    (case c25 => k_is)
    (case k25 => k_is)
    (case a26 => k_is)
    (case l26 => k_is)
    (case c26 => k_is)
    (case k26 => k_is)
    (case a27 => k_is)
    (case l27 => k_is)
    (case c27 => k_is)
    (case k27 => k_is)
    (case a28 => k_is)
    (case l28 => k_is)
    (case c28 => k_is)
    (case k28 => k_is)
    (case a29 => k_is)
    (case l29 => k_is)
    (case c29 => k_is)
    (case k29 => k_is)
    (case a30 => k_is)
    (case l30 => k_is)
    (case c30 => k_is)
    (case k30 => k_is)
    (case a31 => k_is)
    (case l31 => k_is)
    (case c31 => k_is)
    (case k31 => k_is)
    (case a32 => k_is)
    (case l32 => k_is)
    (case c32 => k_is)
    (case k32 => k_is)
    (case a33 => k_is)
    (case l33 => k_is)
    (case c33 => k_is)
    (case k33 => k_is)
    (case aX0 => k_is)
    (case xX0 => k_exc)
    (case kX0 => k_is)
    (case bX0 => k_is)
    (case tX0 => k_is)
    (case aT0 => k_is)
    (case lT0 => k_is)
    (case z0 => k_is)
    (case z1 => k_is)
    (case z2 => k_is)
    (case z3 => k_is)
    (case z4 => k_is)
    (case z5 => k_is)
    (case z6 => k_is)
    (case z7 => k_is)
    (case z8 => k_is)
    (case z9 => k_is)
    (case z10 => k_is)
    (case z11 => k_is)

