import PyProof.Rows.All
import Wide.All
import OpenK.AllK
import Wide.FinOn
import HandS.ForMost
import HandS.RaiseMore
import HandS.ExcCtx
import HandS.HotCalls
import HandS.ExcIs
import HandS.ForExc
import HandS.Flow
import HandS.IsInst
import HandS.Zip
import HandS.Wide
import HandS.EndBits
import HandS.WordsExc
import PySem.Challenge.RW_turnalgebra_k02_fractions_refused
set_option Elab.async false
set_option linter.all false
set_option maxRecDepth 100000
set_option maxHeartbeats 4000000
/-! ## The core: data, what is frozen, what is owned -/
namespace Q
open PySem PySem.Spec PyProof.Rows L2

abbrev D := PyData
variable {K : PySem.W.Frag} {G G' H H' : Hp}

theorem SqT.mono {a : Addr} {xs : List V} (e : Same H H') (h : SqT K H a xs) : SqT K H' a xs := by
  rcases h with (h | ⟨o, h⟩) | h
  · exact .inl (.inl (e _ _ h))
  · exact .inl (.inr ⟨o, e _ _ h⟩)
  · exact .inr h
mutual
theorem Dp.mono (e : Same H H') : ∀ {v : V} {d : D}, Dp K H v d → Dp K H' v d
  | _, _, .non => .non
  | _, _, .bl b => .bl b
  | _, _, .int i => .int i
  | _, _, .str x => .str x
  | _, _, .lst h r => .lst (e.seq h) (DpAll.mono e r)
  | _, _, .tup h r => .tup (SqT.mono e h) (DpAll.mono e r)
theorem DpAll.mono (e : Same H H') : ∀ {vs : List V} {ds : List D}, DpAll K H vs ds → DpAll K H' vs ds
  | _, _, .nil => .nil
  | _, _, .cons h r => .cons (Dp.mono e h) (DpAll.mono e r)
end
theorem DpAll.length : ∀ {vs : List V} {ds : List D}, DpAll K H vs ds → vs.length = ds.length
  | _, _, .nil => rfl
  | _, _, .cons _ r => by rw [List.length_cons, List.length_cons, DpAll.length r]
theorem DpAll.get : ∀ {vs : List V} {ds : List D} {i : Nat} {d : D}, DpAll K H vs ds → ds[i]? = some d → ∃ v, vs[i]? = some v ∧ Dp K H v d
  | _, _, 0, _, .cons h _, e => by simp at e; subst e; exact ⟨_, rfl, h⟩
  | _, _, i + 1, _, .cons _ r, e => by
    obtain ⟨v, h1, h2⟩ := DpAll.get (i := i) r (by simpa using e)
    exact ⟨v, by simpa using h1, h2⟩
theorem DpAll.append : ∀ {vs ws : List V} {ds es : List D}, DpAll K H vs ds → DpAll K H ws es → DpAll K H (vs ++ ws) (ds ++ es)
  | _, _, _, _, .nil, s => s
  | _, _, _, _, .cons h r, s => .cons h (DpAll.append r s)
theorem DpAll.set : ∀ {vs : List V} {ds : List D} {v : V} {d : D} (i : Nat), DpAll K H vs ds → Dp K H v d → DpAll K H (vs.set i v) (ds.set i d)
  | _, _, _, _, _, .nil, _ => .nil
  | _, _, _, _, 0, .cons _ r, h => .cons h r
  | _, _, _, _, i + 1, .cons h r, k => .cons h (DpAll.set i r k)
theorem DpAll.take : ∀ {vs : List V} {ds : List D} (i : Nat), DpAll K H vs ds → DpAll K H (vs.take i) (ds.take i)
  | _, _, 0, _ => .nil
  | _, _, _ + 1, .nil => .nil
  | _, _, i + 1, .cons h r => .cons h (DpAll.take i r)
theorem DpAll.drop : ∀ {vs : List V} {ds : List D} (i : Nat), DpAll K H vs ds → DpAll K H (vs.drop i) (ds.drop i)
  | _, _, 0, h => h
  | _, _, _ + 1, .nil => .nil
  | _, _, i + 1, .cons _ r => DpAll.drop i r

/-- data without places -/
def flat : D → Bool
  | .none => true
  | .bool _ => true
  | .int _ => true
  | .str _ => true
  | _ => false

mutual
/-- down to a depth the lists are owned (their places are the list A), below it all is frozen -/
inductive Ow (K : PySem.W.Frag) (G H : Hp) : Nat → List Addr → V → D → Prop
  | frz {v : V} {d : D} : Dp K G v d → Ow K G H 0 [] v d
  | flt {k : Nat} {v : V} {d : D} : flat d = true → Dp K G v d → Ow K G H (k + 1) [] v d
  | lst {k : Nat} {a : Addr} {A : List Addr} {vs : List V} {ds : List D} : H a = some (.lst vs) → Ows K G H k A vs ds → Ow K G H (k + 1) (a :: A) (.ref a) (.list ds)
inductive Ows (K : PySem.W.Frag) (G H : Hp) : Nat → List Addr → List V → List D → Prop
  | nil {k : Nat} : Ows K G H k [] [] []
  | cons {k : Nat} {A B : List Addr} {v : V} {vs : List V} {d : D} {ds : List D} : Ow K G H k A v d → Ows K G H k B vs ds → Ows K G H k (A ++ B) (v :: vs) (d :: ds)
end
mutual
theorem Ow.mono (g : Same G G') : ∀ {k : Nat} {A : List Addr} {v : V} {d : D}, (∀ b ∈ A, ∀ o, H b = some o → H' b = some o) → Ow K G H k A v d → Ow K G' H' k A v d
  | _, _, _, _, _, .frz h => .frz (Dp.mono g h)
  | _, _, _, _, _, .flt f h => .flt f (Dp.mono g h)
  | _, _, _, _, m, .lst h r => .lst (m _ (by simp) _ h) (Ows.mono g (fun b hb => m b (by simp [hb])) r)
theorem Ows.mono (g : Same G G') : ∀ {k : Nat} {A : List Addr} {vs : List V} {ds : List D}, (∀ b ∈ A, ∀ o, H b = some o → H' b = some o) → Ows K G H k A vs ds → Ows K G' H' k A vs ds
  | _, _, _, _, _, .nil => .nil
  | _, _, _, _, m, .cons h r => .cons (Ow.mono g (fun b hb => m b (by simp [hb])) h) (Ows.mono g (fun b hb => m b (by simp [hb])) r)
end
mutual
theorem Ow.there : ∀ {k : Nat} {A : List Addr} {v : V} {d : D}, Ow K G H k A v d → ∀ b ∈ A, ∃ vs, H b = some (.lst vs)
  | _, _, _, _, .frz _, _, hb => nomatch hb
  | _, _, _, _, .flt _ _, _, hb => nomatch hb
  | _, _, _, _, .lst h r, b, hb => by
    rcases List.mem_cons.mp hb with e | hb
    · subst e; exact ⟨_, h⟩
    · exact Ows.there r b hb
theorem Ows.there : ∀ {k : Nat} {A : List Addr} {vs : List V} {ds : List D}, Ows K G H k A vs ds → ∀ b ∈ A, ∃ vs, H b = some (.lst vs)
  | _, _, _, _, .nil, _, hb => nomatch hb
  | _, _, _, _, .cons h r, b, hb => by
    rcases List.mem_append.mp hb with hb | hb
    · exact Ow.there h b hb
    · exact Ows.there r b hb
end
theorem Ows.length : ∀ {k : Nat} {A : List Addr} {vs : List V} {ds : List D}, Ows K G H k A vs ds → vs.length = ds.length
  | _, _, _, _, .nil => rfl
  | _, _, _, _, .cons _ r => by rw [List.length_cons, List.length_cons, Ows.length r]
mutual
/-- all that is owned is read as it stands -/
theorem Ow.read (g : Same G H) : ∀ {k : Nat} {A : List Addr} {v : V} {d : D}, Ow K G H k A v d → Dp K H v d
  | _, _, _, _, .frz h => Dp.mono g h
  | _, _, _, _, .flt _ h => Dp.mono g h
  | _, _, _, _, .lst h r => .lst (.inl (.inl h)) (Ows.read g r)
theorem Ows.read (g : Same G H) : ∀ {k : Nat} {A : List Addr} {vs : List V} {ds : List D}, Ows K G H k A vs ds → DpAll K H vs ds
  | _, _, _, _, .nil => .nil
  | _, _, _, _, .cons h r => .cons (Ow.read g h) (Ows.read g r)
end
/-- the frozen part with the places of A put to it -/
def grow (G H : Hp) (A : List Addr) : Hp := fun b => if b ∈ A then H b else G b
theorem same_grow {A : List Addr} (n : ∀ a ∈ A, G a = none) : Same G (grow G H A) := fun b o e => by
  unfold grow
  by_cases h : b ∈ A
  · rw [n b h] at e; cases e
  · rw [if_neg h]; exact e
theorem grow_same {A : List Addr} (g : Same G H) : Same (grow G H A) H := fun b o e => by
  unfold grow at e
  by_cases h : b ∈ A
  · rw [if_pos h] at e; exact e
  · rw [if_neg h] at e; exact g b o e
mutual
/-- what is owned, frozen -/
theorem Ow.freeze {B : List Addr} (g : Same G (grow G H B)) : ∀ {k : Nat} {A : List Addr} {v : V} {d : D}, (∀ a ∈ A, a ∈ B) → Ow K G H k A v d → Dp K (grow G H B) v d
  | _, _, _, _, _, .frz h => Dp.mono g h
  | _, _, _, _, _, .flt _ h => Dp.mono g h
  | _, _, _, _, m, .lst h r => .lst (.inl (.inl (by unfold grow; rw [if_pos (m _ (by simp))]; exact h))) (Ows.freeze g (fun b hb => m b (by simp [hb])) r)
theorem Ows.freeze {B : List Addr} (g : Same G (grow G H B)) : ∀ {k : Nat} {A : List Addr} {vs : List V} {ds : List D}, (∀ a ∈ A, a ∈ B) → Ows K G H k A vs ds → DpAll K (grow G H B) vs ds
  | _, _, _, _, _, .nil => .nil
  | _, _, _, _, m, .cons h r => .cons (Ow.freeze g (fun b hb => m b (by simp [hb])) h) (Ows.freeze g (fun b hb => m b (by simp [hb])) r)
end
theorem Ows.of_frz : ∀ {vs : List V} {ds : List D}, DpAll K G vs ds → Ows K G H 0 [] vs ds
  | _, _, .nil => .nil
  | _, _, .cons h r => .cons (A := []) (.frz h) (Ows.of_frz r)
theorem Ows.to_frz : ∀ {A : List Addr} {vs : List V} {ds : List D}, Ows K G H 0 A vs ds → A = [] ∧ DpAll K G vs ds
  | _, _, _, .nil => ⟨rfl, .nil⟩
  | _, _, _, .cons (.frz h) r => let ⟨e, q⟩ := Ows.to_frz r; ⟨by rw [e]; rfl, .cons h q⟩
theorem Ows.append : ∀ {k : Nat} {A B : List Addr} {vs ws : List V} {ds es : List D}, Ows K G H k A vs ds → Ows K G H k B ws es → Ows K G H k (A ++ B) (vs ++ ws) (ds ++ es)
  | _, _, _, _, _, _, _, .nil, s => s
  | _, _, _, _, _, _, _, .cons h r, s => by rw [List.append_assoc]; exact .cons h (Ows.append r s)

/-! ### what the names hold -/
inductive Cell where
  /-- nothing is known -/
  | un
  /-- frozen data -/
  | va (d : D)
  /-- an owned list, to a depth -/
  | ow (k : Nat) (d : D)
abbrev Env := List Cell

abbrev Sg := L2.St
abbrev Foot := Nat → List Addr
def CellOk (K : PySem.W.Frag) (G H : Hp) (A : List Addr) (x : Option (Option V)) : Cell → Prop
  | .un => True
  | .va d => ∃ v, x = some (some v) ∧ Dp K G v d
  | .ow k d => ∃ v, x = some (some v) ∧ Ow K G H k A v d
theorem CellOk.mono {A : List Addr} {x : Option (Option V)} (g : Same G G') (m : ∀ b ∈ A, ∀ o, H b = some o → H' b = some o) : ∀ {c : Cell}, CellOk K G H A x c → CellOk K G' H' A x c
  | .un, _ => trivial
  | .va _, ⟨v, e, h⟩ => ⟨v, e, Dp.mono g h⟩
  | .ow _ _, ⟨v, e, h⟩ => ⟨v, e, Ow.mono g m h⟩
/-- no list is too long -/
def lenOk : HO → Prop
  | .lst vs => vs.length ≤ 16777216
  | _ => True
def notFrz : HO → Prop
  | .frz _ _ => False
  | _ => True
/-- the state: what the names hold, by data; F the places owned, by slot; G what is frozen -/
structure En (K : PySem.W.Frag) (σ : Sg) (ρ : Env) (F : Foot) (G H : Hp) : Prop where
  same : Same G H
  len : ρ.length = σ.length
  cell : ∀ (i : Nat) c, ρ[i]? = some c → CellOk K G H (F i) (σ[i]?) c
  nod : ∀ i, (F i).Nodup
  dis : ∀ i j a, a ∈ F i → a ∈ F j → i = j
  out : ∀ i a, a ∈ F i → G a = none
  th : ∀ i a, a ∈ F i → H a ≠ none
  ln : ∀ a o, H a = some o → lenOk o
  fz : ∀ a o vs, G a = some (.frz o (.lst vs)) → vs.length ≤ 16777216
structure Stp (F : Foot) (G H : Hp) (F' : Foot) (G' H' : Hp) : Prop where
  g : Same G G'
  h : ∀ b o, (∀ i, b ∉ F i) → H b = some o → H' b = some o
  nf : ∀ i b, b ∈ F' i → (∃ j, b ∈ F j) ∨ H b = none
  ng : ∀ b, G b = none → G' b ≠ none → (∃ j, b ∈ F j) ∨ H b = none
  th : ∀ b, H b ≠ none → H' b ≠ none
theorem Stp.refl (F : Foot) (G H : Hp) : Stp F G H F G H := ⟨Same.refl _, fun _ _ _ e => e, fun i _ h => .inl ⟨i, h⟩, fun _ n s => absurd n s, fun _ h => h⟩
theorem Stp.trans {F F' F'' : Foot} {G'' H'' : Hp} (a : Stp F G H F' G' H') (b : Stp F' G' H' F'' G'' H'') : Stp F G H F'' G'' H'' where
  g := a.g.trans b.g
  h := fun c o n e => b.h c o (fun i hi => by
    rcases a.nf i c hi with ⟨j, hj⟩ | hn
    · exact n j hj
    · rw [hn] at e; cases e) (a.h c o n e)
  nf := fun i c hc => by
    rcases b.nf i c hc with ⟨j, hj⟩ | hn
    · exact a.nf j c hj
    · refine .inr ?_
      cases q : H c with
      | none => rfl
      | some o => exact absurd hn (a.th c (by rw [q]; simp))
  ng := fun c n s => by
    cases q : G' c with
    | some o => exact a.ng c n (by rw [q]; simp)
    | none =>
      rcases b.ng c q s with ⟨j, hj⟩ | hn
      · exact a.nf j c hj
      · refine .inr ?_
        cases q : H c with
        | none => rfl
        | some o => exact absurd hn (a.th c (by rw [q]; simp))
  th := fun c h => b.th c (a.th c h)
/-- a value with the places that it owns, beside the state -/
structure Res (K : PySem.W.Frag) (F : Foot) (G H : Hp) (F' : Foot) (G' H' : Hp) (k : Nat) (A : List Addr) (v : V) (d : D) : Prop where
  ow : Ow K G' H' k A v d
  nod : A.Nodup
  out : ∀ a ∈ A, G' a = none
  dis : ∀ a ∈ A, ∀ i, a ∉ F' i
  new : ∀ a ∈ A, (∃ j, a ∈ F j) ∨ H a = none
variable {F F' F'' : Foot} {G'' H'' : Hp} {σ : Sg} {ρ : Env}
/-- it stays through a step -/
theorem Res.stp {k : Nat} {A : List Addr} {v : V} {d : D} (r : Res K F G H F' G' H' k A v d) (s : Stp F' G' H' F'' G'' H'') : Res K F G H F'' G'' H'' k A v d where
  ow := Ow.mono s.g (fun b hb o e => s.h b o (r.dis b hb) e) r.ow
  nod := r.nod
  out := fun a ha => by
    cases q : G'' a with
    | none => rfl
    | some o =>
      rcases s.ng a (r.out a ha) (by rw [q]; simp) with ⟨j, hj⟩ | hn
      · exact absurd hj (r.dis a ha j)
      · obtain ⟨vs, e⟩ := Ow.there r.ow a ha
        rw [hn] at e; cases e
  dis := fun a ha i hi => by
    rcases s.nf i a hi with ⟨j, hj⟩ | hn
    · exact r.dis a ha j hj
    · obtain ⟨vs, e⟩ := Ow.there r.ow a ha
      rw [hn] at e; cases e
  new := r.new
theorem Res.from {k : Nat} {A : List Addr} {v : V} {d : D} {F0 : Foot} {G0 H0 : Hp} (s : Stp F0 G0 H0 F G H) (r : Res K F G H F' G' H' k A v d) : Res K F0 G0 H0 F' G' H' k A v d :=
  ⟨r.ow, r.nod, r.out, r.dis, fun a ha => by
    rcases r.new a ha with ⟨j, hj⟩ | hn
    · exact s.nf j a hj
    · refine .inr ?_
      cases q : H0 a with
      | none => rfl
      | some o => exact absurd hn (s.th a (by rw [q]; simp))⟩
/-- frozen data are a result that owns nothing -/
theorem Res.frz {v : V} {d : D} (h : Dp K G' v d) : Res K F G H F' G' H' 0 [] v d := ⟨.frz h, .nil, (fun _ h => nomatch h), (fun _ h => nomatch h), (fun _ h => nomatch h)⟩
theorem En.upto (e : En K σ ρ F G H) (g : Same G G') (h : ∀ i b, b ∈ F i → ∀ o, H b = some o → H' b = some o) (gh : Same G' H') (n : ∀ i a, a ∈ F i → G' a = none) (ln : ∀ a o, H' a = some o → lenOk o) (fz : ∀ a o vs, G' a = some (.frz o (.lst vs)) → vs.length ≤ 16777216) : En K σ ρ F G' H' where
  ln := ln
  fz := fz
  same := gh
  len := e.len
  cell := fun i c hc => CellOk.mono g (fun b hb o q => h i b hb o q) (e.cell i c hc)
  nod := e.nod
  dis := e.dis
  out := n
  th := fun i a ha => by
    cases q : H a with
    | none => exact absurd q (e.th i a ha)
    | some o => rw [h i a ha o q]; simp
theorem fz_grow {A : List Addr} (f : ∀ a o vs, G a = some (.frz o (.lst vs)) → vs.length ≤ 16777216) (th : ∀ a ∈ A, ∃ vs, H a = some (.lst vs)) : ∀ a o vs, grow G H A a = some (.frz o (.lst vs)) → vs.length ≤ 16777216 := fun a o vs q => by
  unfold grow at q
  by_cases h : a ∈ A
  · rw [if_pos h] at q
    obtain ⟨ws, z⟩ := th a h
    rw [z] at q; cases q
  · rw [if_neg h] at q; exact f a o vs q
/-- what a result owns is frozen -/
theorem Res.freeze {k : Nat} {A : List Addr} {v : V} {d : D} (e : En K σ ρ F' G' H') (r : Res K F G H F' G' H' k A v d) :
    Dp K (grow G' H' A) v d ∧ En K σ ρ F' (grow G' H' A) H' ∧ (Stp F G H F' G' H' → Stp F G H F' (grow G' H' A) H') := by
  have g := same_grow (H := H') r.out
  have n : ∀ i a, a ∈ F' i → grow G' H' A a = none := fun i a ha => by
    unfold grow
    rw [if_neg (fun z => r.dis a z i ha)]
    exact e.out i a ha
  refine ⟨Ow.freeze g (fun _ h => h) r.ow, e.upto g (fun _ _ _ _ q => q) (grow_same e.same) n e.ln (fz_grow e.fz fun a ha => Ow.there r.ow a ha), fun s => ⟨s.g.trans g, s.h, s.nf, fun b hb hs => ?_, s.th⟩⟩
  by_cases hA : b ∈ A
  · exact r.new b hA
  · unfold grow at hs
    rw [if_neg hA] at hs
    exact s.ng b hb hs
/-- the foot with another list at a slot -/
def put (F : Foot) (i : Nat) (A : List Addr) : Foot := fun j => if j = i then A else F j
theorem put_same {i : Nat} {A : List Addr} : put F i A i = A := if_pos rfl
theorem put_ne {i j : Nat} {A : List Addr} (h : j ≠ i) : put F i A j = F j := if_neg h
/-- a name's value put in another one's place: a result -/
theorem En.set {k : Nat} {A : List Addr} {v : V} {d : D} {i : Nat} {c : Cell} (e : En K σ ρ F' G' H') (r : Res K F G H F' G' H' k A v d) (hc : c = .un ∨ (k = 0 ∧ c = .va d) ∨ c = .ow k d) :
    En K (σ.set i (some v)) (ρ.set i c) (put F' i A) G' H' where
  ln := e.ln
  fz := e.fz
  same := e.same
  len := by simp [e.len]
  cell := fun j cj hj => by
    by_cases h : i = j
    · subst h
      rw [List.getElem?_set] at hj
      rw [if_pos rfl] at hj
      have hl : i < ρ.length := by
        by_cases q : i < ρ.length
        · exact q
        · rw [if_neg q] at hj; cases hj
      rw [if_pos hl] at hj
      cases hj
      have hs : (σ.set i (some v))[i]? = some (some v) := List.getElem?_set_self (by rw [← e.len]; exact hl)
      rw [hs, put_same]
      rcases hc with rfl | ⟨rfl, rfl⟩ | rfl
      · trivial
      · cases r.ow with
        | frz h => exact ⟨v, rfl, h⟩
      · exact ⟨v, rfl, r.ow⟩
    · rw [List.getElem?_set_ne h] at hj
      rw [List.getElem?_set_ne h, put_ne (Ne.symm h)]
      exact e.cell j cj hj
  nod := fun j => by
    by_cases h : j = i
    · subst h; rw [put_same]; exact r.nod
    · rw [put_ne h]; exact e.nod j
  dis := fun j l a hj hl => by
    by_cases h1 : j = i
    · subst h1
      rw [put_same] at hj
      by_cases h2 : l = j
      · exact h2.symm
      · rw [put_ne h2] at hl; exact absurd hl (r.dis a hj l)
    · rw [put_ne h1] at hj
      by_cases h2 : l = i
      · subst h2
        rw [put_same] at hl; exact absurd hj (r.dis a hl j)
      · rw [put_ne h2] at hl; exact e.dis j l a hj hl
  out := fun j a hj => by
    by_cases h : j = i
    · subst h; rw [put_same] at hj; exact r.out a hj
    · rw [put_ne h] at hj; exact e.out j a hj
  th := fun j a hj => by
    by_cases h : j = i
    · subst h
      rw [put_same] at hj
      obtain ⟨vs, q⟩ := Ow.there r.ow a hj
      rw [q]; simp
    · rw [put_ne h] at hj; exact e.th j a hj
theorem Stp.put {k : Nat} {A : List Addr} {v : V} {d : D} {i : Nat} (s : Stp F G H F' G' H') (r : Res K F G H F' G' H' k A v d) : Stp F G H (Q.put F' i A) G' H' :=
  ⟨s.g, s.h, fun j b hb => by
    by_cases h : j = i
    · subst h; rw [put_same] at hb; exact r.new b hb
    · rw [put_ne h] at hb; exact s.nf j b hb, s.ng, s.th⟩
theorem ln_upd {p : Addr} {o : HO} (l : ∀ a o, H a = some o → lenOk o) (ho : lenOk o) : ∀ a u, upd H p o a = some u → lenOk u := fun a u q => by
  by_cases h : a = p
  · subst h; rw [upd_same] at q; cases q; exact ho
  · rw [upd_ne h] at q; exact l a u q
theorem En.lenL {a : Addr} {vs : List V} (e : En K σ ρ F G H) (h : SqL K G a vs) : vs.length ≤ 16777216 := by
  rcases h with (h | ⟨o, h⟩) | ⟨o, its, n, _, _, _, _, hs, r⟩
  · exact e.ln a _ (e.same _ _ h)
  · exact e.fz a _ _ h
  · rw [r.length, Array.length_toList]; rw [sizeLine_eq] at hs; exact hs
/-- a new object that is frozen at once -/
theorem En.laid {p : Addr} {o : HO} (e : En K σ ρ F G H) (hp : H p = none) (ho : lenOk o) (hf : notFrz o) : En K σ ρ F (upd G p o) (upd H p o) ∧ Stp F G H F (upd G p o) (upd H p o) := by
  have hg : G p = none := e.same.free hp
  have sg : Same G (upd G p o) := fun b u q => by rw [upd_ne (ne_of_none q hg)]; exact q
  have sh : ∀ b u, H b = some u → upd H p o b = some u := fun b u q => by rw [upd_ne (ne_of_none q hp)]; exact q
  have gh : Same (upd G p o) (upd H p o) := fun b u q => by
    by_cases h : b = p
    · subst h; rw [upd_same] at q ⊢; exact q
    · rw [upd_ne h] at q ⊢; exact e.same b u q
  have n : ∀ i a, a ∈ F i → upd G p o a = none := fun i a ha => by
    rw [upd_ne (fun z => e.th i a ha (by rw [z]; exact hp))]
    exact e.out i a ha
  refine ⟨e.upto sg (fun _ b _ u q => sh b u q) gh n (ln_upd e.ln ho) (fun a ob vs q => by
    by_cases h : a = p
    · subst h; rw [upd_same] at q; cases q; exact hf.elim
    · rw [upd_ne h] at q; exact e.fz a ob vs q), ⟨sg, fun b u _ q => sh b u q, fun i b h => .inl ⟨i, h⟩, fun b hb hs => ?_, fun b hb => ?_⟩⟩
  · by_cases h : b = p
    · rw [h]; exact .inr hp
    · rw [upd_ne h] at hs; exact absurd hb hs
  · by_cases h : b = p
    · rw [h, upd_same]; simp
    · rw [upd_ne h]; exact hb
/-- a new object that stands beside -/
theorem En.beside {p : Addr} {o : HO} (e : En K σ ρ F G H) (hp : H p = none) (ho : lenOk o) : En K σ ρ F G (upd H p o) ∧ Stp F G H F G (upd H p o) := by
  have sh : ∀ b u, H b = some u → upd H p o b = some u := fun b u q => by rw [upd_ne (ne_of_none q hp)]; exact q
  refine ⟨e.upto (Same.refl _) (fun _ b _ u q => sh b u q) (fun b u q => sh b u (e.same b u q)) e.out (ln_upd e.ln ho) e.fz, ⟨Same.refl _, fun b u _ q => sh b u q, fun i b h => .inl ⟨i, h⟩, fun b hb hs => absurd hb hs, fun b hb => ?_⟩⟩
  by_cases h : b = p
  · rw [h, upd_same]; simp
  · rw [upd_ne h]; exact hb
end Q

/-! ## A small language and what it does to data -/
namespace Q
open PySem PySem.Spec PyProof.Rows L2

/-- built-in functions by values -/
inductive Bi where
  | len | abs | mn | mx | int | any | all | str
  deriving DecidableEq
inductive Ty where
  | int | bool | str | list | tuple
  deriving DecidableEq
mutual
inductive Tg where
  | nm (i : Nat)
  | tp (ts : Tgs)
inductive Tgs where
  | nil
  | cons (t : Tg) (ts : Tgs)
end
mutual
inductive E where
  | var (i : Nat)
  | mv (i k : Nat)
  | int (n : Int) | bl (b : Bool) | non | str (x : Str)
  | op (o : Operator) (a b : E)
  | neg (a : E)
  | cmp (o : CmpOp) (a b : E)
  | chn (o o' : CmpOp) (a b c : E)
  | and (a b : E) | or (a b : E) | not (a : E)
  | ite (c a b : E)
  | tup (es : Es)
  | lst (k : Nat) (es : Es)
  | ix (a b : E)
  | pk (i : Nat) (b : E)
  | lenv (i : Nat)
  | call (f rk : Nat) (es : Es)
  | callr (f rk i : Nat) (es : Es)
  | blt (b : Bi) (es : Es)
  | isi (a : E) (t : Ty)
  | comp (k : Nat) (own : List Nat) (tg : Tg) (it : It) (ifs : Os) (elt : E)
  | cat (a b : E)
inductive Es where
  | nil
  | cons (e : E) (es : Es)
inductive Os where
  | none
  | some (e : E)
inductive It where
  | lst (e : E)
  | tup (e : E)
  | rng (e : E)
  | rng2 (a b : E)
  | enum (e : E)
  | zip (a b : E)
end
/-- to which depth the value of an expression owns its lists -/
def E.dep : E → Nat
  | .mv _ k => k
  | .lst k _ => k + 1
  | .call _ rk _ => rk
  | .callr _ rk _ _ => rk
  | .comp k _ _ _ _ _ => k + 1
  | .cat _ _ => 1
  | _ => 0
mutual
inductive S where
  | set (i : Nat) (e : E)
  | seto (i : Nat) (e : E)
  | par (i j : Nat) (a b : E)
  | unp (ts : Tgs) (e : E)
  | ret (e : E)
  | expr (e : E)
  | ite (c : E) (a b : Ss)
  | whl (c : E) (b : Ss)
  | for (tg : Tg) (it : It) (b : Ss)
  | pass | cont | brk
  | app (i : Nat) (e : E)
  | sti (i : Nat) (b e : E)
  | never
  | raise (x m : Str)
inductive Ss where
  | nil
  | cons (s : S) (ss : Ss)
end

/-- an exception, by its class's name -/
abbrev XD := Str
abbrev Px := Env → XD → Prop
/-- a def's promise: the arguments, what is wanted of the value and of what the first argument has become, of an exception -/
abbrev FSp := List D → (D → D → Prop) → (D → XD → Prop) → Prop
structure Sig where
  name : Str
  /-- the depth to which the first argument is owned -/
  own : Option Nat
  np : Nat
  rk : Nat
structure Ent where
  sig : Sig
  sp : FSp

/-! ### operators by data -/
def opD : Operator → D → D → (D → Prop) → Prop
  | .Add, .int i, .int j, k => k (.int (i + j))
  | .Add, .str x, .str y, k => x.length + y.length ≤ sizeLine ∧ k (.str (x ++ y))
  | .Sub, .int i, .int j, k => k (.int (i - j))
  | .Mult, .int i, .int j, k => IntMulOk i j ∧ k (.int (i * j))
  | .FloorDiv, .int i, .int j, k => j ≠ 0 ∧ Builtin.divisionGoesByPylong i j = false ∧ k (.int (i.fdiv j))
  | .Mod, .int i, .int j, k => j ≠ 0 ∧ k (.int (i.fmod j))
  | .Pow, .int i, .int j, k => 0 ≤ j ∧ (Builtin.Int.intBits i : Int) * j ≤ 2 ^ 27 ∧ k (.int (i ^ j.toNat))
  | _, _, _, _ => False
def cmpD : CmpOp → D → D → (D → Prop) → Prop
  | .Lt, .int i, .int j, k => k (.bool (decide (i < j)))
  | .LtE, .int i, .int j, k => k (.bool (decide (i ≤ j)))
  | .Gt, .int i, .int j, k => k (.bool (decide (j < i)))
  | .GtE, .int i, .int j, k => k (.bool (decide (j ≤ i)))
  | .Eq, x, y, k => SeqAt.shaped x = true ∧ SeqAt.shaped y = true ∧ k (.bool (PyData.eqv x y))
  | .NotEq, x, y, k => SeqAt.shaped x = true ∧ SeqAt.shaped y = true ∧ k (.bool (!PyData.eqv x y))
  | .Is, .none, .none, k => k (.bool true)
  | .Is, .bool _, .none, k => k (.bool false)
  | .Is, .int _, .none, k => k (.bool false)
  | .Is, .str _, .none, k => k (.bool false)
  | .Is, .list _, .none, k => k (.bool false)
  | .Is, .tuple _, .none, k => k (.bool false)
  | .IsNot, .none, .none, k => k (.bool false)
  | .IsNot, .bool _, .none, k => k (.bool true)
  | .IsNot, .int _, .none, k => k (.bool true)
  | .IsNot, .str _, .none, k => k (.bool true)
  | .IsNot, .list _, .none, k => k (.bool true)
  | .IsNot, .tuple _, .none, k => k (.bool true)
  | _, _, _, _ => False
def ixD : D → D → (D → Prop) → Prop
  | .list ds, .int i, k => ∃ d, atI ds i = some d ∧ k d
  | .tuple ds, .int i, k => ∃ d, atI ds i = some d ∧ k d
  | _, _, _ => False
def bltD : Bi → List D → (D → Prop) → Prop
  | .len, [.list ds], k => k (.int ds.length)
  | .len, [.tuple ds], k => k (.int ds.length)
  | .abs, [.int i], k => k (.int (if i < 0 then -i else i))
  | .mn, [.int i, .int j], k => k (.int (if j < i then j else i))
  | .mx, [.int i, .int j], k => k (.int (if j > i then j else i))
  | .int, [.int i], k => k (.int i)
  | .int, [.bool b], k => k (.int (if b then 1 else 0))
  | .str, [.int i], k => i.natAbs.log2 < 1920 ∧ k (.str (toString i))
  | .str, [.str x], k => k (.str x)
  | .any, [.list ds], k => ∃ bs : List Bool, ds = bs.map PyData.bool ∧ k (.bool (bs.any id))
  | .all, [.list ds], k => ∃ bs : List Bool, ds = bs.map PyData.bool ∧ k (.bool (bs.all id))
  | _, _, _ => False
def isiD : D → Ty → Option Bool
  | .none, _ => some false
  | .bool _, .int => some true
  | .bool _, .bool => some true
  | .bool _, _ => some false
  | .int _, .int => some true
  | .int _, _ => some false
  | .str _, .str => some true
  | .str _, _ => some false
  | .list _, .list => some true
  | .list _, _ => some false
  | .tuple _, .tuple => some true
  | .tuple _, _ => some false
  | .dict _, _ => none

/-! ### stores -/
mutual
def asg : Tg → D → Env → (Env → Prop) → Prop
  | .nm i, d, ρ, k => k (ρ.set i (.va d))
  | .tp ts, .tuple ds, ρ, k => asgs ts ds ρ k
  | .tp _, _, _, _ => False
def asgs : Tgs → List D → Env → (Env → Prop) → Prop
  | .nil, [], ρ, k => k ρ
  | .cons t ts, d :: ds, ρ, k => asg t d ρ fun ρ1 => asgs ts ds ρ1 k
  | _, _, _, _ => False
end
/-- the slots of a comprehension's own names forgotten, and put back -/
def wip (ρ : Env) : List Nat → Env
  | [] => ρ
  | i :: is => (wip ρ is).set i .un
def notOw (ρ : Env) (is : List Nat) : Prop := ∀ i ∈ is, ∀ k d, ρ[i]? ≠ some (.ow k d)
def back (ρ ρ' : Env) : List Nat → Env
  | [] => ρ'
  | i :: is => (back ρ ρ' is).set i (ρ.getD i .un)
/-- one of two, by a truth value -/
@[irreducible] def sel (t : Bool) (A B : Prop) : Prop := if t = true then A else B
theorem sel_t {A B : Prop} : sel true A B = A := by unfold sel; exact if_pos rfl
theorem sel_f {A B : Prop} : sel false A B = B := by unfold sel; exact if_neg (by decide)
theorem sel_mk {t : Bool} {A B : Prop} (h1 : t = true → A) (h2 : t = false → B) : sel t A B := by
  cases t with
  | true => rw [sel_t]; exact h1 rfl
  | false => rw [sel_f]; exact h2 rfl
def compW (own : List Nat) (tg : Tg) (tst : Env → (Env → Bool → Prop) → Prop) (f : Env → (Env → D → Prop) → Prop) : List D → List D → Env → (Env → List D → Prop) → Prop
  | [], acc, ρ, Φ => Φ ρ acc
  | d :: ds, acc, ρ, Φ => asg tg d ρ fun ρ1 => tst ρ1 fun ρ2 b => sel b (f ρ2 fun ρ3 y => compW own tg tst f ds (acc ++ [y]) (wip ρ3 own) Φ) (compW own tg tst f ds acc (wip ρ2 own) Φ)

/-- a list of two -/
def catD : D → D → (D → Prop) → Prop
  | .list ds, .list es, k => ds.length + es.length ≤ 16777216 ∧ k (.list (ds ++ es))
  | _, _, _ => False
/-- an owned list's item: frozen where the depth is one -/
def pkD : Cell → D → (D → Prop) → Prop
  | .ow 1 (.list ds), .int i, k => ∃ d, atI ds i = some d ∧ k d
  | _, _, _ => False
def lenC : Cell → (D → Prop) → Prop
  | .ow (_ + 1) (.list ds), k => k (.int ds.length)
  | .va (.list ds), k => k (.int ds.length)
  | _, _ => False
def getC (ρ : Env) (i : Nat) : Cell := ρ.getD i .un
def isOw : Cell → Prop
  | .ow (_ + 1) (.list _) => True
  | _ => False
def xNo : Px := fun _ _ => False
def nolonger (n : Int) : Prop := n ≤ 16777216

/-! ### what an expression does: from the names' data to its value's -/
mutual
def ev (Γ : List Ent) : E → Env → (Env → D → Prop) → Px → Prop
  | .var i, ρ, Φ, _ => match getC ρ i with
    | .va d => Φ ρ d
    | .ow _ d => Φ (ρ.set i (.va d)) d
    | .un => False
  | .mv i k, ρ, Φ, _ => ∃ d, getC ρ i = .ow k d ∧ Φ (ρ.set i .un) d
  | .int n, ρ, Φ, _ => Φ ρ (.int n)
  | .bl b, ρ, Φ, _ => Φ ρ (.bool b)
  | .non, ρ, Φ, _ => Φ ρ .none
  | .str x, ρ, Φ, _ => Φ ρ (.str x)
  | .op o a b, ρ, Φ, Ξ => ev Γ a ρ (fun ρ1 x => ev Γ b ρ1 (fun ρ2 y => opD o x y (Φ ρ2)) Ξ) Ξ
  | .neg a, ρ, Φ, Ξ => ev Γ a ρ (fun ρ1 x => ∃ i, x = .int i ∧ Φ ρ1 (.int (-i))) Ξ
  | .cmp o a b, ρ, Φ, Ξ => ev Γ a ρ (fun ρ1 x => ev Γ b ρ1 (fun ρ2 y => cmpD o x y (Φ ρ2)) Ξ) Ξ
  | .chn o o' a b c, ρ, Φ, Ξ => ev Γ a ρ (fun ρ1 x => ev Γ b ρ1 (fun ρ2 y => cmpD o x y fun z => ∃ t, z = .bool t ∧
      sel t (ev Γ c ρ2 (fun ρ3 w => cmpD o' y w (Φ ρ3)) Ξ) (Φ ρ2 (.bool false))) Ξ) Ξ
  | .and a b, ρ, Φ, Ξ => ev Γ a ρ (fun ρ1 x => ∃ t, x = .bool t ∧ sel t (ev Γ b ρ1 Φ Ξ) (Φ ρ1 (.bool false))) Ξ
  | .or a b, ρ, Φ, Ξ => ev Γ a ρ (fun ρ1 x => ∃ t, x = .bool t ∧ sel t (Φ ρ1 (.bool true)) (ev Γ b ρ1 Φ Ξ)) Ξ
  | .not a, ρ, Φ, Ξ => ev Γ a ρ (fun ρ1 x => ∃ t, x = .bool t ∧ Φ ρ1 (.bool (!t))) Ξ
  | .ite c a b, ρ, Φ, Ξ => ev Γ c ρ (fun ρ1 x => ∃ t, x = .bool t ∧ sel t (ev Γ a ρ1 Φ Ξ) (ev Γ b ρ1 Φ Ξ)) Ξ
  | .tup es, ρ, Φ, Ξ => evs Γ es ρ (fun ρ1 ds => Φ ρ1 (.tuple ds)) Ξ
  | .lst _ es, ρ, Φ, Ξ => evs Γ es ρ (fun ρ1 ds => Φ ρ1 (.list ds)) Ξ
  | .ix a b, ρ, Φ, Ξ => ev Γ a ρ (fun ρ1 x => ev Γ b ρ1 (fun ρ2 y => ixD x y (Φ ρ2)) Ξ) Ξ
  | .pk i b, ρ, Φ, Ξ => isOw (getC ρ i) ∧ ev Γ b ρ (fun ρ1 y => pkD (getC ρ1 i) y (Φ ρ1)) Ξ
  | .lenv i, ρ, Φ, _ => lenC (getC ρ i) (Φ ρ)
  | .call f _ es, ρ, Φ, Ξ => evs Γ es ρ (fun ρ1 ds => ∃ g, Γ[f]? = some g ∧ g.sp ds (fun d _ => Φ ρ1 d) (fun _ x => Ξ ρ1 x)) Ξ
  | .callr f _ i es, ρ, Φ, Ξ => isOw (getC ρ i) ∧ evs Γ es ρ (fun ρ1 ds => ∃ g k d, Γ[f]? = some g ∧ g.sig.own = some k ∧ getC ρ1 i = .ow k d ∧ g.sp (d :: ds) (fun e d' => Φ (ρ1.set i (.ow k d')) e) (fun d' x => Ξ (ρ1.set i (.ow k d')) x)) Ξ
  | .blt b es, ρ, Φ, Ξ => evs Γ es ρ (fun ρ1 ds => bltD b ds (Φ ρ1)) Ξ
  | .isi a t, ρ, Φ, Ξ => ev Γ a ρ (fun ρ1 x => ∃ r, isiD x t = some r ∧ Φ ρ1 (.bool r)) Ξ
  | .comp _ own tg it ifs elt, ρ, Φ, Ξ => evIt Γ it ρ (fun ρ1 ds => notOw ρ1 own ∧ compW own tg (fun ρ k => evO Γ ifs ρ k) (fun ρ k => ev Γ elt ρ k xNo) ds [] (wip ρ1 own) fun ρ2 ys => Φ (back ρ1 ρ2 own) (.list ys)) Ξ
  | .cat a b, ρ, Φ, Ξ => ev Γ a ρ (fun ρ1 x => ev Γ b ρ1 (fun ρ2 y => catD x y (Φ ρ2)) Ξ) Ξ
def evs (Γ : List Ent) : Es → Env → (Env → List D → Prop) → Px → Prop
  | .nil, ρ, Φ, _ => Φ ρ []
  | .cons e es, ρ, Φ, Ξ => ev Γ e ρ (fun ρ1 d => evs Γ es ρ1 (fun ρ2 ds => Φ ρ2 (d :: ds)) Ξ) Ξ
def evO (Γ : List Ent) : Os → Env → (Env → Bool → Prop) → Prop
  | .none, ρ, Φ => Φ ρ true
  | .some e, ρ, Φ => ev Γ e ρ (fun ρ1 x => ∃ t, x = .bool t ∧ Φ ρ1 t) xNo
def evIt (Γ : List Ent) : It → Env → (Env → List D → Prop) → Px → Prop
  | .lst e, ρ, Φ, Ξ => ev Γ e ρ (fun ρ1 x => ∃ ds, x = .list ds ∧ Φ ρ1 ds) Ξ
  | .tup e, ρ, Φ, Ξ => ev Γ e ρ (fun ρ1 x => ∃ ds, x = .tuple ds ∧ ds.length ≤ 16777216 ∧ Φ ρ1 ds) Ξ
  | .rng e, ρ, Φ, Ξ => ev Γ e ρ (fun ρ1 x => ∃ n : Int, x = .int n ∧ (-16777216 ≤ n ∧ n ≤ 16777216) ∧ Φ ρ1 ((List.range n.toNat).map fun i => .int (i : Nat))) Ξ
  | .rng2 a b, ρ, Φ, Ξ => ev Γ a ρ (fun ρ1 x => ev Γ b ρ1 (fun ρ2 y => ∃ m n : Int, x = .int m ∧ y = .int n ∧ (-16777216 ≤ m ∧ m ≤ 16777216 ∧ -16777216 ≤ n ∧ n - m ≤ 16777216 ∧ n ≤ 16777216) ∧ Φ ρ2 ((List.range (n - m).toNat).map fun i => .int (m + (i : Nat)))) Ξ) Ξ
  | .enum e, ρ, Φ, Ξ => ev Γ e ρ (fun ρ1 x => ∃ ds, x = .list ds ∧ Φ ρ1 (ds.zipIdx.map fun p => .tuple [.int (p.2 : Nat), p.1])) Ξ
  | .zip a b, ρ, Φ, Ξ => ev Γ a ρ (fun ρ1 x => ev Γ b ρ1 (fun ρ2 y => ∃ ds es, x = .list ds ∧ y = .list es ∧ Φ ρ2 ((ds.zip es).map fun p => .tuple [p.1, p.2])) Ξ) Ξ
end

/-! ### what statements do -/
structure Kt where
  nx : Env → Prop
  rt : Env → D → Prop
  ct : Env → Prop
  bk : Env → Prop
  xc : Px
def whW (c : Env → (Env → Bool → Prop) → Prop) (body : (Env → Prop) → Env → Prop) (nx : Env → Prop) : Nat → Env → Prop
  | 0, _ => False
  | n + 1, ρ => c ρ fun ρ1 b => sel b (body (whW c body nx n) ρ1) (nx ρ1)
def forW (tg : Tg) (body : (Env → Prop) → Env → Prop) (nx : Env → Prop) : List D → Env → Prop
  | [], ρ => nx ρ
  | d :: ds, ρ => asg tg d ρ fun ρ1 => body (forW tg body nx ds) ρ1
def appC (p : Nat) : Cell → D → (Cell → Prop) → Prop
  | .ow (j + 1) (.list ds), d, k => (j = 0 ∨ j = p) ∧ ds.length < 16777216 ∧ k (.ow (j + 1) (.list (ds ++ [d])))
  | _, _, _ => False
def stiC : Cell → D → D → (Cell → Prop) → Prop
  | .ow 1 (.list ds), .int i, d, k => ∃ m, ixN ds.length i = some m ∧ k (.ow 1 (.list (ds.set m d)))
  | _, _, _, _ => False
mutual
def sv (Γ : List Ent) : S → Kt → Env → Prop
  | .set i e, κ, ρ => ev Γ e ρ (fun ρ1 d => κ.nx (ρ1.set i (.va d))) κ.xc
  | .seto i e, κ, ρ => ev Γ e ρ (fun ρ1 d => κ.nx (ρ1.set i (.ow e.dep d))) κ.xc
  | .par i j a b, κ, ρ => ev Γ a ρ (fun ρ1 x => ev Γ b ρ1 (fun ρ2 y => κ.nx ((ρ2.set i (.va x)).set j (.va y))) κ.xc) κ.xc
  | .unp ts e, κ, ρ => ev Γ e ρ (fun ρ1 d => asg (.tp ts) d ρ1 κ.nx) κ.xc
  | .ret e, κ, ρ => ev Γ e ρ κ.rt κ.xc
  | .expr e, κ, ρ => ev Γ e ρ (fun ρ1 _ => κ.nx ρ1) κ.xc
  | .ite c a b, κ, ρ => ev Γ c ρ (fun ρ1 x => ∃ t, x = .bool t ∧ sel t (svs Γ a κ ρ1) (svs Γ b κ ρ1)) κ.xc
  | .whl c b, κ, ρ => ∃ n, whW (fun ρ k => ev Γ c ρ (fun ρ1 x => ∃ t, x = .bool t ∧ k ρ1 t) κ.xc) (fun k ρ => svs Γ b { κ with nx := k, ct := k, bk := κ.nx } ρ) κ.nx n ρ
  | .for tg it b, κ, ρ => evIt Γ it ρ (fun ρ1 ds => forW tg (fun k ρ => svs Γ b { κ with nx := k, ct := k, bk := κ.nx } ρ) κ.nx ds ρ1) κ.xc
  | .pass, κ, ρ => κ.nx ρ
  | .cont, κ, ρ => κ.ct ρ
  | .brk, κ, ρ => κ.bk ρ
  | .app i e, κ, ρ => isOw (getC ρ i) ∧ ev Γ e ρ (fun ρ1 d => appC e.dep (getC ρ1 i) d fun c => κ.nx (ρ1.set i c)) κ.xc
  | .sti i b e, κ, ρ => ev Γ e ρ (fun ρ1 d => isOw (getC ρ1 i) ∧ ev Γ b ρ1 (fun ρ2 y => stiC (getC ρ2 i) y d fun c => κ.nx (ρ2.set i c)) κ.xc) κ.xc
  | .never, _, _ => False
  | .raise x _, κ, ρ => κ.xc ρ x
def svs (Γ : List Ent) : Ss → Kt → Env → Prop
  | .nil, κ, ρ => κ.nx ρ
  | .cons s ss, κ, ρ => sv Γ s { κ with nx := fun ρ1 => svs Γ ss κ ρ1 } ρ
end
end Q

/-! ## What the language does is what the model does -/
namespace Q
open PySem PySem.Spec PyProof.Rows L2

/-- an exception of a class without fields -/
def XR (mg : Str → Option Value) (x : XD) (cls : Value) (dd : Option Addr) : Prop := mg x = some cls ∧ dd = none
/-- a def's promise, over heaps -/
def cellsOf (own : Option Nat) : List D → Env
  | [] => []
  | d :: ds => (match own with | none => Cell.va d | some k => Cell.ow k d) :: ds.map Cell.va
/-- the arguments behind a call -/
def outDs (own : Option Nat) (ds : List D) (d' : D) : List D := match own with
  | none => ds
  | some _ => ds.set 0 d'
def toSp (K : PySem.W.Frag) (mg : Str → Option Value) (g : Ent) : Sp := fun vs H Q E => vs.length = g.sig.np ∧ ∃ (ds : List D) (F : Foot) (G : Hp) (Φ : D → D → Prop) (Ξ : D → XD → Prop),
  En K (vs.map some) (cellsOf g.sig.own ds) F G H ∧ g.sp ds Φ Ξ ∧
  (∀ d d' v A F' G' H', Φ d d' → En K (vs.map some) (cellsOf g.sig.own (outDs g.sig.own ds d')) F' G' H' → Res K F G H F' G' H' g.sig.rk A v d → Stp F G H F' G' H' → Q v H') ∧
  (∀ x d' F' G' H' cls dd, Ξ d' x → En K (vs.map some) (cellsOf g.sig.own (outDs g.sig.own ds d')) F' G' H' → Stp F G H F' G' H' → XR mg x cls dd → E cls dd H')

/-- what the contexts of a def's code have in common -/
structure Ctx where
  P : Program
  w : World
  K : PySem.W.Frag
  mg : Str → Option Value
  base : Heap
  A : Around
  N : List Str
structure Is (c : Ctx) (sc : Scope) (W : WX) (X : Cx) : Prop where
  P : X.prog = c.P
  w : X.w = c.w
  K : X.K = c.K
  mg : X.mg = c.mg
  base : X.base = c.base
  A : X.A = c.A
  N : X.N = c.N
  sc : X.env.scope = sc
  calm : X.calm = true
  takes : L2N.Takes X W
/-- the outer names that code uses: built-in ones, classes of errors -/
structure Bl where
  b : List Str
  x : List Str
/-- an error's class without fields -/
def XOk (K : PySem.W.Frag) (mg : Str → Option Value) (x : Str) : Prop := ∃ (C : Addr) (B newId initId : String) (bmB : List Value), mg x = some (.ref C) ∧ PySem.W.keepIn K (.ref C) = true ∧ ExcBaseFacts B newId initId bmB ∧ PySem.W.excIn K C bmB newId = true ∧
  PySem.W.subIn K (.ref C) (.type "BaseException") = some true ∧ PySem.W.typeIn K (.ref C) = some (.type "type")
/-- what holds where code runs -/
structure Sd (c : Ctx) (Γ : List Ent) (bl : Bl) : Prop where
  nd : c.N.Nodup
  hu : c.A.units + 64 < cLine
  gok : ∀ (f : Nat) g, Γ[f]? = some g → ∃ (a : Addr) (fd : FuncData) (ps : List Str) (k : Nat), FnOk c.P c.w c.K c.mg c.base (L2N.CX c.P c.w) k a fd ps (toSp c.K c.mg g) ∧ Room k c.A ∧
    c.mg g.sig.name = some (.ref a) ∧ PySem.W.keepIn c.K (.ref a) = true ∧ Binds c.K fd ps []
  bok : ∀ x ∈ bl.b, c.mg x = none
  xok : ∀ x ∈ bl.x, XOk c.K c.mg x
def GlS (sc : Scope) (x : Str) : Prop := sc.names.lookup x = some .globalImplicit
theorem Is.gl {c : Ctx} {sc : Scope} {W : WX} {X : Cx} {x : Str} (h : Is c sc W X) (g : GlS sc x) : Gl X x := by
  show X.env.scope.names.lookup x = some .globalImplicit
  rw [h.sc]; exact g
theorem Is.vis {c : Ctx} {sc : Scope} {W : WX} {X : Cx} {x : Str} (h : Is c sc W X) (g : Vis sc x) : Vis X.env.scope x := by rw [h.sc]; exact g
theorem Is.ix {c : Ctx} {sc : Scope} {W : WX} {X : Cx} {i : Nat} {x : Str} (h : Is c sc W X) (g : c.N[i]? = some x) : X.N[i]? = some x := by rw [h.N]; exact g
theorem Is.no {c : Ctx} {sc : Scope} {W : WX} {X : Cx} {x : Str} (h : Is c sc W X) (g : c.mg x = none) : X.mg x = none := by rw [h.mg]; exact g

abbrev TrE := Env → (Env → D → Prop) → Px → Prop
abbrev TrT := Env → (Env → Bool → Prop) → Px → Prop
abbrev TrL := Env → (Env → List D → Prop) → Px → Prop
variable {c : Ctx} {sc : Scope} {W : WX} {Γ : List Ent} {bl : Bl}

/-- the exceptions' part -/
def Xc (c : Ctx) (W : WX) (σ : Sg) (F : Foot) (G H : Hp) (Ξ : Px) : Prop :=
  ∀ ρ' x F' G' H' cls dd, Ξ ρ' x → En c.K σ ρ' F' G' H' → Stp F G H F' G' H' → XR c.mg x cls dd → W cls dd σ H'
theorem Xc.stp {σ : Sg} {F F' : Foot} {G H G' H' : Hp} {Ξ : Px} (xc : Xc c W σ F G H Ξ) (s : Stp F G H F' G' H') : Xc c W σ F' G' H' Ξ :=
  fun ρ' x F2 G2 H2 cls dd hx e s2 r => xc ρ' x F2 G2 H2 cls dd hx e (s.trans s2) r
def AE (c : Ctx) (sc : Scope) (W : WX) (e : Expr) (k : Nat) (T : TrE) : Prop := ∃ t : TE, (∀ X, Is c sc W X → PE X e t) ∧ ∀ (ρ : Env) (Φ : Env → D → Prop) (Ξ : Px) (σ : Sg) (F : Foot) (G H : Hp) (Q : VK), En c.K σ ρ F G H → T ρ Φ Ξ →
  (∀ ρ' d v A F' G' H', Φ ρ' d → En c.K σ ρ' F' G' H' → Res c.K F G H F' G' H' k A v d → Stp F G H F' G' H' → Q v H') → Xc c W σ F G H Ξ → t σ H Q
def AT (c : Ctx) (sc : Scope) (W : WX) (e : Expr) (T : TrT) : Prop := ∃ t : TT, (∀ X, Is c sc W X → PT X e t) ∧ ∀ (ρ : Env) (Φ : Env → Bool → Prop) (Ξ : Px) (σ : Sg) (F : Foot) (G H : Hp) (Q : Bool → Hp → Prop), En c.K σ ρ F G H → T ρ Φ Ξ →
  (∀ ρ' b F' G' H', Φ ρ' b → En c.K σ ρ' F' G' H' → Stp F G H F' G' H' → Q b H') → Xc c W σ F G H Ξ → t σ H Q
def AW (c : Ctx) (sc : Scope) (W : WX) (e : Expr) (T : TrT) : Prop := ∃ t : TT, (∀ X, Is c sc W X → PW X e t) ∧ ∀ (ρ : Env) (Φ : Env → Bool → Prop) (Ξ : Px) (σ : Sg) (F : Foot) (G H : Hp) (Q : Bool → Hp → Prop), En c.K σ ρ F G H → T ρ Φ Ξ →
  (∀ ρ' b F' G' H', Φ ρ' b → En c.K σ ρ' F' G' H' → Stp F G H F' G' H' → Q b H') → Xc c W σ F G H Ξ → t σ H Q
/-- several values, with the places that they own -/
structure Ress (K : PySem.W.Frag) (F : Foot) (G H : Hp) (F' : Foot) (G' H' : Hp) (k : Nat) (A : List Addr) (vs : List V) (ds : List D) : Prop where
  ow : Ows K G' H' k A vs ds
  nod : A.Nodup
  out : ∀ a ∈ A, G' a = none
  dis : ∀ a ∈ A, ∀ i, a ∉ F' i
  new : ∀ a ∈ A, (∃ j, a ∈ F j) ∨ H a = none
def AL (c : Ctx) (sc : Scope) (W : WX) (es : List Expr) (m n : Nat) (T : TrL) : Prop := ∃ t : TA, (∀ X, Is c sc W X → PA X es t) ∧ ∀ (ρ : Env) (Φ : Env → List D → Prop) (Ξ : Px) (σ : Sg) (F : Foot) (G H : Hp) (Q : List V → Hp → Prop), En c.K σ ρ F G H → T ρ Φ Ξ →
  (∀ ρ' ds vs A F' G' H', Φ ρ' ds → ds.length = n → En c.K σ ρ' F' G' H' → Ress c.K F G H F' G' H' m A vs ds → Stp F G H F' G' H' → Q vs H') → Xc c W σ F G H Ξ → t σ H Q

theorem Res.dp {K : PySem.W.Frag} {F F' : Foot} {G H G' H' : Hp} {A : List Addr} {v : V} {d : D} (r : Res K F G H F' G' H' 0 A v d) : Dp K G' v d := by
  cases r.ow with
  | frz h => exact h
theorem Ress.dp {K : PySem.W.Frag} {F F' : Foot} {G H G' H' : Hp} {A : List Addr} {vs : List V} {ds : List D} (r : Ress K F G H F' G' H' 0 A vs ds) : DpAll K G' vs ds := (Ows.to_frz r.ow).2
/-- what is frozen is forgotten -/
theorem AE.frz {e : Expr} {k : Nat} {T : TrE} (h : AE c sc W e k T) : AE c sc W e 0 T := by
  obtain ⟨t, ht, hs⟩ := h
  refine ⟨t, ht, fun ρ Φ Ξ σ F G H Q e0 hT hQ hx => hs ρ Φ Ξ σ F G H Q e0 hT (fun ρ' d v A F' G' H' q e1 r s => ?_) hx⟩
  obtain ⟨h1, h2, h3⟩ := r.freeze e1
  exact hQ ρ' d v [] F' _ H' q h2 (.frz h1) (h3 s)
theorem AE.to {e : Expr} {k m : Nat} {T : TrE} (h : AE c sc W e k T) (hm : m = 0 ∨ k = m) : AE c sc W e m T := by
  rcases hm with rfl | rfl
  · exact h.frz
  · exact h

theorem getC_some {ρ : Env} {i : Nat} {c : Cell} (h : getC ρ i = c) (hn : c ≠ .un) : ρ[i]? = some c := by
  unfold getC at h
  rw [List.getD_eq_getElem?_getD] at h
  cases q : ρ[i]? with
  | none => rw [q] at h; exact absurd h.symm hn
  | some d => rw [q] at h; exact congrArg some h
/-- an owned cell is frozen -/
theorem En.freeze {K : PySem.W.Frag} {σ : Sg} {ρ : Env} {F : Foot} {G H : Hp} {i k : Nat} {d : D} (e : En K σ ρ F G H) (h : ρ[i]? = some (.ow k d)) :
    ∃ v G', σ[i]? = some (some v) ∧ Dp K G' v d ∧ En K σ (ρ.set i (.va d)) (put F i []) G' H ∧ Stp F G H (put F i []) G' H := by
  obtain ⟨v, hv, ho⟩ : ∃ v, σ[i]? = some (some v) ∧ Ow K G H k (F i) v d := e.cell i _ h
  have n : ∀ a ∈ F i, G a = none := e.out i
  have g := same_grow (H := H) n
  have hd : Dp K (grow G H (F i)) v d := Ow.freeze g (fun _ h => h) ho
  refine ⟨v, grow G H (F i), hv, hd, ⟨grow_same e.same, by simp [e.len], fun j c hc => ?_, fun j => ?_, fun j l a hj hl => ?_, fun j a hj => ?_, fun j a hj => ?_, e.ln, fz_grow e.fz fun a ha => Ow.there ho a ha⟩, ⟨g, fun b o _ q => q, fun j b hb => ?_, fun b hb hs => ?_, fun _ q => q⟩⟩
  · by_cases q : i = j
    · subst q
      have hl : i < ρ.length := (List.getElem?_eq_some_iff.mp h).1
      rw [List.getElem?_set_self hl] at hc
      cases hc
      exact ⟨v, hv, hd⟩
    · rw [List.getElem?_set_ne q] at hc
      rw [put_ne (Ne.symm q)]
      exact CellOk.mono g (fun _ _ _ q => q) (e.cell j c hc)
  · by_cases q : j = i
    · subst q; rw [put_same]; exact .nil
    · rw [put_ne q]; exact e.nod j
  · by_cases q : j = i
    · subst q; rw [put_same] at hj; cases hj
    · rw [put_ne q] at hj
      by_cases q2 : l = i
      · subst q2; rw [put_same] at hl; cases hl
      · rw [put_ne q2] at hl; exact e.dis j l a hj hl
  · by_cases q : j = i
    · subst q; rw [put_same] at hj; cases hj
    · rw [put_ne q] at hj
      unfold grow
      rw [if_neg (fun z => q (e.dis j i a hj z))]
      exact e.out j a hj
  · by_cases q : j = i
    · subst q; rw [put_same] at hj; cases hj
    · rw [put_ne q] at hj; exact e.th j a hj
  · by_cases q : j = i
    · subst q; rw [put_same] at hb; cases hb
    · rw [put_ne q] at hb; exact .inl ⟨j, hb⟩
  · unfold grow at hs
    by_cases q : b ∈ F i
    · exact .inl ⟨i, q⟩
    · rw [if_neg q] at hs; exact absurd hb hs
/-- an owned cell is moved out -/
theorem En.move {K : PySem.W.Frag} {σ : Sg} {ρ : Env} {F : Foot} {G H : Hp} {i k : Nat} {d : D} (e : En K σ ρ F G H) (h : ρ[i]? = some (.ow k d)) :
    ∃ v, σ[i]? = some (some v) ∧ En K σ (ρ.set i .un) (put F i []) G H ∧ Stp F G H (put F i []) G H ∧ Res K F G H (put F i []) G H k (F i) v d := by
  obtain ⟨v, hv, ho⟩ : ∃ v, σ[i]? = some (some v) ∧ Ow K G H k (F i) v d := e.cell i _ h
  refine ⟨v, hv, ⟨e.same, by simp [e.len], fun j c hc => ?_, fun j => ?_, fun j l a hj hl => ?_, fun j a hj => ?_, fun j a hj => ?_, e.ln, e.fz⟩, ⟨Same.refl _, fun b o _ q => q, fun j b hb => ?_, fun b hb hs => absurd hb hs, fun _ q => q⟩, ⟨ho, e.nod i, e.out i, fun a ha j hj => ?_, fun a ha => .inl ⟨i, ha⟩⟩⟩
  · by_cases q : i = j
    · subst q
      have hl : i < ρ.length := (List.getElem?_eq_some_iff.mp h).1
      rw [List.getElem?_set_self hl] at hc
      cases hc
      trivial
    · rw [List.getElem?_set_ne q] at hc
      rw [put_ne (Ne.symm q)]
      exact e.cell j c hc
  · by_cases q : j = i
    · subst q; rw [put_same]; exact .nil
    · rw [put_ne q]; exact e.nod j
  · by_cases q : j = i
    · subst q; rw [put_same] at hj; cases hj
    · rw [put_ne q] at hj
      by_cases q2 : l = i
      · subst q2; rw [put_same] at hl; cases hl
      · rw [put_ne q2] at hl; exact e.dis j l a hj hl
  · by_cases q : j = i
    · subst q; rw [put_same] at hj; cases hj
    · rw [put_ne q] at hj; exact e.out j a hj
  · by_cases q : j = i
    · subst q; rw [put_same] at hj; cases hj
    · rw [put_ne q] at hj; exact e.th j a hj
  · by_cases q : j = i
    · subst q; rw [put_same] at hb; cases hb
    · rw [put_ne q] at hb; exact .inl ⟨j, hb⟩
  · by_cases q : j = i
    · subst q; rw [put_same] at hj; cases hj
    · rw [put_ne q] at hj; exact q (e.dis j i a hj ha)

/-! ### names and constants -/
theorem ae_var {i : Nat} {x : Str} {pos : Pos} (h : c.N[i]? = some x) (hv : Vis sc x) (hd : (x == ("__debug__" : Str)) = false) (hcd : (x == ("__classdict__" : Str)) = false) : AE c sc W (.Name x pos) 0 (ev Γ (.var i)) := by
  refine ⟨_, fun X hX => pe_var (hX.ix h) (hX.vis hv) hd hcd, fun ρ Φ Ξ σ F G H Q e hT hQ _ => ?_⟩
  unfold ev at hT
  cases q : getC ρ i with
  | un => rw [q] at hT; exact hT.elim
  | va d =>
    rw [q] at hT
    obtain ⟨v, h1, h2⟩ : ∃ v, σ[i]? = some (some v) ∧ Dp c.K G v d := e.cell i _ (getC_some q (by simp))
    exact ⟨v, h1, hQ ρ d v [] F G H hT e (.frz h2) (.refl _ _ _)⟩
  | ow k d =>
    rw [q] at hT
    obtain ⟨v, G', h1, h2, h3, h4⟩ := e.freeze (getC_some q (by simp))
    exact ⟨v, h1, hQ _ d v [] _ G' H hT h3 (.frz h2) h4⟩
theorem ae_mv {i k : Nat} {x : Str} {pos : Pos} (h : c.N[i]? = some x) (hv : Vis sc x) (hd : (x == ("__debug__" : Str)) = false) (hcd : (x == ("__classdict__" : Str)) = false) : AE c sc W (.Name x pos) k (ev Γ (.mv i k)) := by
  refine ⟨_, fun X hX => pe_var (hX.ix h) (hX.vis hv) hd hcd, fun ρ Φ Ξ σ F G H Q e hT hQ _ => ?_⟩
  unfold ev at hT
  obtain ⟨d, q, hT⟩ := hT
  obtain ⟨v, h1, h2, h3, h4⟩ := e.move (getC_some q (by simp))
  exact ⟨v, h1, hQ _ d v _ _ G H hT h2 h4 h3⟩
theorem ae_const {e : Expr} {v : V} {d : D} {T : TrE} (h : ∀ X, PE X e (tC v)) (hd : ∀ G : Hp, Dp c.K G v d) (hT : ∀ ρ Φ Ξ, T ρ Φ Ξ → Φ ρ d) : AE c sc W e 0 T :=
  ⟨_, fun X _ => h X, fun ρ Φ Ξ σ F G H Q e q hQ _ => hQ ρ d v [] F G H (hT _ _ _ q) e (.frz (hd G)) (.refl _ _ _)⟩
/-- two expressions in a row, both frozen -/
theorem ae_two {a b : Expr} {ta tb : TE} {Ta Tb : TrE} {ρ : Env} {Ξ : Px} {σ : Sg} {F : Foot} {G H : Hp} {R : V → V → Hp → Prop} {Φ : Env → D → D → Prop}
    (ha : ∀ (ρ : Env) (Φ : Env → D → Prop) (Ξ : Px) (σ : Sg) (F : Foot) (G H : Hp) (Q : VK), En c.K σ ρ F G H → Ta ρ Φ Ξ → (∀ ρ' d v A F' G' H', Φ ρ' d → En c.K σ ρ' F' G' H' → Res c.K F G H F' G' H' 0 A v d → Stp F G H F' G' H' → Q v H') → Xc c W σ F G H Ξ → ta σ H Q)
    (hb : ∀ (ρ : Env) (Φ : Env → D → Prop) (Ξ : Px) (σ : Sg) (F : Foot) (G H : Hp) (Q : VK), En c.K σ ρ F G H → Tb ρ Φ Ξ → (∀ ρ' d v A F' G' H', Φ ρ' d → En c.K σ ρ' F' G' H' → Res c.K F G H F' G' H' 0 A v d → Stp F G H F' G' H' → Q v H') → Xc c W σ F G H Ξ → tb σ H Q)
    (e : En c.K σ ρ F G H) (hx : Xc c W σ F G H Ξ) (hT : Ta ρ (fun ρ1 x => Tb ρ1 (fun ρ2 y => Φ ρ2 x y) Ξ) Ξ)
    (k : ∀ ρ2 x y v u F2 G2 H2, Φ ρ2 x y → En c.K σ ρ2 F2 G2 H2 → Dp c.K G2 v x → Dp c.K G2 u y → Stp F G H F2 G2 H2 → R v u H2) :
    ta σ H fun v H1 => tb σ H1 fun u H2 => R v u H2 :=
  ha ρ _ Ξ σ F G H _ e hT (fun ρ1 x v A F1 G1 H1 q1 e1 r1 s1 => hb ρ1 _ Ξ σ F1 G1 H1 _ e1 q1 (fun ρ2 y u B F2 G2 H2 q2 e2 r2 s2 =>
    k ρ2 x y v u F2 G2 H2 q2 e2 (Dp.mono s2.g r1.dp) r2.dp (s1.trans s2)) (hx.stp s1)) hx
/-- an operator whose reading holds where its data allow it -/
theorem ae_bin {e a b : Expr} {Ta Tb : TrE} {r : R2} {f : D → D → (D → Prop) → Prop} (ha : AE c sc W a 0 Ta) (hb : AE c sc W b 0 Tb) (hp : ∀ X, Is c sc W X → ∀ {ta tb : TE}, PE X a ta → PE X b tb → PE X e (tOp r ta tb))
    (hr : ∀ x y v u (Φ : D → Prop) (G H : Hp) (Q : VK), Same G H → f x y Φ → Dp c.K G v x → Dp c.K G u y → (∀ d z, Φ d → (∀ G : Hp, Dp c.K G z d) → Q z H) → r v u H Q) :
    AE c sc W e 0 (fun ρ Φ Ξ => Ta ρ (fun ρ1 x => Tb ρ1 (fun ρ2 y => f x y (Φ ρ2)) Ξ) Ξ) := by
  obtain ⟨ta, pa, sa⟩ := ha
  obtain ⟨tb, pb, sb⟩ := hb
  refine ⟨_, fun X hX => hp X hX (pa X hX) (pb X hX), fun ρ Φ Ξ σ F G H Q e0 hT hQ hx => ?_⟩
  refine ae_two (a := a) (b := b) (Φ := fun ρ2 x y => f x y (Φ ρ2)) sa sb e0 hx hT fun ρ2 x y v u F2 G2 H2 q e2 dv du s2 => ?_
  exact hr x y v u (Φ ρ2) G2 H2 Q e2.same q dv du fun d z hd hz => hQ ρ2 d z [] F2 G2 H2 hd e2 (.frz (hz G2)) s2
theorem ae_uni {e a : Expr} {Ta : TrE} {r : V → Hp → VK → Prop} {f : D → (D → Prop) → Prop} (ha : AE c sc W a 0 Ta) (hp : ∀ X, Is c sc W X → ∀ {ta : TE}, PE X a ta → PE X e (tUn r ta))
    (hr : ∀ x v (Φ : D → Prop) (G H : Hp) (Q : VK), Same G H → f x Φ → Dp c.K G v x → (∀ d z, Φ d → (∀ G : Hp, Dp c.K G z d) → Q z H) → r v H Q) :
    AE c sc W e 0 (fun ρ Φ Ξ => Ta ρ (fun ρ1 x => f x (Φ ρ1)) Ξ) := by
  obtain ⟨ta, pa, sa⟩ := ha
  refine ⟨_, fun X hX => hp X hX (pa X hX), fun ρ Φ Ξ σ F G H Q e0 hT hQ hx => ?_⟩
  refine sa ρ _ Ξ σ F G H _ e0 hT (fun ρ1 x v A F1 G1 H1 q1 e1 r1 s1 => ?_) hx
  exact hr x v (Φ ρ1) G1 H1 Q e1.same q1 r1.dp fun d z hd hz => hQ ρ1 d z [] F1 G1 H1 hd e1 (.frz (hz G1)) s1
end Q

namespace Q
open PySem PySem.Spec PyProof.Rows L2
variable {c : Ctx} {sc : Scope} {W : WX} {Γ : List Ent} {bl : Bl}

def Snd (c : Ctx) (W : WX) (k : Nat) (T : TrE) (t : TE) : Prop := ∀ (ρ : Env) (Φ : Env → D → Prop) (Ξ : Px) (σ : Sg) (F : Foot) (G H : Hp) (Q : VK), En c.K σ ρ F G H → T ρ Φ Ξ →
  (∀ ρ' d v A F' G' H', Φ ρ' d → En c.K σ ρ' F' G' H' → Res c.K F G H F' G' H' k A v d → Stp F G H F' G' H' → Q v H') → Xc c W σ F G H Ξ → t σ H Q
def testOf (T : TrE) : TrT := fun ρ Φ Ξ => T ρ (fun ρ1 x => ∃ b, x = .bool b ∧ Φ ρ1 b) Ξ
/-- as a value and as a test -/
def AB (c : Ctx) (sc : Scope) (W : WX) (e : Expr) (k : Nat) (T : TrE) : Prop := ∃ t : TE, (∀ X, Is c sc W X → PE X e t) ∧ (∀ X, Is c sc W X → PT X e (tB t)) ∧ Snd c W k T t
theorem AB.ae {e : Expr} {k : Nat} {T : TrE} (h : AB c sc W e k T) : AE c sc W e k T := let ⟨t, a, _, s⟩ := h; ⟨t, a, s⟩
theorem Res.bool {K : PySem.W.Frag} {F F' : Foot} {G H G' H' : Hp} {k : Nat} {A : List Addr} {v : V} {b : Bool} (r : Res K F G H F' G' H' k A v (.bool b)) : v = .bl b := by
  cases r.ow with
  | frz h => cases h; rfl
  | flt _ h => cases h; rfl
theorem AB.at {e : Expr} {k : Nat} {T : TrE} (h : AB c sc W e k T) : AT c sc W e (testOf T) := by
  obtain ⟨t, _, b, s0⟩ := h
  refine ⟨_, b, fun ρ Φ Ξ σ F G H Q e0 hT hQ hx => ?_⟩
  refine s0 ρ _ Ξ σ F G H _ e0 hT (fun ρ' d v A F' G' H' q e1 r s => ?_) hx
  obtain ⟨b, rfl, q⟩ := q
  exact ⟨b, r.bool, hQ ρ' b F' G' H' q e1 s⟩
theorem AE.ab {e : Expr} {k : Nat} {T : TrE} (h : AE c sc W e k T) (he : ∀ env whole, isTrue e env whole = (do let v ← whole; standAt e.pos; holding [v] (truthy v))) : AB c sc W e k T :=
  let ⟨t, a, s⟩ := h; ⟨t, a, fun X hX => pt_val (a X hX) (he _), s⟩

/-! ### operators -/
theorem opQ_mul {X : Cx} : OpR X (binaryOp .Mult) (rI IntMulOk fun i j => .int (i * j)) := opI fun _ _ _ _ _ _ _ hc q => mul_int q hc
theorem opQ_div {X : Cx} : OpR X (binaryOp .FloorDiv) (rI (fun i j => j ≠ 0 ∧ Builtin.divisionGoesByPylong i j = false) fun i j => .int (i.fdiv j)) := opI fun _ _ _ _ _ _ _ hc q => floordiv_int hc.1 q (.inl hc.2)
theorem opQ_pow {X : Cx} : OpR X (binaryOp .Pow) (rI (fun i j => 0 ≤ j ∧ (Builtin.Int.intBits i : Int) * j ≤ 2 ^ 27) fun i j => .int (i ^ j.toNat)) := opI fun _ _ _ _ _ _ _ hc q => pow_int hc.1 hc.2 q
def okOp : Operator → Bool
  | .Add | .Sub | .Mult | .FloorDiv | .Mod | .Pow => true
  | _ => false
theorem ae_op {o : Operator} {a b : Expr} {Ta Tb : TrE} {pos : Pos} (ho : okOp o = true) (ha : AE c sc W a 0 Ta) (hb : AE c sc W b 0 Tb) : AE c sc W (.BinOp a o b pos) 0 (fun ρ Φ Ξ => Ta ρ (fun ρ1 x => Tb ρ1 (fun ρ2 y => opD o x y (Φ ρ2)) Ξ) Ξ) := by
  cases o <;> first | (cases ho; done) | skip
  · refine ae_bin ha hb (fun _ _ _ _ h1 h2 => pe_op (op_add.or op_add_str) h1 h2) fun x y v u Φ G H Q g f dv du k => ?_
    cases x <;> cases y <;> simp only [opD] at f <;> first | exact f.elim | skip
    · cases dv; cases du; exact .inl ⟨_, _, rfl, rfl, k _ _ f fun G => .int _⟩
    · cases dv; cases du; exact .inr ⟨_, _, rfl, rfl, f.1, k _ _ f.2 fun G => .str _⟩
  · refine ae_bin ha hb (fun _ _ _ _ h1 h2 => pe_op op_sub h1 h2) fun x y v u Φ G H Q g f dv du k => ?_
    cases x <;> cases y <;> simp only [opD] at f <;> first | exact f.elim | skip
    cases dv; cases du; exact ⟨_, _, rfl, rfl, k _ _ f fun G => .int _⟩
  · refine ae_bin ha hb (fun _ _ _ _ h1 h2 => pe_op opQ_mul h1 h2) fun x y v u Φ G H Q g f dv du k => ?_
    cases x <;> cases y <;> simp only [opD] at f <;> first | exact f.elim | skip
    cases dv; cases du; exact ⟨_, _, rfl, rfl, f.1, k _ _ f.2 fun G => .int _⟩
  · refine ae_bin ha hb (fun _ _ _ _ h1 h2 => pe_op op_modN h1 h2) fun x y v u Φ G H Q g f dv du k => ?_
    cases x <;> cases y <;> simp only [opD] at f <;> first | exact f.elim | skip
    cases dv; cases du; exact ⟨_, _, rfl, rfl, f.1, k _ _ f.2 fun G => .int _⟩
  · refine ae_bin ha hb (fun _ _ _ _ h1 h2 => pe_op opQ_pow h1 h2) fun x y v u Φ G H Q g f dv du k => ?_
    cases x <;> cases y <;> simp only [opD] at f <;> first | exact f.elim | skip
    cases dv; cases du; exact ⟨_, _, rfl, rfl, ⟨f.1, f.2.1⟩, k _ _ f.2.2 fun G => .int _⟩
  · refine ae_bin ha hb (fun _ _ _ _ h1 h2 => pe_op opQ_div h1 h2) fun x y v u Φ G H Q g f dv du k => ?_
    cases x <;> cases y <;> simp only [opD] at f <;> first | exact f.elim | skip
    cases dv; cases du; exact ⟨_, _, rfl, rfl, ⟨f.1, f.2.1⟩, k _ _ f.2.2 fun G => .int _⟩
theorem ae_neg {a : Expr} {Ta : TrE} {pos : Pos} (ha : AE c sc W a 0 Ta) : AE c sc W (.UnaryOp .USub a pos) 0 (fun ρ Φ Ξ => Ta ρ (fun ρ1 x => ∃ i, x = .int i ∧ Φ ρ1 (.int (-i))) Ξ) := by
  refine ae_uni (f := fun x k => ∃ i, x = .int i ∧ k (.int (-i))) ha (fun _ _ _ h => pe_un un_neg h) fun x v Φ G H Q g f dv k => ?_
  obtain ⟨i, rfl, f⟩ := f
  cases dv
  exact ⟨_, rfl, k _ _ f fun G => .int _⟩

/-! ### comparisons -/
def okCmp : CmpOp → Bool
  | .Lt | .LtE | .Gt | .GtE | .Eq | .NotEq | .Is | .IsNot => true
  | _ => false
/-- the reading of a comparison -/
def cmpR (K : PySem.W.Frag) : CmpOp → R2
  | .Eq => rEqD K
  | .NotEq => rNeD K
  | .Lt => rI0 fun i j => .bl (decide (i < j))
  | .LtE => rI0 fun i j => .bl (decide (i ≤ j))
  | .Gt => rI0 fun i j => .bl (decide (j < i))
  | .GtE => rI0 fun i j => .bl (decide (j ≤ i))
  | .Is => fun x y H Q => y = .non ∧ Q (.bl (decide (x = .non))) H
  | .IsNot => fun x y H Q => y = .non ∧ Q (.bl (!decide (x = .non))) H
  | _ => fun _ _ _ _ => False
theorem cmp_ok {X : Cx} (hX : Is c sc W X) (hu : c.A.units + 64 < cLine) {o : CmpOp} (ho : okCmp o = true) : OpR X (compareOp o) (cmpR c.K o) := by
  have hu' : X.A.units + 64 < cLine := by rw [hX.A]; exact hu
  cases o <;> first | (cases ho; done) | skip
  · exact hX.K ▸ op_eqD hu'
  · exact hX.K ▸ op_neD hu'
  · exact op_lt
  · exact op_le
  · exact op_gt
  · exact op_ge
  · exact op_isN
  · exact op_notN
theorem cmp_ne {o : CmpOp} (ho : okCmp o = true) : o ≠ .In ∧ o ≠ .NotIn := by cases o <;> first | (cases ho; done) | decide
theorem cmp_rd {K : PySem.W.Frag} {o : CmpOp} (x y : D) (v u : V) (Φ : D → Prop) (G H : Hp) (Q : VK) (g : Same G H) (f : cmpD o x y Φ) (dv : Dp K G v x) (du : Dp K G u y) (k : ∀ d z, Φ d → (∀ G : Hp, Dp K G z d) → Q z H) : cmpR K o v u H Q := by
  cases o
  · obtain ⟨f1, f2, f3⟩ := f
    exact ⟨x, y, Dp.mono g dv, Dp.mono g du, f1, f2, k _ _ f3 fun G => .bl _⟩
  · obtain ⟨f1, f2, f3⟩ := f
    exact ⟨x, y, Dp.mono g dv, Dp.mono g du, f1, f2, k _ _ f3 fun G => .bl _⟩
  · cases x <;> cases y <;> simp only [cmpD] at f <;> first | exact f.elim | skip
    cases dv; cases du; exact ⟨_, _, rfl, rfl, k _ _ f fun G => .bl _⟩
  · cases x <;> cases y <;> simp only [cmpD] at f <;> first | exact f.elim | skip
    cases dv; cases du; exact ⟨_, _, rfl, rfl, k _ _ f fun G => .bl _⟩
  · cases x <;> cases y <;> simp only [cmpD] at f <;> first | exact f.elim | skip
    cases dv; cases du; exact ⟨_, _, rfl, rfl, k _ _ f fun G => .bl _⟩
  · cases x <;> cases y <;> simp only [cmpD] at f <;> first | exact f.elim | skip
    cases dv; cases du; exact ⟨_, _, rfl, rfl, k _ _ f fun G => .bl _⟩
  · cases x <;> cases y <;> simp only [cmpD] at f <;> first | exact f.elim | skip
    all_goals (cases dv; cases du; exact ⟨rfl, k _ _ f fun G => .bl _⟩)
  · cases x <;> cases y <;> simp only [cmpD] at f <;> first | exact f.elim | skip
    all_goals (cases dv; cases du; exact ⟨rfl, k _ _ f fun G => .bl _⟩)
  · cases x <;> cases y <;> simp only [cmpD] at f
  · cases x <;> cases y <;> simp only [cmpD] at f
theorem ab_cmp (hu : c.A.units + 64 < cLine) {o : CmpOp} {a b : Expr} {Ta Tb : TrE} {pos : Pos} (ho : okCmp o = true) (ha : AE c sc W a 0 Ta) (hb : AE c sc W b 0 Tb) : AB c sc W (.Compare a [o] [b] pos) 0 (fun ρ Φ Ξ => Ta ρ (fun ρ1 x => Tb ρ1 (fun ρ2 y => cmpD o x y (Φ ρ2)) Ξ) Ξ) := by
  obtain ⟨n1, n2⟩ := cmp_ne ho
  obtain ⟨ta, pa, sa⟩ := ha
  obtain ⟨tb, pb, sb⟩ := hb
  refine ⟨_, fun X hX => pe_cmpR (cmp_ok hX hu ho) (pa X hX) (pb X hX) (nobehind b n1 n2), fun X hX => pt_cmpR (cmp_ok hX hu ho) (pa X hX) (pb X hX) (nobehind b n1 n2), fun ρ Φ Ξ σ F G H Q e0 hT hQ hx => ?_⟩
  refine ae_two (a := a) (b := b) (Φ := fun ρ2 x y => cmpD o x y (Φ ρ2)) sa sb e0 hx hT fun ρ2 x y v u F2 G2 H2 q e2 dv du s2 => ?_
  exact cmp_rd x y v u (Φ ρ2) G2 H2 Q e2.same q dv du fun d z hd hz => hQ ρ2 d z [] F2 G2 H2 hd e2 (.frz (hz G2)) s2
theorem ab_chn (hu : c.A.units + 64 < cLine) {o o' : CmpOp} {a b e3 : Expr} {Ta Tb Tc : TrE} {pos : Pos} (ho : okCmp o = true) (ho' : okCmp o' = true) (ha : AE c sc W a 0 Ta) (hb : AE c sc W b 0 Tb) (hc : AE c sc W e3 0 Tc) :
    AB c sc W (.Compare a [o, o'] [b, e3] pos) 0 (fun ρ Φ Ξ => Ta ρ (fun ρ1 x => Tb ρ1 (fun ρ2 y => cmpD o x y fun z => ∃ t, z = .bool t ∧ sel t (Tc ρ2 (fun ρ3 w => cmpD o' y w (Φ ρ3)) Ξ) (Φ ρ2 (.bool false))) Ξ) Ξ) := by
  obtain ⟨n1, n2⟩ := cmp_ne ho
  obtain ⟨n1', n2'⟩ := cmp_ne ho'
  obtain ⟨ta, pa, sa⟩ := ha
  obtain ⟨tb, pb, sb⟩ := hb
  obtain ⟨tc, pc, sc⟩ := hc
  refine ⟨_, fun X hX => pe_chain (cmp_ok hX hu ho) (cmp_ok hX hu ho') (pa X hX) (pb X hX) (pc X hX) (show lastMarks [o, o'] [b, e3] = false from nobehind e3 n1' n2'), fun X hX => pt_chain (cmp_ok hX hu ho) (cmp_ok hX hu ho') (pa X hX) (pb X hX) (pc X hX) (show lastMarks [o, o'] [b, e3] = false from nobehind e3 n1' n2'), fun ρ Φ Ξ σ F G H Q e0 hT hQ hx => ?_⟩
  show ta σ H fun v H1 => tb σ H1 fun u H2 => cmpR c.K o v u H2 fun z H3 => ∃ t, z = .bl t ∧ if t = true then tc σ H3 fun w' H4 => cmpR c.K o' u w' H4 Q else Q (.bl false) H3
  refine ae_two (a := a) (b := b) (R := fun v u H2 => cmpR c.K o v u H2 fun z H3 => ∃ t, z = .bl t ∧ if t = true then tc σ H3 fun w' H4 => cmpR c.K o' u w' H4 Q else Q (.bl false) H3)
    (Φ := fun ρ2 x y => cmpD o x y fun z => ∃ t, z = .bool t ∧ sel t (Tc ρ2 (fun ρ3 w => cmpD o' y w (Φ ρ3)) Ξ) (Φ ρ2 (.bool false))) sa sb e0 hx hT fun ρ2 x y v u F2 G2 H2 q e2 dv du s2 => ?_
  refine cmp_rd x y v u _ G2 H2 _ e2.same q dv du fun d z hd hz => ?_
  obtain ⟨t, rfl, hd⟩ := hd
  cases hz (fun _ => none)
  refine ⟨t, rfl, ?_⟩
  cases t with
  | true =>
    rw [sel_t] at hd; rw [if_pos rfl]
    refine sc ρ2 _ Ξ σ F2 G2 H2 _ e2 hd (fun ρ3 w w' A F3 G3 H3 q3 e3 r3 s3 => ?_) (hx.stp s2)
    exact cmp_rd y w u w' (Φ ρ3) G3 H3 Q e3.same q3 (Dp.mono s3.g du) r3.dp fun d z hd hz => hQ ρ3 d z [] F3 G3 H3 hd e3 (.frz (hz G3)) (s2.trans s3)
  | false =>
    rw [sel_f] at hd; rw [if_neg (by decide)]
    exact hQ ρ2 _ _ [] F2 G2 H2 hd e2 (.frz (.bl false)) s2

/-! ### and, or, not, if -/
theorem AE.toB {e : Expr} {T : TrE} (h : AE c sc W e 0 T) : ∃ t : TE, (∀ X, Is c sc W X → PE X e t) ∧ ∀ (ρ : Env) (Φ : Env → Bool → Prop) (Ξ : Px) (σ : Sg) (F : Foot) (G H : Hp) (Q : VK), En c.K σ ρ F G H → testOf T ρ Φ Ξ →
    (∀ ρ' b F' G' H', Φ ρ' b → En c.K σ ρ' F' G' H' → Stp F G H F' G' H' → Q (.bl b) H') → Xc c W σ F G H Ξ → t σ H Q := by
  obtain ⟨t, a, s0⟩ := h
  refine ⟨t, a, fun ρ Φ Ξ σ F G H Q e0 hT hQ hx => ?_⟩
  refine s0 ρ _ Ξ σ F G H _ e0 hT (fun ρ' d v A F' G' H' q e1 r s => ?_) hx
  obtain ⟨b, rfl, q⟩ := q
  rw [r.bool]
  exact hQ ρ' b F' G' H' q e1 s
def andT (Ta Tb : TrE) : TrE := fun ρ Φ Ξ => Ta ρ (fun ρ1 x => ∃ t, x = .bool t ∧ sel t (Tb ρ1 Φ Ξ) (Φ ρ1 (.bool false))) Ξ
def orT (Ta Tb : TrE) : TrE := fun ρ Φ Ξ => Ta ρ (fun ρ1 x => ∃ t, x = .bool t ∧ sel t (Φ ρ1 (.bool true)) (Tb ρ1 Φ Ξ)) Ξ
theorem ae_and {a b : Expr} {rest : List Expr} {Ta Tb : TrE} {pos : Pos} (ha : AE c sc W a 0 Ta) (hb : AE c sc W (.BoolOp .And (b :: rest) pos) 0 Tb) : AE c sc W (.BoolOp .And (a :: b :: rest) pos) 0 (andT Ta Tb) := by
  obtain ⟨ta, pa, sa⟩ := ha.toB
  obtain ⟨tb, pb, sb⟩ := hb
  refine ⟨_, fun X hX => pe_and (pa X hX) (pb X hX), fun ρ Φ Ξ σ F G H Q e0 hT hQ hx => ?_⟩
  refine sa ρ _ Ξ σ F G H _ e0 hT (fun ρ1 c F1 G1 H1 q e1 s1 => ⟨c, rfl, ?_⟩) hx
  cases c with
  | true =>
    rw [sel_t] at q; rw [if_pos rfl]
    exact sb ρ1 Φ Ξ σ F1 G1 H1 Q e1 q (fun ρ2 d v A F2 G2 H2 q2 e2 r2 s2 => hQ ρ2 d v A F2 G2 H2 q2 e2 (r2.from s1) (s1.trans s2)) (hx.stp s1)
  | false =>
    rw [sel_f] at q; rw [if_neg (by decide)]
    exact hQ ρ1 _ _ [] F1 G1 H1 q e1 (.frz (.bl false)) s1
theorem ae_or {a b : Expr} {rest : List Expr} {Ta Tb : TrE} {pos : Pos} (ha : AE c sc W a 0 Ta) (hb : AE c sc W (.BoolOp .Or (b :: rest) pos) 0 Tb) : AE c sc W (.BoolOp .Or (a :: b :: rest) pos) 0 (orT Ta Tb) := by
  obtain ⟨ta, pa, sa⟩ := ha.toB
  obtain ⟨tb, pb, sb⟩ := hb
  refine ⟨_, fun X hX => pe_or (pa X hX) (pb X hX), fun ρ Φ Ξ σ F G H Q e0 hT hQ hx => ?_⟩
  refine sa ρ _ Ξ σ F G H _ e0 hT (fun ρ1 c F1 G1 H1 q e1 s1 => ⟨c, rfl, ?_⟩) hx
  cases c with
  | false =>
    rw [sel_f] at q; rw [if_neg (by decide)]
    exact sb ρ1 Φ Ξ σ F1 G1 H1 Q e1 q (fun ρ2 d v A F2 G2 H2 q2 e2 r2 s2 => hQ ρ2 d v A F2 G2 H2 q2 e2 (r2.from s1) (s1.trans s2)) (hx.stp s1)
  | true =>
    rw [sel_t] at q; rw [if_pos rfl]
    exact hQ ρ1 _ _ [] F1 G1 H1 q e1 (.frz (.bl true)) s1
theorem ae_one {a : Expr} {op : BoolOp} {Ta : TrE} {pos : Pos} (ha : AE c sc W a 0 Ta) : AE c sc W (.BoolOp op [a] pos) 0 Ta := let ⟨t, p, s⟩ := ha; ⟨t, fun X hX => pe_one (p X hX), s⟩
theorem ae_not {a : Expr} {Ta : TrE} {pos : Pos} (ha : AE c sc W a 0 Ta) : AE c sc W (.UnaryOp .Not a pos) 0 (fun ρ Φ Ξ => Ta ρ (fun ρ1 x => ∃ t, x = .bool t ∧ Φ ρ1 (.bool (!t))) Ξ) := by
  obtain ⟨ta, pa, sa⟩ := ha.toB
  refine ⟨_, fun X hX => pe_not (pa X hX), fun ρ Φ Ξ σ F G H Q e0 hT hQ hx => ?_⟩
  exact sa ρ _ Ξ σ F G H _ e0 hT (fun ρ1 c F1 G1 H1 q e1 s1 => ⟨c, rfl, hQ ρ1 _ _ [] F1 G1 H1 q e1 (.frz (.bl _)) s1⟩) hx
theorem ae_ite {e1 a b : Expr} {Tc Ta Tb : TrE} {pos : Pos} (hc : AT c sc W e1 (testOf Tc)) (ha : AE c sc W a 0 Ta) (hb : AE c sc W b 0 Tb) :
    AE c sc W (.IfExp e1 a b pos) 0 (fun ρ Φ Ξ => Tc ρ (fun ρ1 x => ∃ t, x = .bool t ∧ sel t (Ta ρ1 Φ Ξ) (Tb ρ1 Φ Ξ)) Ξ) := by
  obtain ⟨tc, pc, sc⟩ := hc
  obtain ⟨ta, pa, sa⟩ := ha
  obtain ⟨tb, pb, sb⟩ := hb
  refine ⟨_, fun X hX => pe_ifExp (pc X hX) (pa X hX) (pb X hX), fun ρ Φ Ξ σ F G H Q e0 hT hQ hx => ?_⟩
  refine sc ρ _ Ξ σ F G H _ e0 hT (fun ρ1 c F1 G1 H1 q e1 s1 => ?_) hx
  cases c with
  | true =>
    rw [sel_t] at q; rw [if_pos rfl]
    exact sa ρ1 Φ Ξ σ F1 G1 H1 Q e1 q (fun ρ2 d v A F2 G2 H2 q2 e2 r2 s2 => hQ ρ2 d v A F2 G2 H2 q2 e2 (r2.from s1) (s1.trans s2)) (hx.stp s1)
  | false =>
    rw [sel_f] at q; rw [if_neg (by decide)]
    exact sb ρ1 Φ Ξ σ F1 G1 H1 Q e1 q (fun ρ2 d v A F2 G2 H2 q2 e2 r2 s2 => hQ ρ2 d v A F2 G2 H2 q2 e2 (r2.from s1) (s1.trans s2)) (hx.stp s1)
/-- as tests -/
theorem aw_and {a b : Expr} {rest : List Expr} {Ta Tb : TrE} {pos : Pos} (ha : AT c sc W a (testOf Ta)) (hb : AW c sc W (.BoolOp .And (b :: rest) pos) (testOf Tb)) : AW c sc W (.BoolOp .And (a :: b :: rest) pos) (testOf (andT Ta Tb)) := by
  obtain ⟨ta, pa, sa⟩ := ha
  obtain ⟨tb, pb, sb⟩ := hb
  refine ⟨_, fun X hX => pw_and (pa X hX) (pb X hX), fun ρ Φ Ξ σ F G H Q e0 hT hQ hx => ?_⟩
  refine sa ρ _ Ξ σ F G H _ e0 hT (fun ρ1 c F1 G1 H1 q e1 s1 => ?_) hx
  cases c with
  | true =>
    rw [sel_t] at q; rw [if_pos rfl]
    exact sb ρ1 Φ Ξ σ F1 G1 H1 Q e1 q (fun ρ2 d F2 G2 H2 q2 e2 s2 => hQ ρ2 d F2 G2 H2 q2 e2 (s1.trans s2)) (hx.stp s1)
  | false =>
    rw [sel_f] at q; rw [if_neg (by decide)]
    obtain ⟨b, hb, q⟩ := q
    cases hb
    exact hQ ρ1 _ F1 G1 H1 q e1 s1
theorem aw_or {a b : Expr} {rest : List Expr} {Ta Tb : TrE} {pos : Pos} (ha : AT c sc W a (testOf Ta)) (hb : AW c sc W (.BoolOp .Or (b :: rest) pos) (testOf Tb)) : AW c sc W (.BoolOp .Or (a :: b :: rest) pos) (testOf (orT Ta Tb)) := by
  obtain ⟨ta, pa, sa⟩ := ha
  obtain ⟨tb, pb, sb⟩ := hb
  refine ⟨_, fun X hX => pw_or (pa X hX) (pb X hX), fun ρ Φ Ξ σ F G H Q e0 hT hQ hx => ?_⟩
  refine sa ρ _ Ξ σ F G H _ e0 hT (fun ρ1 c F1 G1 H1 q e1 s1 => ?_) hx
  cases c with
  | false =>
    rw [sel_f] at q; rw [if_neg (by decide)]
    exact sb ρ1 Φ Ξ σ F1 G1 H1 Q e1 q (fun ρ2 d F2 G2 H2 q2 e2 s2 => hQ ρ2 d F2 G2 H2 q2 e2 (s1.trans s2)) (hx.stp s1)
  | true =>
    rw [sel_t] at q; rw [if_pos rfl]
    obtain ⟨b, hb, q⟩ := q
    cases hb
    exact hQ ρ1 _ F1 G1 H1 q e1 s1
theorem aw_one {a : Expr} {op : BoolOp} {T : TrT} {pos : Pos} (ha : AT c sc W a T) : AW c sc W (.BoolOp op [a] pos) T := by
  obtain ⟨t, p, s⟩ := ha
  cases op with
  | And => exact ⟨_, fun X hX => pw_and1 (p X hX), s⟩
  | Or => exact ⟨_, fun X hX => pw_or1 (p X hX), s⟩
theorem AW.at {e : Expr} {T : TrT} (h : AW c sc W e T) : AT c sc W e T := let ⟨t, p, s⟩ := h; ⟨t, fun X hX => (p X hX).pt, s⟩
theorem at_not {a : Expr} {Ta : TrE} {pos : Pos} (ha : AT c sc W a (testOf Ta)) : AT c sc W (.UnaryOp .Not a pos) (testOf (fun ρ Φ Ξ => Ta ρ (fun ρ1 x => ∃ t, x = .bool t ∧ Φ ρ1 (.bool (!t))) Ξ)) := by
  obtain ⟨ta, pa, sa⟩ := ha
  refine ⟨_, fun X hX => pt_not (pa X hX), fun ρ Φ Ξ σ F G H Q e0 hT hQ hx => ?_⟩
  refine sa ρ _ Ξ σ F G H _ e0 hT (fun ρ1 c F1 G1 H1 q e1 s1 => ?_) hx
  obtain ⟨b, hb, q⟩ := q
  cases hb
  exact hQ ρ1 _ F1 G1 H1 q e1 s1
end Q

namespace Q
open PySem PySem.Spec PyProof.Rows L2
variable {c : Ctx} {sc : Scope} {W : WX} {Γ : List Ent} {bl : Bl}

/-! ### several expressions, displays -/
theorem al_nil {m : Nat} : AL c sc W [] m 0 (fun ρ Φ _ => Φ ρ []) :=
  ⟨_, fun _ _ => pa_nil, fun ρ Φ Ξ σ F G H Q e hT hQ _ => hQ ρ [] [] [] F G H hT rfl e ⟨.nil, .nil, (fun _ h => nomatch h), (fun _ h => nomatch h), (fun _ h => nomatch h)⟩ (.refl _ _ _)⟩
theorem al_cons {e : Expr} {es : List Expr} {m n : Nat} {Te : TrE} {Ts : TrL} (he : AE c sc W e m Te) (hs : AL c sc W es m n Ts) (h : ∀ env, starEach (e :: es) env = (false, eval e env) :: starEach es env) :
    AL c sc W (e :: es) m (n + 1) (fun ρ Φ Ξ => Te ρ (fun ρ1 d => Ts ρ1 (fun ρ2 ds => Φ ρ2 (d :: ds)) Ξ) Ξ) := by
  obtain ⟨te, pe, se⟩ := he
  obtain ⟨ts, ps, ss⟩ := hs
  refine ⟨_, fun X hX => pa_cons (pe X hX) (ps X hX) (h _), fun ρ Φ Ξ σ F G H Q e0 hT hQ hx => ?_⟩
  refine se ρ _ Ξ σ F G H _ e0 hT (fun ρ1 d v A F1 G1 H1 q1 e1 r1 s1 => ?_) hx
  refine ss ρ1 _ Ξ σ F1 G1 H1 _ e1 q1 (fun ρ2 ds vs B F2 G2 H2 q2 hl e2 r2 s2 => ?_) (hx.stp s1)
  have r1' := r1.stp s2
  refine hQ ρ2 (d :: ds) (v :: vs) (A ++ B) F2 G2 H2 q2 (by rw [List.length_cons, hl]) e2 ⟨.cons r1'.ow r2.ow, ?_, fun a ha => ?_, fun a ha => ?_, fun a ha => ?_⟩ (s1.trans s2)
  · refine List.nodup_append.mpr ⟨r1.nod, r2.nod, fun a ha b hb z => ?_⟩
    subst z
    rcases r2.new a hb with ⟨j, hj⟩ | hn
    · exact r1.dis a ha j hj
    · obtain ⟨vs, q⟩ := Ow.there r1.ow a ha
      rw [hn] at q; cases q
  · exact (List.mem_append.mp ha).elim (r1'.out a) (r2.out a)
  · exact (List.mem_append.mp ha).elim (r1'.dis a) (r2.dis a)
  · rcases List.mem_append.mp ha with ha | ha
    · exact r1'.new a ha
    · rcases r2.new a ha with ⟨j, hj⟩ | hn
      · exact s1.nf j a hj
      · refine .inr ?_
        cases q : H a with
        | none => rfl
        | some o => exact absurd hn (s1.th a (by rw [q]; simp))
theorem small_line {n : Nat} (h : n ≤ 16777216) : n ≤ sizeLine := by rw [sizeLine_eq]; exact h
theorem ae_tup {es : List Expr} {n : Nat} {x1 : Nat} {pos : Pos} {T : TrL} (h : AL c sc W es 0 n T) (hn : n ≤ 16777216) : AE c sc W (.Tuple es x1 pos) 0 (fun ρ Φ Ξ => T ρ (fun ρ1 ds => Φ ρ1 (.tuple ds)) Ξ) := by
  obtain ⟨t, p, s⟩ := h
  refine ⟨_, fun X hX => pe_tup (p X hX), fun ρ Φ Ξ σ F G H Q e0 hT hQ hx => ?_⟩
  refine s ρ _ Ξ σ F G H _ e0 hT (fun ρ1 ds vs A F1 G1 H1 q1 hl e1 r1 s1 => ⟨?_, fun p hp => ?_⟩) hx
  · rw [DpAll.length r1.dp, hl]; exact small_line hn
  · obtain ⟨e2, s2⟩ := e1.laid (o := .tup vs) hp trivial trivial
    exact hQ ρ1 _ (.ref p) [] F1 _ _ q1 e2 (.frz (.tup (.inl (.inl upd_same)) (DpAll.mono s2.g r1.dp))) (s1.trans s2)
/-- a new list at p, whose items are at hand -/
theorem Ress.list {K : PySem.W.Frag} {σ : Sg} {ρ : Env} {F F1 : Foot} {G H G1 H1 : Hp} {k : Nat} {A : List Addr} {vs : List V} {ds : List D} {p : Addr} (e : En K σ ρ F1 G1 H1) (r : Ress K F G H F1 G1 H1 k A vs ds) (s : Stp F G H F1 G1 H1) (hp : H1 p = none) (hl : vs.length ≤ 16777216) :
    En K σ ρ F1 G1 (upd H1 p (.lst vs)) ∧ Stp F G H F1 G1 (upd H1 p (.lst vs)) ∧ Res K F G H F1 G1 (upd H1 p (.lst vs)) (k + 1) (p :: A) (.ref p) (.list ds) := by
  obtain ⟨e2, s2⟩ := e.beside (o := .lst vs) hp hl
  have hpA : p ∉ A := fun z => by
    obtain ⟨ws, q⟩ := Ows.there r.ow p z
    rw [hp] at q; cases q
  refine ⟨e2, s.trans s2, ⟨.lst upd_same (Ows.mono (Same.refl _) (fun b hb o q => by rw [upd_ne (ne_of_none q hp)]; exact q) r.ow), List.nodup_cons.mpr ⟨hpA, r.nod⟩, fun a ha => ?_, fun a ha i hi => ?_, fun a ha => ?_⟩⟩
  · rcases List.mem_cons.mp ha with rfl | ha
    · exact e.same.free hp
    · exact r.out a ha
  · rcases List.mem_cons.mp ha with rfl | ha
    · exact e.th i a hi hp
    · exact r.dis a ha i hi
  · rcases List.mem_cons.mp ha with rfl | ha
    · refine .inr ?_
      cases q : H a with
      | none => rfl
      | some o => exact absurd hp (s.th a (by rw [q]; simp))
    · exact r.new a ha
theorem ae_lst {es : List Expr} {k n : Nat} {pos : Pos} {T : TrL} (h : AL c sc W es k n T) (hn : n ≤ 16777216) : AE c sc W (.List es pos) (k + 1) (fun ρ Φ Ξ => T ρ (fun ρ1 ds => Φ ρ1 (.list ds)) Ξ) := by
  obtain ⟨t, p, s⟩ := h
  refine ⟨_, fun X hX => pe_lst (p X hX), fun ρ Φ Ξ σ F G H Q e0 hT hQ hx => ?_⟩
  refine s ρ _ Ξ σ F G H _ e0 hT (fun ρ1 ds vs A F1 G1 H1 q1 hl e1 r1 s1 => ⟨?_, fun p hp => ?_⟩) hx
  · rw [Ows.length r1.ow, hl]; exact small_line hn
  · obtain ⟨e2, s2, r2⟩ := r1.list e1 s1 hp (by rw [Ows.length r1.ow, hl]; exact hn)
    exact hQ ρ1 _ (.ref p) _ F1 _ _ q1 e2 r2 s2

/-! ### subscripts -/
theorem atI_get {K : PySem.W.Frag} {H : Hp} {vs : List V} {ds : List D} {i : Int} {d : D} (r : DpAll K H vs ds) (h : atI ds i = some d) : ∃ v, atI vs i = some v ∧ Dp K H v d := by
  unfold atI at h ⊢
  rw [DpAll.length r]
  cases q : ixN ds.length i with
  | none => rw [q] at h; cases h
  | some j =>
    rw [q] at h
    exact DpAll.get r h
theorem ae_ix {a b : Expr} {Ta Tb : TrE} {pos : Pos} (ha : AE c sc W a 0 Ta) (hb : AE c sc W b 0 Tb) (hs : PlainIx b) : AE c sc W (.Subscript a b pos) 0 (fun ρ Φ Ξ => Ta ρ (fun ρ1 x => Tb ρ1 (fun ρ2 y => ixD x y (Φ ρ2)) Ξ) Ξ) := by
  obtain ⟨ta, pa, sa⟩ := ha
  obtain ⟨tb, pb, sb⟩ := hb
  refine ⟨_, fun X hX => pe_ix (r := fun x y H Q => rIxL c.K x y H Q ∨ rIxT c.K x y H Q) (hX.K ▸ (ix_list.or ix_tup)) (pa X hX) (pb X hX) hs, fun ρ Φ Ξ σ F G H Q e0 hT hQ hx => ?_⟩
  refine ae_two (a := a) (b := b) (Φ := fun ρ2 x y => ixD x y (Φ ρ2)) sa sb e0 hx hT fun ρ2 x y v u F2 G2 H2 q e2 dv du s2 => ?_
  cases x <;> cases y <;> simp only [ixD] at q <;> first | exact q.elim | skip
  · obtain ⟨d, h1, h2⟩ := q
    cases du
    cases dv with
    | lst h r =>
      obtain ⟨z, hz, hd⟩ := atI_get r h1
      exact .inl ⟨_, _, _, z, rfl, rfl, e2.same.seq h, hz, hQ ρ2 d z [] F2 G2 H2 h2 e2 (.frz hd) s2⟩
  · obtain ⟨d, h1, h2⟩ := q
    cases du
    cases dv with
    | tup h r =>
      obtain ⟨z, hz, hd⟩ := atI_get r h1
      exact .inr ⟨_, _, _, z, rfl, rfl, SqT.mono e2.same h, hz, hQ ρ2 d z [] F2 G2 H2 h2 e2 (.frz hd) s2⟩
theorem isOw_some {c : Cell} (h : isOw c) : ∃ k ds, c = .ow (k + 1) (.list ds) := by
  cases c with
  | un => exact h.elim
  | va d => exact h.elim
  | ow k d => cases k <;> cases d <;> first | exact h.elim | exact ⟨_, _, rfl⟩
/-- an owned list at a name -/
theorem En.owned {K : PySem.W.Frag} {σ : Sg} {ρ : Env} {F : Foot} {G H : Hp} {i k : Nat} {ds : List D} (e : En K σ ρ F G H) (h : getC ρ i = .ow (k + 1) (.list ds)) :
    ∃ a A vs, σ[i]? = some (some (.ref a)) ∧ F i = a :: A ∧ H a = some (.lst vs) ∧ Ows K G H k A vs ds := by
  obtain ⟨v, hv, ho⟩ : ∃ v, σ[i]? = some (some v) ∧ Ow K G H (k + 1) (F i) v (.list ds) := e.cell i _ (getC_some h (by simp))
  generalize hA : F i = A at ho
  cases ho with
  | flt f _ => cases f
  | lst h r => exact ⟨_, _, _, hv, rfl, h, r⟩
theorem ae_pk {b : Expr} {Tb : TrE} {i : Nat} {x : Str} {p pos : Pos} (h : c.N[i]? = some x) (hv : Vis sc x) (hd : (x == ("__debug__" : Str)) = false) (hcd : (x == ("__classdict__" : Str)) = false) (hb : AE c sc W b 0 Tb) (hs : PlainIx b) :
    AE c sc W (.Subscript (.Name x p) b pos) 0 (fun ρ Φ Ξ => isOw (getC ρ i) ∧ Tb ρ (fun ρ1 y => pkD (getC ρ1 i) y (Φ ρ1)) Ξ) := by
  obtain ⟨tb, pb, sb⟩ := hb
  refine ⟨_, fun X hX => pe_ix (r := rIxL c.K) (hX.K ▸ ix_list) (pe_var (hX.ix h) (hX.vis hv) hd hcd) (pb X hX) hs, fun ρ Φ Ξ σ F G H Q e0 hT hQ hx => ?_⟩
  obtain ⟨ho, hT⟩ := hT
  obtain ⟨k, ds, hc⟩ := isOw_some ho
  obtain ⟨a, A, vs, h1, _⟩ := e0.owned hc
  refine ⟨_, h1, ?_⟩
  refine sb ρ _ Ξ σ F G H _ e0 hT (fun ρ1 y u B F1 G1 H1 q1 e1 r1 s1 => ?_) hx
  cases q : getC ρ1 i with
  | un => rw [q] at q1; exact q1.elim
  | va d => rw [q] at q1; exact q1.elim
  | ow k d =>
    rw [q] at q1
    match k, d, q with
    | 0, _, _ => exact q1.elim
    | k + 2, _, _ => exact q1.elim
    | 1, .none, _ => exact q1.elim
    | 1, .bool _, _ => exact q1.elim
    | 1, .int _, _ => exact q1.elim
    | 1, .str _, _ => exact q1.elim
    | 1, .tuple _, _ => exact q1.elim
    | 1, .dict _, _ => exact q1.elim
    | 1, .list ds, q =>
      cases y <;> first | exact q1.elim | skip
      obtain ⟨d, h3, h4⟩ := q1
      obtain ⟨a', A', vs', g1, g2, g3, g4⟩ := e1.owned q
      rw [h1] at g1
      cases g1
      obtain ⟨_, g5⟩ := Ows.to_frz g4
      obtain ⟨z, hz, hd⟩ := atI_get g5 h3
      cases r1.dp
      exact ⟨_, _, _, z, rfl, rfl, .inl (.inl g3), hz, hQ ρ1 d z [] F1 G1 H1 h4 e1 (.frz hd) s1⟩

/-! ### built-in functions -/
def Bi.name : Bi → Str
  | .len => "len" | .abs => "abs" | .mn => "min" | .mx => "max" | .int => "int" | .any => "any" | .all => "all" | .str => "str"
def bi1 : Bi → Nat
  | .mn => 2 | .mx => 2 | _ => 1
theorem bls_of {K : PySem.W.Frag} {H : Hp} : ∀ {bs : List Bool} {vs : List V}, DpAll K H vs (bs.map PyData.bool) → vs = bs.map V.bl
  | [], _, .nil => rfl
  | b :: bs, _, .cons h r => by
    cases h
    rw [bls_of r]
    rfl
theorem ae_blt {b : Bi} {e : Expr} {es : List Expr} {n : Nat} {p pos : Pos} {T : TrL} (h : AL c sc W (e :: es) 0 n T) (hg : GlS sc b.name) (hm : c.mg b.name = none)
    (he : ∀ env, starEach (e :: es) env = (false, eval e env) :: starEach es env) (hpl : ∀ env, (backTo pos (starEach es env)).any (·.1) = false) :
    AE c sc W (.Call (.Name b.name p) (e :: es) [] pos) 0 (fun ρ Φ Ξ => T ρ (fun ρ1 ds => bltD b ds (Φ ρ1)) Ξ) := by
  obtain ⟨t, pt, s⟩ := h
  have go : ∀ (r : List V → Hp → VK → Prop), (∀ X, Is c sc W X → PE X (.Call (.Name b.name p) (e :: es) [] pos) (tCB r t)) →
      (∀ ds vs (Φ : D → Prop) (G H : Hp) (Q : VK), Same G H → bltD b ds Φ → DpAll c.K G vs ds → (∀ d z, Φ d → (∀ G : Hp, Dp c.K G z d) → Q z H) → r vs H Q) →
      AE c sc W (.Call (.Name b.name p) (e :: es) [] pos) 0 (fun ρ Φ Ξ => T ρ (fun ρ1 ds => bltD b ds (Φ ρ1)) Ξ) := fun r hp hr => by
    refine ⟨_, hp, fun ρ Φ Ξ σ F G H Q e0 hT hQ hx => ?_⟩
    refine s ρ _ Ξ σ F G H _ e0 hT (fun ρ1 ds vs A F1 G1 H1 q1 hl e1 r1 s1 => ?_) hx
    exact hr ds vs (Φ ρ1) G1 H1 Q e1.same q1 r1.dp fun d z hd hz => hQ ρ1 d z [] F1 G1 H1 hd e1 (.frz (hz G1)) s1
  cases b
  · refine go _ (fun X hX => pe_callB (r := fun xs H Q => ∃ p ys, xs = [V.ref p] ∧ (SqL c.K H p ys ∨ SqT c.K H p ys) ∧ Q (.int ys.length) H) (hX.K ▸ call_len_seq) (hX.gl hg) (hX.no hm) (by decide +kernel) (pt X hX) (by decide +kernel) (by decide +kernel) (he _) (hpl _)) fun ds vs Φ G H Q g f r k => ?_
    match ds, r with
    | [], _ => exact f.elim
    | [.list xs], .cons (.lst h _r) .nil => exact ⟨_, _, rfl, .inl (g.seq h), by rw [DpAll.length _r]; exact k _ _ f fun G => .int _⟩
    | [.tuple xs], .cons (.tup h _r) .nil => exact ⟨_, _, rfl, .inr (SqT.mono g h), by rw [DpAll.length _r]; exact k _ _ f fun G => .int _⟩
    | [.none], _ => exact f.elim
    | [.bool _], _ => exact f.elim
    | [.int _], _ => exact f.elim
    | [.str _], _ => exact f.elim
    | [.dict _], _ => exact f.elim
    | _ :: _ :: _, _ => simp [bltD] at f
  · refine go _ (fun X hX => pe_callB call_abs (hX.gl hg) (hX.no hm) (by decide +kernel) (pt X hX) (by decide +kernel) (by decide +kernel) (he _) (hpl _)) fun ds vs Φ G H Q g f r k => ?_
    match ds, r with
    | [], _ => exact f.elim
    | [.int i], .cons (.int _) .nil => exact ⟨_, rfl, k _ _ f fun G => .int _⟩
    | [.list xs], _ => exact f.elim
    | [.tuple xs], _ => exact f.elim
    | [.none], _ => exact f.elim
    | [.bool _], _ => exact f.elim
    | [.str _], _ => exact f.elim
    | [.dict _], _ => exact f.elim
    | _ :: _ :: _, _ => simp [bltD] at f
  · refine go _ (fun X hX => pe_callB (call_min2 hX.calm) (hX.gl hg) (hX.no hm) (by decide +kernel) (pt X hX) (by decide +kernel) (by decide +kernel) (he _) (hpl _)) fun ds vs Φ G H Q g f r k => ?_
    match ds, r with
    | [], _ => exact f.elim
    | [.int i, .int j], .cons (.int _) (.cons (.int _) .nil) => exact ⟨_, _, rfl, k _ _ f fun G => .int _⟩
    | [_], _ => simp [bltD] at f
    | a :: b :: c :: r, _ => simp [bltD] at f
    | [a, b], _ => cases a <;> cases b <;> simp [bltD] at f <;> (rename_i r; cases r with | cons h1 h2 => cases h1; cases h2 with | cons h3 h4 => cases h3; cases h4; exact ⟨_, _, rfl, k _ _ f fun G => .int _⟩)
  · refine go _ (fun X hX => pe_callB (call_max2 hX.calm) (hX.gl hg) (hX.no hm) (by decide +kernel) (pt X hX) (by decide +kernel) (by decide +kernel) (he _) (hpl _)) fun ds vs Φ G H Q g f r k => ?_
    match ds, r with
    | [], _ => exact f.elim
    | [.int i, .int j], .cons (.int _) (.cons (.int _) .nil) => exact ⟨_, _, rfl, k _ _ f fun G => .int _⟩
    | [_], _ => simp [bltD] at f
    | a :: b :: c :: r, _ => simp [bltD] at f
    | [a, b], _ => cases a <;> cases b <;> simp [bltD] at f <;> (rename_i r; cases r with | cons h1 h2 => cases h1; cases h2 with | cons h3 h4 => cases h3; cases h4; exact ⟨_, _, rfl, k _ _ f fun G => .int _⟩)
  · refine go _ (fun X hX => pe_callTy call_int1 (hX.gl hg) (hX.no hm) (by decide +kernel) (pt X hX) (by decide +kernel) (by decide +kernel) (he _) (hpl _)) fun ds vs Φ G H Q g f r k => ?_
    match ds, r with
    | [], _ => exact f.elim
    | [.int i], .cons (.int _) .nil => exact .inl ⟨_, rfl, k _ _ f fun G => .int _⟩
    | [.bool i], .cons (.bl _) .nil => exact .inr ⟨_, rfl, k _ _ f fun G => .int _⟩
    | [.list xs], _ => exact f.elim
    | [.tuple xs], _ => exact f.elim
    | [.none], _ => exact f.elim
    | [.str _], _ => exact f.elim
    | [.dict _], _ => exact f.elim
    | _ :: _ :: _, _ => simp [bltD] at f
  · refine go _ (fun X hX => pe_callB (r := rAny c.K) (hX.K ▸ cr_any hX.calm) (hX.gl hg) (hX.no hm) (by decide +kernel) (pt X hX) (by decide +kernel) (by decide +kernel) (he _) (hpl _)) fun ds vs Φ G H Q g f r k => ?_
    match ds, r with
    | [], _ => exact f.elim
    | [.list xs], .cons (.lst h r) .nil =>
      obtain ⟨bs, rfl, f⟩ := f
      exact ⟨_, bs, rfl, by rw [← bls_of r]; exact g.seq h, k _ _ f fun G => .bl _⟩
    | [.tuple xs], _ => exact f.elim
    | [.none], _ => exact f.elim
    | [.bool _], _ => exact f.elim
    | [.int _], _ => exact f.elim
    | [.str _], _ => exact f.elim
    | [.dict _], _ => exact f.elim
    | _ :: _ :: _, _ => simp [bltD] at f
  · refine go _ (fun X hX => pe_callB (r := rAll c.K) (hX.K ▸ cr_all hX.calm) (hX.gl hg) (hX.no hm) (by decide +kernel) (pt X hX) (by decide +kernel) (by decide +kernel) (he _) (hpl _)) fun ds vs Φ G H Q g f r k => ?_
    match ds, r with
    | [], _ => exact f.elim
    | [.list xs], .cons (.lst h r) .nil =>
      obtain ⟨bs, rfl, f⟩ := f
      exact ⟨_, bs, rfl, by rw [← bls_of r]; exact g.seq h, k _ _ f fun G => .bl _⟩
    | [.tuple xs], _ => exact f.elim
    | [.none], _ => exact f.elim
    | [.bool _], _ => exact f.elim
    | [.int _], _ => exact f.elim
    | [.str _], _ => exact f.elim
    | [.dict _], _ => exact f.elim
    | _ :: _ :: _, _ => simp [bltD] at f
  · refine go _ (fun X hX => pe_callTy (CallR.or call_str_int SkE.call_str_str) (hX.gl hg) (hX.no hm) (by decide +kernel) (pt X hX) (by decide +kernel) (by decide +kernel) (he _) (hpl _)) fun ds vs Φ G H Q g f r k => ?_
    match ds, r with
    | [], _ => exact f.elim
    | [.int i], .cons (.int _) .nil => exact .inl ⟨_, rfl, f.1, k _ _ f.2 fun G => .str _⟩
    | [.str i], .cons (.str _) .nil => exact .inr ⟨_, rfl, k _ _ f fun G => .str _⟩
    | [.list xs], _ => exact f.elim
    | [.tuple xs], _ => exact f.elim
    | [.none], _ => exact f.elim
    | [.bool _], _ => exact f.elim
    | [.dict _], _ => exact f.elim
    | _ :: _ :: _, _ => simp [bltD] at f
/-! ### two lists in one -/
def rCatQ (K : PySem.W.Frag) : R2 := fun x y H Q => ∃ l b xs zs, x = .ref l ∧ y = .ref b ∧ SqL K H l xs ∧ SqL K H b zs ∧ xs.length + zs.length ≤ sizeLine ∧ ∀ p, H p = none → Q (.ref p) (upd H p (.lst (xs ++ zs)))
theorem op_catQ {X : Cx} : OpR X (binaryOp .Add) (rCatQ X.K) := by
  intro pins s σ H x y v u Q I rx ry h
  obtain ⟨l, b, xs, zs, rfl, rfl, hH, hB, hz, q⟩ := h
  cases rx
  cases ry
  obtain ⟨its, r, pl, z1⟩ := I.list hH
  obtain ⟨its2, r2, pl2, z2⟩ := I.list hB
  obtain ⟨⟨cls, dd, data, sl⟩, ho, hc, n, hd⟩ := pl.isList
  obtain ⟨⟨cls2, dd2, data2, sl2⟩, ho2, hc2, n2, hd2⟩ := pl2.isList
  simp only at hc hd hc2 hd2
  subst hc hd hc2 hd2
  have hl := r.length
  have hl2 := r2.length
  have e : its.toArray ++ its2.toArray = (its ++ its2).toArray := by simp
  refine concat_meets ⟨_, ho, rfl⟩ ⟨_, ho2, rfl⟩ noFill_list_add seq_list_add PySem.F.slot_list_add PySem.F.entry_list_add (PySem.F.args_list_add_2 _ _) (list_addW l b its.toArray its2.toArray n n2 dd dd2 sl sl2 (by rw [List.size_toArray, List.size_toArray]; omega)) ⟨ho, ho2, ?_⟩
  rw [e]
  exact ⟨.ref _, _, I.lnew (t' := s.toks) (r.append r2) (by rw [List.length_append]; omega), rfl, q _ I.fresh⟩
theorem ae_cat {a b : Expr} {Ta Tb : TrE} {pos : Pos} (ha : AE c sc W a 0 Ta) (hb : AE c sc W b 0 Tb) : AE c sc W (.BinOp a .Add b pos) 1 (fun ρ Φ Ξ => Ta ρ (fun ρ1 x => Tb ρ1 (fun ρ2 y => catD x y (Φ ρ2)) Ξ) Ξ) := by
  obtain ⟨ta, pa, sa⟩ := ha
  obtain ⟨tb, pb, sb⟩ := hb
  refine ⟨_, fun X hX => pe_op (r := rCatQ c.K) (hX.K ▸ op_catQ) (pa X hX) (pb X hX), fun ρ Φ Ξ σ F G H Q e0 hT hQ hx => ?_⟩
  show ta σ H fun v H1 => tb σ H1 fun u H2 => rCatQ c.K v u H2 Q
  refine ae_two (a := a) (b := b) (R := fun v u H2 => rCatQ c.K v u H2 Q) (Φ := fun ρ2 x y => catD x y (Φ ρ2)) sa sb e0 hx hT fun ρ2 x y v u F2 G2 H2 q e2 dv du s2 => ?_
  match x, y, dv, du, q with
  | .list ds, .list es, .lst h1 r1, .lst h2 r2, q =>
    have q : ds.length + es.length ≤ 16777216 ∧ Φ ρ2 (.list (ds ++ es)) := q
    have r := DpAll.append r1 r2
    have hl := DpAll.length r
    rw [List.length_append, List.length_append] at hl
    refine ⟨_, _, _, _, rfl, rfl, e2.same.seq h1, e2.same.seq h2, by rw [sizeLine_eq]; omega, fun p hp => ?_⟩
    have r0 : Ress c.K F2 G2 H2 F2 G2 H2 0 [] _ _ := ⟨Ows.of_frz r, .nil, (fun _ h => nomatch h), (fun _ h => nomatch h), (fun _ h => nomatch h)⟩
    obtain ⟨e3, s3, r3⟩ := r0.list e2 (.refl _ _ _) hp (by rw [List.length_append]; omega)
    exact hQ ρ2 _ (.ref p) _ F2 _ _ q.2 e3 (r3.from s2) (s2.trans s3)
  | .none, _, _, _, q => exact q.elim
  | .bool _, _, _, _, q => exact q.elim
  | .int _, _, _, _, q => exact q.elim
  | .str _, _, _, _, q => exact q.elim
  | .tuple _, _, _, _, q => exact q.elim
  | .dict _, _, _, _, q => exact q.elim
  | .list _, .none, _, _, q => exact q.elim
  | .list _, .bool _, _, _, q => exact q.elim
  | .list _, .int _, _, _, q => exact q.elim
  | .list _, .str _, _, _, q => exact q.elim
  | .list _, .tuple _, _, _, q => exact q.elim
  | .list _, .dict _, _, _, q => exact q.elim
theorem ae_lenv {i : Nat} {x : Str} {p p2 pos : Pos} (h : c.N[i]? = some x) (hv : Vis sc x) (hd : (x == ("__debug__" : Str)) = false) (hcd : (x == ("__classdict__" : Str)) = false) (hg : GlS sc "len") (hm : c.mg "len" = none) :
    AE c sc W (.Call (.Name "len" p) [.Name x p2] [] pos) 0 (fun ρ Φ _ => lenC (getC ρ i) (Φ ρ)) := by
  refine ⟨_, fun X hX => pe_callB (r := fun xs H Q => ∃ p ys, xs = [V.ref p] ∧ (SqL c.K H p ys ∨ SqT c.K H p ys) ∧ Q (.int ys.length) H) (hX.K ▸ call_len_seq) (hX.gl hg) (hX.no hm) (by decide +kernel) (pa_cons (pe_var (hX.ix h) (hX.vis hv) hd hcd) pa_nil), fun ρ Φ Ξ σ F G H Q e0 hT hQ hx => ?_⟩
  dsimp only at hT
  cases q : getC ρ i with
  | un => rw [q] at hT; exact hT.elim
  | va d =>
    rw [q] at hT
    cases d <;> first | exact hT.elim | skip
    obtain ⟨v, h1, h2⟩ : ∃ v, σ[i]? = some (some v) ∧ Dp c.K G v (.list _) := e0.cell i _ (getC_some q (by simp))
    cases h2 with
    | lst h3 r =>
      exact ⟨_, h1, _, _, rfl, .inl (e0.same.seq h3), by rw [DpAll.length r]; exact hQ ρ _ _ [] F G H hT e0 (.frz (.int _)) (.refl _ _ _)⟩
  | ow k d =>
    rw [q] at hT
    cases k with
    | zero => cases d <;> exact hT.elim
    | succ k =>
      cases d <;> first | exact hT.elim | skip
      obtain ⟨a, A, vs, h1, h2, h3, h4⟩ := e0.owned q
      exact ⟨_, h1, _, _, rfl, .inl (.inl (.inl h3)), by rw [Ows.length h4]; exact hQ ρ _ _ [] F G H hT e0 (.frz (.int _)) (.refl _ _ _)⟩

/-! ### isinstance -/
def Ty.name : Ty → Str
  | .int => "int" | .bool => "bool" | .str => "str" | .list => "list" | .tuple => "tuple"
def Ty.id : Ty → String
  | .int => "int" | .bool => "bool" | .str => "str" | .list => "list" | .tuple => "tuple"
theorem Dp.ty {K : PySem.W.Frag} {H : Hp} {v : V} {d : D} (h : Dp K H v d) : ∃ n : String, TyX K H v (.type n) ∧ ∀ (t : Ty) r, isiD d t = some r → kitB n t.id = some r := by
  cases h with
  | non => exact ⟨_, .base .non, fun t r e => by cases t <;> cases e <;> decide +kernel⟩
  | bl b => exact ⟨_, .base (.bl b), fun t r e => by cases t <;> cases e <;> decide +kernel⟩
  | int i => exact ⟨_, .base (.int i), fun t r e => by cases t <;> cases e <;> decide +kernel⟩
  | str x => exact ⟨_, .base (.str x), fun t r e => by cases t <;> cases e <;> decide +kernel⟩
  | lst h _ =>
    refine ⟨"list", ?_, fun t r e => by cases t <;> cases e <;> decide +kernel⟩
    rcases h with (h | ⟨o, h⟩) | ⟨o, its, n, h1, h2, _⟩
    · exact .base (.lst h)
    · exact .base (.frz h)
    · exact .kList h1 h2
  | tup h _ =>
    refine ⟨"tuple", ?_, fun t r e => by cases t <;> cases e <;> decide +kernel⟩
    rcases h with (h | ⟨o, h⟩) | ⟨o, its, n, h1, h2, _⟩
    · exact .base (.tup h)
    · exact .fTuple h
    · exact .kTuple h1 h2
theorem boot_ty (t : Ty) : bootBuiltins t.name = some (.type t.id) := by cases t <;> decide +kernel
theorem ae_isi {a : Expr} {Ta : TrE} {t : Ty} {p p2 pos : Pos} (ha : AE c sc W a 0 Ta) (hg : GlS sc "isinstance") (hm : c.mg "isinstance" = none) (hg2 : GlS sc t.name) (hm2 : c.mg t.name = none)
    (he : ∀ env, starEach [a, .Name t.name p2] env = (false, eval a env) :: starEach [.Name t.name p2] env) :
    AE c sc W (.Call (.Name "isinstance" p) [a, .Name t.name p2] [] pos) 0 (fun ρ Φ Ξ => Ta ρ (fun ρ1 x => ∃ r, isiD x t = some r ∧ Φ ρ1 (.bool r)) Ξ) := by
  obtain ⟨ta, pa, sa⟩ := ha
  have pt : ∀ X, Is c sc W X → PE X (.Name t.name p2) (tC (.ty t.id)) := fun X hX => pe_bltn (hX.gl hg2) (hX.no hm2) (boot_ty t) rfl (by cases t <;> decide +kernel) (by cases t <;> decide +kernel)
  refine ⟨_, fun X hX => pe_callB (r := rIsi c.K) (hX.K ▸ call_isi) (hX.gl hg) (hX.no hm) PyProof.Rows.boot_isinstance (pa_cons (pa X hX) (pa_cons (pt X hX) pa_nil (by rfl)) (he _)) (by decide +kernel) (by decide +kernel) (he _) (by rfl), fun ρ Φ Ξ σ F G H Q e0 hT hQ hx => ?_⟩
  refine sa ρ _ Ξ σ F G H _ e0 hT (fun ρ1 x v A F1 G1 H1 q1 e1 r1 s1 => ?_) hx
  obtain ⟨r, h1, h2⟩ := q1
  obtain ⟨n, hn, hk⟩ := Dp.ty (Dp.mono e1.same r1.dp)
  exact ⟨v, .ty t.id, _, _, r, rfl, .ty _, hn, kit_ty (hk t r h1), hQ ρ1 _ _ [] F1 G1 H1 h2 e1 (.frz (.bl _)) s1⟩
end Q

namespace Q
open PySem PySem.Spec PyProof.Rows L2
variable {c : Ctx} {sc : Scope} {W : WX} {Γ : List Ent} {bl : Bl}

/-! ### calls -/
def foot0 : Foot := fun _ => []
def foot1 (A : List Addr) : Foot := fun j => if j = 0 then A else []
theorem mem_foot1 {A : List Addr} {j : Nat} {a : Addr} (h : a ∈ foot1 A j) : j = 0 ∧ a ∈ A := by
  unfold foot1 at h
  by_cases q : j = 0
  · rw [if_pos q] at h; exact ⟨q, h⟩
  · rw [if_neg q] at h; cases h
theorem DpAll.cell {K : PySem.W.Frag} {G : Hp} : ∀ {vs : List V} {ds : List D} {i : Nat} {c : Cell}, DpAll K G vs ds → (ds.map Cell.va)[i]? = some c → ∃ d v, c = .va d ∧ vs[i]? = some v ∧ Dp K G v d
  | _, _, 0, _, .cons h _, e => by simp at e; exact ⟨_, _, e.symm, rfl, h⟩
  | _, _, i + 1, _, .cons _ r, e => by
    obtain ⟨d, v, h1, h2, h3⟩ := DpAll.cell (i := i) r (by simpa using e)
    exact ⟨d, v, h1, by simpa using h2, h3⟩
  | _, _, _, _, .nil, e => by simp at e
theorem cellsOf_none : ∀ ds : List D, cellsOf none ds = ds.map Cell.va
  | [] => rfl
  | _ :: _ => rfl
/-- the arguments of a call, all frozen -/
theorem En.args {K : PySem.W.Frag} {G H : Hp} {vs : List V} {ds : List D} (g : Same G H) (ln : ∀ a o, H a = some o → lenOk o) (fz : ∀ a o vs, G a = some (.frz o (.lst vs)) → vs.length ≤ 16777216) (r : DpAll K G vs ds) : En K (vs.map some) (cellsOf none ds) foot0 G H where
  ln := ln
  fz := fz
  same := g
  len := by rw [cellsOf_none, List.length_map, List.length_map, DpAll.length r]
  cell := fun i c hc => by
    rw [cellsOf_none] at hc
    obtain ⟨d, v, h1, h2, h3⟩ := DpAll.cell r hc
    subst h1
    exact ⟨v, by rw [List.getElem?_map, h2]; rfl, h3⟩
  nod := fun _ => .nil
  dis := fun _ _ _ h => nomatch h
  out := fun _ _ h => nomatch h
  th := fun _ _ h => nomatch h
/-- behind a call whose arguments are frozen -/
theorem En.called {K : PySem.W.Frag} {σ : Sg} {ρ : Env} {F F' : Foot} {G H G' H' : Hp} {k : Nat} {A : List Addr} {v : V} {d : D} (e : En K σ ρ F G H) (g : Same G' H') (ln : ∀ a o, H' a = some o → lenOk o) (fz : ∀ a o vs, G' a = some (.frz o (.lst vs)) → vs.length ≤ 16777216) (s : Stp foot0 G H F' G' H') :
    En K σ ρ F G' H' ∧ Stp F G H F G' H' ∧ (Res K foot0 G H F' G' H' k A v d → Res K F G H F G' H' k A v d) := by
  have hn : ∀ i a, a ∈ F i → G' a = none := fun i a ha => by
    cases q : G' a with
    | none => rfl
    | some o =>
      rcases s.ng a (e.out i a ha) (by rw [q]; simp) with ⟨j, hj⟩ | hn
      · cases hj
      · exact absurd hn (e.th i a ha)
  refine ⟨e.upto s.g (fun _ b _ o q => s.h b o (fun _ h => nomatch h) q) g hn ln fz, ⟨s.g, fun b o _ q => s.h b o (fun _ h => nomatch h) q, fun i b h => .inl ⟨i, h⟩, fun b hb hs => ?_, s.th⟩, fun r => ⟨r.ow, r.nod, r.out, fun a ha i hi => ?_, fun a ha => ?_⟩⟩
  · rcases s.ng b hb hs with ⟨j, hj⟩ | hn
    · cases hj
    · exact .inr hn
  · rcases r.new a ha with ⟨j, hj⟩ | hn
    · cases hj
    · exact e.th i a hi hn
  · rcases r.new a ha with ⟨j, hj⟩ | hn
    · cases hj
    · exact .inr hn
/-- the arguments of a call, the first one owned -/
theorem En.argsR {K : PySem.W.Frag} {σ : Sg} {ρ : Env} {F : Foot} {G H : Hp} {i k : Nat} {d : D} {v : V} {vs : List V} {ds : List D} (e : En K σ ρ F G H) (h : ρ[i]? = some (.ow k d)) (hv : σ[i]? = some (some v)) (r : DpAll K G vs ds) :
    En K ((v :: vs).map some) (cellsOf (some k) (d :: ds)) (foot1 (F i)) G H := by
  obtain ⟨v', hv', ho⟩ : ∃ v, σ[i]? = some (some v) ∧ Ow K G H k (F i) v d := e.cell i _ h
  have ev : v' = v := by rw [hv] at hv'; cases hv'; rfl
  subst ev
  refine ⟨e.same, by simp [cellsOf, DpAll.length r], fun j c hc => ?_, fun j => ?_, fun j l a hj hl => ?_, fun j a hj => e.out i a (mem_foot1 hj).2, fun j a hj => e.th i a (mem_foot1 hj).2, e.ln, e.fz⟩
  · cases j with
    | zero =>
      have hc' : c = .ow k d := by simpa [cellsOf] using hc.symm
      subst hc'
      exact ⟨v', rfl, ho⟩
    | succ j =>
      have hc' : (ds.map Cell.va)[j]? = some c := by simpa [cellsOf] using hc
      obtain ⟨d', v2, h1, h2, h3⟩ := DpAll.cell r hc'
      subst h1
      exact ⟨v2, by rw [List.map_cons, List.getElem?_cons_succ, List.getElem?_map, h2]; rfl, h3⟩
  · unfold foot1
    by_cases q : j = 0
    · rw [if_pos q]; exact e.nod i
    · rw [if_neg q]; exact .nil
  · rw [(mem_foot1 hj).1, (mem_foot1 hl).1]
/-- behind such a call -/
theorem En.calledR {K : PySem.W.Frag} {σ : Sg} {ρ : Env} {F F' : Foot} {G H G' H' : Hp} {i k : Nat} {d d' : D} {v : V} {vs : List V} {ds : List D} (e : En K σ ρ F G H) (h : ρ[i]? = some (.ow k d)) (hv : σ[i]? = some (some v))
    (e' : En K ((v :: vs).map some) (cellsOf (some k) (d' :: ds)) F' G' H') (s : Stp (foot1 (F i)) G H F' G' H') :
    En K σ (ρ.set i (.ow k d')) (put F i (F' 0)) G' H' ∧ Stp F G H (put F i (F' 0)) G' H' ∧ ∀ {m : Nat} {A : List Addr} {u : V} {z : D}, Res K (foot1 (F i)) G H F' G' H' m A u z → Res K F G H (put F i (F' 0)) G' H' m A u z := by
  have hl : i < ρ.length := (List.getElem?_eq_some_iff.mp h).1
  obtain ⟨v', hv', ho⟩ : ∃ v', ((v :: vs).map some)[0]? = some (some v') ∧ Ow K G' H' k (F' 0) v' d' := e'.cell 0 (.ow k d') rfl
  have ev : v' = v := by cases hv'; rfl
  subst ev
  have inv : ∀ a j, a ∈ F' j → a ∈ F i ∨ H a = none := fun a j ha => by
    rcases s.nf j a ha with ⟨l, hl⟩ | hn
    · exact .inl (mem_foot1 hl).2
    · exact .inr hn
  have hn : ∀ j a, j ≠ i → a ∈ F j → G' a = none := fun j a hji ha => by
    cases q : G' a with
    | none => rfl
    | some o =>
      rcases s.ng a (e.out j a ha) (by rw [q]; simp) with ⟨l, hl⟩ | hn
      · exact absurd (e.dis j i a ha (mem_foot1 hl).2) hji
      · exact absurd hn (e.th j a ha)
  have kept : ∀ j, j ≠ i → ∀ b ∈ F j, ∀ o, H b = some o → H' b = some o := fun j hji b hb o q => s.h b o (fun l hl => hji (e.dis j i b hb (mem_foot1 hl).2)) q
  refine ⟨⟨e'.same, by simp [e.len], fun j c hc => ?_, fun j => ?_, fun j l a hj hl => ?_, fun j a hj => ?_, fun j a hj => ?_, e'.ln, e'.fz⟩, ⟨s.g, fun b o n q => s.h b o (fun l hl => n i (mem_foot1 hl).2) q, fun j b hb => ?_, fun b hb hs => ?_, s.th⟩, fun {m A u z} r => ⟨r.ow, r.nod, r.out, fun a ha j hj => ?_, fun a ha => ?_⟩⟩
  · by_cases q : i = j
    · subst q
      rw [List.getElem?_set_self hl] at hc
      cases hc
      rw [put_same]
      exact ⟨v', hv, ho⟩
    · rw [List.getElem?_set_ne q] at hc
      rw [put_ne (Ne.symm q)]
      exact CellOk.mono s.g (kept j (Ne.symm q)) (e.cell j c hc)
  · by_cases q : j = i
    · subst q; rw [put_same]; exact e'.nod 0
    · rw [put_ne q]; exact e.nod j
  · by_cases q : j = i
    · subst q
      rw [put_same] at hj
      by_cases q2 : l = j
      · exact q2.symm
      · rw [put_ne q2] at hl
        rcases inv a 0 hj with z | z
        · exact absurd (e.dis l j a hl z) q2
        · exact absurd z (e.th l a hl)
    · rw [put_ne q] at hj
      by_cases q2 : l = i
      · subst q2
        rw [put_same] at hl
        rcases inv a 0 hl with z | z
        · exact absurd (e.dis j l a hj z) q
        · exact absurd z (e.th j a hj)
      · rw [put_ne q2] at hl
        exact e.dis j l a hj hl
  · by_cases q : j = i
    · subst q; rw [put_same] at hj; exact e'.out 0 a hj
    · rw [put_ne q] at hj; exact hn j a q hj
  · by_cases q : j = i
    · subst q; rw [put_same] at hj; exact e'.th 0 a hj
    · rw [put_ne q] at hj; exact s.th a (e.th j a hj)
  · by_cases q : j = i
    · subst q
      rw [put_same] at hb
      rcases inv b 0 hb with z | z
      · exact .inl ⟨j, z⟩
      · exact .inr z
    · rw [put_ne q] at hb; exact .inl ⟨j, hb⟩
  · rcases s.ng b hb hs with ⟨l, hl⟩ | z
    · exact .inl ⟨i, (mem_foot1 hl).2⟩
    · exact .inr z
  · by_cases q : j = i
    · subst q; rw [put_same] at hj; exact r.dis a ha 0 hj
    · rw [put_ne q] at hj
      rcases r.new a ha with ⟨l, hl⟩ | z
      · exact q (e.dis j i a hj (mem_foot1 hl).2)
      · exact e.th j a hj z
  · rcases r.new a ha with ⟨l, hl⟩ | z
    · exact .inl ⟨i, (mem_foot1 hl).2⟩
    · exact .inr z
theorem Is.fn {X : Cx} {k : Nat} {a : Addr} {fd : FuncData} {ps : List Str} {sp : Sp} (h : Is c sc W X) (F : FnOk c.P c.w c.K c.mg c.base (L2N.CX c.P c.w) k a fd ps sp) : FnOk X.prog X.w X.K X.mg X.base (L2N.CX X.prog X.w) k a fd ps sp := by
  rw [h.P, h.w, h.K, h.mg, h.base]; exact F
theorem ae_call {f : Nat} {g : Ent} {e : Expr} {es : List Expr} {p pos : Pos} {T : TrL} (sd : Sd c Γ bl) (hg : Γ[f]? = some g) (ho : g.sig.own = none) (h : AL c sc W (e :: es) 0 g.sig.np T) (hgl : GlS sc g.sig.name)
    (hdb : (g.sig.name == ("__debug__" : Str)) = false) (he : ∀ env, starEach (e :: es) env = (false, eval e env) :: starEach es env) (hpl : ∀ env, (backTo pos (starEach es env)).any (·.1) = false) :
    AE c sc W (.Call (.Name g.sig.name p) (e :: es) [] pos) g.sig.rk (fun ρ Φ Ξ => T ρ (fun ρ1 ds => ∃ g, Γ[f]? = some g ∧ g.sp ds (fun d _ => Φ ρ1 d) (fun _ x => Ξ ρ1 x)) Ξ) := by
  obtain ⟨t, pt, s⟩ := h
  obtain ⟨a, fd, ps, k, hF, hr, hm, hk, hb⟩ := sd.gok f g hg
  refine ⟨_, fun X hX => pe_callS (E := fun σ => WE W σ) (hX.fn hF) (hX.A ▸ hr) (hX.gl hgl) (by rw [hX.mg]; exact hm) (hX.K ▸ hk) (hX.K ▸ hb) (L2N.passAt hX.takes) (pt X hX) hdb (he _) (hpl _), fun ρ Φ Ξ σ F G H Q e0 hT hQ hx => ?_⟩
  refine s ρ _ Ξ σ F G H _ e0 hT (fun ρ1 ds vs A F1 G1 H1 q1 hl e1 r1 s1 => ?_) hx
  obtain ⟨g', hg', q1⟩ := q1
  rw [hg] at hg'
  cases hg'
  refine ⟨by rw [DpAll.length r1.dp, hl], ds, foot0, G1, _, _, by rw [ho]; exact En.args e1.same e1.ln e1.fz r1.dp, q1, fun d d' v A F' G' H' hd e' r s' => ?_, fun x d' F' G' H' cls dd hd e' s' hx' => ?_⟩
  · obtain ⟨e2, s2, r2⟩ := e1.called (k := g.sig.rk) (A := A) (v := v) (d := d) e'.same e'.ln e'.fz s'
    exact hQ ρ1 d v A F1 G' H' hd e2 ((r2 r).from s1) (s1.trans s2)
  · obtain ⟨e2, s2, _⟩ := e1.called (k := 0) (A := []) (v := .non) (d := .none) e'.same e'.ln e'.fz s'
    exact hx ρ1 x F1 G' H' cls dd hd e2 (s1.trans s2) hx'
theorem ae_callr {f i : Nat} {g : Ent} {y : Str} {es : List Expr} {p py pos : Pos} {T : TrL} {n : Nat} {kk : Nat} (sd : Sd c Γ bl) (hg : Γ[f]? = some g) (ho : g.sig.own = some kk) (h : AL c sc W es 0 n T) (hn : n + 1 = g.sig.np) (hgl : GlS sc g.sig.name)
    (hN : c.N[i]? = some y) (hv : Vis sc y) (hd : (y == ("__debug__" : Str)) = false) (hcd : (y == ("__classdict__" : Str)) = false)
    (hdb : (g.sig.name == ("__debug__" : Str)) = false) (hpl : ∀ env, (backTo pos (starEach es env)).any (·.1) = false) :
    AE c sc W (.Call (.Name g.sig.name p) (.Name y py :: es) [] pos) g.sig.rk (fun ρ Φ Ξ => isOw (getC ρ i) ∧ T ρ (fun ρ1 ds => ∃ g k d, Γ[f]? = some g ∧ g.sig.own = some k ∧ getC ρ1 i = .ow k d ∧ g.sp (d :: ds) (fun e d' => Φ (ρ1.set i (.ow k d')) e) (fun d' x => Ξ (ρ1.set i (.ow k d')) x)) Ξ) := by
  obtain ⟨t, pt, s⟩ := h
  obtain ⟨a, fd, ps, k, hF, hr, hm, hk, hb⟩ := sd.gok f g hg
  refine ⟨_, fun X hX => pe_callS (E := fun σ => WE W σ) (hX.fn hF) (hX.A ▸ hr) (hX.gl hgl) (by rw [hX.mg]; exact hm) (hX.K ▸ hk) (hX.K ▸ hb) (L2N.passAt hX.takes) (pa_cons (pe_var (hX.ix hN) (hX.vis hv) hd hcd) (pt X hX) (by rfl)) hdb (by rfl) (hpl _), fun ρ Φ Ξ σ F G H Q e0 hT hQ hx => ?_⟩
  obtain ⟨how, hT⟩ := hT
  obtain ⟨k0, ds0, hc⟩ := isOw_some how
  obtain ⟨a0, A0, vs0, h1, _⟩ := e0.owned hc
  refine ⟨_, h1, ?_⟩
  refine s ρ _ Ξ σ F G H _ e0 hT (fun ρ1 ds vs A F1 G1 H1 q1 hl e1 r1 s1 => ?_) hx
  obtain ⟨g', k', d, hg', ho', hc', q1⟩ := q1
  rw [hg] at hg'
  cases hg'
  have hc1 := getC_some hc' (by simp)
  refine ⟨by rw [List.length_cons, DpAll.length r1.dp, hl, hn], d :: ds, foot1 (F1 i), G1, _, _, by rw [ho']; exact e1.argsR hc1 h1 r1.dp, q1, fun z d' v A F' G' H' hd e' r s' => ?_, fun x d' F' G' H' cls dd hd e' s' hx' => ?_⟩
  · rw [ho'] at e'
    obtain ⟨e2, s2, r2⟩ := e1.calledR hc1 h1 (d' := d') e' s'
    exact hQ _ z v A _ G' H' hd e2 ((r2 r).from s1) (s1.trans s2)
  · rw [ho'] at e'
    obtain ⟨e2, s2, _⟩ := e1.calledR hc1 h1 (d' := d') e' s'
    exact hx _ x _ G' H' cls dd hd e2 (s1.trans s2) hx'
end Q

namespace Q
open PySem PySem.Spec PyProof.Rows L2
variable {c : Ctx} {sc so : Scope} {W : WX} {Γ : List Ent} {bl : Bl}

/-! ### targets -/
def LocS (sc : Scope) (x : Str) : Prop := sc.names.lookup x = some .local ∨ sc.names.lookup x = some .cell
/-- contexts in which the names of so may be stored -/
structure IsS (c : Ctx) (sc so : Scope) (W : WX) (X : Cx) : Prop where
  is : Is c sc W X
  st : ∀ x, LocS so x → Loc X.env.scope x ∧ (X.fn x = true ∨ X.env.scope.names.lookup x = some .local)
def locB (sc : Scope) (x : Str) : Bool := match sc.names.lookup x with
  | some .local => true
  | some .cell => true
  | _ => false
theorem locB_ok {x : Str} (h : locB so x = true) : LocS so x := by
  unfold locB at h
  split at h
  · exact .inl (by assumption)
  · exact .inr (by assumption)
  · cases h
mutual
def chkTg (N : List Str) (so : Scope) : Tg → Expr → Bool
  | .nm i, .Name x _ => decide (N[i]? = some x) && locB so x
  | .tp ts, .Tuple es _ _ => chkTgs N so ts es
  | _, _ => false
def chkTgs (N : List Str) (so : Scope) : Tgs → List Expr → Bool
  | .nil, [] => true
  | .cons t ts, e :: es => chkTg N so t e && chkTgs N so ts es
  | _, _ => false
end
mutual
def Tg.slots : Tg → List Nat
  | .nm i => [i]
  | .tp ts => ts.slots
def Tgs.slots : Tgs → List Nat
  | .nil => []
  | .cons t ts => t.slots ++ ts.slots
end
/-- what a store of frozen data into a target does -/
def SndG (c : Ctx) (sl : List Nat) (T : D → Env → (Env → Prop) → Prop) (g : TG) : Prop := ∀ (d : D) (ρ : Env) (k : Env → Prop) (σ : Sg) (F : Foot) (G H : Hp) (v : V) (Q : Sg → Hp → Prop), En c.K σ ρ F G H → Dp c.K G v d → T d ρ k →
  (∀ σ' ρ' F', k ρ' → En c.K σ' ρ' F' G H → Stp F G H F' G H → (∀ j, j ∉ sl → σ'[j]? = σ[j]?) → σ'.length = σ.length → Q σ' H) → g v σ H Q
def SndGs (c : Ctx) (sl : List Nat) (T : List D → Env → (Env → Prop) → Prop) (g : TGs) : Prop := ∀ (ds : List D) (ρ : Env) (k : Env → Prop) (σ : Sg) (F : Foot) (G H : Hp) (vs : List V) (Q : Sg → Hp → Prop), En c.K σ ρ F G H → DpAll c.K G vs ds → T ds ρ k →
  (∀ σ' ρ' F', k ρ' → En c.K σ' ρ' F' G H → Stp F G H F' G H → (∀ j, j ∉ sl → σ'[j]? = σ[j]?) → σ'.length = σ.length → Q σ' H) → g vs σ H Q
theorem assign_plain : ∀ (t : Tg) (e : Expr) (N : List Str) (so : Scope), chkTg N so t e = true → ∀ env es, assignEach (e :: es) env = (false, assign e env) :: assignEach es env
  | .nm _, .Name .., _, _, _ => fun _ _ => rfl
  | .tp _, .Tuple .., _, _, _ => fun _ _ => rfl
  | .nm i, e, N, so, h => by cases e <;> first | (intro _ _; rfl) | (simp [chkTg] at h)
  | .tp i, e, N, so, h => by cases e <;> first | (intro _ _; rfl) | (simp [chkTg] at h)
mutual
theorem snd_tg (hN : c.N.Nodup) : ∀ (t : Tg) (e : Expr), chkTg c.N so t e = true → ∃ g : TG, (∀ X, IsS c sc so W X → PG X e g) ∧ SndG c t.slots (asg t) g
  | .nm i, e, h => by
    cases e <;> first | (simp [chkTg] at h; done) | skip
    rename_i x pos
    simp only [chkTg, Bool.and_eq_true, decide_eq_true_eq] at h
    obtain ⟨h1, h2⟩ := h
    refine ⟨gName i, fun X hX => ?_, fun d ρ k σ F G H v Q e0 dv hT hQ => ?_⟩
    · obtain ⟨q1, q2⟩ := hX.st x (locB_ok h2)
      exact pg_name (by rw [hX.is.N]; exact hN) (hX.is.ix h1) q1 q2
    · have r : Res c.K F G H F G H 0 [] v d := .frz dv
      have e1 := e0.set (i := i) r (.inr (.inl ⟨rfl, rfl⟩))
      refine hQ _ _ _ hT e1 (Stp.put (.refl _ _ _) r) (fun j hj => ?_) (by simp)
      have hj' : j ≠ i := by simpa [Tg.slots] using hj
      exact List.getElem?_set_ne (Ne.symm hj')
  | .tp ts, e, h => by
    cases e <;> first | (simp [chkTg] at h; done) | skip
    rename_i es kk pos
    simp only [chkTg] at h
    obtain ⟨n, g, h1, h2, h3, h4⟩ := snd_tgs hN ts es h
    refine ⟨gTup c.K n g, fun X hX => ?_, fun d ρ k σ F G H v Q e0 dv hT hQ => ?_⟩
    · have := pg_tup (pos := pos) (k := kk) hX.is.calm (h1 X hX) (h2 _).1 (h2 _).2
      rw [hX.is.K] at this
      exact this
    · cases d <;> first | exact hT.elim | skip
      cases dv with
      | tup hs r =>
        have hT : asgs ts _ ρ k := hT
        exact ⟨_, _, rfl, SqT.mono e0.same hs, by rw [DpAll.length r]; exact h4 _ _ _ hT, h3 _ ρ k σ F G H _ Q e0 r hT hQ⟩
theorem snd_tgs (hN : c.N.Nodup) : ∀ (ts : Tgs) (es : List Expr), chkTgs c.N so ts es = true → ∃ (n : Nat) (g : TGs), (∀ X, IsS c sc so W X → PGs X es g) ∧ (∀ env, (assignEach es env).length = n ∧ (assignEach es env).findIdx? (·.1) = none) ∧ SndGs c ts.slots (asgs ts) g ∧ ∀ ds ρ k, asgs ts ds ρ k → ds.length = n
  | .nil, es, h => by
    cases es with
    | cons e es => simp [chkTgs] at h
    | nil =>
      refine ⟨0, gNil, fun X _ => pgs_nil, fun _ => ⟨rfl, rfl⟩, fun ds ρ k σ F G H vs Q e0 r hT hQ => ?_, fun ds ρ k hT => ?_⟩
      · cases ds with
        | cons d ds => exact hT.elim
        | nil =>
          cases r
          exact ⟨rfl, hQ σ ρ F hT e0 (.refl _ _ _) (fun _ _ => rfl) rfl⟩
      · cases ds with
        | cons d ds => exact hT.elim
        | nil => rfl
  | .cons t ts, es, h => by
    cases es with
    | nil => simp [chkTgs] at h
    | cons e es =>
      simp only [chkTgs, Bool.and_eq_true] at h
      obtain ⟨ha, hb⟩ := h
      obtain ⟨g, h1, h2⟩ := snd_tg hN t e ha
      obtain ⟨n, gs, h3, h4, h5, h6⟩ := snd_tgs hN ts es hb
      have hp := assign_plain t e _ _ ha
      refine ⟨n + 1, gCons g gs, fun X hX => pgs_cons (h1 X hX) (h3 X hX) (by rw [hp]; rfl), fun env => ?_, fun ds ρ k σ F G H vs Q e0 r hT hQ => ?_, fun ds ρ k hT => ?_⟩
      · obtain ⟨q1, q2⟩ := h4 env
        rw [hp]
        refine ⟨by rw [List.length_cons, q1], ?_⟩
        rw [List.findIdx?_cons, q2]
        rfl
      · cases ds with
        | nil => exact hT.elim
        | cons d ds =>
          cases r with
          | cons r1 r2 =>
            have hT : asg t d ρ fun ρ1 => asgs ts ds ρ1 k := hT
            refine ⟨_, _, rfl, h2 d ρ _ σ F G H _ _ e0 r1 hT fun σ1 ρ1 F1 q1 e1 s1 a1 l1 => ?_⟩
            refine h5 ds ρ1 k σ1 F1 G H _ Q e1 r2 q1 fun σ2 ρ2 F2 q2 e2 s2 a2 l2 => hQ σ2 ρ2 F2 q2 e2 (s1.trans s2) (fun j hj => ?_) (l2.trans l1)
            have hj' : j ∉ t.slots ∧ j ∉ ts.slots := by simpa [Tgs.slots] using hj
            exact (a2 j hj'.2).trans (a1 j hj'.1)
      · cases ds with
        | nil => exact hT.elim
        | cons d ds =>
          have hT : asg t d ρ fun ρ1 => asgs ts ds ρ1 k := hT
          obtain ⟨ρ1, hT⟩ := asg_some t d ρ _ hT
          rw [List.length_cons, h6 ds _ _ hT]
theorem asg_some : ∀ (t : Tg) (d : D) (ρ : Env) (k : Env → Prop), asg t d ρ k → ∃ ρ1, k ρ1
  | .nm i, d, ρ, k, h => ⟨_, h⟩
  | .tp ts, d, ρ, k, h => by
    cases d <;> first | exact h.elim | skip
    exact asgs_some ts _ ρ k h
theorem asgs_some : ∀ (ts : Tgs) (ds : List D) (ρ : Env) (k : Env → Prop), asgs ts ds ρ k → ∃ ρ1, k ρ1
  | .nil, [], ρ, k, h => ⟨_, h⟩
  | .nil, _ :: _, ρ, k, h => h.elim
  | .cons _ _, [], ρ, k, h => h.elim
  | .cons t ts, d :: ds, ρ, k, h => by
    obtain ⟨ρ1, h⟩ := asg_some t d ρ _ h
    exact asgs_some ts ds ρ1 k h
end

/-! ### what is walked -/
def ItOk (K : PySem.W.Frag) (J : L2.It) (ds : List D) (GI : Hp) : Prop := ∀ (i : Nat) (G H : Hp), Same GI G → Same G H → (ds.length ≤ i → J.stop i H) ∧
  ∀ d, ds[i]? = some d → J.go i H ∧ ∀ x H', J.yld i H x H' → (H' = H ∧ Dp K G x d) ∨ ∃ T o, (lenOk o ∧ notFrz o) ∧ H T = none ∧ H' = upd H T o ∧ Dp K (upd G T o) x d
def AI (c : Ctx) (sc : Scope) (W : WX) (tg iter : Expr) (T : TrL) : Prop := ∃ wi : TI, (∀ X, Is c sc W X → PI X tg iter wi) ∧ ∀ (ρ : Env) (Φ : Env → List D → Prop) (Ξ : Px) (σ : Sg) (F : Foot) (G H : Hp) (R : L2.It → Hp → Prop), En c.K σ ρ F G H → T ρ Φ Ξ →
  (∀ ρ' ds J F' G' H', Φ ρ' ds → En c.K σ ρ' F' G' H' → Stp F G H F' G' H' → ItOk c.K J ds G' → ds.length ≤ 16777216 → R J H') → Xc c W σ F G H Ξ → wi σ H R
theorem DpAll.at {K : PySem.W.Frag} {G : Hp} {vs : List V} {ds : List D} {i : Nat} {d : D} {x : V} (r : DpAll K G vs ds) (h : ds[i]? = some d) (hx : vs[i]? = some x) : Dp K G x d := by
  obtain ⟨v, h1, h2⟩ := DpAll.get r h
  rw [hx] at h1; cases h1; exact h2
theorem itOk_list {K : PySem.W.Frag} {GI : Hp} {a : Addr} {vs : List V} {ds : List D} (h : SqL K GI a vs) (r : DpAll K GI vs ds) : ItOk K (Itl K a) ds GI := fun i G H g gh => by
  have hH : SqL K H a vs := gh.seq (g.seq h)
  refine ⟨fun hi => ⟨vs, hH, by rw [DpAll.length r]; exact hi⟩, fun d hd => ?_⟩
  obtain ⟨v, h1, h2⟩ := DpAll.get r hd
  refine ⟨⟨vs, v, hH, h1⟩, fun x H' hy => .inl ⟨hy.1, ?_⟩⟩
  have hx := hy.2 vs hH
  rw [h1] at hx; cases hx
  exact Dp.mono g h2
theorem itOk_range {K : PySem.W.Frag} {GI : Hp} (lo : Int) (n : Nat) : ItOk K (Itr lo n) ((List.range n).map fun i => .int (lo + (i : Nat))) GI := fun i G H g gh => by
  refine ⟨fun hi => ?_, fun d hd => ?_⟩
  · have hi' : n ≤ i := by simpa using hi
    exact hi'
  · have hlt : i < n := by
      have := (List.getElem?_eq_some_iff.mp hd).1
      simpa using this
    have hd' : d = .int (lo + (i : Nat)) := by
      rw [List.getElem?_map, List.getElem?_range hlt] at hd
      exact (Option.some.inj hd).symm
    subst hd'
    exact ⟨hlt, fun x H' hy => .inl ⟨hy.1, by rw [hy.2]; exact .int _⟩⟩
theorem itOk_enum {K : PySem.W.Frag} {GI : Hp} {a : Addr} {vs : List V} {ds : List D} (h : SqL K GI a vs) (r : DpAll K GI vs ds) : ItOk K (Ite K a) (ds.zipIdx.map fun p => .tuple [.int (p.2 : Nat), p.1]) GI := fun i G H g gh => by
  have hH : SqL K H a vs := gh.seq (g.seq h)
  refine ⟨fun hi => ⟨vs, hH, by rw [DpAll.length r]; simpa using hi⟩, fun d hd => ?_⟩
  rw [List.getElem?_map, List.getElem?_zipIdx] at hd
  cases q : ds[i]? with
  | none => rw [q] at hd; cases hd
  | some d0 =>
    rw [q] at hd
    have hd' : d = .tuple [.int (i : Nat), d0] := by simpa using hd.symm
    subst hd'
    obtain ⟨v, h1, h2⟩ := DpAll.get r q
    refine ⟨⟨vs, v, hH, h1⟩, fun x H' hy => .inr ?_⟩
    obtain ⟨T, y, rfl, hT, rfl, hy⟩ := hy
    have hx := hy vs hH
    rw [h1] at hx; cases hx
    have sg : Same G (upd G T (.tup [.int (i : Nat), v])) := fun b u q => by rw [upd_ne (ne_of_none q (gh.free hT))]; exact q
    exact ⟨T, .tup _, ⟨True.intro, True.intro⟩, hT, rfl, .tup (.inl (.inl upd_same)) (.cons (.int _) (.cons (Dp.mono (g.trans sg) h2) .nil))⟩
theorem itOk_zip {K : PySem.W.Frag} {GI : Hp} {a b : Addr} {vs ws : List V} {ds es : List D} (h : SqL K GI a vs) (r : DpAll K GI vs ds) (h' : SqL K GI b ws) (r' : DpAll K GI ws es) : ItOk K (Itz K a b) ((ds.zip es).map fun p => .tuple [p.1, p.2]) GI := fun i G H g gh => by
  have hH : SqL K H a vs := gh.seq (g.seq h)
  have hH' : SqL K H b ws := gh.seq (g.seq h')
  refine ⟨fun hi => ⟨vs, ws, hH, hH', ?_⟩, fun d hd => ?_⟩
  · rw [DpAll.length r, DpAll.length r']
    rw [List.length_map, List.length_zip] at hi
    omega
  · rw [List.getElem?_map] at hd
    cases q : (ds.zip es)[i]? with
    | none => rw [q] at hd; cases hd
    | some p =>
      rw [q] at hd
      have hd' : d = .tuple [p.1, p.2] := (Option.some.inj hd).symm
      subst hd'
      obtain ⟨q1, q2⟩ := List.getElem?_zip_eq_some.mp q
      obtain ⟨v, h1, h2⟩ := DpAll.get r q1
      obtain ⟨u, g1, g2⟩ := DpAll.get r' q2
      refine ⟨⟨vs, ws, v, u, hH, hH', h1, g1⟩, fun x H' hy => .inr ?_⟩
      obtain ⟨T, y, z, rfl, hT, rfl, hy, hz⟩ := hy
      have hx := hy vs hH
      rw [h1] at hx; cases hx
      have hx := hz ws hH'
      rw [g1] at hx; cases hx
      have sg : Same G (upd G T (.tup [v, u])) := fun b u q => by rw [upd_ne (ne_of_none q (gh.free hT))]; exact q
      exact ⟨T, .tup _, ⟨True.intro, True.intro⟩, hT, rfl, .tup (.inl (.inl upd_same)) (.cons (Dp.mono (g.trans sg) h2) (.cons (Dp.mono (g.trans sg) g2) .nil))⟩
theorem ai_lst {tg e : Expr} {T : TrE} (h : AE c sc W e 0 T) : AI c sc W tg e (fun ρ Φ Ξ => T ρ (fun ρ1 x => ∃ ds, x = .list ds ∧ Φ ρ1 ds) Ξ) := by
  obtain ⟨t, pt, s⟩ := h
  refine ⟨iList c.K t, fun X hX => by have := pi_list (tg := tg) (pt X hX); rw [hX.K] at this; exact this, fun ρ Φ Ξ σ F G H R e0 hT hR hx => ?_⟩
  refine s ρ _ Ξ σ F G H _ e0 hT (fun ρ1 x v A F1 G1 H1 q1 e1 r1 s1 => ?_) hx
  obtain ⟨ds, rfl, q⟩ := q1
  cases r1.dp with
  | lst h r => exact ⟨_, rfl, ⟨_, e1.same.seq h⟩, hR ρ1 ds _ F1 G1 H1 q e1 s1 (itOk_list h r) (by rw [← DpAll.length r]; exact e1.lenL h)⟩
theorem itOk_tup {K : PySem.W.Frag} {GI : Hp} {a : Addr} {vs : List V} {ds : List D} (h : SqT K GI a vs) (r : DpAll K GI vs ds) : ItOk K (Itt K a) ds GI := fun i G H g gh => by
  have hH : SqT K H a vs := SqT.mono gh (SqT.mono g h)
  refine ⟨fun hi => ⟨vs, hH, by rw [DpAll.length r]; exact hi⟩, fun d hd => ?_⟩
  obtain ⟨v, h1, h2⟩ := DpAll.get r hd
  refine ⟨⟨vs, v, hH, h1⟩, fun x H' hy => .inl ⟨hy.1, ?_⟩⟩
  have hx := hy.2 vs hH
  rw [h1] at hx; cases hx
  exact Dp.mono g h2
theorem ai_tup {tg e : Expr} {T : TrE} (h : AE c sc W e 0 T) : AI c sc W tg e (fun ρ Φ Ξ => T ρ (fun ρ1 x => ∃ ds, x = .tuple ds ∧ ds.length ≤ 16777216 ∧ Φ ρ1 ds) Ξ) := by
  obtain ⟨t, pt, s⟩ := h
  refine ⟨iTup c.K t, fun X hX => by have := pi_tup (tg := tg) (pt X hX); rw [hX.K] at this; exact this, fun ρ Φ Ξ σ F G H R e0 hT hR hx => ?_⟩
  refine s ρ _ Ξ σ F G H _ e0 hT (fun ρ1 x v A F1 G1 H1 q1 e1 r1 s1 => ?_) hx
  obtain ⟨ds, rfl, hl, q⟩ := q1
  cases r1.dp with
  | tup h r => exact ⟨_, rfl, ⟨_, SqT.mono e1.same h⟩, hR ρ1 ds _ F1 G1 H1 q e1 s1 (itOk_tup h r) hl⟩
theorem ai_rng {tg e : Expr} {T : TrE} {p pos : Pos} (hg : GlS sc "range") (hm : c.mg "range" = none) (h : AE c sc W e 0 T) (he : ∀ env, starEach [e] env = [(false, eval e env)]) :
    AI c sc W tg (.Call (.Name "range" p) [e] [] pos) (fun ρ Φ Ξ => T ρ (fun ρ1 x => ∃ n : Int, x = .int n ∧ (-16777216 ≤ n ∧ n ≤ 16777216) ∧ Φ ρ1 ((List.range n.toNat).map fun i => .int (i : Nat))) Ξ) := by
  obtain ⟨t, pt, s⟩ := h
  refine ⟨iRng1 (tCons t tNil), fun X hX => pi_range1 (hX.gl hg) (hX.no hm) (pa_cons (pt X hX) pa_nil (by rw [he]; rfl)) (he _), fun ρ Φ Ξ σ F G H R e0 hT hR hx => ?_⟩
  refine s ρ _ Ξ σ F G H _ e0 hT (fun ρ1 x v A F1 G1 H1 q1 e1 r1 s1 => ?_) hx
  obtain ⟨n, rfl, ⟨hn0, hn⟩, q⟩ := q1
  cases r1.dp
  refine ⟨n, rfl, by omega, by omega, hR ρ1 _ _ F1 G1 H1 q e1 s1 ?_ (by rw [List.length_map, List.length_range]; omega)⟩
  have := itOk_range (K := c.K) (GI := G1) 0 n.toNat
  simpa using this
theorem ai_rng2 {tg a b : Expr} {Ta Tb : TrE} {p pos : Pos} (hg : GlS sc "range") (hm : c.mg "range" = none) (ha : AE c sc W a 0 Ta) (hb : AE c sc W b 0 Tb) (he : ∀ env, starEach [a, b] env = [(false, eval a env), (false, eval b env)]) (he2 : ∀ env, starEach [b] env = [(false, eval b env)]) :
    AI c sc W tg (.Call (.Name "range" p) [a, b] [] pos) (fun ρ Φ Ξ => Ta ρ (fun ρ1 x => Tb ρ1 (fun ρ2 y => ∃ m n : Int, x = .int m ∧ y = .int n ∧ (-16777216 ≤ m ∧ m ≤ 16777216 ∧ -16777216 ≤ n ∧ n - m ≤ 16777216 ∧ n ≤ 16777216) ∧ Φ ρ2 ((List.range (n - m).toNat).map fun i => .int (m + (i : Nat)))) Ξ) Ξ) := by
  obtain ⟨ta, pa, sa⟩ := ha
  obtain ⟨tb, pb, sb⟩ := hb
  refine ⟨iRng2 (tCons ta (tCons tb tNil)), fun X hX => pi_range2 (hX.gl hg) (hX.no hm) (pa_cons (pa X hX) (pa_cons (pb X hX) pa_nil (by rw [he2]; rfl)) (by rw [he, he2])) (he _) (he2 _), fun ρ Φ Ξ σ F G H R e0 hT hR hx => ?_⟩
  refine ae_two (a := a) (b := b) (R := fun v u H2 => ∃ i j : Int, [v, u] = [.int i, .int j] ∧ (-(2 ^ 62) ≤ i ∧ i < 2 ^ 62 ∧ -(2 ^ 62) ≤ j ∧ j < 2 ^ 62) ∧ R (Itr i (j - i).toNat) H2)
    (Φ := fun ρ2 x y => ∃ m n : Int, x = .int m ∧ y = .int n ∧ (-16777216 ≤ m ∧ m ≤ 16777216 ∧ -16777216 ≤ n ∧ n - m ≤ 16777216 ∧ n ≤ 16777216) ∧ Φ ρ2 ((List.range (n - m).toNat).map fun i => .int (m + (i : Nat)))) sa sb e0 hx hT fun ρ2 x y v u F2 G2 H2 q e2 dv du s2 => ?_
  obtain ⟨m, n, rfl, rfl, hb, q⟩ := q
  cases dv; cases du
  exact ⟨m, n, rfl, by omega, hR ρ2 _ _ F2 G2 H2 q e2 s2 (itOk_range m _) (by rw [List.length_map, List.length_range]; omega)⟩
theorem ai_enum {e : Expr} {elts : List Expr} {kk : Nat} {tpos : Pos} {T : TrE} {p pos : Pos} (hg : GlS sc "enumerate") (hm : c.mg "enumerate" = none) (h : AE c sc W e 0 T) (he : ∀ env, starEach [e] env = [(false, eval e env)]) :
    AI c sc W (.Tuple elts kk tpos) (.Call (.Name "enumerate" p) [e] [] pos) (fun ρ Φ Ξ => T ρ (fun ρ1 x => ∃ ds, x = .list ds ∧ Φ ρ1 (ds.zipIdx.map fun p => .tuple [.int (p.2 : Nat), p.1])) Ξ) := by
  obtain ⟨t, pt, s⟩ := h
  refine ⟨iEnum c.K (tCons t tNil), fun X hX => by have := pi_enum (elts := elts) (kk := kk) (tpos := tpos) (p := p) (pos := pos) (hX.gl hg) (hX.no hm) (pa_cons (pt X hX) pa_nil (by rw [he]; rfl)) (he _); rw [hX.K] at this; exact this, fun ρ Φ Ξ σ F G H R e0 hT hR hx => ?_⟩
  refine s ρ _ Ξ σ F G H _ e0 hT (fun ρ1 x v A F1 G1 H1 q1 e1 r1 s1 => ?_) hx
  obtain ⟨ds, rfl, q⟩ := q1
  cases r1.dp with
  | lst h r => exact ⟨_, _, rfl, e1.same.seq h, hR ρ1 _ _ F1 G1 H1 q e1 s1 (itOk_enum h r) (by rw [List.length_map, List.length_zipIdx, ← DpAll.length r]; exact e1.lenL h)⟩
theorem ai_zip {a b : Expr} {elts : List Expr} {kk : Nat} {tpos : Pos} {Ta Tb : TrE} {p pos : Pos} (hg : GlS sc "zip") (hm : c.mg "zip" = none) (ha : AE c sc W a 0 Ta) (hb : AE c sc W b 0 Tb) (he : ∀ env, starEach [a, b] env = (false, eval a env) :: starEach [b] env) (he2 : ∀ env, starEach [b] env = [(false, eval b env)]) :
    AI c sc W (.Tuple elts kk tpos) (.Call (.Name "zip" p) [a, b] [] pos) (fun ρ Φ Ξ => Ta ρ (fun ρ1 x => Tb ρ1 (fun ρ2 y => ∃ ds es, x = .list ds ∧ y = .list es ∧ Φ ρ2 ((ds.zip es).map fun p => .tuple [p.1, p.2])) Ξ) Ξ) := by
  obtain ⟨ta, pa, sa⟩ := ha
  obtain ⟨tb, pb, sb⟩ := hb
  refine ⟨iZip c.K (tCons ta (tCons tb tNil)), fun X hX => by have := pi_zip (elts := elts) (kk := kk) (tpos := tpos) (p := p) (pos := pos) (hX.gl hg) (hX.no hm) (pa_cons (pa X hX) (pa_cons (pb X hX) pa_nil (by rw [he2]; rfl)) (he _)) (he _) (by rw [he2]; rfl); rw [hX.K] at this; exact this, fun ρ Φ Ξ σ F G H R e0 hT hR hx => ?_⟩
  refine ae_two (a := a) (b := b) (R := fun v u H2 => ∃ a b xs ys, [v, u] = [.ref a, .ref b] ∧ SqL c.K H2 a xs ∧ SqL c.K H2 b ys ∧ R (Itz c.K a b) H2)
    (Φ := fun ρ2 x y => ∃ ds es, x = .list ds ∧ y = .list es ∧ Φ ρ2 ((ds.zip es).map fun p => .tuple [p.1, p.2])) sa sb e0 hx hT fun ρ2 x y v u F2 G2 H2 q e2 dv du s2 => ?_
  obtain ⟨ds, es, rfl, rfl, q⟩ := q
  cases dv with
  | lst h r =>
    cases du with
    | lst h' r' =>
      refine ⟨_, _, _, _, rfl, e2.same.seq h, e2.same.seq h', hR ρ2 _ _ F2 G2 H2 q e2 s2 (itOk_zip h r h' r') ?_⟩
      have := e2.lenL h
      rw [DpAll.length r] at this
      rw [List.length_map, List.length_zip]
      omega
end Q

namespace Q
open PySem PySem.Spec PyProof.Rows L2
variable {c : Ctx} {sc so : Scope} {W : WX} {Γ : List Ent} {bl : Bl}

/-! ### comprehensions -/
abbrev WF : WX := fun _ _ _ _ => False
theorem takes_F {X : Cx} : L2N.Takes X WF := fun u s' ⟨_, _, _, _, _, _, _, _, _, _, _, _, _, _, _, _, w⟩ => w.elim
theorem Is.blk {X : Cx} (hX : Is c sc W X) (s : Shared) (H : Hp) (scope : Scope) (cl : List (Str × Addr)) (C : Addr) (fp : List Addr) : Is c (relS scope sc) WF (X.blk s H scope (compEnvC scope cl C X.env) fp) where
  P := hX.P
  w := hX.w
  K := hX.K
  mg := hX.mg
  base := hX.base
  A := hX.A
  N := hX.N
  sc := by rw [← hX.sc]; rfl
  calm := hX.calm
  takes := takes_F
theorem Is.blkS {X : Cx} (hX : Is c sc W X) (s : Shared) (H : Hp) (scope : Scope) (cl : List (Str × Addr)) (C : Addr) (fp : List Addr) : IsS c (relS scope sc) scope WF (X.blk s H scope (compEnvC scope cl C X.env) fp) := by
  refine ⟨hX.blk s H scope cl C fp, fun x hx => ?_⟩
  have e : (X.blk s H scope (compEnvC scope cl C X.env) fp).env.scope = relS scope sc := (hX.blk s H scope cl C fp).sc
  rw [e]
  rcases hx with hx | hx
  · have q : (relS scope sc).names.lookup x = some .local := lookup_relS_keep (by decide) hx
    exact ⟨.inl q, .inr q⟩
  · have q : (relS scope sc).names.lookup x = some .cell := lookup_relS_keep (by decide) hx
    refine ⟨.inr q, .inl ?_⟩
    show (scope.names.lookup x == some .cell) = true
    rw [hx]; rfl
theorem xc_no {σ : Sg} {F : Foot} {G H : Hp} : Xc c WF σ F G H xNo := fun _ _ _ _ _ _ _ h => h.elim
abbrev TrO := Env → (Env → Bool → Prop) → Prop
def AO (c : Ctx) (sc : Scope) (ifs : List Expr) (T : TrO) : Prop := ∃ tt : TT, (∀ X, Is c sc WF X → PTs X ifs tt) ∧ ∀ (ρ : Env) (Φ : Env → Bool → Prop) (σ : Sg) (F : Foot) (G H : Hp) (Q : Bool → Hp → Prop), En c.K σ ρ F G H → T ρ Φ →
  (∀ ρ' b F' G' H', Φ ρ' b → En c.K σ ρ' F' G' H' → Stp F G H F' G' H' → Q b H') → tt σ H Q
theorem ao_none : AO c sc [] (fun ρ Φ => Φ ρ true) := ⟨tYes, fun _ _ => pts_nil, fun ρ Φ σ F G H Q e hT hQ => hQ ρ true F G H hT e (.refl _ _ _)⟩
theorem ao_some {e : Expr} {T : TrE} (h : AT c sc WF e (testOf T)) : AO c sc [e] (fun ρ Φ => T ρ (fun ρ1 x => ∃ t, x = .bool t ∧ Φ ρ1 t) xNo) := by
  obtain ⟨t, p, s⟩ := h
  exact ⟨t, fun X hX => pts_one (p X hX), fun ρ Φ σ F G H Q e hT hQ => s ρ Φ xNo σ F G H Q e hT hQ xc_no⟩

theorem wip_length (ρ : Env) : ∀ is : List Nat, (wip ρ is).length = ρ.length
  | [] => rfl
  | i :: is => by unfold wip; rw [List.length_set, wip_length ρ is]
theorem wip_in {ρ : Env} {j : Nat} {cl : Cell} : ∀ {is : List Nat}, (wip ρ is)[j]? = some cl → (j ∈ is ∧ cl = .un) ∨ (j ∉ is ∧ ρ[j]? = some cl)
  | [], h => .inr ⟨by simp, h⟩
  | i :: is, h => by
    unfold wip at h
    by_cases q : i = j
    · subst q
      rw [List.getElem?_set] at h
      rw [if_pos rfl] at h
      split at h
      · cases h; exact .inl ⟨by simp, rfl⟩
      · cases h
    · rw [List.getElem?_set_ne q] at h
      rcases wip_in h with ⟨a, b⟩ | ⟨a, b⟩
      · exact .inl ⟨by simp [a], b⟩
      · exact .inr ⟨by simp [a, Ne.symm q], b⟩
theorem back_length (ρ ρ' : Env) : ∀ is : List Nat, (back ρ ρ' is).length = ρ'.length
  | [] => rfl
  | i :: is => by unfold back; rw [List.length_set, back_length ρ ρ' is]
theorem back_in {ρ ρ' : Env} {j : Nat} {cl : Cell} : ∀ {is : List Nat}, (back ρ ρ' is)[j]? = some cl → (j ∈ is ∧ cl = ρ.getD j .un) ∨ (j ∉ is ∧ ρ'[j]? = some cl)
  | [], h => .inr ⟨by simp, h⟩
  | i :: is, h => by
    unfold back at h
    by_cases q : i = j
    · subst q
      rw [List.getElem?_set] at h
      rw [if_pos rfl] at h
      split at h
      · cases h; exact .inl ⟨by simp, rfl⟩
      · cases h
    · rw [List.getElem?_set_ne q] at h
      rcases back_in h with ⟨a, b⟩ | ⟨a, b⟩
      · exact .inl ⟨by simp [a], b⟩
      · exact .inr ⟨by simp [a, Ne.symm q], b⟩
theorem En.wipe {K : PySem.W.Frag} {σ : Sg} {ρ : Env} {F : Foot} {G H : Hp} (e : En K σ ρ F G H) (is : List Nat) : En K (L2.wipe σ is) (wip ρ is) F G H where
  same := e.same
  len := by rw [wip_length, wipe_length, e.len]
  cell := fun j cl hj => by
    rcases wip_in hj with ⟨_, rfl⟩ | ⟨hn, hj⟩
    · trivial
    · rw [wipe_out hn]; exact e.cell j cl hj
  nod := e.nod
  dis := e.dis
  out := e.out
  th := e.th
  ln := e.ln
  fz := e.fz
theorem En.back {K : PySem.W.Frag} {σ : Sg} {ρ ρ' : Env} {F F' : Foot} {G H G' H' : Hp} {is : List Nat} (e : En K σ ρ F G H) (e' : En K (L2.wipe σ is) ρ' F' G' H') (g : Same G G') (hn : notOw ρ is) : En K σ (Q.back ρ ρ' is) F' G' H' where
  same := e'.same
  len := by rw [back_length, e'.len, wipe_length]
  cell := fun j cl hj => by
    rcases back_in hj with ⟨hi, rfl⟩ | ⟨hi, hj⟩
    · rw [List.getD_eq_getElem?_getD]
      cases q : ρ[j]? with
      | none => exact trivial
      | some cl =>
        cases cl with
        | un => exact trivial
        | va d => exact CellOk.mono (A := []) (H := H) (H' := H) g (fun _ h => nomatch h) (show CellOk K G H [] _ (.va d) from e.cell j _ q)
        | ow k d => exact absurd q (hn j hi k d)
    · have := e'.cell j cl hj
      rw [wipe_out hi] at this
      exact this
  nod := e'.nod
  dis := e'.dis
  out := e'.out
  th := e'.th
  ln := e'.ln
  fz := e'.fz
theorem wipe_eq {σ σ' : Sg} {is : List Nat} (hl : σ'.length = σ.length) (h : ∀ j, j ∉ is → σ'[j]? = σ[j]?) : L2.wipe σ' is = L2.wipe σ is := by
  refine List.ext_getElem? fun j => ?_
  by_cases q : j ∈ is
  · have key : ∀ (τ : Sg), τ.length = σ.length → (L2.wipe τ is)[j]? = if j < σ.length then some none else none := fun τ ht => by
      cases z : (L2.wipe τ is)[j]? with
      | none =>
        have := List.getElem?_eq_none_iff.mp z
        rw [wipe_length, ht] at this
        rw [if_neg (by omega)]
      | some o =>
        have := (List.getElem?_eq_some_iff.mp z).1
        rw [wipe_length, ht] at this
        rw [if_pos this]
        cases o with
        | none => rfl
        | some v => exact absurd q (wipe_some z).2
    rw [key σ' hl, key σ rfl]
  · rw [wipe_out q, wipe_out q]; exact h j q
theorem wipe_wipe {σ : Sg} {is : List Nat} : L2.wipe (L2.wipe σ is) is = L2.wipe σ is := wipe_eq (wipe_length σ is) fun j hj => wipe_out hj
/-- one more item at the end of a list that is a result -/
theorem Res.push {K : PySem.W.Frag} {σ : Sg} {ρ : Env} {F1 F4 F5 : Foot} {G1 H1 G4 H4 G5 H5 : Hp} {k : Nat} {A B : List Addr} {p : Addr} {u : V} {y : D} {acc : List D}
    (e : En K σ ρ F5 G5 H5) (s4 : Stp F1 G1 H1 F4 G4 H4) (r4 : Res K F1 G1 H1 F4 G4 H4 (k + 1) A (.ref p) (.list acc)) (s45 : Stp F4 G4 H4 F5 G5 H5) (r5 : Res K F4 G4 H4 F5 G5 H5 k B u y) (hl : acc.length < 16777216) :
    ∃ vs, H5 p = some (.lst vs) ∧ vs.length = acc.length ∧ ∃ A', En K σ ρ F5 G5 (upd H5 p (.lst (vs ++ [u]))) ∧ Stp F1 G1 H1 F5 G5 (upd H5 p (.lst (vs ++ [u]))) ∧ Res K F1 G1 H1 F5 G5 (upd H5 p (.lst (vs ++ [u]))) (k + 1) A' (.ref p) (.list (acc ++ [y])) := by
  have rr := r4.stp s45
  have s := s4.trans s45
  obtain ⟨A0, vs, hA, hp, hr⟩ : ∃ A0 vs, A = p :: A0 ∧ H5 p = some (.lst vs) ∧ Ows K G5 H5 k A0 vs acc := by
    have h := rr.ow
    generalize hv : V.ref p = v at h
    generalize hd : PyData.list acc = d at h
    cases h with
    | flt f _ => subst hd; cases f
    | lst h r => cases hv; cases hd; exact ⟨_, _, rfl, h, r⟩
  subst hA
  have hpG : G5 p = none := rr.out p (by simp)
  have hpF : ∀ i, p ∉ F5 i := fun i => rr.dis p (by simp) i
  have hne : ∀ b, H1 b ≠ none → (∀ i, b ∉ F1 i) → b ≠ p := fun b hb hF z => by
    subst z
    rcases rr.new b (by simp) with ⟨j, hj⟩ | hn
    · exact hF j hj
    · exact hb hn
  have dB : ∀ b ∈ B, b ∉ p :: A0 := fun b hb z => by
    rcases r5.new b hb with ⟨j, hj⟩ | hn
    · exact r4.dis b z j hj
    · obtain ⟨ws, q⟩ := Ow.there r4.ow b z
      rw [hn] at q; cases q
  have hpB : p ∉ B := fun z => dB p z (by simp)
  have hpA : p ∉ A0 := (List.nodup_cons.mp rr.nod).1
  have hvl : vs.length = acc.length := Ows.length hr
  refine ⟨vs, hp, hvl, p :: (A0 ++ (B ++ [])), ?_, ⟨s.g, fun b o n q => ?_, s.nf, s.ng, fun b hb => ?_⟩, ⟨.lst upd_same (Ows.append (Ows.mono (Same.refl _) (fun b hb o q => ?_) hr) (.cons (Ow.mono (Same.refl _) (fun b hb o q => ?_) r5.ow) .nil)), ?_, fun a ha => ?_, fun a ha => ?_, fun a ha => ?_⟩⟩
  · refine e.upto (Same.refl _) (fun i b hb o q => ?_) (fun b o q => ?_) e.out (ln_upd e.ln ?_) e.fz
    · rw [upd_ne (show b ≠ p from fun z => by subst z; exact hpF i hb)]; exact q
    · rw [upd_ne (fun z => by rw [z, hpG] at q; cases q)]; exact e.same b o q
    · show (vs ++ [u]).length ≤ 16777216
      rw [List.length_append, List.length_singleton, hvl]
      omega
  · rw [upd_ne (hne b (by rw [q]; simp) n)]; exact s.h b o n q
  · by_cases z : b = p
    · rw [z, upd_same]; simp
    · rw [upd_ne z]; exact s.th b hb
  · rw [upd_ne (show b ≠ p from fun z => by subst z; exact hpA hb)]; exact q
  · rw [upd_ne (show b ≠ p from fun z => by subst z; exact hpB hb)]; exact q
  · rw [List.append_nil]
    refine List.nodup_cons.mpr ⟨fun z => ?_, List.nodup_append.mpr ⟨(List.nodup_cons.mp rr.nod).2, r5.nod, fun a ha b hb z => dB b hb (by rw [← z]; simp [ha])⟩⟩
    rcases List.mem_append.mp z with z | z
    · exact hpA z
    · exact hpB z
  · rw [List.append_nil] at ha
    rcases List.mem_cons.mp ha with rfl | ha
    · exact hpG
    · rcases List.mem_append.mp ha with ha | ha
      · exact rr.out a (by simp [ha])
      · exact r5.out a ha
  · rw [List.append_nil] at ha
    rcases List.mem_cons.mp ha with rfl | ha
    · exact hpF
    · rcases List.mem_append.mp ha with ha | ha
      · exact rr.dis a (by simp [ha])
      · exact r5.dis a ha
  · rw [List.append_nil] at ha
    rcases List.mem_cons.mp ha with rfl | ha
    · exact rr.new a (by simp)
    · rcases List.mem_append.mp ha with ha | ha
      · exact rr.new a (by simp [ha])
      · exact (r5.from s4).new a ha
theorem comp_core {elt tg' iter' : Expr} {ifs : List Expr} {scope : Scope} {own : List (Str × Nat)} {pos : Pos} {k : Nat} {tg : Tg} {Ti : TrL} {To : TrO} {Te : TrE}
    (hN : c.N.Nodup) (hi : AI c sc W tg' iter' Ti) (ok : BlkOk c.N sc scope own) (hg : chkTg c.N scope tg tg' = true) (hsl : ∀ j ∈ tg.slots, j ∈ own.map (·.2))
    (ho : AO c (relS scope sc) ifs To) (he : AE c (relS scope sc) WF elt k Te) :
    ∃ wi g tt te, (∀ X, Is c sc W X → PI X tg' iter' wi ∧ BlkOk X.N X.env.scope scope own ∧ (∀ (s : Shared) (H : Hp) (C : Addr) (cl : List (Str × Addr)) (fp : List Addr), PG (X.blk s H scope (compEnvC scope cl C X.env) fp) tg' g) ∧
      (∀ (s : Shared) (H : Hp) (C : Addr) (cl : List (Str × Addr)) (fp : List Addr), PTs (X.blk s H scope (compEnvC scope cl C X.env) fp) ifs tt) ∧ (∀ (s : Shared) (H : Hp) (C : Addr) (cl : List (Str × Addr)) (fp : List Addr), PE (X.blk s H scope (compEnvC scope cl C X.env) fp) elt te)) ∧
    Snd c W (k + 1) (fun ρ Φ Ξ => Ti ρ (fun ρ1 ds => notOw ρ1 (own.map (·.2)) ∧ compW (own.map (·.2)) tg To (fun ρ k => Te ρ k xNo) ds [] (wip ρ1 (own.map (·.2))) fun ρ2 ys => Φ (back ρ1 ρ2 (own.map (·.2))) (.list ys)) Ξ) (tLc wi g tt te (own.map (·.2))) := by
  obtain ⟨wi, pi, si⟩ := hi
  obtain ⟨g, pg, sg⟩ := snd_tg (so := scope) (sc := relS scope sc) (W := WF) hN tg tg' hg
  obtain ⟨tt, pt, st⟩ := ho
  obtain ⟨te, pe, se⟩ := he
  refine ⟨wi, g, tt, te, fun X hX => ⟨pi X hX, by rw [hX.N, hX.sc]; exact ok, fun s H C cl fp => pg _ (hX.blkS s H scope cl C fp), fun s H C cl fp => pt _ (hX.blk s H scope cl C fp), fun s H C cl fp => pe _ (hX.blk s H scope cl C fp)⟩, ?_⟩
  generalize how : own.map (·.2) = ow at *
  intro ρ Φ Ξ σ F G H Q e0 hT hQ hx
  refine si ρ _ Ξ σ F G H _ e0 hT (fun ρ1 ds J F1 G1 H1 q1 e1 s1 hJ hl => ?_) hx
  obtain ⟨hno, hw⟩ := q1
  intro p hp
  have r0 : Ress c.K F1 G1 H1 F1 G1 H1 k [] [] [] := ⟨.nil, .nil, (fun _ h => nomatch h), (fun _ h => nomatch h), (fun _ h => nomatch h)⟩
  obtain ⟨e2, s2, r2⟩ := r0.list e1 (.refl _ _ _) hp (Nat.zero_le _)
  obtain ⟨Nx, hNx⟩ : ∃ Nx : Nat → Hp → Prop, Nx = fun i Hc => i ≤ ds.length ∧ ∃ ρc Fc Gc acc A, compW ow tg To (fun ρ k => Te ρ k xNo) (ds.drop i) acc ρc (fun ρ2 ys => Φ (back ρ1 ρ2 ow) (.list ys)) ∧ En c.K (L2.wipe σ ow) ρc Fc Gc Hc ∧ Stp F1 G1 H1 Fc Gc Hc ∧
    Res c.K F1 G1 H1 Fc Gc Hc (k + 1) A (.ref p) (.list acc) ∧ acc.length ≤ i := ⟨_, rfl⟩
  refine ⟨fun i m Hc => m = ds.length - i ∧ Nx i Hc, ⟨ds.length, by simp, by rw [hNx]; exact ⟨Nat.zero_le _, wip ρ1 ow, F1, G1, [], _, hw, e2.wipe ow, s2, r2, Nat.le_refl 0⟩⟩, ?_⟩
  rintro i m Hc ⟨rfl, hh⟩
  rw [hNx] at hh
  obtain ⟨hi, ρc, Fc, Gc, acc, A, hw, ec, sc', rc, hal⟩ := hh
  obtain ⟨hstop, hgo⟩ := hJ i Gc Hc sc'.g ec.same
  by_cases hlt : i < ds.length
  · obtain ⟨go, hy⟩ := hgo ds[i] (List.getElem?_eq_getElem hlt)
    refine .inr ⟨go, Nx (i + 1), fun H' q => ⟨ds.length - (i + 1), by omega, rfl, q⟩, fun x H' y => ?_⟩
    rw [List.drop_eq_getElem_cons hlt] at hw
    have turn : ∀ G2 H2, En c.K (L2.wipe σ ow) ρc Fc G2 H2 → Stp Fc Gc Hc Fc G2 H2 → Dp c.K G2 x ds[i] → g x (L2.wipe σ ow) H2 (fun σ2 H3 => L2.wipe σ2 ow = L2.wipe σ ow ∧ tt σ2 H3 fun b H4 =>
        if b = true then te σ2 H4 fun y H5 => ∃ acc, H5 p = some (.lst acc) ∧ acc.length < sizeLine ∧ Nx (i + 1) (upd H5 p (.lst (acc ++ [y]))) else Nx (i + 1) H4) := fun G2 H2 e3 s3 dx => by
      refine sg _ ρc _ (L2.wipe σ ow) Fc G2 H2 x _ e3 dx hw fun σ3 ρ3 F3 q3 e4 s4 a3 l3 => ?_
      have hwq : L2.wipe σ3 ow = L2.wipe σ ow := (wipe_eq l3 fun j hj => a3 j fun z => hj (hsl j z)).trans wipe_wipe
      refine ⟨hwq, st ρ3 _ σ3 F3 G2 H2 _ e4 q3 fun ρ4 b F4 G4 H4 q4 e5 s5 => ?_⟩
      have s14 := sc'.trans (s3.trans (s4.trans s5))
      have rc4 := rc.stp (s3.trans (s4.trans s5))
      cases b with
      | false =>
        rw [sel_f] at q4; rw [if_neg (by decide)]
        rw [hNx]
        exact ⟨hlt, wip ρ4 ow, F4, G4, acc, A, q4, hwq ▸ e5.wipe ow, s14, rc4, by omega⟩
      | true =>
        rw [sel_t] at q4; rw [if_pos rfl]
        refine se ρ4 _ xNo σ3 F4 G4 H4 _ e5 q4 (fun ρ5 y u B F5 G5 H5 q5 e6 r5 s6 => ?_) xc_no
        obtain ⟨vs, h1, h2, A', h3, h4, h5⟩ := Res.push e6 s14 rc4 s6 r5 (by omega)
        refine ⟨vs, h1, by rw [h2, sizeLine_eq]; omega, ?_⟩
        rw [hNx]
        exact ⟨hlt, wip ρ5 ow, F5, G5, acc ++ [y], A', q5, hwq ▸ h3.wipe ow, h4, h5, by rw [List.length_append, List.length_singleton]; omega⟩
    rcases hy x H' y with ⟨rfl, dx⟩ | ⟨T, o, hov, hT, rfl, dx⟩
    · exact turn Gc _ ec (.refl _ _ _) dx
    · obtain ⟨e3, s3⟩ := ec.laid hT hov.1 hov.2
      exact turn _ _ e3 s3 dx
  · have hi' : i = ds.length := by omega
    subst hi'
    rw [List.drop_length] at hw
    have hw : Φ (back ρ1 ρc ow) (.list acc) := hw
    exact .inl ⟨hstop (Nat.le_refl _), hQ _ _ (.ref p) A Fc Gc Hc hw (e1.back ec sc'.g hno) (rc.from s1) (s1.trans sc')⟩
theorem ae_comp {elt tg' iter' : Expr} {ifs : List Expr} {scope : Scope} {own : List (Str × Nat)} {pos : Pos} {k : Nat} {tg : Tg} {Ti : TrL} {To : TrO} {Te : TrE}
    (hN : c.N.Nodup) (hi : AI c sc W tg' iter' Ti) (ok : BlkOk c.N sc scope own) (hg : chkTg c.N scope tg tg' = true) (hsl : ∀ j ∈ tg.slots, j ∈ own.map (·.2))
    (ho : AO c (relS scope sc) ifs To) (he : AE c (relS scope sc) WF elt k Te) (hs : ∀ env x, foldedSetIterable iter' env x = pure x) :
    AE c sc W (.ListComp elt [⟨tg', iter', ifs, 0⟩] scope pos) (k + 1) (fun ρ Φ Ξ => Ti ρ (fun ρ1 ds => notOw ρ1 (own.map (·.2)) ∧ compW (own.map (·.2)) tg To (fun ρ k => Te ρ k xNo) ds [] (wip ρ1 (own.map (·.2))) fun ρ2 ys => Φ (back ρ1 ρ2 (own.map (·.2))) (.list ys)) Ξ) := by
  obtain ⟨wi, g, tt, te, h, s⟩ := comp_core (W := W) (pos := pos) hN hi ok hg hsl ho he
  refine ⟨_, fun X hX => ?_, s⟩
  obtain ⟨h1, h2, h3, h4, h5⟩ := h X hX
  exact pe_lc hX.calm (by rw [hX.N]; exact hN) h1 h2 h3 h4 h5 (hs _)
end Q

namespace Q
open PySem PySem.Spec PyProof.Rows L2
variable {c : Ctx} {sc so : Scope} {W : WX} {Γ : List Ent} {bl : Bl} {P : List Nat} {rk : Nat}

/-! ### statements -/
def Kp (P : List Nat) (σ σ' : Sg) : Prop := ∀ i ∈ P, σ'[i]? = σ[i]?
theorem Kp.refl {σ : Sg} : Kp P σ σ := fun _ _ => rfl
theorem Kp.trans {σ σ' σ'' : Sg} (a : Kp P σ σ') (b : Kp P σ' σ'') : Kp P σ σ'' := fun i h => (b i h).trans (a i h)
theorem Kp.set {σ : Sg} {i : Nat} {x : Option V} (h : i ∉ P) : Kp P σ (σ.set i x) := fun j hj => List.getElem?_set_ne (show i ≠ j from fun z => by subst z; exact h hj)
structure KOk (c : Ctx) (W : WX) (P : List Nat) (rk : Nat) (σ : Sg) (F : Foot) (G H : Hp) (κ : Kt) (D : Ends) : Prop where
  nx : ∀ σ' ρ' F' G' H', κ.nx ρ' → En c.K σ' ρ' F' G' H' → Stp F G H F' G' H' → Kp P σ σ' → D.nx σ' H'
  ct : ∀ σ' ρ' F' G' H', κ.ct ρ' → En c.K σ' ρ' F' G' H' → Stp F G H F' G' H' → Kp P σ σ' → D.ct σ' H'
  bk : ∀ σ' ρ' F' G' H', κ.bk ρ' → En c.K σ' ρ' F' G' H' → Stp F G H F' G' H' → Kp P σ σ' → D.bk σ' H'
  rt : ∀ σ' ρ' d v A F' G' H', κ.rt ρ' d → En c.K σ' ρ' F' G' H' → Res c.K F G H F' G' H' rk A v d → Stp F G H F' G' H' → Kp P σ σ' → D.rt v H'
  xc : ∀ σ' ρ' x F' G' H' cls dd, κ.xc ρ' x → En c.K σ' ρ' F' G' H' → Stp F G H F' G' H' → Kp P σ σ' → XR c.mg x cls dd → W cls dd σ' H'
theorem KOk.stp {σ σ' : Sg} {F F' : Foot} {G H G' H' : Hp} {κ : Kt} {D : Ends} (k : KOk c W P rk σ F G H κ D) (s : Stp F G H F' G' H') (p : Kp P σ σ') : KOk c W P rk σ' F' G' H' κ D where
  nx := fun σ2 ρ2 F2 G2 H2 h e s2 p2 => k.nx σ2 ρ2 F2 G2 H2 h e (s.trans s2) (p.trans p2)
  ct := fun σ2 ρ2 F2 G2 H2 h e s2 p2 => k.ct σ2 ρ2 F2 G2 H2 h e (s.trans s2) (p.trans p2)
  bk := fun σ2 ρ2 F2 G2 H2 h e s2 p2 => k.bk σ2 ρ2 F2 G2 H2 h e (s.trans s2) (p.trans p2)
  rt := fun σ2 ρ2 d v A F2 G2 H2 h e r s2 p2 => k.rt σ2 ρ2 d v A F2 G2 H2 h e (r.from s) (s.trans s2) (p.trans p2)
  xc := fun σ2 ρ2 x F2 G2 H2 cls dd h e s2 p2 => k.xc σ2 ρ2 x F2 G2 H2 cls dd h e (s.trans s2) (p.trans p2)
theorem KOk.toX {σ : Sg} {F : Foot} {G H : Hp} {κ : Kt} {D : Ends} (k : KOk c W P rk σ F G H κ D) : Xc c W σ F G H κ.xc :=
  fun ρ' x F' G' H' cls dd h e s r => k.xc σ ρ' x F' G' H' cls dd h e s Kp.refl r
abbrev TrS := Kt → Env → Prop
structure IsT (c : Ctx) (sc : Scope) (W : WX) (X : Cx) : Prop where
  is : IsS c sc sc W X
  hp : PassesOwn (model X.prog X.w) X.A X.env X.xe
  kind : X.env.scope.kind = .function
  stk : X.stack = X.env :: X.outer
  frm : X.env.frame = some X.env.locals
def SndS (c : Ctx) (W : WX) (P : List Nat) (rk : Nat) (T : TrS) (t : TS) : Prop := ∀ (κ : Kt) (ρ : Env) (σ : Sg) (F : Foot) (G H : Hp) (D : Ends), En c.K σ ρ F G H → T κ ρ → KOk c W P rk σ F G H κ D → t D σ H
def AP (c : Ctx) (sc : Scope) (W : WX) (P : List Nat) (rk : Nat) (st : Stmt) (T : TrS) : Prop := ∃ t : TS, (∀ X, IsT c sc W X → PS X st t) ∧ SndS c W P rk T t
def APs (c : Ctx) (sc : Scope) (W : WX) (P : List Nat) (rk : Nat) (st : List Stmt) (T : TrS) : Prop := ∃ t : TS, (∀ X, IsT c sc W X → PSs X st t) ∧ SndS c W P rk T t

theorem aps_nil : APs c sc W P rk [] (fun κ ρ => κ.nx ρ) := ⟨_, fun _ _ => pss_nil, fun κ ρ σ F G H D e hT k => k.nx σ ρ F G H hT e (.refl _ _ _) Kp.refl⟩
theorem aps_cons {st : Stmt} {rest : List Stmt} {T U : TrS} (h1 : AP c sc W P rk st T) (h2 : APs c sc W P rk rest U) : APs c sc W P rk (st :: rest) (fun κ ρ => T { κ with nx := fun ρ1 => U κ ρ1 } ρ) := by
  obtain ⟨t, pt, s⟩ := h1
  obtain ⟨u, pu, s'⟩ := h2
  refine ⟨_, fun X hX => pss_cons (pt X hX) (pu X hX), fun κ ρ σ F G H D e hT k => ?_⟩
  refine s { κ with nx := fun ρ1 => U κ ρ1 } ρ σ F G H { D with nx := u D } e hT ⟨fun σ' ρ' F' G' H' q e' s1 p => ?_, k.ct, k.bk, k.rt, k.xc⟩
  exact s' κ ρ' σ' F' G' H' D e' q (k.stp s1 p)
theorem ap_pass {pos : Pos} : AP c sc W P rk (.Pass pos) (fun κ ρ => κ.nx ρ) := ⟨_, fun _ _ => ps_pass, fun κ ρ σ F G H D e hT k => k.nx σ ρ F G H hT e (.refl _ _ _) Kp.refl⟩
theorem ap_cont {pos : Pos} : AP c sc W P rk (.Continue pos) (fun κ ρ => κ.ct ρ) := ⟨_, fun _ _ => ps_continue, fun κ ρ σ F G H D e hT k => k.ct σ ρ F G H hT e (.refl _ _ _) Kp.refl⟩
theorem ap_brk {pos : Pos} : AP c sc W P rk (.Break pos) (fun κ ρ => κ.bk ρ) := ⟨_, fun _ _ => ps_break, fun κ ρ σ F G H D e hT k => k.bk σ ρ F G H hT e (.refl _ _ _) Kp.refl⟩
theorem ap_never {st : Stmt} : AP c sc W P rk st (fun _ _ => False) := ⟨_, fun _ _ => ps_never, fun κ ρ σ F G H D e hT k => hT.elim⟩
theorem ap_raise {Γ : List Ent} {bl : Bl} {x m : Str} {j : Nat} {p p2 pos pos' : Pos} (sd : Sd c Γ bl) (hg : GlS sc x) (hdb : (x == ("__debug__" : Str)) = false) (hx : x ∈ bl.x) : AP c sc W P rk (.Raise (some (.Call (.Name x p) [.Constant (.str m) j p2] [] pos)) none pos') (fun κ ρ => κ.xc ρ x) := by
  obtain ⟨C, B, n1, n2, bm, h1, h2, h3, h4, h5, h6⟩ := sd.xok x hx
  refine ⟨_, fun X hX => L2N.ps_raise hX.is.is.calm hX.is.is.takes (L2N.pmk_own (C := C) h3 (hX.is.is.K ▸ h4) (by rw [hX.is.is.mg]; exact h1) (hX.is.is.K ▸ h2) (raises_own (hX.is.is.K ▸ h5) (hX.is.is.K ▸ h6)) (hX.is.is.gl hg) hdb), fun κ ρ σ F G H D e hT k => ?_⟩
  exact k.xc σ ρ x F G H (.ref C) none hT e (.refl _ _ _) Kp.refl ⟨h1, rfl⟩
theorem ap_ret {e : Expr} {T : TrE} {pos : Pos} (h : AE c sc W e rk T) : AP c sc W P rk (.Return (some e) pos) (fun κ ρ => T ρ κ.rt κ.xc) := by
  obtain ⟨t, pt, s⟩ := h
  refine ⟨_, fun X hX => ps_ret (pt X hX.is.is), fun κ ρ σ F G H D e hT k => ?_⟩
  exact s ρ κ.rt κ.xc σ F G H D.rt e hT (fun ρ' d v A F' G' H' q e' r s' => k.rt σ ρ' d v A F' G' H' q e' r s' Kp.refl) k.toX
theorem ap_expr {e : Expr} {m : Nat} {T : TrE} {pos : Pos} (h : AE c sc W e m T) (hs : ∀ l env, swapsWith e none l env = pure false) : AP c sc W P rk (.Expr e pos) (fun κ ρ => T ρ (fun ρ1 _ => κ.nx ρ1) κ.xc) := by
  obtain ⟨t, pt, s⟩ := h
  refine ⟨_, fun X hX => ps_expr (pt X hX.is.is) (hs _ _), fun κ ρ σ F G H D e hT k => ?_⟩
  exact s ρ _ κ.xc σ F G H _ e hT (fun ρ' d v A F' G' H' q e' r s' => k.nx σ ρ' F' G' H' q e' s' Kp.refl) k.toX
theorem ap_ite {e : Expr} {a b : List Stmt} {Tc : TrE} {Ta Tb : TrS} {pos : Pos} (hc : AT c sc W e (testOf Tc)) (ha : APs c sc W P rk a Ta) (hb : APs c sc W P rk b Tb) :
    AP c sc W P rk (.If e a b pos) (fun κ ρ => Tc ρ (fun ρ1 x => ∃ t, x = .bool t ∧ sel t (Ta κ ρ1) (Tb κ ρ1)) κ.xc) := by
  obtain ⟨tc, pc, s⟩ := hc
  obtain ⟨ta, pa, sa⟩ := ha
  obtain ⟨tb, pb, sb⟩ := hb
  refine ⟨_, fun X hX => ps_if (pc X hX.is.is) (pa X hX) (pb X hX), fun κ ρ σ F G H D e hT k => ?_⟩
  refine s ρ _ κ.xc σ F G H _ e hT (fun ρ1 b F1 G1 H1 q e1 s1 => ?_) k.toX
  cases b with
  | true => rw [sel_t] at q; rw [if_pos rfl]; exact sa κ ρ1 σ F1 G1 H1 D e1 q (k.stp s1 Kp.refl)
  | false => rw [sel_f] at q; rw [if_neg (by decide)]; exact sb κ ρ1 σ F1 G1 H1 D e1 q (k.stp s1 Kp.refl)
/-- a value put into a name's slot -/
theorem put_name {σ : Sg} {ρ : Env} {F F1 : Foot} {G H G1 H1 : Hp} {κ : Kt} {D : Ends} {i m : Nat} {A : List Addr} {v : V} {d : PyData} {cl : Cell} (k : KOk c W P rk σ F G H κ D) (hi : i ∉ P) (e1 : En c.K σ ρ F1 G1 H1) (r : Res c.K F G H F1 G1 H1 m A v d) (s1 : Stp F G H F1 G1 H1)
    (hc : cl = .un ∨ (m = 0 ∧ cl = .va d) ∨ cl = .ow m d) (q : κ.nx (ρ.set i cl)) : D.nx (σ.set i (some v)) H1 :=
  k.nx _ _ _ _ _ q (e1.set r hc) (Stp.put s1 r) (Kp.set hi)
theorem ap_set {e : Expr} {i m : Nat} {x : Str} {T : TrE} {px pos : Pos} {cl : D → Cell} (hN : c.N.Nodup) (h : AE c sc W e m T) (hi : c.N[i]? = some x) (hx : LocS sc x) (hP : i ∉ P) (hs : ∀ X, IsT c sc W X → swapsWith e (some (.Name x px)) pos.line X.env = pure false) (hc : ∀ d, (m = 0 ∧ cl d = .va d) ∨ cl d = .ow m d) :
    AP c sc W P rk (.Assign [.Name x px] e pos) (fun κ ρ => T ρ (fun ρ1 d => κ.nx (ρ1.set i (cl d))) κ.xc) := by
  obtain ⟨t, pt, s⟩ := h
  refine ⟨tAsg t (gName i), fun X hX => ?_, fun κ ρ σ F G H D e hT k => ?_⟩
  · obtain ⟨q1, q2⟩ := hX.is.st x hx
    exact ps_set (by rw [hX.is.is.N]; exact hN) (hX.is.is.ix hi) q1 (pt X hX.is.is) (hs X hX) q2
  · exact s ρ _ κ.xc σ F G H _ e hT (fun ρ' d v A F' G' H' q e' r s' => put_name k hP e' r s' (.inr (hc d)) q) k.toX
theorem ap_setc {elt tg' iter' : Expr} {ifs : List Expr} {scope : Scope} {own : List (Str × Nat)} {pos px ps : Pos} {k i : Nat} {x : Str} {tg : Tg} {Ti : TrL} {To : TrO} {Te : TrE} {cl : D → Cell}
    (hN : c.N.Nodup) (hi : AI c sc W tg' iter' Ti) (ok : BlkOk c.N sc scope own) (hg : chkTg c.N scope tg tg' = true) (hsl : ∀ j ∈ tg.slots, j ∈ own.map (·.2))
    (ho : AO c (relS scope sc) ifs To) (he : AE c (relS scope sc) WF elt k Te) (hs : ∀ env x, foldedSetIterable iter' env x = pure x)
    (hix : c.N[i]? = some x) (hx : sc.names.lookup x = some .local) (hP : i ∉ P) (hl : (px.line == pos.line) = true) (hn : (scope.names.any fun (n, k) => n == x && (k == .local || k == .cell)) = false) (m : Nat) (hm : m = 0 ∨ k + 1 = m) (hc : ∀ d, (m = 0 ∧ cl d = .va d) ∨ cl d = .ow m d) :
    AP c sc W P rk (.Assign [.Name x px] (.ListComp elt [⟨tg', iter', ifs, 0⟩] scope pos) ps) (fun κ ρ => Ti ρ (fun ρ1 ds => notOw ρ1 (own.map (·.2)) ∧ compW (own.map (·.2)) tg To (fun ρ k => Te ρ k xNo) ds [] (wip ρ1 (own.map (·.2))) fun ρ2 ys => κ.nx ((back ρ1 ρ2 (own.map (·.2))).set i (cl (.list ys)))) κ.xc) := by
  obtain ⟨wi, g, tt, te, h, s⟩ := comp_core (W := W) (pos := pos) hN hi ok hg hsl ho he
  refine ⟨tAsg (tLc wi g tt te (own.map (·.2))) (gName i), fun X hX => ?_, fun κ ρ σ F G H D e hT kk => ?_⟩
  · obtain ⟨h1, h2, h3, h4, h5⟩ := h X hX.is.is
    exact ps_setLc hX.is.is.calm (by rw [hX.is.is.N]; exact hN) (hX.is.is.ix hix) (by rw [hX.is.is.sc]; exact hx) (sw_true hX.kind (by rw [hX.is.is.sc]; exact hx) hl hn) h1 h2 h3 h4 h5 (hs _)
  · refine s ρ (fun ρ1 d => κ.nx (ρ1.set i (cl d))) κ.xc σ F G H _ e hT (fun ρ' d v A F' G' H' q e' r s' => ?_) kk.toX
    rcases hm with rfl | rfl
    · obtain ⟨h1, h2, h3⟩ := r.freeze e'
      exact put_name kk hP h2 (m := 0) (A := []) (.frz h1) (h3 s') (.inr (hc d)) q
    · exact put_name kk hP e' r s' (.inr (hc d)) q
theorem ap_par {a b : Expr} {i j : Nat} {x y : Str} {Ta Tb : TrE} {px py pt pos : Pos} {kt k2 : Nat} {pt2 : Pos} (hN : c.N.Nodup) (ha : AE c sc W a 0 Ta) (hb : AE c sc W b 0 Tb) (hi : c.N[i]? = some x) (hj : c.N[j]? = some y) (hij : i ≠ j)
    (hx : sc.names.lookup x = some .local) (hy : sc.names.lookup y = some .local) (hPi : i ∉ P) (hPj : j ∉ P)
    (h1 : ∀ env, starEach [a, b] env = (false, eval a env) :: starEach [b] env) (h2 : ∀ env, starEach [b] env = (false, eval b env) :: starEach [] env)
    (hw : ∀ X, IsT c sc W X → swappedStores [.Tuple [.Name x px, .Name y py] kt pt] (.Tuple [a, b] k2 pt2) X.env = pure (some [x, y])) :
    AP c sc W P rk (.Assign [.Tuple [.Name x px, .Name y py] kt pt] (.Tuple [a, b] k2 pt2) pos) (fun κ ρ => Ta ρ (fun ρ1 x => Tb ρ1 (fun ρ2 y => κ.nx ((ρ2.set i (.va x)).set j (.va y))) κ.xc) κ.xc) := by
  obtain ⟨ta, pa, sa⟩ := ha
  obtain ⟨tb, pb, sb⟩ := hb
  refine ⟨_, fun X hX => ps_par hX.is.is.calm (by rw [hX.is.is.N]; exact hN) (hX.is.is.ix hi) (hX.is.is.ix hj) hij (by rw [hX.is.is.sc]; exact hx) (by rw [hX.is.is.sc]; exact hy) (pa_cons (pa X hX.is.is) (pa_cons (pb X hX.is.is) pa_nil (h2 _)) (h1 _)) (hw X hX), fun κ ρ σ F G H D e hT k => ?_⟩
  refine ae_two (a := a) (b := b) (R := fun v u H2 => ∃ v' w, [v, u] = [v', w] ∧ D.nx ((σ.set i (some v')).set j (some w)) H2) (Φ := fun ρ2 x y => κ.nx ((ρ2.set i (.va x)).set j (.va y))) sa sb e k.toX hT fun ρ2 x y v u F2 G2 H2 q e2 dv du s2 => ?_
  have r1 : Res c.K F2 G2 H2 F2 G2 H2 0 [] v x := .frz dv
  have e3 := e2.set (i := i) r1 (.inr (.inl ⟨rfl, rfl⟩))
  have s3 := Stp.put (i := i) (.refl _ _ _) r1
  have r2 : Res c.K F2 G2 H2 (put F2 i []) G2 H2 0 [] u y := .frz du
  have e4 := e3.set (i := j) r2 (.inr (.inl ⟨rfl, rfl⟩))
  have s4 := Stp.put (i := j) s3 r2
  exact ⟨v, u, rfl, k.nx _ _ _ _ _ q e4 (s2.trans s4) ((Kp.set hPi).trans (Kp.set hPj))⟩
theorem ap_unp {e : Expr} {es : List Expr} {kk : Nat} {tp pos : Pos} {m : Nat} {ts : Tgs} {T : TrE} (hN : c.N.Nodup) (h : AE c sc W e 0 T) (hg : chkTgs c.N sc ts es = true) (hP : ∀ j ∈ ts.slots, j ∉ P)
    (hs : ∀ l env, swapsWithSole [.Tuple es kk tp] e l env = pure false) (hw : ∀ env, swappedStores [.Tuple es kk tp] e env = pure none) :
    AP c sc W P rk (.Assign [.Tuple es kk tp] e pos) (fun κ ρ => T ρ (fun ρ1 d => asg (.tp ts) d ρ1 κ.nx) κ.xc) := by
  obtain ⟨t, pt, s⟩ := h
  obtain ⟨g, pg, sg⟩ := snd_tg (so := sc) (sc := sc) (W := W) hN (.tp ts) (.Tuple es kk tp) (by simpa [chkTg] using hg)
  refine ⟨_, fun X hX => ps_asg (pt X hX.is.is) (pg X hX.is) (hs _ _) (hw _) (by rfl), fun κ ρ σ F G H D e hT k => ?_⟩
  refine s ρ _ κ.xc σ F G H _ e hT (fun ρ1 d v A F1 G1 H1 q e1 r s1 => ?_) k.toX
  exact sg d ρ1 κ.nx σ F1 G1 H1 v D.nx e1 r.dp q fun σ' ρ' F' q' e' s' a l => k.nx σ' ρ' F' G1 H1 q' e' (s1.trans s') fun j hj => a j fun z => hP j z hj
theorem ap_whl {e : Expr} {body : List Stmt} {Tc : TrE} {Tb : TrS} {pos : Pos} (hc : AT c sc W e (testOf Tc)) (hb : APs c sc W P rk body Tb) :
    AP c sc W P rk (.While e body [] pos) (fun κ ρ => ∃ n, whW (fun ρ k => Tc ρ (fun ρ1 x => ∃ t, x = .bool t ∧ k ρ1 t) κ.xc) (fun k ρ => Tb { κ with nx := k, ct := k, bk := κ.nx } ρ) κ.nx n ρ) := by
  obtain ⟨tc, pc, sc'⟩ := hc
  obtain ⟨tb, pb, sb⟩ := hb
  refine ⟨_, fun X hX => ps_while hX.hp (pc X hX.is.is) (pb X hX), fun κ ρ σ F G H D e hT k => ?_⟩
  obtain ⟨n, hT⟩ := hT
  refine ⟨fun m σ' H' => ∃ ρ' F' G', whW (fun ρ k => Tc ρ (fun ρ1 x => ∃ t, x = .bool t ∧ k ρ1 t) κ.xc) (fun k ρ => Tb { κ with nx := k, ct := k, bk := κ.nx } ρ) κ.nx m ρ' ∧ En c.K σ' ρ' F' G' H' ∧ Stp F G H F' G' H' ∧ Kp P σ σ', ⟨n, ρ, F, G, hT, e, .refl _ _ _, Kp.refl⟩, ?_⟩
  rintro m σ1 H1 ⟨ρ1, F1, G1, hw, e1, s1, p1⟩
  cases m with
  | zero => exact hw.elim
  | succ m =>
    have k1 := k.stp s1 p1
    refine sc' ρ1 _ κ.xc σ1 F1 G1 H1 _ e1 hw (fun ρ2 b F2 G2 H2 q e2 s2 => ?_) k1.toX
    have k2 := k1.stp s2 Kp.refl
    cases b with
    | true =>
      rw [sel_t] at q; rw [if_pos rfl]
      refine ⟨_, fun σ' H' w => ⟨m, Nat.lt_succ_self _, w⟩, ?_⟩
      refine sb _ ρ2 σ1 F2 G2 H2 _ e2 q ⟨fun σ3 ρ3 F3 G3 H3 q3 e3 s3 p3 => ?_, fun σ3 ρ3 F3 G3 H3 q3 e3 s3 p3 => ?_, k2.nx, k2.rt, k2.xc⟩
      · exact ⟨ρ3, F3, G3, q3, e3, s1.trans (s2.trans s3), p1.trans p3⟩
      · exact ⟨ρ3, F3, G3, q3, e3, s1.trans (s2.trans s3), p1.trans p3⟩
    | false =>
      rw [sel_f] at q; rw [if_neg (by decide)]
      exact k2.nx σ1 ρ2 F2 G2 H2 q e2 (.refl _ _ _) Kp.refl
theorem ap_for {tg' iter : Expr} {body : List Stmt} {tg : Tg} {Ti : TrL} {Tb : TrS} {pos : Pos} (hN : c.N.Nodup) (hi : AI c sc W tg' iter Ti) (hg : chkTg c.N sc tg tg' = true) (hP : ∀ j ∈ tg.slots, j ∉ P) (hb : APs c sc W P rk body Tb) (hs : ∀ env x, foldedSetIterable iter env x = pure x) :
    AP c sc W P rk (.For tg' iter body [] pos) (fun κ ρ => Ti ρ (fun ρ1 ds => forW tg (fun k ρ => Tb { κ with nx := k, ct := k, bk := κ.nx } ρ) κ.nx ds ρ1) κ.xc) := by
  obtain ⟨wi, pi, si⟩ := hi
  obtain ⟨g, pg, sg⟩ := snd_tg (so := sc) (sc := sc) (W := W) hN tg tg' hg
  obtain ⟨tb, pb, sb⟩ := hb
  refine ⟨_, fun X hX => ps_for hX.hp hX.is.is.calm (pi X hX.is.is) (pg X hX.is) (pb X hX) (hs _), fun κ ρ σ F G H D e hT k => ?_⟩
  refine si ρ _ κ.xc σ F G H _ e hT (fun ρ1 ds J F1 G1 H1 hw e1 s1 hJ hl => ?_) k.toX
  have k1 := k.stp s1 Kp.refl
  obtain ⟨Nx, hNx⟩ : ∃ Nx : Nat → Sg → Hp → Prop, Nx = fun i σ' H' => i ≤ ds.length ∧ ∃ ρ' F' G', forW tg (fun k ρ => Tb { κ with nx := k, ct := k, bk := κ.nx } ρ) κ.nx (ds.drop i) ρ' ∧ En c.K σ' ρ' F' G' H' ∧ Stp F1 G1 H1 F' G' H' ∧ Kp P σ σ' := ⟨_, rfl⟩
  refine ⟨fun i m σ' H' => m = ds.length - i ∧ Nx i σ' H', ⟨ds.length, by simp, by rw [hNx]; exact ⟨Nat.zero_le _, ρ1, F1, G1, hw, e1, .refl _ _ _, Kp.refl⟩⟩, ?_⟩
  rintro i m σ2 H2 ⟨rfl, hh⟩
  rw [hNx] at hh
  obtain ⟨hi, ρ2, F2, G2, hw, e2, s2, p2⟩ := hh
  obtain ⟨hstop, hgo⟩ := hJ i G2 H2 s2.g e2.same
  by_cases hlt : i < ds.length
  · obtain ⟨go, hy⟩ := hgo ds[i] (List.getElem?_eq_getElem hlt)
    refine .inr ⟨go, Nx (i + 1), fun σ' H' q => ⟨ds.length - (i + 1), by omega, rfl, q⟩, fun x H' y => ?_⟩
    rw [List.drop_eq_getElem_cons hlt] at hw
    have turn : ∀ G3 H3, En c.K σ2 ρ2 F2 G3 H3 → Stp F2 G2 H2 F2 G3 H3 → Dp c.K G3 x ds[i] → g x σ2 H3 (fun σ4 H4 => tb { D with nx := Nx (i + 1), ct := Nx (i + 1), bk := D.nx } σ4 H4) := fun G3 H3 e3 s3 dx => by
      refine sg _ ρ2 _ σ2 F2 G3 H3 x _ e3 dx hw fun σ4 ρ4 F4 q4 e4 s4 a4 l4 => ?_
      have p4 : Kp P σ2 σ4 := fun j hj => a4 j fun z => hP j z hj
      have s14 := s2.trans (s3.trans s4)
      have k4 := k1.stp s14 (p2.trans p4)
      refine sb _ ρ4 σ4 F4 G3 H3 _ e4 q4 ⟨fun σ5 ρ5 F5 G5 H5 q5 e5 s5 p5 => ?_, fun σ5 ρ5 F5 G5 H5 q5 e5 s5 p5 => ?_, k4.nx, k4.rt, k4.xc⟩
      · rw [hNx]; exact ⟨hlt, ρ5, F5, G5, q5, e5, s14.trans s5, (p2.trans p4).trans p5⟩
      · rw [hNx]; exact ⟨hlt, ρ5, F5, G5, q5, e5, s14.trans s5, (p2.trans p4).trans p5⟩
    rcases hy x H' y with ⟨rfl, dx⟩ | ⟨T, o, hov, hT, rfl, dx⟩
    · exact turn G2 _ e2 (.refl _ _ _) dx
    · obtain ⟨e3, s3⟩ := e2.laid hT hov.1 hov.2
      exact turn _ _ e3 s3 dx
  · have hi' : i = ds.length := by omega
    subst hi'
    rw [List.drop_length] at hw
    have hw : κ.nx ρ2 := hw
    exact .inl ⟨hstop (Nat.le_refl _), k1.nx σ2 ρ2 F2 G2 H2 hw e2 s2 p2⟩
end Q

namespace Q
open PySem PySem.Spec PyProof.Rows L2
variable {c : Ctx} {sc so : Scope} {W : WX} {Γ : List Ent} {bl : Bl} {P : List Nat} {rk : Nat}

/-! ### changes of owned lists -/
theorem Res.open {K : PySem.W.Frag} {F F' : Foot} {G H G' H' : Hp} {k : Nat} {A : List Addr} {p : Addr} {ds : List D} (r : Res K F G H F' G' H' (k + 1) A (.ref p) (.list ds)) :
    ∃ A0 vs, A = p :: A0 ∧ H' p = some (.lst vs) ∧ Ows K G' H' k A0 vs ds := by
  have h := r.ow
  generalize hv : V.ref p = v at h
  generalize hd : PyData.list ds = d at h
  cases h with
  | flt f _ => subst hd; cases f
  | lst h r => cases hv; cases hd; exact ⟨_, _, rfl, h, r⟩
/-- the owned list at p gets other items -/
theorem Res.write {K : PySem.W.Frag} {σ : Sg} {ρ : Env} {F F1 : Foot} {G H G1 H1 : Hp} {k : Nat} {A B : List Addr} {p : Addr} {ds es : List D} {vs : List V}
    (e : En K σ ρ F1 G1 H1) (s : Stp F G H F1 G1 H1) (r : Res K F G H F1 G1 H1 (k + 1) A (.ref p) (.list ds)) (w : Ows K G1 H1 k B vs es) (hB : (p :: B).Nodup) (out : ∀ a ∈ B, G1 a = none) (dis : ∀ a ∈ B, ∀ i, a ∉ F1 i) (new : ∀ a ∈ B, (∃ j, a ∈ F j) ∨ H a = none) (hl : vs.length ≤ 16777216) :
    En K σ ρ F1 G1 (upd H1 p (.lst vs)) ∧ Stp F G H F1 G1 (upd H1 p (.lst vs)) ∧ Res K F G H F1 G1 (upd H1 p (.lst vs)) (k + 1) (p :: B) (.ref p) (.list es) := by
  obtain ⟨A0, ws, hA, hp, _⟩ := r.open
  have hm : p ∈ A := by rw [hA]; simp
  have hpG : G1 p = none := r.out p hm
  have hpF : ∀ i, p ∉ F1 i := r.dis p hm
  have hpB : p ∉ B := (List.nodup_cons.mp hB).1
  refine ⟨e.upto (Same.refl _) (fun i b hb o q => ?_) (fun b o q => ?_) e.out (ln_upd e.ln hl) e.fz, ⟨s.g, fun b o n q => ?_, s.nf, s.ng, fun b hb => ?_⟩, ⟨.lst upd_same (Ows.mono (Same.refl _) (fun b hb o q => ?_) w), hB, fun a ha => ?_, fun a ha => ?_, fun a ha => ?_⟩⟩
  · rw [upd_ne (show b ≠ p from fun z => by subst z; exact hpF i hb)]; exact q
  · rw [upd_ne (fun z => by rw [z, hpG] at q; cases q)]; exact e.same b o q
  · have hne : b ≠ p := fun z => by
      subst z
      rcases r.new b hm with ⟨j, hj⟩ | hn
      · exact n j hj
      · rw [hn] at q; cases q
    rw [upd_ne hne]; exact s.h b o n q
  · by_cases z : b = p
    · rw [z, upd_same]; simp
    · rw [upd_ne z]; exact s.th b hb
  · rw [upd_ne (show b ≠ p from fun z => by subst z; exact hpB hb)]; exact q
  · rcases List.mem_cons.mp ha with rfl | ha
    · exact hpG
    · exact out a ha
  · rcases List.mem_cons.mp ha with rfl | ha
    · exact hpF
    · exact dis a ha
  · rcases List.mem_cons.mp ha with rfl | ha
    · exact r.new a hm
    · exact new a ha
theorem put_put {F : Foot} {i : Nat} {A B : List Addr} : put (put F i A) i B = put F i B := by
  funext j; unfold put; split <;> rfl
theorem set_self {σ : Sg} {i : Nat} {v : V} (h : σ[i]? = some (some v)) : σ.set i (some v) = σ := by
  refine List.ext_getElem? fun j => ?_
  by_cases q : i = j
  · subst q
    rw [List.getElem?_set_self (List.getElem?_eq_some_iff.mp h).1, h]
  · rw [List.getElem?_set_ne q]
/-- .. at a name -/
theorem En.write {K : PySem.W.Frag} {σ : Sg} {ρ : Env} {F F1 : Foot} {G H G1 H1 : Hp} {k i : Nat} {B : List Addr} {ds es : List D} {vs : List V} {p : Addr}
    (e : En K σ ρ F1 G1 H1) (s : Stp F G H F1 G1 H1) (hc : ρ[i]? = some (.ow (k + 1) (.list ds))) (hp : σ[i]? = some (some (.ref p))) (w : Ows K G1 H1 k B vs es) (hB : (p :: B).Nodup) (out : ∀ a ∈ B, G1 a = none) (dis : ∀ a ∈ B, ∀ j, j ≠ i → a ∉ F1 j) (new : ∀ a ∈ B, (∃ j, a ∈ F j) ∨ H a = none) (hl : vs.length ≤ 16777216) :
    ∃ F2, En K σ (ρ.set i (.ow (k + 1) (.list es))) F2 G1 (upd H1 p (.lst vs)) ∧ Stp F G H F2 G1 (upd H1 p (.lst vs)) := by
  obtain ⟨v, hv, e2, s2, r2⟩ := e.move hc
  have ev : v = .ref p := by rw [hp] at hv; cases hv; rfl
  subst ev
  have r3 := r2.from s
  obtain ⟨e4, s4, r4⟩ := Res.write e2 (s.trans s2) r3 w hB out (fun a ha j hj => by
    by_cases q : j = i
    · subst q; rw [put_same] at hj; cases hj
    · rw [put_ne q] at hj; exact dis a ha j q hj) new hl
  have e5 := e4.set (i := i) r4 (.inr (.inr rfl))
  have s5 := Stp.put (i := i) s4 r4
  rw [set_self hp, List.set_set] at e5
  exact ⟨_, e5, s5⟩
theorem ap_app {e : Expr} {i m : Nat} {x : Str} {T : TrE} {px pa pc pos : Pos} (h : AE c sc W e m T) (hi : c.N[i]? = some x) (hv : Vis sc x) (hd : (x == ("__debug__" : Str)) = false) (hcd : (x == ("__classdict__" : Str)) = false)
    (he : ∀ env, starEach [e] env = (false, eval e env) :: starEach [] env) (hl : (pa.endLine == pc.line) = true) :
    AP c sc W P rk (.Expr (.Call (.Attribute (.Name x px) "append" pa) [e] [] pc) pos) (fun κ ρ => isOw (getC ρ i) ∧ T ρ (fun ρ1 d => appC m (getC ρ1 i) d fun cl => κ.nx (ρ1.set i cl)) κ.xc) := by
  obtain ⟨t, pt, s⟩ := h
  refine ⟨tDrop (tBM c.K "list" rAppend (tVar i) (tCons t tNil)), fun X hX => ?_, fun κ ρ σ F G H D e0 hT k => ?_⟩
  · have := pe_bm (cpos := pc) (apos := pa) PySem.F.plainAttrs_list PySem.F.slot_list_append PySem.F.type_list_append mt_append (pe_var (pos := px) (hX.is.is.ix hi) (hX.is.is.vis hv) hd hcd) (pa_cons (pt X hX.is.is) pa_nil (he _)) (hs := he _) (hfew := by rw [he]; rfl) (hline := hl)
    rw [hX.is.is.K] at this
    exact ps_expr this
  · obtain ⟨ho, hT⟩ := hT
    obtain ⟨k0, ds0, hc0⟩ := isOw_some ho
    obtain ⟨a, A, vs0, h1, h2, h3, h4⟩ := e0.owned hc0
    refine ⟨_, h1, .inl ⟨rfl, _, .inl (.inl h3)⟩, ?_⟩
    refine s ρ _ κ.xc σ F G H _ e0 hT (fun ρ1 d u B F1 G1 H1 q e1 r1 s1 => ?_) k.toX
    cases hc : getC ρ1 i with
    | un => rw [hc] at q; exact q.elim
    | va d => rw [hc] at q; exact q.elim
    | ow j z =>
      rw [hc] at q
      match j, z, hc, q with
      | 0, _, _, q => exact q.elim
      | j + 1, .none, _, q => exact q.elim
      | j + 1, .bool _, _, q => exact q.elim
      | j + 1, .int _, _, q => exact q.elim
      | j + 1, .str _, _, q => exact q.elim
      | j + 1, .tuple _, _, q => exact q.elim
      | j + 1, .dict _, _, q => exact q.elim
      | j + 1, .list ds, hc, q =>
        obtain ⟨hj, hlen, q⟩ := q
        obtain ⟨a', A', vs, g1, g2, g3, g4⟩ := e1.owned hc
        rw [h1] at g1
        cases g1
        have hvl := Ows.length g4
        have fin : ∀ (B : List Addr) (G2 : Hp), En c.K σ ρ1 F1 G2 H1 → Stp F G H F1 G2 H1 → Res c.K F G H F1 G2 H1 j B u d → (∀ b, Same G1 G2) → ∃ l xs y, V.ref a = .ref l ∧ [u] = [y] ∧ H1 l = some (.lst xs) ∧ xs.length < sizeLine ∧ (fun _ H2 => D.nx σ H2) V.non (upd H1 l (.lst (xs ++ [y]))) := fun B G2 e2 s2 r2 g12 => by
          refine ⟨a, vs, u, rfl, rfl, g3, by rw [hvl, sizeLine_eq]; exact hlen, ?_⟩
          have c1 : (a :: (A' ++ (B ++ []))).Nodup := by
            have nd := e2.nod i
            rw [g2] at nd
            rw [List.append_nil]
            refine List.nodup_cons.mpr ⟨fun z => ?_, List.nodup_append.mpr ⟨(List.nodup_cons.mp nd).2, r2.nod, fun x hx y hy z => ?_⟩⟩
            · rcases List.mem_append.mp z with z | z
              · exact (List.nodup_cons.mp nd).1 z
              · exact r2.dis _ z i (by rw [g2]; simp)
            · subst z; exact r2.dis x hy i (by rw [g2]; simp [hx])
          have c2 : ∀ b ∈ A' ++ (B ++ []), G2 b = none := fun b hb => by
            rw [List.append_nil] at hb
            rcases List.mem_append.mp hb with hb | hb
            · exact e2.out i b (by rw [g2]; simp [hb])
            · exact r2.out b hb
          have c3 : ∀ b ∈ A' ++ (B ++ []), ∀ l, l ≠ i → b ∉ F1 l := fun b hb l hl => by
            rw [List.append_nil] at hb
            rcases List.mem_append.mp hb with hb | hb
            · exact fun z => hl (e2.dis l i b z (by rw [g2]; simp [hb]))
            · exact r2.dis b hb l
          have c4 : ∀ b ∈ A' ++ (B ++ []), (∃ j, b ∈ F j) ∨ H b = none := fun b hb => by
            rw [List.append_nil] at hb
            rcases List.mem_append.mp hb with hb | hb
            · exact s2.nf i b (by rw [g2]; simp [hb])
            · exact r2.new b hb
          obtain ⟨F2, e3, s3⟩ := En.write e2 s2 (getC_some hc (by simp)) h1 (vs := vs ++ [u]) (es := ds ++ [d]) (B := A' ++ (B ++ [])) (Ows.append (Ows.mono (g12 a) (fun _ _ _ q => q) g4) (.cons r2.ow .nil)) c1 c2 c3 c4 (by rw [List.length_append, List.length_singleton, hvl]; omega)
          exact k.nx σ _ F2 G2 _ q e3 s3 Kp.refl
        rcases hj with rfl | rfl
        · obtain ⟨z1, z2, z3⟩ := r1.freeze e1
          exact fin [] _ z2 (z3 s1) (.frz z1) (fun _ => same_grow r1.out)
        · exact fin B G1 e1 s1 r1 (fun _ => Same.refl _)
theorem ap_sti {e b : Expr} {i : Nat} {x : Str} {T Tb : TrE} {px pb pos : Pos} (h : AE c sc W e 0 T) (hb : AE c sc W b 0 Tb) (hi : c.N[i]? = some x) (hv : Vis sc x) (hd : (x == ("__debug__" : Str)) = false) (hcd : (x == ("__classdict__" : Str)) = false)
    (hs : ∀ o p l env, swapsWithSole [.Subscript o b p] e l env = pure false) (hw : ∀ o p env, swappedStores [.Subscript o b p] e env = pure none)
    (ha : ∀ (o : Expr) env v, assign (.Subscript o b pb) env v = (do
      let ov ← holding [v] (eval o env)
      let iv ← holding [v, ov] (eval b env)
      standAt pb
      holding [v, ov, iv] (setItem ov iv v)
      release [v, ov, iv] [])) :
    AP c sc W P rk (.Assign [.Subscript (.Name x px) b pb] e pos) (fun κ ρ => T ρ (fun ρ1 d => isOw (getC ρ1 i) ∧ Tb ρ1 (fun ρ2 y => stiC (getC ρ2 i) y d fun cl => κ.nx (ρ2.set i cl)) κ.xc) κ.xc) := by
  obtain ⟨t, pt, s⟩ := h
  obtain ⟨tb, ptb, sb⟩ := hb
  refine ⟨_, fun X hX => ps_asg (pt X hX.is.is) (pg_sub (pe_var (hX.is.is.ix hi) (hX.is.is.vis hv) hd hcd) (ptb X hX.is.is) set_list (ha _ _)) (hs _ _ _ _) (hw _ _ _) (by rfl), fun κ ρ σ F G H D e0 hT k => ?_⟩
  refine s ρ _ κ.xc σ F G H _ e0 hT (fun ρ1 d u B F1 G1 H1 q e1 r1 s1 => ?_) k.toX
  obtain ⟨ho, q⟩ := q
  obtain ⟨k0, ds0, hc0⟩ := isOw_some ho
  obtain ⟨a, A, vs0, h1, _⟩ := e1.owned hc0
  refine ⟨_, h1, ?_⟩
  refine sb ρ1 _ κ.xc σ F1 G1 H1 _ e1 q (fun ρ2 y w B2 F2 G2 H2 q2 e2 r2 s2 => ?_) (k.stp s1 Kp.refl).toX
  cases hc : getC ρ2 i with
  | un => rw [hc] at q2; exact q2.elim
  | va d => rw [hc] at q2; exact q2.elim
  | ow j z =>
    rw [hc] at q2
    match j, z, hc, q2 with
    | 0, _, _, q => exact q.elim
    | j + 2, _, _, q => exact q.elim
    | 1, .none, _, q => exact q.elim
    | 1, .bool _, _, q => exact q.elim
    | 1, .int _, _, q => exact q.elim
    | 1, .str _, _, q => exact q.elim
    | 1, .tuple _, _, q => exact q.elim
    | 1, .dict _, _, q => exact q.elim
    | 1, .list ds, hc, q2 =>
      cases y <;> first | exact q2.elim | skip
      obtain ⟨m, hm, q2⟩ := q2
      obtain ⟨a', A', vs, g1, g2, g3, g4⟩ := e2.owned hc
      rw [h1] at g1
      cases g1
      obtain ⟨z1, z2⟩ := Ows.to_frz g4
      subst z1
      cases r2.dp
      have hvl := DpAll.length z2
      refine ⟨a, vs, _, m, rfl, rfl, g3, by rw [hvl]; exact hm, ?_⟩
      obtain ⟨F3, e3, s3⟩ := En.write e2 (s1.trans s2) (getC_some hc (by simp)) h1 (vs := vs.set m u) (es := ds.set m d) (B := []) (Ows.of_frz (DpAll.set m z2 (Dp.mono s2.g r1.dp))) (by simp) (fun _ h => nomatch h) (fun _ h => nomatch h) (fun _ h => nomatch h) (by rw [List.length_set]; exact e2.ln a _ g3)
      exact k.nx σ _ F3 G2 _ q2 e3 s3 Kp.refl
end Q

namespace Q
open PySem PySem.Spec PyProof.Rows L2
variable {c : Ctx} {sc so : Scope} {W : WX} {Γ : List Ent} {bl : Bl} {P : List Nat} {rk : Nat}

/-! ## The check: that a text is what the small language says -/
def okN (x : Str) : Bool := !(x == ("__debug__" : Str)) && !(x == ("__classdict__" : Str))
def visB (sc : Scope) (x : Str) : Bool := match sc.names.lookup x with
  | some .local => true
  | some .cell => true
  | some .free => true
  | _ => false
def glB (sc : Scope) (x : Str) : Bool := match sc.names.lookup x with
  | some .globalImplicit => !(x == ("__debug__" : Str))
  | _ => false
def slotB (N : List Str) (sc : Scope) (i : Nat) (x : Str) : Bool := decide (N[i]? = some x) && visB sc x && okN x
def bltB (bl : Bl) (sc : Scope) (x : Str) : Bool := glB sc x && decide (x ∈ bl.b)
def Es.len : Es → Nat
  | .nil => 0
  | .cons _ es => es.len + 1
def Es.deps (k : Nat) : Es → Bool
  | .nil => true
  | .cons e es => (k == 0 || e.dep == k) && es.deps k
def ownOf (N : List Str) (own : List Nat) : List (Str × Nat) := own.map fun i => (N.getD i "", i)
/-- the parts of the check's context -/
structure Cc where
  N : List Str
  sg : List Sig
  bl : Bl
def subB (a b : List Nat) : Bool := a.all fun i => decide (i ∈ b)
mutual
def chkE (C : Cc) (sc : Scope) : E → Expr → Bool
  | .var i, .Name x _ => slotB C.N sc i x
  | .mv i _, .Name x _ => slotB C.N sc i x
  | .int n, .Constant (.int m) _ _ => decide (n = m)
  | .bl b, .Constant (.bool d) _ _ => b == d
  | .non, .Constant .none _ _ => true
  | .str x, .Constant (.str y) _ _ => decide (x = y)
  | .op o a b, .BinOp a' o' b' _ => decide (o = o') && okOp o && chkE C sc a a' && chkE C sc b b'
  | .neg a, .UnaryOp .USub a' _ => chkE C sc a a'
  | .cmp o a b, .Compare a' [o'] [b'] _ => decide (o = o') && okCmp o && chkE C sc a a' && chkE C sc b b'
  | .chn o p a b d, .Compare a' [o', p'] [b', d'] _ => decide (o = o') && decide (p = p') && okCmp o && okCmp p && chkE C sc a a' && chkE C sc b b' && chkE C sc d d'
  | .and a b, .BoolOp .And (x :: y :: r) pos => chkE C sc a x && (match r with
    | [] => chkE C sc b y
    | _ :: _ => chkE C sc b (.BoolOp .And (y :: r) pos))
  | .or a b, .BoolOp .Or (x :: y :: r) pos => chkE C sc a x && (match r with
    | [] => chkE C sc b y
    | _ :: _ => chkE C sc b (.BoolOp .Or (y :: r) pos))
  | .not a, .UnaryOp .Not a' _ => chkE C sc a a'
  | .ite e a b, .IfExp e' a' b' _ => chkE C sc e e' && chkE C sc a a' && chkE C sc b b'
  | .tup es, .Tuple es' _ _ => chkEs C sc es es' && decide (es.len ≤ 1000)
  | .lst k es, .List es' _ => chkEs C sc es es' && decide (es.len ≤ 1000) && es.deps k
  | .cat a b, .BinOp a' o' b' _ => decide (o' = Operator.Add) && chkE C sc a a' && chkE C sc b b'
  | .ix a b, .Subscript a' b' _ => chkE C sc a a' && chkE C sc b b'
  | .pk i b, .Subscript (.Name x _) b' _ => slotB C.N sc i x && chkE C sc b b'
  | .lenv i, .Call (.Name l _) [.Name x _] [] _ => decide (l = "len") && bltB C.bl sc "len" && slotB C.N sc i x
  | .call f rk es, .Call (.Name x _) (e' :: es') [] _ => (match C.sg[f]? with
    | some s => decide (x = s.name) && s.own.isNone && decide (rk = s.rk) && decide (es.len = s.np) && glB sc x
    | none => false) && chkEs C sc es (e' :: es')
  | .callr f rk i es, .Call (.Name x _) (.Name y _ :: es') [] _ => (match C.sg[f]? with
    | some s => decide (x = s.name) && s.own.isSome && decide (rk = s.rk) && decide (es.len + 1 = s.np) && glB sc x
    | none => false) && slotB C.N sc i y && chkEs C sc es es'
  | .blt b es, .Call (.Name x _) (e' :: es') [] _ => decide (x = b.name) && bltB C.bl sc x && chkEs C sc es (e' :: es')
  | .isi a t, .Call (.Name x _) [a', .Name y _] [] _ => decide (x = "isinstance") && decide (y = t.name) && bltB C.bl sc x && bltB C.bl sc y && chkE C sc a a'
  | .comp k own tg it ifs elt, .ListComp elt' [⟨tg', iter', ifs', n⟩] scope _ => decide (n = 0) && blkC C.N sc scope (ownOf C.N own) && chkTg C.N scope tg tg' && subB tg.slots own && chkIt C sc it tg' iter' &&
      chkO C (relS scope sc) ifs ifs' && chkE C (relS scope sc) elt elt' && (k == 0 || elt.dep == k)
  | _, _ => false
def chkEs (C : Cc) (sc : Scope) : Es → List Expr → Bool
  | .nil, [] => true
  | .cons e es, e' :: es' => chkE C sc e e' && chkEs C sc es es'
  | _, _ => false
def chkO (C : Cc) (sc : Scope) : Os → List Expr → Bool
  | .none, [] => true
  | .some e, [e'] => chkE C sc e e'
  | _, _ => false
def chkIt (C : Cc) (sc : Scope) : It → Expr → Expr → Bool
  | .lst e, _, e' => chkE C sc e e'
  | .tup e, _, e' => chkE C sc e e'
  | .rng e, _, .Call (.Name x _) [e'] [] _ => decide (x = "range") && bltB C.bl sc "range" && chkE C sc e e'
  | .rng2 a b, _, .Call (.Name x _) [a', b'] [] _ => decide (x = "range") && bltB C.bl sc "range" && chkE C sc a a' && chkE C sc b b'
  | .enum e, .Tuple _ _ _, .Call (.Name x _) [e'] [] _ => decide (x = "enumerate") && bltB C.bl sc "enumerate" && chkE C sc e e'
  | .zip a b, .Tuple _ _ _, .Call (.Name x _) [a', b'] [] _ => decide (x = "zip") && bltB C.bl sc "zip" && chkE C sc a a' && chkE C sc b b'
  | _, _, _ => false
end
theorem slotB_ok {N : List Str} {i : Nat} {x : Str} (h : slotB N sc i x = true) : N[i]? = some x ∧ Vis sc x ∧ (x == ("__debug__" : Str)) = false ∧ (x == ("__classdict__" : Str)) = false := by
  unfold slotB okN at h
  simp only [Bool.and_eq_true, decide_eq_true_eq, Bool.not_eq_true'] at h
  obtain ⟨⟨h1, h2⟩, h3, h4⟩ := h
  refine ⟨h1, ?_, h3, h4⟩
  unfold visB at h2
  split at h2
  · exact .inl (by assumption)
  · exact .inr (.inl (by assumption))
  · exact .inr (.inr (by assumption))
  · cases h2
theorem glB_ok {x : Str} (h : glB sc x = true) : GlS sc x ∧ (x == ("__debug__" : Str)) = false := by
  unfold glB at h
  split at h
  · exact ⟨by assumption, by simpa using h⟩
  · cases h
theorem bltB_ok {x : Str} (h : bltB bl sc x = true) : GlS sc x ∧ x ∈ bl.b := by
  unfold bltB at h
  simp only [Bool.and_eq_true, decide_eq_true_eq] at h
  exact ⟨(glB_ok h.1).1, h.2⟩
/-- what is checked is no slice, no starred, no set, no comprehension but a list's -/
def tame : Expr → Bool
  | .Slice .. => false
  | .Starred .. => false
  | .Set .. => false
  | .SetComp .. => false
  | .DictComp .. => false
  | _ => true
theorem chk_tame {C : Cc} : ∀ {e : E} {e' : Expr}, chkE C sc e e' = true → tame e' = true := by
  intro e e' h
  cases e' <;> first | rfl | (cases e <;> simp [chkE] at h)
theorem tame_star {e : Expr} (h : tame e = true) (es : List Expr) (env : PySem.Env) : starEach (e :: es) env = (false, eval e env) :: starEach es env := by
  cases e <;> first | rfl | (simp [tame] at h)
theorem tame_ix {e : Expr} (h : tame e = true) : PlainIx e := by
  intro o i
  cases e <;> first | rfl | (simp [tame] at h)
theorem tame_fold {e : Expr} (h : tame e = true) (env : PySem.Env) (x : Value) : foldedSetIterable e env x = pure x := by
  cases e <;> first | rfl | (simp [tame] at h)
theorem tame_set {o b : Expr} {pb : Pos} (h : tame b = true) (env : PySem.Env) (v : Value) : assign (.Subscript o b pb) env v = (do
      let ov ← holding [v] (eval o env)
      let iv ← holding [v, ov] (eval b env)
      standAt pb
      holding [v, ov, iv] (setItem ov iv v)
      release [v, ov, iv] []) := by
  cases b <;> first | rfl | (simp [tame] at h)
theorem tames_plain {C : Cc} : ∀ {es : Es} {es' : List Expr} (pos : Pos) (env : PySem.Env), chkEs C sc es es' = true → (backTo pos (starEach es' env)).any (·.1) = false
  | .nil, [], _, _, _ => rfl
  | .nil, _ :: _, _, _, h => by simp [chkEs] at h
  | .cons _ _, [], _, _, h => by simp [chkEs] at h
  | .cons e es, e' :: es', pos, env, h => by
    simp only [chkEs, Bool.and_eq_true] at h
    rw [tame_star (chk_tame h.1)]
    have ih := tames_plain (C := C) pos env h.2
    simp only [backTo] at ih ⊢
    first | exact ih | (simp only [List.map_cons, List.any_cons, Bool.false_or]; exact ih) | simpa using ih
end Q

namespace Q
open PySem PySem.Spec PyProof.Rows L2
variable {c : Ctx} {sc so : Scope} {W : WX} {Γ : List Ent} {bl : Bl} {P : List Nat} {rk : Nat}

abbrev ccOf (c : Ctx) (Γ : List Ent) (bl : Bl) : Cc := ⟨c.N, Γ.map (·.sig), bl⟩
def Tri (c : Ctx) (sc : Scope) (W : WX) (e' : Expr) (k : Nat) (T : TrE) : Prop := AE c sc W e' k T ∧ AT c sc W e' (testOf T) ∧ ∀ op vs pos, e' = .BoolOp op vs pos → AW c sc W e' (testOf T)
theorem tri_ab {e' : Expr} {k : Nat} {T : TrE} (h : AB c sc W e' k T) (hb : ∀ op vs pos, e' ≠ .BoolOp op vs pos) : Tri c sc W e' k T := ⟨h.ae, h.at, fun op vs pos e => absurd e (hb op vs pos)⟩
theorem tri {e' : Expr} {k : Nat} {T : TrE} (h : AE c sc W e' k T) (he : ∀ env whole, isTrue e' env whole = (do let v ← whole; standAt e'.pos; holding [v] (truthy v))) (hb : ∀ op vs pos, e' ≠ .BoolOp op vs pos) : Tri c sc W e' k T := tri_ab (h.ab he) hb
theorem sigs_get {f : Nat} {s : Sig} (h : (Γ.map (·.sig))[f]? = some s) : ∃ g, Γ[f]? = some g ∧ g.sig = s := by
  rw [List.getElem?_map] at h
  cases q : Γ[f]? with
  | none => rw [q] at h; cases h
  | some g => rw [q] at h; cases h; exact ⟨g, rfl, rfl⟩
theorem ownOf_ix {N : List Str} : ∀ own : List Nat, (ownOf N own).map (·.2) = own
  | [] => rfl
  | i :: is => by
    have ih := ownOf_ix (N := N) is
    simp only [ownOf, List.map_cons] at ih ⊢
    rw [ih]
theorem subB_ok {a b : List Nat} (h : subB a b = true) : ∀ j ∈ a, j ∈ b := fun j hj => by
  have := List.all_eq_true.mp h j hj
  simpa using this
theorem pt_ifE {X : Cx} {e1 a b : Expr} {pos : Pos} {tc ta tb : TT} (hc : PT X e1 tc) (ha : PT X a ta) (hb : PT X b tb) : PT X (.IfExp e1 a b pos) (fun σ H Q => tc σ H fun k H1 => if k = true then ta σ H1 Q else tb σ H1 Q) := by
  refine ⟨fun pins s σ H Q I h => ?_⟩
  show wpAny _ _ (do if ← isTrue e1 X.env (eval e1 X.env) then isTrue a X.env (eval a X.env) else isTrue b X.env (eval b X.env)) _ _ _
  refine wpAny_bind (thn (hc.run pins s σ H _ I h) fun d s1 ⟨H1, I1, q1⟩ => ?_)
  cases d with
  | true => exact ha.run pins s1 σ H1 Q I1 q1
  | false => exact hb.run pins s1 σ H1 Q I1 q1
theorem at_ite {e1 a b : Expr} {Tc Ta Tb : TrE} {pos : Pos} (hc : AT c sc W e1 (testOf Tc)) (ha : AT c sc W a (testOf Ta)) (hb : AT c sc W b (testOf Tb)) :
    AT c sc W (.IfExp e1 a b pos) (testOf fun ρ Φ Ξ => Tc ρ (fun ρ1 x => ∃ t, x = .bool t ∧ sel t (Ta ρ1 Φ Ξ) (Tb ρ1 Φ Ξ)) Ξ) := by
  obtain ⟨tc, pc, sc'⟩ := hc
  obtain ⟨ta, pa, sa⟩ := ha
  obtain ⟨tb, pb, sb⟩ := hb
  refine ⟨_, fun X hX => pt_ifE (pc X hX) (pa X hX) (pb X hX), fun ρ Φ Ξ σ F G H Q e0 hT hQ hx => ?_⟩
  refine sc' ρ _ Ξ σ F G H _ e0 hT (fun ρ1 k F1 G1 H1 q e1 s1 => ?_) hx
  cases k with
  | true =>
    rw [sel_t] at q; rw [if_pos rfl]
    exact sa ρ1 Φ Ξ σ F1 G1 H1 Q e1 q (fun ρ2 d F2 G2 H2 q2 e2 s2 => hQ ρ2 d F2 G2 H2 q2 e2 (s1.trans s2)) (hx.stp s1)
  | false =>
    rw [sel_f] at q; rw [if_neg (by decide)]
    exact sb ρ1 Φ Ξ σ F1 G1 H1 Q e1 q (fun ρ2 d F2 G2 H2 q2 e2 s2 => hQ ρ2 d F2 G2 H2 q2 e2 (s1.trans s2)) (hx.stp s1)
theorem deps_0 : ∀ es : Es, es.deps 0 = true
  | .nil => rfl
  | .cons e es => by simp [Es.deps, deps_0 es]
theorem to_k {e : Expr} {k m : Nat} {T : TrE} (h : AE c sc W e k T) (hk : (m == 0 || k == m) = true) : AE c sc W e m T := h.to (by simpa using hk)
mutual
theorem snd_E (sd : Sd c Γ bl) : ∀ (e : E) (e' : Expr) (sc : Scope) (W : WX), chkE (ccOf c Γ bl) sc e e' = true → Tri c sc W e' e.dep (ev Γ e)
  | .var i, e', sc, W, h => by
    cases e' <;> first | (simp [chkE] at h; done) | skip
    obtain ⟨h1, h2, h3, h4⟩ := slotB_ok (by simpa [chkE] using h)
    exact tri (ae_var h1 h2 h3 h4) (by intro _ _; rfl) (by simp)
  | .mv i k, e', sc, W, h => by
    cases e' <;> first | (simp [chkE] at h; done) | skip
    obtain ⟨h1, h2, h3, h4⟩ := slotB_ok (by simpa [chkE] using h)
    exact tri (ae_mv h1 h2 h3 h4) (by intro _ _; rfl) (by simp)
  | .int n, e', sc, W, h => by
    cases e' <;> first | (simp [chkE] at h; done) | skip
    rename_i k j pos
    cases k <;> first | (simp [chkE] at h; done) | skip
    simp [chkE] at h
    subst h
    exact tri (ae_const (fun X => pe_int) (fun G => .int _) fun ρ Φ Ξ q => by simpa only [ev] using q) (by intro _ _; rfl) (by simp)
  | .bl b, e', sc, W, h => by
    cases e' <;> first | (simp [chkE] at h; done) | skip
    rename_i k j pos
    cases k <;> first | (simp [chkE] at h; done) | skip
    simp [chkE] at h
    subst h
    exact tri (ae_const (fun X => pe_bl) (fun G => .bl _) fun ρ Φ Ξ q => by simpa only [ev] using q) (by intro _ _; rfl) (by simp)
  | .non, e', sc, W, h => by
    cases e' <;> first | (simp [chkE] at h; done) | skip
    rename_i k j pos
    cases k <;> first | (simp [chkE] at h; done) | skip
    exact tri (ae_const (fun X => pe_non) (fun G => .non) fun ρ Φ Ξ q => by simpa only [ev] using q) (by intro _ _; rfl) (by simp)
  | .str x, e', sc, W, h => by
    cases e' <;> first | (simp [chkE] at h; done) | skip
    rename_i k j pos
    cases k <;> first | (simp [chkE] at h; done) | skip
    simp [chkE] at h
    subst h
    exact tri (ae_const (fun X => pe_str) (fun G => .str _) fun ρ Φ Ξ q => by simpa only [ev] using q) (by intro _ _; rfl) (by simp)
  | .op o a b, e', sc, W, h => by
    cases e' <;> first | (simp [chkE] at h; done) | skip
    simp only [chkE, Bool.and_eq_true, decide_eq_true_eq] at h
    obtain ⟨⟨⟨h1, h2⟩, h3⟩, h4⟩ := h
    subst h1
    exact tri (ae_op h2 (snd_E sd a _ sc W h3).1.frz (snd_E sd b _ sc W h4).1.frz) (by intro _ _; rfl) (by simp)
  | .cat a b, e', sc, W, h => by
    cases e' <;> first | (simp [chkE] at h; done) | skip
    simp only [chkE, Bool.and_eq_true, decide_eq_true_eq] at h
    obtain ⟨⟨h1, h3⟩, h4⟩ := h
    subst h1
    exact tri (ae_cat (snd_E sd a _ sc W h3).1.frz (snd_E sd b _ sc W h4).1.frz) (by intro _ _; rfl) (by simp)
  | .neg a, e', sc, W, h => by
    cases e' <;> first | (simp [chkE] at h; done) | skip
    rename_i op x pos
    cases op <;> first | (simp [chkE] at h; done) | skip
    simp only [chkE] at h
    exact tri (ae_neg (snd_E sd a _ sc W h).1.frz) (by intro _ _; rfl) (by simp)
  | .cmp o a b, e', sc, W, h => by
    cases e' <;> first | (simp [chkE] at h; done) | skip
    rename_i l ops cs pos
    match ops, cs, h with
    | [o'], [b'], h =>
      simp only [chkE, Bool.and_eq_true, decide_eq_true_eq] at h
      obtain ⟨⟨⟨h1, h2⟩, h3⟩, h4⟩ := h
      subst h1
      exact tri_ab (ab_cmp sd.hu h2 (snd_E sd a _ sc W h3).1.frz (snd_E sd b _ sc W h4).1.frz) (by simp)
    | [], _, h => simp [chkE] at h
    | _ :: _ :: _, _, h => simp [chkE] at h
    | [_], [], h => simp [chkE] at h
    | [_], _ :: _ :: _, h => simp [chkE] at h
  | .chn o p a b d, e', sc, W, h => by
    cases e' <;> first | (simp [chkE] at h; done) | skip
    rename_i l ops cs pos
    match ops, cs, h with
    | [o', p'], [b', d'], h =>
      simp only [chkE, Bool.and_eq_true, decide_eq_true_eq] at h
      obtain ⟨⟨⟨⟨⟨⟨h1, h2⟩, h3⟩, h4⟩, h5⟩, h6⟩, h7⟩ := h
      subst h1 h2
      exact tri_ab (ab_chn sd.hu h3 h4 (snd_E sd a _ sc W h5).1.frz (snd_E sd b _ sc W h6).1.frz (snd_E sd d _ sc W h7).1.frz) (by simp)
    | [], _, h => simp [chkE] at h
    | [_], _, h => simp [chkE] at h
    | _ :: _ :: _ :: _, _, h => simp [chkE] at h
    | [_, _], [], h => simp [chkE] at h
    | [_, _], [_], h => simp [chkE] at h
    | [_, _], _ :: _ :: _ :: _, h => simp [chkE] at h
  | .and a b, e', sc, W, h => by
    cases e' <;> first | (simp [chkE] at h; done) | skip
    rename_i op vs pos
    cases op <;> first | (simp [chkE] at h; done) | skip
    match vs, h with
    | [], h => simp [chkE] at h
    | [_], h => simp [chkE] at h
    | [x, y], h =>
      simp only [chkE, Bool.and_eq_true] at h
      obtain ⟨a1, a2, _⟩ := snd_E sd a _ sc W h.1
      obtain ⟨b1, b2, _⟩ := snd_E sd b _ sc W h.2
      have w : AW c sc W (.BoolOp .And [x, y] pos) (testOf (ev Γ (.and a b))) := aw_and a2 (aw_one b2)
      exact ⟨ae_and a1.frz (ae_one b1.frz), w.at, fun _ _ _ _ => w⟩
    | x :: y :: z :: r, h =>
      simp only [chkE, Bool.and_eq_true] at h
      obtain ⟨a1, a2, _⟩ := snd_E sd a _ sc W h.1
      obtain ⟨b1, b2, b3⟩ := snd_E sd b _ sc W h.2
      have w : AW c sc W (.BoolOp .And (x :: y :: z :: r) pos) (testOf (ev Γ (.and a b))) := aw_and a2 (b3 _ _ _ rfl)
      exact ⟨ae_and a1.frz b1.frz, w.at, fun _ _ _ _ => w⟩
  | .or a b, e', sc, W, h => by
    cases e' <;> first | (simp [chkE] at h; done) | skip
    rename_i op vs pos
    cases op <;> first | (simp [chkE] at h; done) | skip
    match vs, h with
    | [], h => simp [chkE] at h
    | [_], h => simp [chkE] at h
    | [x, y], h =>
      simp only [chkE, Bool.and_eq_true] at h
      obtain ⟨a1, a2, _⟩ := snd_E sd a _ sc W h.1
      obtain ⟨b1, b2, _⟩ := snd_E sd b _ sc W h.2
      have w : AW c sc W (.BoolOp .Or [x, y] pos) (testOf (ev Γ (.or a b))) := aw_or a2 (aw_one b2)
      exact ⟨ae_or a1.frz (ae_one b1.frz), w.at, fun _ _ _ _ => w⟩
    | x :: y :: z :: r, h =>
      simp only [chkE, Bool.and_eq_true] at h
      obtain ⟨a1, a2, _⟩ := snd_E sd a _ sc W h.1
      obtain ⟨b1, b2, b3⟩ := snd_E sd b _ sc W h.2
      have w : AW c sc W (.BoolOp .Or (x :: y :: z :: r) pos) (testOf (ev Γ (.or a b))) := aw_or a2 (b3 _ _ _ rfl)
      exact ⟨ae_or a1.frz b1.frz, w.at, fun _ _ _ _ => w⟩
  | .not a, e', sc, W, h => by
    cases e' <;> first | (simp [chkE] at h; done) | skip
    rename_i op x pos
    cases op <;> first | (simp [chkE] at h; done) | skip
    simp only [chkE] at h
    obtain ⟨a1, a2, _⟩ := snd_E sd a _ sc W h
    exact ⟨ae_not a1.frz, at_not a2, fun _ _ _ z => by cases z⟩
  | .ite e a b, e', sc, W, h => by
    cases e' <;> first | (simp [chkE] at h; done) | skip
    simp only [chkE, Bool.and_eq_true] at h
    obtain ⟨⟨h1, h2⟩, h3⟩ := h
    obtain ⟨_, c2, _⟩ := snd_E sd e _ sc W h1
    obtain ⟨a1, a2, _⟩ := snd_E sd a _ sc W h2
    obtain ⟨b1, b2, _⟩ := snd_E sd b _ sc W h3
    exact ⟨ae_ite c2 a1.frz b1.frz, at_ite c2 a2 b2, fun _ _ _ z => by cases z⟩
  | .tup es, e', sc, W, h => by
    cases e' <;> first | (simp [chkE] at h; done) | skip
    simp only [chkE, Bool.and_eq_true, decide_eq_true_eq] at h
    exact tri (ae_tup (snd_Es sd es _ sc W 0 h.1 (deps_0 es)) (by omega)) (by intro _ _; rfl) (by simp)
  | .lst k es, e', sc, W, h => by
    cases e' <;> first | (simp [chkE] at h; done) | skip
    simp only [chkE, Bool.and_eq_true, decide_eq_true_eq] at h
    exact tri (ae_lst (snd_Es sd es _ sc W k h.1.1 h.2) (by omega)) (by intro _ _; rfl) (by simp)
  | .ix a b, e', sc, W, h => by
    cases e' <;> first | (simp [chkE] at h; done) | skip
    simp only [chkE, Bool.and_eq_true] at h
    exact tri (ae_ix (snd_E sd a _ sc W h.1).1.frz (snd_E sd b _ sc W h.2).1.frz (tame_ix (chk_tame h.2))) (by intro _ _; rfl) (by simp)
  | .pk i b, e', sc, W, h => by
    cases e' <;> first | (simp [chkE] at h; done) | skip
    rename_i v b' pos
    cases v <;> first | (simp [chkE] at h; done) | skip
    simp only [chkE, Bool.and_eq_true] at h
    obtain ⟨h1, h2, h3, h4⟩ := slotB_ok h.1
    exact tri (ae_pk h1 h2 h3 h4 (snd_E sd b _ sc W h.2).1.frz (tame_ix (chk_tame h.2))) (by intro _ _; rfl) (by simp)
  | .lenv i, e', sc, W, h => by
    cases e' <;> first | (simp [chkE] at h; done) | skip
    rename_i f as ks pos
    cases f <;> first | (simp [chkE] at h; done) | skip
    match as, ks, h with
    | [e1], [], h =>
      cases e1 <;> first | (simp [chkE] at h; done) | skip
      rename_i x p2
      simp only [chkE, Bool.and_eq_true, decide_eq_true_eq] at h
      obtain ⟨⟨h0, h5⟩, h6⟩ := h
      subst h0
      obtain ⟨h1, h2, h3, h4⟩ := slotB_ok h6
      obtain ⟨g1, g2⟩ := bltB_ok h5
      exact tri (ae_lenv h1 h2 h3 h4 g1 (sd.bok _ g2)) (by intro _ _; rfl) (by simp)
    | [], _, h => simp [chkE] at h
    | _ :: _ :: _, _, h => simp [chkE] at h
    | [_], _ :: _, h => simp [chkE] at h
  | .call f rk es, e', sc, W, h => by
    cases e' <;> first | (simp [chkE] at h; done) | skip
    rename_i fe as ks pos
    cases fe <;> first | (simp [chkE] at h; done) | skip
    match as, ks, h with
    | e1 :: es1, [], h =>
      simp only [chkE, Bool.and_eq_true] at h
      obtain ⟨h1, h2⟩ := h
      split at h1
      · rename_i s hs
        simp only [Bool.and_eq_true, decide_eq_true_eq] at h1
        obtain ⟨⟨⟨⟨q1, q2⟩, q3⟩, q4⟩, q5⟩ := h1
        obtain ⟨g, hg, hgs⟩ := sigs_get hs
        subst hgs q1 q3
        obtain ⟨g1, g2⟩ := glB_ok q5
        have al : AL c sc W (e1 :: es1) 0 g.sig.np (evs Γ es) := by rw [← q4]; exact snd_Es sd es _ sc W 0 h2 (deps_0 es)
        have tm : tame e1 = true := by
          cases es with
          | nil => simp [chkEs] at h2
          | cons e es => simp only [chkEs, Bool.and_eq_true] at h2; exact chk_tame h2.1
        have pl : ∀ env, (backTo pos (starEach es1 env)).any (·.1) = false := fun env => by
          cases es with
          | nil => simp [chkEs] at h2
          | cons e es => simp only [chkEs, Bool.and_eq_true] at h2; exact tames_plain pos env h2.2
        exact tri (ae_call sd hg (by simpa using q2) al g1 g2 (fun env => tame_star tm _ env) pl) (by intro _ _; rfl) (by simp)
      · cases h1
    | [], _, h => simp [chkE] at h
    | _ :: _, _ :: _, h => simp [chkE] at h
  | .callr f rk i es, e', sc, W, h => by
    cases e' <;> first | (simp [chkE] at h; done) | skip
    rename_i fe as ks pos
    cases fe <;> first | (simp [chkE] at h; done) | skip
    match as, ks, h with
    | e1 :: es1, [], h =>
      cases e1 <;> first | (simp [chkE] at h; done) | skip
      rename_i y py
      simp only [chkE, Bool.and_eq_true] at h
      obtain ⟨⟨h1, h3⟩, h2⟩ := h
      split at h1
      · rename_i s hs
        simp only [Bool.and_eq_true, decide_eq_true_eq] at h1
        obtain ⟨⟨⟨⟨q1, q2⟩, q3⟩, q4⟩, q5⟩ := h1
        obtain ⟨g, hg, hgs⟩ := sigs_get hs
        subst hgs q1 q3
        obtain ⟨g1, g2⟩ := glB_ok q5
        obtain ⟨kk, hk⟩ := Option.isSome_iff_exists.mp q2
        obtain ⟨n1, n2, n3, n4⟩ := slotB_ok h3
        exact tri (ae_callr sd hg hk (snd_Es sd es _ sc W 0 h2 (deps_0 es)) q4 g1 n1 n2 n3 n4 g2 (fun env => tames_plain pos env h2)) (by intro _ _; rfl) (by simp)
      · cases h1
    | [], _, h => simp [chkE] at h
    | _ :: _, _ :: _, h => simp [chkE] at h
  | .blt b es, e', sc, W, h => by
    cases e' <;> first | (simp [chkE] at h; done) | skip
    rename_i fe as ks pos
    cases fe <;> first | (simp [chkE] at h; done) | skip
    match as, ks, h with
    | e1 :: es1, [], h =>
      simp only [chkE, Bool.and_eq_true, decide_eq_true_eq] at h
      obtain ⟨⟨h1, h2⟩, h3⟩ := h
      subst h1
      obtain ⟨g1, g2⟩ := bltB_ok h2
      have tm : tame e1 = true := by
        cases es with
        | nil => simp [chkEs] at h3
        | cons e es => simp only [chkEs, Bool.and_eq_true] at h3; exact chk_tame h3.1
      have pl : ∀ env, (backTo pos (starEach es1 env)).any (·.1) = false := fun env => by
        cases es with
        | nil => simp [chkEs] at h3
        | cons e es => simp only [chkEs, Bool.and_eq_true] at h3; exact tames_plain pos env h3.2
      exact tri (ae_blt (snd_Es sd es _ sc W 0 h3 (deps_0 es)) g1 (sd.bok _ g2) (fun env => tame_star tm _ env) pl) (by intro _ _; rfl) (by simp)
    | [], _, h => simp [chkE] at h
    | _ :: _, _ :: _, h => simp [chkE] at h
  | .isi a t, e', sc, W, h => by
    cases e' <;> first | (simp [chkE] at h; done) | skip
    rename_i fe as ks pos
    cases fe <;> first | (simp [chkE] at h; done) | skip
    match as, ks, h with
    | [a', e1], [], h =>
      cases e1 <;> first | (simp [chkE] at h; done) | skip
      rename_i y p2
      simp only [chkE, Bool.and_eq_true, decide_eq_true_eq] at h
      obtain ⟨⟨⟨⟨h1, h2⟩, h3⟩, h4⟩, h5⟩ := h
      subst h1 h2
      obtain ⟨g1, g2⟩ := bltB_ok h3
      obtain ⟨g3, g4⟩ := bltB_ok h4
      exact tri (ae_isi (snd_E sd a _ sc W h5).1.frz g1 (sd.bok _ g2) g3 (sd.bok _ g4) (fun env => tame_star (chk_tame h5) _ env)) (by intro _ _; rfl) (by simp)
    | [], _, h => simp [chkE] at h
    | [_], _, h => simp [chkE] at h
    | _ :: _ :: _ :: _, _, h => simp [chkE] at h
    | [_, _], _ :: _, h => simp [chkE] at h
  | .comp k own tg it ifs elt, e', sc, W, h => by
    cases e' <;> first | (simp [chkE] at h; done) | skip
    rename_i elt' gs scope pos
    match gs, h with
    | [⟨tg', iter', ifs', n⟩], h =>
      simp only [chkE, Bool.and_eq_true, decide_eq_true_eq] at h
      obtain ⟨⟨⟨⟨⟨⟨⟨h0, h1⟩, h2⟩, h3⟩, h4⟩, h5⟩, h6⟩, h7⟩ := h
      subst h0
      have e1 := ownOf_ix (N := c.N) own
      have := ae_comp (W := W) (pos := pos) sd.nd (snd_It sd it tg' iter' sc W h4).1 (blkOk_by h1) h2 (by rw [e1]; exact subB_ok h3) (snd_O sd ifs ifs' _ h5) (to_k (snd_E sd elt _ (relS scope sc) WF h6).1 h7) (snd_It sd it tg' iter' sc W h4).2
      rw [e1] at this
      exact tri this (by intro _ _; rfl) (by simp)
    | [], h => simp [chkE] at h
    | _ :: _ :: _, h => simp [chkE] at h
theorem snd_Es (sd : Sd c Γ bl) : ∀ (es : Es) (es' : List Expr) (sc : Scope) (W : WX) (m : Nat), chkEs (ccOf c Γ bl) sc es es' = true → es.deps m = true → AL c sc W es' m es.len (evs Γ es)
  | .nil, es', sc, W, m, h, _ => by
    cases es' with
    | cons e es => simp [chkEs] at h
    | nil => exact al_nil
  | .cons e es, es', sc, W, m, h, hd => by
    cases es' with
    | nil => simp [chkEs] at h
    | cons e' es' =>
      simp only [chkEs, Bool.and_eq_true] at h
      simp only [Es.deps, Bool.and_eq_true] at hd
      exact al_cons (to_k (snd_E sd e e' sc W h.1).1 hd.1) (snd_Es sd es es' sc W m h.2 hd.2) (fun env => tame_star (chk_tame h.1) _ env)
theorem snd_O (sd : Sd c Γ bl) : ∀ (o : Os) (ifs : List Expr) (sc : Scope), chkO (ccOf c Γ bl) sc o ifs = true → AO c sc ifs (evO Γ o)
  | .none, ifs, sc, h => by
    cases ifs with
    | cons e es => simp [chkO] at h
    | nil => exact ao_none
  | .some e, ifs, sc, h => by
    match ifs, h with
    | [e'], h =>
      simp only [chkO] at h
      exact ao_some (snd_E sd e e' sc WF h).2.1
    | [], h => simp [chkO] at h
    | _ :: _ :: _, h => simp [chkO] at h
theorem snd_It (sd : Sd c Γ bl) : ∀ (it : It) (tg iter : Expr) (sc : Scope) (W : WX), chkIt (ccOf c Γ bl) sc it tg iter = true → AI c sc W tg iter (evIt Γ it) ∧ ∀ env x, foldedSetIterable iter env x = pure x
  | .lst e, tg, iter, sc, W, h => by
    have h : chkE (ccOf c Γ bl) sc e iter = true := by simpa only [chkIt] using h
    exact ⟨ai_lst (snd_E sd e iter sc W h).1.frz, tame_fold (chk_tame h)⟩
  | .tup e, tg, iter, sc, W, h => by
    have h : chkE (ccOf c Γ bl) sc e iter = true := by simpa only [chkIt] using h
    exact ⟨ai_tup (snd_E sd e iter sc W h).1.frz, tame_fold (chk_tame h)⟩
  | .rng e, tg, iter, sc, W, h => by
    cases iter <;> first | (simp [chkIt] at h; done) | skip
    rename_i fe as ks pos
    cases fe <;> first | (simp [chkIt] at h; done) | skip
    match as, ks, h with
    | [e'], [], h =>
      simp only [chkIt, Bool.and_eq_true, decide_eq_true_eq] at h
      obtain ⟨⟨h1, h2⟩, h3⟩ := h
      subst h1
      obtain ⟨g1, g2⟩ := bltB_ok h2
      exact ⟨ai_rng g1 (sd.bok _ g2) (snd_E sd e e' sc W h3).1.frz (fun env => by rw [tame_star (chk_tame h3)]; rfl), by intro _ _; rfl⟩
    | [], _, h => simp [chkIt] at h
    | _ :: _ :: _, _, h => simp [chkIt] at h
    | [_], _ :: _, h => simp [chkIt] at h
  | .rng2 a b, tg, iter, sc, W, h => by
    cases iter <;> first | (simp [chkIt] at h; done) | skip
    rename_i fe as ks pos
    cases fe <;> first | (simp [chkIt] at h; done) | skip
    match as, ks, h with
    | [a', b'], [], h =>
      simp only [chkIt, Bool.and_eq_true, decide_eq_true_eq] at h
      obtain ⟨⟨⟨h1, h2⟩, h3⟩, h4⟩ := h
      subst h1
      obtain ⟨g1, g2⟩ := bltB_ok h2
      exact ⟨ai_rng2 g1 (sd.bok _ g2) (snd_E sd a a' sc W h3).1.frz (snd_E sd b b' sc W h4).1.frz (fun env => by rw [tame_star (chk_tame h3), tame_star (chk_tame h4)]; rfl) (fun env => by rw [tame_star (chk_tame h4)]; rfl), by intro _ _; rfl⟩
    | [], _, h => simp [chkIt] at h
    | [_], _, h => simp [chkIt] at h
    | _ :: _ :: _ :: _, _, h => simp [chkIt] at h
    | [_, _], _ :: _, h => simp [chkIt] at h
  | .enum e, tg, iter, sc, W, h => by
    cases tg <;> first | (simp [chkIt] at h; done) | skip
    cases iter <;> first | (simp [chkIt] at h; done) | skip
    rename_i fe as ks pos
    cases fe <;> first | (simp [chkIt] at h; done) | skip
    match as, ks, h with
    | [e'], [], h =>
      simp only [chkIt, Bool.and_eq_true, decide_eq_true_eq] at h
      obtain ⟨⟨h1, h2⟩, h3⟩ := h
      subst h1
      obtain ⟨g1, g2⟩ := bltB_ok h2
      exact ⟨ai_enum g1 (sd.bok _ g2) (snd_E sd e e' sc W h3).1.frz (fun env => by rw [tame_star (chk_tame h3)]; rfl), by intro _ _; rfl⟩
    | [], _, h => simp [chkIt] at h
    | _ :: _ :: _, _, h => simp [chkIt] at h
    | [_], _ :: _, h => simp [chkIt] at h
  | .zip a b, tg, iter, sc, W, h => by
    cases tg <;> first | (simp [chkIt] at h; done) | skip
    cases iter <;> first | (simp [chkIt] at h; done) | skip
    rename_i fe as ks pos
    cases fe <;> first | (simp [chkIt] at h; done) | skip
    match as, ks, h with
    | [a', b'], [], h =>
      simp only [chkIt, Bool.and_eq_true, decide_eq_true_eq] at h
      obtain ⟨⟨⟨h1, h2⟩, h3⟩, h4⟩ := h
      subst h1
      obtain ⟨g1, g2⟩ := bltB_ok h2
      exact ⟨ai_zip g1 (sd.bok _ g2) (snd_E sd a a' sc W h3).1.frz (snd_E sd b b' sc W h4).1.frz (fun env => tame_star (chk_tame h3) _ env) (fun env => by rw [tame_star (chk_tame h4)]; rfl), by intro _ _; rfl⟩
    | [], _, h => simp [chkIt] at h
    | [_], _, h => simp [chkIt] at h
    | _ :: _ :: _ :: _, _, h => simp [chkIt] at h
    | [_, _], _ :: _, h => simp [chkIt] at h
end
end Q

namespace Q
open PySem PySem.Spec PyProof.Rows L2
variable {c : Ctx} {sc so : Scope} {W : WX} {Γ : List Ent} {bl : Bl} {P : List Nat} {rk : Nat}

def notIn (i : Nat) (P : List Nat) : Bool := decide (i ∉ P)
def isLc : Expr → Bool
  | .ListComp .. => true
  | _ => false
def isTp : Expr → Bool
  | .Tuple .. => true
  | _ => false
def lclB (sc : Scope) (x : Str) : Bool := match sc.names.lookup x with
  | some .local => true
  | _ => false
def celB (sc : Scope) (x : Str) : Bool := match sc.names.lookup x with
  | some .cell => true
  | _ => false
/-- name = value, the name's cell of depth m -/
def chkA (C : Cc) (sc : Scope) (P : List Nat) (m i : Nat) (e : E) (x : Str) (px : Pos) (e' : Expr) : Bool :=
  decide (C.N[i]? = some x) && locB sc x && notIn i P && chkE C sc e e' && (match e' with
    | .ListComp _ _ scope p => celB sc x || (px.line == p.line && !(scope.names.any fun (n, k) => n == x && (k == .local || k == .cell)))
    | _ => true)
def asName : List Expr → Option (Str × Pos)
  | [.Name x px] => some (x, px)
  | _ => none
theorem asName_ok {ts : List Expr} {x : Str} {px : Pos} (h : asName ts = some (x, px)) : ts = [.Name x px] := by
  unfold asName at h
  split at h
  · cases h; rfl
  · cases h
def asTup : List Expr → Option (List Expr)
  | [.Tuple es _ _] => some es
  | _ => none
theorem asTup_ok {ts es : List Expr} (h : asTup ts = some es) : ∃ k p, ts = [.Tuple es k p] := by
  unfold asTup at h
  split at h
  · cases h; exact ⟨_, _, rfl⟩
  · cases h
def asTwo : List Expr → Option (Str × Pos × Str × Pos)
  | [.Name x px, .Name y py] => some (x, px, y, py)
  | _ => none
theorem asTwo_ok {ts : List Expr} {x y : Str} {px py : Pos} (h : asTwo ts = some (x, px, y, py)) : ts = [.Name x px, .Name y py] := by
  unfold asTwo at h
  split at h
  · cases h; rfl
  · cases h
def asPair : Expr → Option (Expr × Expr)
  | .Tuple [a, b] _ _ => some (a, b)
  | _ => none
theorem asPair_ok {e a b : Expr} (h : asPair e = some (a, b)) : ∃ k p, e = .Tuple [a, b] k p := by
  unfold asPair at h
  split at h
  · cases h; exact ⟨_, _, rfl⟩
  · cases h
def asApp : Expr → Option (Str × Str × Pos × Expr × Pos)
  | .Call (.Attribute (.Name x _) at' pa) [e'] [] pc => some (x, at', pa, e', pc)
  | _ => none
theorem asApp_ok {e e' : Expr} {x a : Str} {pa pc : Pos} (h : asApp e = some (x, a, pa, e', pc)) : ∃ px, e = .Call (.Attribute (.Name x px) a pa) [e'] [] pc := by
  unfold asApp at h
  split at h
  · cases h; exact ⟨_, rfl⟩
  · cases h
def asSub : List Expr → Option (Str × Expr)
  | [.Subscript (.Name x _) b _] => some (x, b)
  | _ => none
theorem asSub_ok {ts : List Expr} {x : Str} {b : Expr} (h : asSub ts = some (x, b)) : ∃ px pb, ts = [.Subscript (.Name x px) b pb] := by
  unfold asSub at h
  split at h
  · cases h; exact ⟨_, _, rfl⟩
  · cases h
def chkPar (C : Cc) (sc : Scope) (P : List Nat) (i j : Nat) (a b : E) (es : List Expr) (e' : Expr) : Bool :=
  match asTwo es, asPair e' with
  | some (x, px, y, py), some (a', b') => decide (C.N[i]? = some x) && decide (C.N[j]? = some y) && decide (i ≠ j) && lclB sc x && lclB sc y && notIn i P && notIn j P && (px.line == py.line) &&
      !(([a', b'].all (foldedForSure 8))) && !(([a', b'].all (constantsAlone 8))) && chkE C sc a a' && chkE C sc b b'
  | _, _ => false
def isNone {α : Type} : Option α → Bool
  | none => true
  | _ => false
def chkApp (C : Cc) (sc : Scope) (i : Nat) (e : E) (ex : Expr) : Bool :=
  match asApp ex with
  | some (x, at', pa, e', pc) => decide (at' = "append") && slotB C.N sc i x && chkE C sc e e' && (pa.endLine == pc.line)
  | none => false
def chkSti (C : Cc) (sc : Scope) (i : Nat) (b e : E) (ts : List Expr) (e' : Expr) : Bool :=
  match asSub ts with
  | some (x, b') => slotB C.N sc i x && chkE C sc b b' && chkE C sc e e'
  | none => false
mutual
def chkS (C : Cc) (sc : Scope) (P : List Nat) (rk : Nat) : S → Stmt → Bool
  | .set i e, .Assign ts e' _ => (match asName ts with
    | some (x, px) => chkA C sc P 0 i e x px e'
    | none => false)
  | .seto i e, .Assign ts e' _ => (match asName ts with
    | some (x, px) => chkA C sc P e.dep i e x px e'
    | none => false)
  | .par i j a b, .Assign ts e' _ => (match asTup ts with
    | some es => chkPar C sc P i j a b es e'
    | none => false)
  | .unp us e, .Assign ts e' _ => (match asTup ts with
    | some es => chkTgs C.N sc us es && (us.slots.all fun j => notIn j P) && !isTp e' && chkE C sc e e'
    | none => false)
  | .ret e, .Return v _ => (match v with
    | some e' => chkE C sc e e' && (rk == 0 || e.dep == rk)
    | none => false)
  | .expr e, .Expr e' _ => chkE C sc e e' && !isLc e'
  | .ite e a b, .If e' a' b' _ => chkE C sc e e' && chkSs C sc P rk a a' && chkSs C sc P rk b b'
  | .whl e b, .While e' b' o _ => o.isEmpty && chkE C sc e e' && chkSs C sc P rk b b'
  | .for tg it b, .For tg' it' b' o _ => o.isEmpty && chkTg C.N sc tg tg' && (tg.slots.all fun j => notIn j P) && chkIt C sc it tg' it' && chkSs C sc P rk b b'
  | .pass, .Pass _ => true
  | .cont, .Continue _ => true
  | .brk, .Break _ => true
  | .app i e, .Expr ex _ => chkApp C sc i e ex
  | .sti i b e, .Assign ts e' _ => chkSti C sc i b e ts e'
  | .never, _ => true
  | .raise x m, .Raise (some (.Call (.Name y _) [.Constant (.str n) _ _] [] _)) none _ => decide (x = y) && decide (m = n) && glB sc x && decide (x ∈ C.bl.x)
  | _, _ => false
def chkSs (C : Cc) (sc : Scope) (P : List Nat) (rk : Nat) : Ss → List Stmt → Bool
  | .nil, [] => true
  | .cons s ss, s' :: ss' => chkS C sc P rk s s' && chkSs C sc P rk ss ss'
  | _, _ => false
end
theorem lclB_ok {x : Str} (h : lclB sc x = true) : sc.names.lookup x = some .local := by
  unfold lclB at h
  split at h
  · assumption
  · cases h
theorem celB_ok {x : Str} (h : celB sc x = true) : sc.names.lookup x = some .cell := by
  unfold celB at h
  split at h
  · assumption
  · cases h
theorem swaps_tame {e : Expr} (h : tame e = true) (hl : isLc e = false) (t : Option Expr) (l : Nat) (env : PySem.Env) : swapsWith e t l env = pure false := by
  cases e <;> first | rfl | (simp [tame] at h; done) | (simp [isLc] at hl)
theorem swaps_sub {e : Expr} (o b : Expr) (p : Pos) (l : Nat) (env : PySem.Env) : swapsWithSole [.Subscript o b p] e l env = pure false := by
  cases e <;> rfl
theorem swaps_tup {e : Expr} (es : List Expr) (k : Nat) (p : Pos) (l : Nat) (env : PySem.Env) : swapsWithSole [.Tuple es k p] e l env = pure false := by
  cases e <;> rfl
theorem stores_sub {e : Expr} (o b : Expr) (p : Pos) (env : PySem.Env) : swappedStores [.Subscript o b p] e env = pure none := by
  cases e <;> rfl
theorem stores_tup {e : Expr} (es : List Expr) (k : Nat) (p : Pos) (env : PySem.Env) (h : isTp e = false) : swappedStores [.Tuple es k p] e env = pure none := by
  cases e <;> first | rfl | (simp [isTp] at h)
theorem swaps_cell {elt : Expr} {gs : List Comprehension} {scope : Scope} {p px : Pos} {x : Str} {l : Nat} {env : PySem.Env} (hk : env.kindOf x = some .cell) : swapsWith (.ListComp elt gs scope p) (some (.Name x px)) l env = pure false := by
  unfold swapsWith
  simp only [hk]
  show (pure _ : Sem Bool) = pure false
  congr 1
  have : ((some NameKind.cell : Option NameKind) == some .local) = false := by decide
  rw [this]
  simp
theorem stores_par {x y : Str} {px py pt pt2 : Pos} {kt k2 : Nat} {a b : Expr} {env : PySem.Env} (hk : env.scope.kind = .function) (hx : env.kindOf x = some .local) (hy : env.kindOf y = some .local) (hl : (px.line == py.line) = true) (hxy : x ≠ y) (ta : tame a = true) (tb : tame b = true)
    (h1 : ([a, b].all (foldedForSure 8)) = false) (h2 : ([a, b].all (constantsAlone 8)) = false) :
    swappedStores [.Tuple [.Name x px, .Name y py] kt pt] (.Tuple [a, b] k2 pt2) env = pure (some [x, y]) := by
  have hb : env.blockKind = .function := by unfold Env.blockKind; rw [hk]; rfl
  have hl' : py.line = px.line := by simpa using (beq_iff_eq.mp hl).symm
  have hxy' : (x == y) = false := by simpa using hxy
  have hyx' : (y == x) = false := by simpa using (Ne.symm hxy)
  unfold swappedStores
  show (if _ then _ else _ : Sem (Option (List Str))) = _
  simp only [hb, List.length_cons, List.length_nil, List.head?_cons, Option.map_some, Option.getD_some, Expr.pos]
  rw [if_neg (by decide)]
  have key : ∀ (u v : Sem (Option (List Str))) (b1 : Bool), b1 = false → (if b1 = true then u else v) = v := fun u v b1 h => by rw [h]; rfl
  rw [key _ _ _ (by
    simp only [List.any_cons, List.any_nil, Bool.or_false, Bool.or_eq_false_iff]
    exact ⟨by cases a <;> first | (simp [tame] at ta; done) | rfl, by cases b <;> first | (simp [tame] at tb; done) | rfl⟩)]
  simp only [List.filterMap_cons, List.filterMap_nil, hx, hy, hl', beq_self_eq_true, Bool.and_self, if_true]
  rw [key _ _ _ (by simp [List.eraseDups_cons, hxy', hyx']), key _ _ _ h1, key _ _ _ h2]
theorem notIn_ok {i : Nat} (h : notIn i P = true) : i ∉ P := of_decide_eq_true h
theorem alls_ok {l : List Nat} (h : (l.all fun j => notIn j P) = true) : ∀ j ∈ l, j ∉ P := fun j hj => notIn_ok (List.all_eq_true.mp h j hj)
theorem snd_A (sd : Sd c Γ bl) {i m : Nat} {e : E} {x : Str} {px pos : Pos} {e' : Expr} {cl : D → Cell} (h : chkA (ccOf c Γ bl) sc P m i e x px e' = true) (hm : m = 0 ∨ e.dep = m) (hc : ∀ d, (m = 0 ∧ cl d = .va d) ∨ cl d = .ow m d) :
    AP c sc W P rk (.Assign [.Name x px] e' pos) (fun κ ρ => ev Γ e ρ (fun ρ1 d => κ.nx (ρ1.set i (cl d))) κ.xc) := by
  unfold chkA at h
  simp only [Bool.and_eq_true, decide_eq_true_eq] at h
  obtain ⟨⟨⟨⟨h1, h2⟩, h3⟩, h4⟩, h5⟩ := h
  have plain : (∀ X, IsT c sc W X → swapsWith e' (some (.Name x px)) pos.line X.env = pure false) → AP c sc W P rk (.Assign [.Name x px] e' pos) (fun κ ρ => ev Γ e ρ (fun ρ1 d => κ.nx (ρ1.set i (cl d))) κ.xc) := fun hs =>
    ap_set sd.nd ((snd_E sd e e' sc W h4).1.to hm) h1 (locB_ok h2) (notIn_ok h3) hs hc
  cases hl : isLc e' with
  | false => exact plain fun X hX => swaps_tame (chk_tame h4) hl _ _ _
  | true =>
    cases e' <;> first | (simp [isLc] at hl; done) | skip
    rename_i elt' gs scope p
    simp only [Bool.or_eq_true, Bool.and_eq_true, Bool.not_eq_true'] at h5
    rcases h5 with h5 | ⟨h5, h6⟩
    · exact plain fun X hX => swaps_cell (by show X.env.scope.names.lookup x = _; rw [hX.is.is.sc]; exact celB_ok h5)
    · by_cases hlo : sc.names.lookup x = some .local
      · cases e <;> first | (simp [chkE] at h4; done) | skip
        rename_i k own tg it ifs elt
        match gs, h4 with
        | [⟨tg', iter', ifs', n⟩], h4 =>
          simp only [chkE, Bool.and_eq_true, decide_eq_true_eq] at h4
          obtain ⟨⟨⟨⟨⟨⟨⟨h0, q1⟩, q2⟩, q3⟩, q4⟩, q5⟩, q6⟩, q7⟩ := h4
          subst h0
          have e1 := ownOf_ix (N := c.N) own
          have := ap_setc (W := W) (P := P) (rk := rk) (pos := p) (px := px) (ps := pos) (cl := cl) sd.nd (snd_It sd it tg' iter' sc W q4).1 (blkOk_by q1) q2 (by rw [e1]; exact subB_ok q3) (snd_O sd ifs ifs' _ q5) (to_k (snd_E sd elt _ (relS scope sc) WF q6).1 q7) (snd_It sd it tg' iter' sc W q4).2
            h1 hlo (notIn_ok h3) h5 h6 m (by rcases hm with z | z; exact .inl z; exact .inr z) hc
          rw [e1] at this
          exact this
        | [], h4 => simp [chkE] at h4
        | _ :: _ :: _, h4 => simp [chkE] at h4
      · refine plain fun X hX => swaps_cell (by show X.env.scope.names.lookup x = _; rw [hX.is.is.sc]; rcases locB_ok h2 with q | q; exact absurd q hlo; exact q)
mutual
theorem snd_S (sd : Sd c Γ bl) : ∀ (s : S) (s' : Stmt), chkS (ccOf c Γ bl) sc P rk s s' = true → AP c sc W P rk s' (sv Γ s)
  | .set i e, s', h => by
    cases s' <;> first | (simp [chkS] at h; done) | skip
    simp only [chkS] at h
    split at h
    · rename_i q
      rw [asName_ok q]
      exact snd_A sd h (.inl rfl) (fun d => .inl ⟨rfl, rfl⟩)
    · cases h
  | .seto i e, s', h => by
    cases s' <;> first | (simp [chkS] at h; done) | skip
    simp only [chkS] at h
    split at h
    · rename_i q
      rw [asName_ok q]
      exact snd_A sd h (.inr rfl) (fun d => .inr rfl)
    · cases h
  | .par i j a b, s', h => by
    cases s' <;> first | (simp [chkS] at h; done) | skip
    simp only [chkS] at h
    split at h
    · rename_i q
      obtain ⟨kt, pt, rfl⟩ := asTup_ok q
      unfold chkPar at h
      split at h
      · rename_i q1 q2
        obtain ⟨k2, pt2, rfl⟩ := asPair_ok q2
        have q1 := asTwo_ok q1
        subst q1
        simp only [Bool.and_eq_true, decide_eq_true_eq, Bool.not_eq_true'] at h
        obtain ⟨⟨⟨⟨⟨⟨⟨⟨⟨⟨⟨h1, h2⟩, h3⟩, h4⟩, h5⟩, h6⟩, h7⟩, h8⟩, h9⟩, h10⟩, h11⟩, h12⟩ := h
        refine ap_par sd.nd (snd_E sd a _ sc W h11).1.frz (snd_E sd b _ sc W h12).1.frz h1 h2 h3 (lclB_ok h4) (lclB_ok h5) (notIn_ok h6) (notIn_ok h7) (fun env => tame_star (chk_tame h11) _ env) (fun env => tame_star (chk_tame h12) _ env) (fun X hX => ?_)
        exact stores_par hX.kind (by show X.env.scope.names.lookup _ = _; rw [hX.is.is.sc]; exact lclB_ok h4) (by show X.env.scope.names.lookup _ = _; rw [hX.is.is.sc]; exact lclB_ok h5) h8 (fun z => by subst z; exact h3 (nodup_ix sd.nd h1 h2)) (chk_tame h11) (chk_tame h12) h9 h10
      · cases h
    · cases h
  | .unp us e, s', h => by
    cases s' <;> first | (simp [chkS] at h; done) | skip
    simp only [chkS] at h
    split at h
    · rename_i q
      obtain ⟨kt, pt, rfl⟩ := asTup_ok q
      simp only [Bool.and_eq_true, Bool.not_eq_true'] at h
      obtain ⟨⟨⟨h1, h2⟩, h3⟩, h4⟩ := h
      exact ap_unp (m := 0) sd.nd (snd_E sd e _ sc W h4).1.frz h1 (alls_ok h2) (fun l env => swaps_tup _ _ _ l env) (fun env => stores_tup _ _ _ env h3)
    · cases h
  | .ret e, s', h => by
    cases s' <;> first | (simp [chkS] at h; done) | skip
    simp only [chkS] at h
    split at h
    · simp only [Bool.and_eq_true] at h
      exact ap_ret (to_k (snd_E sd e _ sc W h.1).1 h.2)
    · cases h
  | .expr e, s', h => by
    cases s' <;> first | (simp [chkS] at h; done) | skip
    simp only [chkS, Bool.and_eq_true, Bool.not_eq_true'] at h
    exact ap_expr (snd_E sd e _ sc W h.1).1 (fun l env => swaps_tame (chk_tame h.1) h.2 _ l env)
  | .ite e a b, s', h => by
    cases s' <;> first | (simp [chkS] at h; done) | skip
    simp only [chkS, Bool.and_eq_true] at h
    exact ap_ite (snd_E sd e _ sc W h.1.1).2.1 (snd_Ss sd a _ h.1.2) (snd_Ss sd b _ h.2)
  | .whl e b, s', h => by
    cases s' <;> first | (simp [chkS] at h; done) | skip
    simp only [chkS, Bool.and_eq_true, List.isEmpty_iff] at h
    obtain ⟨⟨h0, h1⟩, h2⟩ := h
    subst h0
    exact ap_whl (snd_E sd e _ sc W h1).2.1 (snd_Ss sd b _ h2)
  | .for tg it b, s', h => by
    cases s' <;> first | (simp [chkS] at h; done) | skip
    simp only [chkS, Bool.and_eq_true, List.isEmpty_iff] at h
    obtain ⟨⟨⟨⟨h0, h1⟩, h2⟩, h3⟩, h4⟩ := h
    subst h0
    exact ap_for sd.nd (snd_It sd it _ _ sc W h3).1 h1 (alls_ok h2) (snd_Ss sd b _ h4) (snd_It sd it _ _ sc W h3).2
  | .pass, s', h => by
    cases s' <;> first | (simp [chkS] at h; done) | skip
    exact ap_pass
  | .cont, s', h => by
    cases s' <;> first | (simp [chkS] at h; done) | skip
    exact ap_cont
  | .brk, s', h => by
    cases s' <;> first | (simp [chkS] at h; done) | skip
    exact ap_brk
  | .app i e, s', h => by
    cases s' <;> first | (simp [chkS] at h; done) | skip
    simp only [chkS] at h
    unfold chkApp at h
    split at h
    · rename_i q
      obtain ⟨px, rfl⟩ := asApp_ok q
      simp only [Bool.and_eq_true, decide_eq_true_eq] at h
      obtain ⟨⟨⟨h1, h2⟩, h3⟩, h4⟩ := h
      subst h1
      obtain ⟨n1, n2, n3, n4⟩ := slotB_ok h2
      exact ap_app (snd_E sd e _ sc W h3).1 n1 n2 n3 n4 (fun env => tame_star (chk_tame h3) _ env) h4
    · cases h
  | .sti i b e, s', h => by
    cases s' <;> first | (simp [chkS] at h; done) | skip
    simp only [chkS] at h
    unfold chkSti at h
    split at h
    · rename_i q
      obtain ⟨px, pb, rfl⟩ := asSub_ok q
      simp only [Bool.and_eq_true] at h
      obtain ⟨⟨h1, h2⟩, h3⟩ := h
      obtain ⟨n1, n2, n3, n4⟩ := slotB_ok h1
      exact ap_sti (snd_E sd e _ sc W h3).1.frz (snd_E sd b _ sc W h2).1.frz n1 n2 n3 n4 (fun o p l env => swaps_sub _ _ _ l env) (fun o p env => stores_sub _ _ _ env) (fun o env v => tame_set (chk_tame h2) env v)
    · cases h
  | .raise x m, s', h => by
    cases s' <;> first | (simp [chkS] at h; done) | skip
    rename_i e1 e2 pos
    match e1, e2, h with
    | some (.Call (.Name y p) [.Constant (.str n) j p2] [] p3), none, h =>
      simp only [chkS, Bool.and_eq_true, decide_eq_true_eq] at h
      obtain ⟨⟨⟨h1, h2⟩, h3⟩, h4⟩ := h
      subst h1
      exact ap_raise sd (glB_ok h3).1 (glB_ok h3).2 h4
  | .never, s', h => by
    have : sv Γ .never = fun _ _ => False := by funext κ ρ; simp only [sv]
    rw [this]
    exact ap_never
theorem snd_Ss (sd : Sd c Γ bl) : ∀ (ss : Ss) (ss' : List Stmt), chkSs (ccOf c Γ bl) sc P rk ss ss' = true → APs c sc W P rk ss' (svs Γ ss)
  | .nil, ss', h => by
    cases ss' with
    | cons s ss => simp [chkSs] at h
    | nil => exact aps_nil
  | .cons s ss, ss', h => by
    cases ss' with
    | nil => simp [chkSs] at h
    | cons s' ss' =>
      simp only [chkSs, Bool.and_eq_true] at h
      have q := aps_cons (T := sv Γ s) (U := svs Γ ss) (snd_S sd s s' h.1) (snd_Ss sd ss ss' h.2)
      exact q
end
end Q

namespace Q
open PySem PySem.Spec PyProof.Rows L2

/-! ## Defs -/
def outD (own : Option Nat) (ρ : Env) (k : D → Prop) : Prop := match own with
  | none => k .none
  | some m => ∃ d, getC ρ 0 = .ow m d ∧ k d
def ktOf (own : Option Nat) (Φ : D → D → Prop) (Ξ : D → XD → Prop) : Kt where
  nx := fun ρ => outD own ρ (Φ .none)
  rt := fun ρ d => outD own ρ (Φ d)
  ct := fun _ => False
  bk := fun _ => False
  xc := fun ρ x => outD own ρ fun d' => Ξ d' x
def prot (own : Option Nat) : List Nat := match own with
  | none => []
  | some _ => [0]
def envOf (own : Option Nat) (n : Nat) (ds : List D) : Env := cellsOf own ds ++ List.replicate (n - ds.length) .un
/-- what callees a def may lean on -/
def GOk (P : Program) (w : World) (K : PySem.W.Frag) (mg : Str → Option Value) (base : Heap) (Γ : List Ent) (k : Nat) : Prop :=
  ∀ (f : Nat) g, Γ[f]? = some g → ∃ (a : Addr) (fd : FuncData) (ps : List Str) (j : Nat), FnOk P w K mg base (L2N.CX P w) j a fd ps (toSp K mg g) ∧ j ≤ k ∧ mg g.sig.name = some (.ref a) ∧ PySem.W.keepIn K (.ref a) = true ∧ Binds K fd ps []
theorem cellsOf_length (own : Option Nat) : ∀ ds : List D, (cellsOf own ds).length = ds.length
  | [] => rfl
  | d :: ds => by simp [cellsOf]
section
variable {K : PySem.W.Frag} {mg : Str → Option Value}
/-- the names at a def's entry -/
theorem En.start {G H : Hp} {F : Foot} {N : List Str} {vs : List V} {own : Option Nat} {ds : List D} (e : En K (vs.map some) (cellsOf own ds) F G H) (hl : vs.length ≤ N.length) : En K (L2.start N vs) (envOf own N.length ds) F G H := by
  have hvd : vs.length = ds.length := by
    have := e.len
    rw [cellsOf_length, List.length_map] at this
    exact this.symm
  refine ⟨e.same, ?_, fun i cl hc => ?_, e.nod, e.dis, e.out, e.th, e.ln, e.fz⟩
  · unfold envOf L2.start
    rw [List.length_append, List.length_append, e.len, List.length_replicate, List.length_replicate, hvd]
  · unfold envOf at hc
    unfold L2.start
    by_cases hi : i < (cellsOf own ds).length
    · rw [List.getElem?_append_left hi] at hc
      rw [List.getElem?_append_left (by rw [← e.len]; exact hi)]
      exact e.cell i cl hc
    · rw [List.getElem?_append_right (by omega)] at hc
      have : cl = .un := by
        have := List.mem_of_getElem? hc
        exact List.eq_of_mem_replicate this
      subst this
      trivial
/-- the state at a def's end, as its caller sees it -/
theorem En.finish {σ' : Sg} {ρ' : Env} {F F' : Foot} {G H G' H' : Hp} {N : List Str} {vs : List V} {own : Option Nat} {ds : List D} {d' : D} (e : En K (vs.map some) (cellsOf own ds) F G H) (hl : 0 < vs.length)
    (e' : En K σ' ρ' F' G' H') (s : Stp F G H F' G' H') (p : Kp (prot own) (L2.start N vs) σ') (h : outD own ρ' (fun z => z = d')) :
    ∃ F'', En K (vs.map some) (cellsOf own (outDs own ds d')) F'' G' H' ∧ Stp F G H F'' G' H' ∧ ∀ {m : Nat} {A : List Addr} {u : V} {z : D}, Res K F G H F' G' H' m A u z → Res K F G H F'' G' H' m A u z := by
  have hvd : (cellsOf own ds).length = (vs.map some).length := e.len
  have va : ∀ (i : Nat) d, (cellsOf own ds)[i]? = some (.va d) → CellOk K G' H' [] ((vs.map some)[i]?) (.va d) := fun i d hc => by
    obtain ⟨v, h2, h3⟩ := e.cell i _ hc
    exact ⟨v, h2, Dp.mono s.g h3⟩
  cases own with
  | none =>
    refine ⟨foot0, ⟨e'.same, hvd, fun i cl hc => ?_, fun _ => .nil, (fun _ _ _ h => nomatch h), (fun _ _ h => nomatch h), (fun _ _ h => nomatch h), e'.ln, e'.fz⟩, ⟨s.g, s.h, (fun _ _ h => nomatch h), s.ng, s.th⟩, fun r => ⟨r.ow, r.nod, r.out, (fun _ _ _ h => nomatch h), r.new⟩⟩
    have hc' : (cellsOf none ds)[i]? = some cl := hc
    have hc2 : (ds.map Cell.va)[i]? = some cl := by rw [← cellsOf_none]; exact hc'
    rw [List.getElem?_map] at hc2
    cases q : ds[i]? with
    | none => rw [q] at hc2; cases hc2
    | some d =>
      rw [q] at hc2
      cases hc2
      exact va i d hc'
  | some k =>
    obtain ⟨d, h1, rfl⟩ := h
    cases ds with
    | nil => rw [List.length_map] at hvd; rw [← hvd] at hl; cases hl
    | cons d0 ds =>
      obtain ⟨v0, q1, q2⟩ : ∃ v, σ'[0]? = some (some v) ∧ Ow K G' H' k (F' 0) v d := e'.cell 0 _ (getC_some h1 (by simp))
      have q3 : σ'[0]? = (L2.start N vs)[0]? := p 0 (by simp [prot])
      obtain ⟨u0, us, rfl⟩ : ∃ u us, vs = u :: us := by
        cases vs with
        | nil => cases hl
        | cons u us => exact ⟨u, us, rfl⟩
      have q4 : v0 = u0 := by
        rw [q1] at q3
        have : (L2.start N (u0 :: us))[0]? = some (some u0) := rfl
        rw [this] at q3
        cases q3; rfl
      subst q4
      refine ⟨foot1 (F' 0), ⟨e'.same, by simpa [outDs, cellsOf] using hvd, fun i cl hc => ?_, fun j => ?_, fun j l a hj hl => ?_, fun j a hj => e'.out 0 a (mem_foot1 hj).2, fun j a hj => e'.th 0 a (mem_foot1 hj).2, e'.ln, e'.fz⟩, ⟨s.g, s.h, fun j b hb => s.nf 0 b (mem_foot1 hb).2, s.ng, s.th⟩, fun r => ⟨r.ow, r.nod, r.out, fun a ha j hj => r.dis a ha 0 (mem_foot1 hj).2, r.new⟩⟩
      · cases i with
        | zero =>
          have hc' : cl = .ow k d := by simpa [outDs, cellsOf] using hc.symm
          subst hc'
          exact ⟨v0, rfl, q2⟩
        | succ i =>
          have hc2 : (ds.map Cell.va)[i]? = some cl := by simpa [outDs, cellsOf] using hc
          rw [List.getElem?_map] at hc2
          cases q : ds[i]? with
          | none => rw [q] at hc2; cases hc2
          | some z =>
            rw [q] at hc2
            cases hc2
            exact va (i + 1) z (by simp [cellsOf, q])
      · unfold foot1
        by_cases z : j = 0
        · rw [if_pos z]; exact e'.nod 0
        · rw [if_neg z]; exact .nil
      · rw [(mem_foot1 hj).1, (mem_foot1 hl).1]
end
/-- a look at a def's names -/
def namesB (N ps : List Str) (sc : Scope) : Bool :=
  (match sc.kind with
    | .function => true
    | _ => false) && (!sc.isCoroutine && (!sc.isGenerator && (decide N.Nodup && (decide (N.take ps.length = ps) && ((ps.all fun y => locB sc y) && sc.names.all fun y => match y.2 with
    | .free => false
    | _ => true)))))
theorem namesB_ok {N ps : List Str} {sc : Scope} (h : namesB N ps sc = true) : FnScope N ps sc := by
  unfold namesB at h
  simp only [Bool.and_eq_true, Bool.not_eq_true', decide_eq_true_eq, List.all_eq_true] at h
  obtain ⟨a, b, d, e, f, g, i⟩ := h
  refine ⟨?_, b, d, e, f, fun y hy => locB_ok (g y hy), fun y hy z => ?_⟩
  · split at a
    · assumption
    · cases a
  · have := i y hy
    rw [z] at this
    cases this
/-- as the kit's own for a def that may raise, errors without a context -/
theorem okXN {P : Program} {w : World} {K : PySem.W.Frag} {mg : Str → Option Value} {base : Heap} {x qual : Str} {st : Stmt} {f : Addr} {fd : FuncData} {N ps : List Str} {k : Nat} {sp : Sp} (F : Fun K x qual st f fd) (S : FnScope N ps (defScope st)) (len : ∀ vs H Q E, sp vs H Q E → vs.length = ps.length)
    (hbody : ∀ (cdv : Value) (A : Around) (outer : List PySem.Env) (s : Shared) (H : Hp) (vs : List V) (Q : VK) (E : XK), Room k (A.deeper (envOfC qual (defScope st) s.heap.objs.size f cdv)) → sp vs H Q E →
      ∃ t, PSs (cxOf (L2N.CX P w) P w K mg base N qual (defScope st) f cdv A outer s H E) (defBody st) t ∧ t { nx := fun _ H' => Q .non H', rt := Q } (L2.start N vs) H) : FnOk P w K mg base (L2N.CX P w) (k + 1) f fd ps sp := by
  obtain ⟨oc, od, kV, doc, pm, an, cdv, ct, osl, rfl, lk, hcd⟩ := F.ex
  exact fn_of lk hcd S len fun A outer s H vs Q E hr hsp => hbody cdv A outer s H vs Q E hr hsp
/-- A DEF, by what its statements do -/
theorem fn_okT {P : Program} {w : World} {K : PySem.W.Frag} {mg : Str → Option Value} {base : Heap} {Γ : List Ent} {bl : Bl} {g : Ent} {st : Stmt} {f : Addr} {fd : FuncData} {N ps : List Str} {k : Nat} {x qual : Str} (F : Fun K x qual st f fd)
    (T : TrS) (hS : namesB N ps (defScope st) = true) (hn : ps.length = g.sig.np) (hn0 : 0 < g.sig.np) (hc : ∀ (A : Around) (W : WX), Room k A → Sd ⟨P, w, K, mg, base, A, N⟩ Γ bl → APs ⟨P, w, K, mg, base, A, N⟩ (defScope st) W (prot g.sig.own) g.sig.rk (defBody st) T) (gok : GOk P w K mg base Γ k) (bok : ∀ x ∈ bl.b, mg x = none) (xok : ∀ x ∈ bl.x, XOk K mg x)
    (hb : ∀ ds Φ Ξ, ds.length = g.sig.np → g.sp ds Φ Ξ → T (ktOf g.sig.own Φ Ξ) (envOf g.sig.own N.length ds)) :
    FnOk P w K mg base (L2N.CX P w) (k + 1) f fd ps (toSp K mg g) := by
  have S := namesB_ok hS
  have hNl : ps.length ≤ N.length := by
    have := congrArg List.length S.pre
    rw [List.length_take] at this
    omega
  refine okXN F S (fun vs H Q E h => by rw [h.1, hn]) (fun cdv A outer s H vs Q E hr h => ?_)
  obtain ⟨hvl, ds, F0, G, Φ, Ξ, e, hsp, hQ, hE⟩ := h
  have hdl : ds.length = g.sig.np := by
    have := e.len
    rw [cellsOf_length, List.length_map] at this
    omega
  let c : Ctx := ⟨P, w, K, mg, base, A.deeper (envOfC qual (defScope st) s.heap.objs.size f cdv), N⟩
  have sd : Sd c Γ bl := by
    refine ⟨S.nd, Nat.lt_of_lt_of_le (Nat.lt_of_le_of_lt (Nat.le_refl _) hr.units) (Nat.le_refl _), fun f' g' hg => ?_, bok, xok⟩
    obtain ⟨a, fd', ps', j, h1, h2, h3, h4, h5⟩ := gok f' g' hg
    exact ⟨a, fd', ps', j, h1, hr.mono h2, h3, h4, h5⟩
  have tk : L2N.Takes (cxOf (L2N.CX P w) P w K mg base N qual (defScope st) f cdv A outer s H E) (fun cls d _ H => E cls d H) := L2N.takes_of rfl rfl rfl rfl
  obtain ⟨t, ht, snd⟩ := hc _ (fun cls d _ H => E cls d H) hr sd
  refine ⟨t, ht _ ⟨⟨⟨rfl, rfl, rfl, rfl, rfl, rfl, rfl, rfl, rfl, tk⟩, fun x hx => ⟨hx, .inl rfl⟩⟩, passes_of rfl, S.kind, rfl, rfl⟩, ?_⟩
  refine snd (ktOf g.sig.own Φ Ξ) _ (L2.start N vs) F0 G H _ (e.start (by rw [hvl, ← hn]; exact hNl)) (hb ds Φ Ξ hdl hsp) ⟨fun σ' ρ' F' G' H' q e' s' p => ?_, fun _ _ _ _ _ q => q.elim, fun _ _ _ _ _ q => q.elim, fun σ' ρ' d v A' F' G' H' q e' r s' p => ?_, fun σ' ρ' x F' G' H' cls dd q e' s' p hx => ?_⟩
  · have q' : outD g.sig.own ρ' (Φ .none) := q
    obtain ⟨d', z1, z2⟩ : ∃ d', outD g.sig.own ρ' (fun z => z = d') ∧ Φ .none d' := by
      cases ho : g.sig.own with
      | none => rw [ho] at q'; exact ⟨.none, rfl, q'⟩
      | some m => rw [ho] at q'; obtain ⟨d, z1, z2⟩ := q'; exact ⟨d, ⟨d, z1, rfl⟩, z2⟩
    obtain ⟨F'', e2, s2, r2⟩ := En.finish e (by omega) e' s' p z1
    refine hQ .none d' .non [] F'' G' H' z2 e2 (r2 ⟨?_, .nil, (fun _ h => nomatch h), (fun _ h => nomatch h), (fun _ h => nomatch h)⟩) s2
    cases g.sig.rk with
    | zero => exact .frz .non
    | succ m => exact .flt rfl .non
  · have q' : outD g.sig.own ρ' (Φ d) := q
    obtain ⟨d', z1, z2⟩ : ∃ d', outD g.sig.own ρ' (fun z => z = d') ∧ Φ d d' := by
      cases ho : g.sig.own with
      | none => rw [ho] at q'; exact ⟨.none, rfl, q'⟩
      | some m => rw [ho] at q'; obtain ⟨d, z1, z2⟩ := q'; exact ⟨d, ⟨d, z1, rfl⟩, z2⟩
    obtain ⟨F'', e2, s2, r2⟩ := En.finish e (by omega) e' s' p z1
    exact hQ d d' v A' F'' G' H' z2 e2 (r2 r) s2
  · have q' : outD g.sig.own ρ' (fun d' => Ξ d' x) := q
    obtain ⟨d', z1, z2⟩ : ∃ d', outD g.sig.own ρ' (fun z => z = d') ∧ Ξ d' x := by
      cases ho : g.sig.own with
      | none => rw [ho] at q'; exact ⟨.none, rfl, q'⟩
      | some m => rw [ho] at q'; obtain ⟨d, z1, z2⟩ := q'; exact ⟨d, ⟨d, z1, rfl⟩, z2⟩
    obtain ⟨F'', e2, s2, _⟩ := En.finish e (by omega) e' s' p z1
    exact hE x d' F'' G' H' cls dd z2 e2 s2 hx
/-- A DEF: its text is what the language says, and the language's meaning keeps the promise -/
theorem fn_ok {P : Program} {w : World} {K : PySem.W.Frag} {mg : Str → Option Value} {base : Heap} {Γ : List Ent} {bl : Bl} {g : Ent} {st : Stmt} {f : Addr} {fd : FuncData} {N ps : List Str} {k : Nat} {x qual : Str} (F : Fun K x qual st f fd)
    (body : Ss) (hS : namesB N ps (defScope st) = true) (hn : ps.length = g.sig.np) (hn0 : 0 < g.sig.np) (hc : chkSs ⟨N, Γ.map (·.sig), bl⟩ (defScope st) (prot g.sig.own) g.sig.rk body (defBody st) = true) (gok : GOk P w K mg base Γ k) (bok : ∀ x ∈ bl.b, mg x = none) (xok : ∀ x ∈ bl.x, XOk K mg x)
    (hb : ∀ ds Φ Ξ, ds.length = g.sig.np → g.sp ds Φ Ξ → svs Γ body (ktOf g.sig.own Φ Ξ) (envOf g.sig.own N.length ds)) :
    FnOk P w K mg base (L2N.CX P w) (k + 1) f fd ps (toSp K mg g) :=
  fn_okT (bl := bl) (Γ := Γ) F (svs Γ body) hS hn hn0 (fun A W _ sd => snd_Ss sd body _ hc) gok bok xok hb
/-- one def more to lean on -/
theorem GOk.nil {P : Program} {w : World} {K : PySem.W.Frag} {mg : Str → Option Value} {base : Heap} {k : Nat} : GOk P w K mg base [] k := fun f g h => by simp at h
theorem GOk.snoc {P : Program} {w : World} {K : PySem.W.Frag} {mg : Str → Option Value} {base : Heap} {Γ : List Ent} {k : Nat} {g : Ent} {a : Addr} {fd : FuncData} {ps : List Str} (h : GOk P w K mg base Γ k)
    (hf : FnOk P w K mg base (L2N.CX P w) (k + 1) a fd ps (toSp K mg g)) (hm : mg g.sig.name = some (.ref a)) (hk : PySem.W.keepIn K (.ref a) = true) (hb : Binds K fd ps []) : GOk P w K mg base (Γ ++ [g]) (k + 1) := fun f g' hg => by
  by_cases q : f < Γ.length
  · rw [List.getElem?_append_left q] at hg
    obtain ⟨a, fd, ps, j, h1, h2, h3⟩ := h f g' hg
    exact ⟨a, fd, ps, j, h1, by omega, h3⟩
  · rw [List.getElem?_append_right (by omega)] at hg
    have e : g' = g := by
      have := List.mem_of_getElem? hg
      simpa using this
    subst e
    exact ⟨a, fd, ps, k + 1, hf, Nat.le_refl _, hm, hk, hb⟩
end Q

/-! ## Plain facts: fractions of whole numbers, bounds -/
namespace Q
open PySem

/-! ### the language's meaning, unfolded -/
theorem getC_0 {a : Cell} {ρ : Env} : getC (a :: ρ) 0 = a := rfl
theorem getC_s {a : Cell} {ρ : Env} {i : Nat} : getC (a :: ρ) (i + 1) = getC ρ i := rfl
@[simp] theorem shaped_int (i : Int) : SeqAt.shaped (.int i) = true := rfl
@[simp] theorem shaped_bool (i : Bool) : SeqAt.shaped (.bool i) = true := rfl
@[simp] theorem shaped_none : SeqAt.shaped .none = true := rfl
@[simp] theorem eqv_int (i j : Int) : PyData.eqv (.int i) (.int j) = decide (i = j) := by
  show (i == j) = decide (i = j)
  by_cases h : i = j <;> simp [h]
@[simp] theorem eqv_bool (i j : Bool) : PyData.eqv (.bool i) (.bool j) = (i == j) := rfl

/-! ### loops -/
/-- a while, by a word over a number that falls -/
theorem whl_of {C : Env → (Env → Bool → Prop) → Prop} {B : (Env → Prop) → Env → Prop} {N : Env → Prop} {ρ : Env} (I : Nat → Env → Prop) (n : Nat) (h0 : I n ρ)
    (step : ∀ n ρ, I n ρ → ∀ W : Env → Prop, (∀ m ρ', m < n → I m ρ' → W ρ') → C ρ fun ρ1 b => sel b (B W ρ1) (N ρ1)) : ∃ n, whW C B N n ρ := by
  have key : ∀ n m ρ, m ≤ n → I m ρ → whW C B N (n + 1) ρ := by
    intro n
    induction n with
    | zero =>
      intro m ρ hm h
      exact step m ρ h (whW C B N 0) fun k ρ' hk _ => absurd hk (by omega)
    | succ n ih =>
      intro m ρ hm h
      exact step m ρ h (whW C B N (n + 1)) fun k ρ' hk hi => ih k ρ' (by omega) hi
  exact ⟨n + 1, key n n ρ (Nat.le_refl _) h0⟩
theorem for_of {tg : Tg} {B : (Env → Prop) → Env → Prop} {N : Env → Prop} {ds : List D} {ρ : Env} (I : Nat → Env → Prop) (h0 : I 0 ρ)
    (step : ∀ (i : Nat) d ρ, ds[i]? = some d → I i ρ → ∀ W : Env → Prop, (∀ ρ', I (i + 1) ρ' → W ρ') → asg tg d ρ fun ρ1 => B W ρ1) (done : ∀ ρ, I ds.length ρ → N ρ) : forW tg B N ds ρ := by
  have key : ∀ (es : List D) (i : Nat) ρ, ds.drop i = es → i ≤ ds.length → I i ρ → forW tg B N es ρ := by
    intro es
    induction es with
    | nil =>
      intro i ρ h hi hI
      have : ds.length ≤ i := List.drop_eq_nil_iff.mp h
      have e : i = ds.length := by omega
      subst e
      exact done ρ hI
    | cons d es ih =>
      intro i ρ h hi hI
      have hlt : i < ds.length := by
        by_cases q : i < ds.length
        · exact q
        · rw [List.drop_eq_nil_iff.mpr (by omega)] at h; cases h
      rw [List.drop_eq_getElem_cons hlt] at h
      injection h with h1 h2
      exact step i d ρ (by rw [List.getElem?_eq_getElem hlt, h1]) hI (forW tg B N es) fun ρ' h' => ih (i + 1) ρ' h2 hlt h'
  exact key ds 0 ρ rfl (Nat.zero_le _) h0
theorem comp_of {own : List Nat} {tg : Tg} {tst : Env → (Env → Bool → Prop) → Prop} {f : Env → (Env → D → Prop) → Prop} {ds : List D} {ρ : Env} {Φ : Env → List D → Prop} (I : Nat → List D → Env → Prop) (h0 : I 0 [] ρ)
    (step : ∀ (i : Nat) d acc ρ, ds[i]? = some d → I i acc ρ → ∀ W : List D → Env → Prop, (∀ acc' ρ', I (i + 1) acc' ρ' → W acc' ρ') → asg tg d ρ fun ρ1 => tst ρ1 fun ρ2 b => sel b (f ρ2 fun ρ3 y => W (acc ++ [y]) (wip ρ3 own)) (W acc (wip ρ2 own)))
    (done : ∀ acc ρ, I ds.length acc ρ → Φ ρ acc) : compW own tg tst f ds [] ρ Φ := by
  have key : ∀ (es : List D) (i : Nat) acc ρ, ds.drop i = es → i ≤ ds.length → I i acc ρ → compW own tg tst f es acc ρ Φ := by
    intro es
    induction es with
    | nil =>
      intro i acc ρ h hi hI
      have : ds.length ≤ i := List.drop_eq_nil_iff.mp h
      have e : i = ds.length := by omega
      subst e
      exact done acc ρ hI
    | cons d es ih =>
      intro i acc ρ h hi hI
      have hlt : i < ds.length := by
        by_cases q : i < ds.length
        · exact q
        · rw [List.drop_eq_nil_iff.mpr (by omega)] at h; cases h
      rw [List.drop_eq_getElem_cons hlt] at h
      injection h with h1 h2
      exact step i d acc ρ (by rw [List.getElem?_eq_getElem hlt, h1]) hI (fun acc ρ => compW own tg tst f es acc ρ Φ) fun acc' ρ' h' => ih (i + 1) acc' ρ' h2 hlt h'
  exact key ds 0 [] ρ rfl (Nat.zero_le _) h0

/-! ### bounds -/
/-- below 2 ^ k -/
def Bd (k : Nat) (i : Int) : Prop := i.natAbs < 2 ^ k
theorem Bd.up {i : Int} {a b : Nat} (ha : Bd a i) (h : a ≤ b) : Bd b i := Nat.lt_of_lt_of_le ha (Nat.pow_le_pow_right (by decide) h)
theorem Bd.le {i j : Int} {a : Nat} (ha : Bd a i) (h : j.natAbs ≤ i.natAbs) : Bd a j := Nat.lt_of_le_of_lt h ha
theorem Bd.mul {i j : Int} {a b : Nat} (ha : Bd a i) (hb : Bd b j) : Bd (a + b) (i * j) := L2.wide_lt ha hb
theorem Bd.add {i j : Int} {a : Nat} (ha : Bd a i) (hb : Bd a j) : Bd (a + 1) (i + j) := by
  unfold Bd at *
  rw [Nat.pow_succ]
  omega
theorem Bd.sub {i j : Int} {a : Nat} (ha : Bd a i) (hb : Bd a j) : Bd (a + 1) (i - j) := by
  unfold Bd at *
  rw [Nat.pow_succ]
  omega
theorem Bd.neg {i : Int} {a : Nat} (ha : Bd a i) : Bd a (-i) := by
  unfold Bd at *
  rw [Int.natAbs_neg]; exact ha
theorem Bd.mulok {i j : Int} {a b : Nat} (ha : Bd a i) (hb : Bd b j) (h : a + b ≤ 900000) : IntMulOk i j := by
  refine L2.CMulW.ok (L2.wide_mul (a := a + 1) (b := b + 1) ?_ ?_ (by omega) (by omega) (by omega))
  · exact ha.up (by omega)
  · exact hb.up (by omega)
theorem Bd.divok {i j : Int} {b : Nat} (hb : Bd b j) (h : b ≤ 8999) : Builtin.divisionGoesByPylong i j = false := by
  refine PyProof.noPylong_of_log2 ?_
  by_cases h0 : j.natAbs = 0
  · rw [h0]; decide
  · have := (Nat.log2_lt h0).mpr hb
    omega
theorem Bd.bits {i : Int} {b : Nat} (hb : Bd b i) : Builtin.Int.intBits i ≤ b := by
  unfold Builtin.Int.intBits
  split
  · exact Nat.zero_le _
  · have h0 : i.natAbs ≠ 0 := by rename_i h; simpa using h
    have := (Nat.log2_lt h0).mpr hb
    omega
theorem Bd.of {i : Int} {a : Nat} (k : Nat) (h1 : -(k : Int) < i) (h2 : i < k) (hk : k ≤ 2 ^ a) : Bd a i := by
  unfold Bd
  omega

/-! ### the greatest common divisor -/
theorem gcd_fmod (a b : Int) : Int.gcd b (a.fmod b) = Int.gcd a b := by
  have e : a.fmod b = a - b * a.fdiv b := Int.fmod_def a b
  rw [e, Int.sub_eq_add_neg, ← Int.mul_neg, Int.gcd_add_mul_left_right, Int.gcd_comm]
theorem fmod_abs (a : Int) {b : Int} (h : b ≠ 0) : (a.fmod b).natAbs < b.natAbs := by
  have h1 := Int.emod_nonneg a h
  have h2 := Int.emod_lt a h
  rw [Int.fmod_eq_emod]
  split
  · omega
  · rename_i hn
    have hb : b < 0 := by omega
    have h3 : a % b ≠ 0 := fun z => hn (.inr (Int.dvd_of_emod_eq_zero z))
    omega

/-! ### the fraction of a top and a bottom -/
def sgn (a b : Int) : Int := if b < 0 then -(Int.gcd a b : Int) else (Int.gcd a b : Int)
def shr (a b : Int) : Int × Int := (a.fdiv (sgn a b), b.fdiv (sgn a b))
abbrev Fr := Int × Int
def frD (p : Fr) : PyData := .tuple [.int p.1, .int p.2]
theorem sgn_ne {a b : Int} (h : b ≠ 0) : sgn a b ≠ 0 := by
  have := Int.gcd_pos_of_ne_zero_right a h
  unfold sgn
  split <;> omega
theorem sgn_left (a b : Int) : sgn a b ∣ a := by
  unfold sgn
  split
  · exact Int.neg_dvd.mpr (Int.gcd_dvd_left a b)
  · exact Int.gcd_dvd_left a b
theorem sgn_right (a b : Int) : sgn a b ∣ b := by
  unfold sgn
  split
  · exact Int.neg_dvd.mpr (Int.gcd_dvd_right a b)
  · exact Int.gcd_dvd_right a b
theorem fdiv_dvd {a s : Int} (h : s ∣ a) : a.fdiv s * s = a := by
  rw [Int.fdiv_eq_ediv_of_dvd h]
  exact Int.ediv_mul_cancel h
theorem shr_1 (a b : Int) : (shr a b).1 * sgn a b = a := fdiv_dvd (sgn_left a b)
theorem shr_2 (a b : Int) : (shr a b).2 * sgn a b = b := fdiv_dvd (sgn_right a b)
theorem sgn_abs (a b : Int) : (sgn a b).natAbs = Int.gcd a b := by
  unfold sgn
  split <;> simp
theorem shr_pos {a b : Int} (h : b ≠ 0) : 0 < (shr a b).2 := by
  have e := shr_2 a b
  have g := Int.gcd_pos_of_ne_zero_right a h
  rcases Int.lt_trichotomy (shr a b).2 0 with q | q | q
  · exfalso
    unfold sgn at e
    split at e
    · rename_i hb
      have : 0 ≤ (shr a b).2 * -(Int.gcd a b : Int) := Int.mul_nonneg_of_nonpos_of_nonpos (by omega) (by omega)
      omega
    · have : (shr a b).2 * (Int.gcd a b : Int) ≤ 0 := Int.mul_nonpos_of_nonpos_of_nonneg (by omega) (by omega)
      rw [e] at this
      have h0 : (shr a b).2 * (Int.gcd a b : Int) < 0 := Int.mul_neg_of_neg_of_pos q (by omega)
      omega
  · rw [q, Int.zero_mul] at e; omega
  · exact q
theorem shr_low {a b : Int} (h : b ≠ 0) : Int.gcd (shr a b).1 (shr a b).2 = 1 := by
  have g := Int.gcd_pos_of_ne_zero_right a h
  have e : Int.gcd ((shr a b).1 * sgn a b) ((shr a b).2 * sgn a b) = Int.gcd (shr a b).1 (shr a b).2 * (sgn a b).natAbs := Int.gcd_mul_right _ _ _
  rw [shr_1, shr_2, sgn_abs] at e
  have h2 : (Int.gcd (shr a b).1 (shr a b).2) * Int.gcd a b = 1 * Int.gcd a b := by omega
  exact Nat.eq_of_mul_eq_mul_right g h2
theorem shr_worth (a b : Int) : (shr a b).1 * b = a * (shr a b).2 := by
  have e1 := shr_1 a b
  have e2 := shr_2 a b
  calc (shr a b).1 * b = (shr a b).1 * ((shr a b).2 * sgn a b) := by rw [e2]
    _ = ((shr a b).1 * sgn a b) * (shr a b).2 := by grind
    _ = a * (shr a b).2 := by rw [e1]
theorem abs_le_of_mul {p s a : Int} (e : p * s = a) (h : s ≠ 0) : p.natAbs ≤ a.natAbs := by
  rw [← e, Int.natAbs_mul]
  exact Nat.le_mul_of_pos_right _ (by omega)
theorem shr_bd1 {a b : Int} {k : Nat} (h : b ≠ 0) (ha : Bd k a) : Bd k (shr a b).1 := ha.le (abs_le_of_mul (shr_1 a b) (sgn_ne h))
theorem shr_bd2 {a b : Int} {k : Nat} (h : b ≠ 0) (hb : Bd k b) : Bd k (shr a b).2 := hb.le (abs_le_of_mul (shr_2 a b) (sgn_ne h))
theorem sgn_bd {a b : Int} {k : Nat} (h : b ≠ 0) (hb : Bd k b) : Bd k (sgn a b) := by
  unfold Bd at *
  rw [sgn_abs]
  have := Int.gcd_le_natAbs_right a h
  omega
theorem gcd_bd {a b : Int} {k : Nat} (h : b ≠ 0) (hb : Bd k b) : Bd k (Int.gcd a b : Int) := by
  unfold Bd at *
  have := Int.gcd_le_natAbs_right a h
  omega
end Q

/-! ## The law's own promise, from the script's list -/
namespace Q
open PySem PySem.Spec PyProof.Rows L2
def lawSp (K : PySem.W.Frag) : Sp := fun vs H Q _ => ∃ (a : Addr) (ns : List Int), vs = [.ref a] ∧ ns.length ≤ 63 ∧ (∀ z ∈ ns, Builtin.Int.intBits z ≤ 1048576) ∧ Only H ∧ SqL K H a (ns.map V.int) ∧ ∀ H', Q (.bl true) H'
theorem dpAll_ints {K : PySem.W.Frag} {G : Hp} : ∀ ns : List Int, DpAll K G (ns.map V.int) (ns.map PyData.int)
  | [] => .nil
  | n :: ns => .cons (.int n) (dpAll_ints ns)
theorem law_imp {K : PySem.W.Frag} {mg : Str → Option Value} {g : Ent} (h1 : g.sig.own = none) (h2 : g.sig.np = 1) (h3 : g.sig.rk = 0)
    (hs : ∀ (ks : List Int) (Φ : D → D → Prop) (Ξ : D → XD → Prop), ks.length ≤ 63 → (∀ z ∈ ks, Builtin.Int.intBits z ≤ 1048576) → Φ (.bool true) .none → g.sp [.list (ks.map PyData.int)] Φ Ξ) (vs : List V) (H : Hp) (Q : VK) (E : XK) (h : lawSp K vs H Q E) : toSp K mg g vs H Q E := by
  obtain ⟨a, ns, rfl, hl, hb, hO, hS, hQ⟩ := h
  have hG : ∃ G : Hp, Same G H ∧ SqL K G a (ns.map V.int) ∧ ∀ a o vs, G a = some (.frz o (.lst vs)) → vs.length ≤ 16777216 := by
    rcases hS with hR | hR
    · refine ⟨fun b => if b = a then H a else none, fun b o e => ?_, .inl ?_, fun b o vs e => ?_⟩
      · have e : (if b = a then H a else none) = some o := e
        by_cases q : b = a
        · rw [if_pos q] at e; rw [q]; exact e
        · rw [if_neg q] at e; cases e
      · unfold Rd at *
        show (if a = a then H a else none) = _ ∨ ∃ o, (if a = a then H a else none) = _
        rw [if_pos rfl]; exact hR
      · have e : (if b = a then H a else none) = some (.frz o (.lst vs)) := e
        by_cases q : b = a
        · rw [if_pos q] at e
          unfold Rd at hR
          rw [e] at hR
          rcases hR with z | ⟨o', z⟩
          · cases z
          · cases z
            rw [List.length_map]; omega
        · rw [if_neg q] at e; cases e
    · exact ⟨fun _ => none, (fun _ _ e => nomatch e), .inr hR, (fun _ _ _ e => nomatch e)⟩
  obtain ⟨G, g1, g2, g3⟩ := hG
  refine ⟨by rw [h2]; rfl, [.list (ns.map PyData.int)], foot0, G, fun d _ => d = .bool true, fun _ _ => False, ?_, hs ns _ _ hl hb rfl, ?_, fun _ _ _ _ _ _ _ z => z.elim⟩
  · rw [h1]
    refine ⟨g1, rfl, fun i c hc => ?_, fun _ => .nil, (fun _ _ _ h => nomatch h), (fun _ _ h => nomatch h), (fun _ _ h => nomatch h), fun b o e => ?_, g3⟩
    · cases i with
      | zero => cases hc; exact ⟨_, rfl, .lst g2 (dpAll_ints ns)⟩
      | succ i => cases hc
    · rcases hO b with z | ⟨o', xs, z⟩
      · rw [z] at e; cases e
      · rw [z] at e; cases e; trivial
  · rintro d d' v A F' G' H' rfl _ r _
    have w := r.ow
    rw [h3] at w
    have : v = .bl true := by
      generalize hd : PyData.bool true = d at w
      cases w with
      | frz f => subst hd; cases f; rfl
    rw [this]
    exact hQ H'
end Q

/-! ## Defs that many laws share -/
namespace Q
open PySem PySem.Spec PyProof.Rows L2
local macro_rules | `(tactic| walk_at "q") => `(tactic| ((conv => whnf); repeat (first | (refine ⟨_, rfl, ?_⟩; conv => whnf) | (refine ⟨True.intro, ?_⟩; conv => whnf) | (refine ⟨_, _, _, rfl, rfl, rfl, ?_⟩; conv => whnf) | (refine ⟨rfl, rfl, ?_⟩; conv => whnf) | (refine sel_tt rfl ?_; conv => whnf) | (refine sel_ff rfl ?_; conv => whnf) | (refine ⟨by decide, ?_⟩; conv => whnf))))
theorem sel_tt {t : Bool} {A B : Prop} (h : t = true) (a : A) : sel t A B := by rw [h, sel_t]; exact a
theorem sel_ff {t : Bool} {A B : Prop} (h : t = false) (b : B) : sel t A B := by rw [h, sel_f]; exact b
def FOk (u : Fr) : Prop := u.2 ≠ 0 ∧ Bd 4000 u.1 ∧ Bd 4000 u.2
def Bag (b : D) : Prop := ∃ c m : Int, b = .list [.int c, .int m] ∧ 0 ≤ c ∧ 0 ≤ m ∧ m < 2147483648
def bGcd : Ss :=
    (.cons (.whl (.cmp .NotEq (.var 1) (.int 0)) (.cons (.par 0 1 (.var 1) (.op .Mod (.var 0) (.var 1)))
    .nil))
    (.cons (.ret (.blt .abs (.cons (.var 0) .nil)))
    .nil))
def bBag : Ss :=
    (.cons (.set 2 (.int 0))
    (.cons (.ite (.cmp .Lt (.var 1) (.blt .len (.cons (.var 0) .nil))) (.cons (.set 2 (.blt .abs (.cons (.ix (.var 0) (.var 1)) .nil)))
    .nil) .nil)
    (.cons (.set 3 (.op .Mod (.op .Pow (.op .Add (.op .Add (.op .Mod (.var 2) (.int 2147483629)) (.op .Mult (.int 104729) (.var 1))) (.int 17)) (.int 5)) (.int 2147483647)))
    (.cons (.for (.nm 4) (.rng (.blt .mn (.cons (.blt .len (.cons (.var 0) .nil)) (.cons (.int 60) .nil)))) (.cons (.set 3 (.op .Mod (.op .Add (.op .Add (.op .Mult (.var 3) (.int 48271)) (.op .Mult (.op .Mod (.ix (.var 0) (.var 4)) (.int 2147483587)) (.op .Add (.var 4) (.int 3)))) (.var 4)) (.int 2147483629)))
    .nil))
    (.cons (.ite (.cmp .Lt (.var 2) (.op .Pow (.int 10) (.int 18))) (.cons (.set 2 (.int 0))
    .nil) .nil)
    (.cons (.ret (.lst 0 (.cons (.var 2) (.cons (.var 3) .nil))))
    .nil))))))
def bTake : Ss :=
    (.cons (.ite (.cmp .Gt (.pk 0 (.int 0)) (.int 0)) (.cons (.set 2 (.op .Mod (.pk 0 (.int 0)) (.var 1)))
    (.cons (.sti 0 (.int 0) (.op .FloorDiv (.pk 0 (.int 0)) (.var 1)))
    (.cons (.ret (.var 2))
    .nil))) .nil)
    (.cons (.sti 0 (.int 1) (.op .Mod (.op .Add (.op .Mult (.pk 0 (.int 1)) (.int 48271)) (.int 7919)) (.int 2147483647)))
    (.cons (.ret (.op .Mod (.op .Mod (.op .Mult (.op .FloorDiv (.op .Mod (.op .Pow (.pk 0 (.int 1)) (.int 3)) (.int 2147483587)) (.int 7)) (.int 69621)) (.int 1073741789)) (.var 1)))
    .nil)))
def spGcd : FSp := fun ds Φ _ => ∃ a b : Int, ds = [.int a, .int b] ∧ Φ (.int (Int.gcd a b)) .none
def spBag : FSp := fun ds Φ _ => ∃ (ks : List Int) (n : Int), ds = [.list (ks.map PyData.int), .int n] ∧ (0 ≤ n ∧ n ≤ 1000) ∧ ∀ b, Bag b → Φ b .none
def spTake : FSp := fun ds Φ _ => ∃ (b : D) (n : Int), ds = [b, .int n] ∧ (Bag b ∧ 0 < n ∧ n < 2 ^ 200) ∧ ∀ x b', 0 ≤ x → x < n → Bag b' → Φ (.int x) b'
theorem bdB {i : Int} {n : Nat} (h1 : 0 ≤ i) (h2 : i < (2 ^ n : Nat)) : Bd n i := by
  unfold Bd
  omega
theorem fm0 (a : Int) {b : Int} (h : 0 < b) : 0 ≤ a.fmod b ∧ a.fmod b < b := ⟨Int.fmod_nonneg_of_pos a h, Int.fmod_lt_of_pos a h⟩
theorem atI_ofNat {ds : List D} {i : Nat} {d : D} (h : ds[i]? = some d) : atI ds (i : Int) = some d := by
  unfold atI ixN
  have hl := (List.getElem?_eq_some_iff.mp h).1
  rw [if_pos (by omega), if_pos (by omega)]
  exact h
theorem rng_get {n i : Nat} {d : D} (h : ((List.range n).map fun i => PyData.int (i : Nat))[i]? = some d) : d = .int (i : Nat) ∧ i < n := by
  rw [List.getElem?_map] at h
  by_cases q : i < n
  · rw [List.getElem?_range q] at h
    cases h; exact ⟨rfl, q⟩
  · rw [List.getElem?_eq_none (by simpa using q)] at h; cases h
theorem at_int {ks : List Int} {i : Nat} (h : i < ks.length) : atI (ks.map PyData.int) (i : Int) = some (.int ks[i]) := atI_ofNat (by rw [List.getElem?_map, List.getElem?_eq_getElem h]; rfl)
def drp : Nat → Ss → Ss
  | 0, s => s
  | n + 1, .cons _ s => drp n s
  | _ + 1, .nil => .nil
theorem ok_gcd {body : Ss} (Γ : List Ent) (hb : body = bGcd) : ∀ ds Φ Ξ, ds.length = 2 → spGcd ds Φ Ξ → svs Γ body (ktOf none Φ Ξ) (Q.envOf none 2 ds) := by
  subst hb
  rintro ds Φ Ξ - ⟨a, b, rfl, h⟩
  walk_at "q"
  refine whl_of (fun n ρ => ∃ a b : Int, ρ = [.va (.int a), .va (.int b)] ∧ n = b.natAbs ∧ Φ (.int (Int.gcd a b)) .none) b.natAbs ⟨a, b, rfl, rfl, h⟩ ?_
  rintro n ρ ⟨a, b, rfl, rfl, h⟩ W hW
  walk_at "q"
  refine sel_mk (fun q => ?_) (fun q => ?_)
  · have hb : b ≠ 0 := by simpa using q
    walk_at "q"
    refine ⟨hb, ?_⟩
    walk_at "q"
    refine hW _ _ (fmod_abs a hb) ⟨_, _, rfl, rfl, ?_⟩
    rw [gcd_fmod]; exact h
  · have hb : b = 0 := by simpa using q
    walk_at "q"
    subst hb
    rw [Int.gcd_zero_right] at h
    have e : (if a < 0 then -a else a) = (a.natAbs : Int) := by split <;> omega
    rw [e]
    exact h
theorem ok_take {body : Ss} (Γ : List Ent) (hb : body = bTake) : ∀ ds Φ Ξ, ds.length = 2 → spTake ds Φ Ξ → svs Γ body (ktOf (some 1) Φ Ξ) (Q.envOf (some 1) 3 ds) := by
  subst hb
  rintro ds Φ Ξ - ⟨b, n, rfl, ⟨⟨c, m, rfl, h1, h2, h3⟩, h4, h5⟩, h⟩
  have hn : n ≠ 0 := by omega
  walk_at "q"
  refine sel_mk (fun q => ?_) (fun q => ?_)
  · have q : 0 < c := by simpa using q
    walk_at "q"
    refine ⟨hn, ?_⟩
    walk_at "q"
    refine ⟨hn, (bdB (n := 200) (by omega) (by omega) : Bd 200 n).divok (by decide), ?_⟩
    walk_at "q"
    exact h _ _ (fm0 c h4).1 (fm0 c h4).2 ⟨_, _, rfl, Int.fdiv_nonneg h1 (by omega), h2, h3⟩
  · walk_at "q"
    refine ⟨(bdB (n := 31) h2 (by omega) : Bd 31 m).mulok (bdB (n := 16) (by decide) (by decide)) (by decide), ?_⟩
    walk_at "q"
    obtain ⟨e1, e2⟩ := fm0 (m * 48271 + 7919) (b := 2147483647) (by decide)
    have hB : Bag (.list [.int c, .int ((m * 48271 + 7919).fmod 2147483647)]) := ⟨_, _, rfl, h1, e1, by omega⟩
    generalize (m * 48271 + 7919).fmod 2147483647 = m' at *
    have hb := (bdB (n := 31) e1 (by omega) : Bd 31 m').bits
    refine ⟨by omega, ?_⟩
    walk_at "q"
    obtain ⟨e3, e4⟩ := fm0 (m' ^ Int.toNat 3) (b := 2147483587) (by decide)
    generalize (m' ^ Int.toNat 3).fmod 2147483587 = m2 at *
    refine ⟨(bdB (n := 3) (by decide) (by decide) : Bd 3 7).divok (by decide), ?_⟩
    walk_at "q"
    have e5 : 0 ≤ m2.fdiv 7 ∧ m2.fdiv 7 ≤ m2 := by
      rw [Int.fdiv_eq_ediv_of_nonneg _ (by decide)]; omega
    refine ⟨(bdB (n := 31) e5.1 (by omega) : Bd 31 (m2.fdiv 7)).mulok (bdB (n := 17) (by decide) (by decide)) (by decide), ?_⟩
    walk_at "q"
    refine ⟨hn, ?_⟩
    walk_at "q"
    exact h _ _ (fm0 _ h4).1 (fm0 _ h4).2 hB
theorem ok_bag {body : Ss} (Γ : List Ent) (hb : body = bBag) : ∀ ds Φ Ξ, ds.length = 2 → spBag ds Φ Ξ → svs Γ body (ktOf none Φ Ξ) (Q.envOf none 5 ds) := by
  subst hb
  rintro ds Φ Ξ - ⟨ks, n, rfl, ⟨h1, h2⟩, h⟩
  have tail2 : ∀ (c m : Int) cl, 0 ≤ c → 0 ≤ m → m < 2147483648 → svs Γ (drp 4 bBag) (ktOf none Φ Ξ) [.va (.list (ks.map PyData.int)), .va (.int n), .va (.int c), .va (.int m), cl] := by
    intro c m cl hc h3 h4
    walk_at "q"
    refine sel_mk (fun q => ?_) (fun q => ?_)
    · walk_at "q"
      exact h _ ⟨_, _, rfl, by decide, h3, h4⟩
    · walk_at "q"
      exact h _ ⟨_, _, rfl, hc, h3, h4⟩
  have tail : ∀ c : Int, 0 ≤ c → svs Γ (drp 2 bBag) (ktOf none Φ Ξ) [.va (.list (ks.map PyData.int)), .va (.int n), .va (.int c), .un, .un] := by
    intro c hc
    walk_at "q"
    refine ⟨(bdB (n := 20) (by decide) (by decide) : Bd 20 104729).mulok (bdB (n := 10) h1 (by omega)) (by decide), ?_⟩
    walk_at "q"
    obtain ⟨e1, e2⟩ := fm0 c (b := 2147483629) (by decide)
    generalize c.fmod 2147483629 = c1 at *
    have hb := (bdB (n := 40) (i := c1 + 104729 * n + 17) (by omega) (by omega)).bits
    refine ⟨by omega, ?_⟩
    walk_at "q"
    refine ⟨by split <;> omega, ?_⟩
    have e3 := fm0 ((c1 + 104729 * n + 17) ^ Int.toNat 5) (b := 2147483647) (by decide)
    generalize ((c1 + 104729 * n + 17) ^ Int.toNat 5).fmod 2147483647 = m at *
    refine for_of (fun i ρ => ∃ m cl, 0 ≤ m ∧ m < 2147483648 ∧ ρ = [.va (.list (ks.map PyData.int)), .va (.int n), .va (.int c), .va (.int m), cl]) ⟨_, _, e3.1, by omega, rfl⟩ ?_ ?_
    · rintro i d ρ hd ⟨m, cl, h3, h4, rfl⟩ W hW
      obtain ⟨rfl, hi⟩ := rng_get hd
      have hk : i < 60 ∧ i < ks.length := by
        simp only [List.length_map] at hi
        split at hi <;> omega
      walk_at "q"
      refine ⟨(bdB (n := 31) h3 (by omega) : Bd 31 m).mulok (bdB (n := 16) (by decide) (by decide)) (by decide), ?_⟩
      walk_at "q"
      refine ⟨_, at_int hk.2, ?_⟩
      walk_at "q"
      obtain ⟨e1, e2⟩ := fm0 ks[i] (b := 2147483587) (by decide)
      generalize ks[i].fmod 2147483587 = m1 at *
      refine ⟨(bdB (n := 31) e1 (by omega) : Bd 31 m1).mulok (bdB (n := 6) (i := i + 3) (by omega) (by omega)) (by decide), ?_⟩
      walk_at "q"
      have e := fm0 (m * 48271 + m1 * (i + 3) + i) (b := 2147483629) (by decide)
      exact hW _ ⟨_, _, e.1, by omega, rfl⟩
    · rintro ρ ⟨m, cl, h3, h4, rfl⟩
      exact tail2 c m cl hc h3 h4
  have e : bBag = .cons _ (.cons _ (drp 2 bBag)) := rfl
  rw [e]
  generalize drp 2 bBag = R at *
  walk_at "q"
  refine sel_mk (fun q => ?_) (fun q => ?_)
  · have q : n.toNat < ks.length := by
      have : n < (ks.map PyData.int).length := by simpa using q
      rw [List.length_map] at this; omega
    walk_at "q"
    refine ⟨_, by have := at_int q; rwa [Int.toNat_of_nonneg h1] at this, ?_⟩
    walk_at "q"
    refine tail _ ?_
    split <;> omega
  · walk_at "q"
    refine tail _ ?_
    decide
end Q

/-! ## A def that is handed the error in hand -/
namespace Q
open PySem PySem.Spec PyProof.Rows L2
/-- what such a def promises; the promise may speak of the error's object -/
structure FnE (P : Program) (w : World) (K : PySem.W.Frag) (mg : Str → Option Value) (base : Heap) (k : Nat) (f : Addr) (fd : FuncData) (ps : List Str) (sp : Addr × Obj → Sp) : Prop where
  long : ∀ p vs H Q E, sp p vs H Q E → vs.length = ps.length
  runs : ∀ (A : Around) (out : List PySem.Env) (s : Shared) (H : Hp) (args : Args) (us : List Value) (vs : List V) (Q : VK) (E : XK) (p : Addr × Obj), L2H.RoomH k A → L2H.Hot1 A p → L2H.PinOk out H s p → Env0 P w K mg base A out s H →
    BindsTo s fd args (ps.zip us) → Vals vs us → sp p vs H Q E → codeAny (model P w) A (.call (.ref f) args) (CR (L2N.CX P w) out P w H s Q E) s
theorem fnE_of {P : Program} {w : World} {K : PySem.W.Frag} {mg : Str → Option Value} {base : Heap} {k : Nat} {f : Addr} {nm qual : Str} {prm : Arguments} {bd : List Stmt} {sco : Scope} {dV kV doc pm cdv ct oc : Value} {an od : Option Addr}
    {osl : Array (Option Value)} {N ps : List Str} {sp : Addr × Obj → Sp} (look : K.lookup f = some ⟨oc, od, .func (PySem.W.fnOf nm qual prm bd sco dV kV doc pm an cdv ct), osl⟩) (code : PySem.W.codeIn K cdv qual = true) (S : FnScope N ps sco) (long : ∀ p vs H Q E, sp p vs H Q E → vs.length = ps.length)
    (bod : ∀ (A : Around) (out : List PySem.Env) (s : Shared) (H : Hp) (vs : List V) (Q : VK) (E : XK) (p : Addr × Obj), L2H.Hot1 A p → sp p vs H Q E →
      ∃ t, PSs (L2H.cxH (L2N.CX P w) P w K mg base N qual sco f cdv A out s H E p) bd t ∧ t { nx := fun _ H' => Q .non H', rt := Q } (L2.start N vs) H) :
    FnE P w K mg base (k + 1) f (PySem.W.fnOf nm qual prm bd sco dV kV doc pm an cdv ct) ps sp where
  long := long
  runs := by
    intro A out s H args us vs Q E p room hot pin e0 hb r hsp
    have len := long _ _ _ _ _ hsp
    have inK : K.In s.heap := e0.mod.kin.keeps fun b o e => (e0.bs b o e).1
    have lim : s.heap.NoLimit := e0.mod.nolimit.keeps fun b o e => (e0.bs b o e).1
    have kinds : ∀ y ∈ ps.zip us, sco.names.lookup y.1 = some .local ∨ (sco.names.lookup y.1 = some .cell ∧ ((cellsFrom (s.heap.objs.size + 1) sco.names []).lookup y.1).isSome = true) := by
      rintro ⟨n, v⟩ hy
      cases S.par n (List.of_mem_zip hy).1 with
      | inl q => exact .inl q
      | inr q => exact .inr ⟨q, PySem.W.cellsFrom_some _ _ _ (.inl q)⟩
    refine codeAny_call_function room.depth (inK _ _ look) rfl S.co S.gen rfl (PySem.W.codeRec_of inK code) (hb _ _ _ _ (wpAny_newFunctionEnv_cells S.kind kinds fun env he s1 x => ?_))
    cases he
    refine ⟨lim.keeps x.toInCall.keep, codeAny_func ?_⟩
    obtain ⟨t, ht, hq⟩ := bod A out s H vs Q E p hot hsp
    have I := L2H.inv_startH (CX := L2N.CX P w) (E := E) S pin e0 len r x
    refine wpAny_mono (ht.run [] s1 (L2.start N vs) H _ I hq) (fun fl s' hs => ?_) fun e s' hs => hs
    cases fl with
    | ret u =>
      obtain ⟨v, σ', H', J, rv, q⟩ := hs
      exact ⟨v, H', J.os, J.bare, J.base, J.hok, rv, q⟩
    | next =>
      obtain ⟨σ', H', J, q⟩ := hs
      exact ⟨V.non, H', J.os, J.bare, J.base, J.hok, rfl, q⟩
    | brk => exact hs.choose_spec.choose_spec.2.elim
    | cont => exact hs.choose_spec.choose_spec.2.elim
section
variable {X : Cx} {k : Nat} {f : Addr} {fd : FuncData} {ps : List Str} {sp : Addr × Obj → Sp} {x : Str} {q pos : Pos} {e : Expr} {es : List Expr} {t : TA} {a : Addr} {oe : Obj}
/-- its call, where the error is in hand -/
theorem pe_callE (F : FnE X.prog X.w X.K X.mg X.base k f fd ps sp) (room : L2H.RoomH k X.A) (hot : L2H.Hot1 X.A (a, oe)) (hp : (a, oe) ∈ X.pn) (hg : Gl X x) (hm : X.mg x = some (.ref f)) (hk : PySem.W.keepIn X.K (.ref f) = true) (hb : Binds X.K fd ps [])
    (ha : PA X (e :: es) t) (hdb : (x == ("__debug__" : Str)) = false) (he : starEach (e :: es) X.env = (false, eval e X.env) :: starEach es X.env) (hpl : (backTo pos (starEach es X.env)).any (·.1) = false) :
    PE X (.Call (.Name x q) (e :: es) [] pos) (fun σ H Q => t σ H fun vs H1 => sp (a, oe) vs H1 Q fun _ _ _ => False) where
  run := by
    intro pins s σ H Q I h
    refine wpAny_Call_Name_kw (ld_glob I hg hm ?_ hdb)
    refine PySem.W.callWith_K (h₀ := X.base) I.ok.mod.kin hk (thn (ha.run pos pins s σ H _ I h) ?_) he hpl
    rintro us s1 ⟨vs, H1, I1, r, y⟩
    refine ⟨I1.kIn, ?_⟩
    have len : us.length = ps.length := by rw [← r.length]; exact F.long _ _ _ _ _ y
    have b := hb s1 us I1.kIn (by rw [List.append_nil]; exact len)
    rw [List.append_nil] at b
    obtain ⟨z1, z2, z3, z4, z5⟩ := I1.pin (a, oe) (List.mem_append_left _ hp)
    have pin : L2H.PinOk X.stack H1 s1 (a, oe) := ⟨z1, z2, fun hm => by
      rcases List.mem_cons.mp (I1.stkSub a hm) with w | w
      · exact z3 w
      · exact z4 w, z5⟩
    refine wpAny_call (codeAny_mono (F.runs X.A X.stack s1 H1 ⟨us, []⟩ us vs Q _ (a, oe) room hot pin I1.env0 b r y) fun r s' hq => ?_)
    match r, hq with
    | .error u, hq =>
      obtain ⟨_, _, _, _, _, _, _, _, _, _, _, _, no⟩ := hq
      exact no.elim
    | .ok (.ret u), hq => exact I1.after hq
    | .ok .next, hq => exact False.elim hq
    | .ok .brk, hq => exact False.elim hq
    | .ok .cont, hq => exact False.elim hq
end
/-- isinstance of the error in hand, wherever it is pinned -/
theorem call_isP {X : Cx} {a D : Addr} {oe : Obj} (C : ExcC X.K D) (hz : Zc (.ref D) none oe) (hf : ∃ vs, oe.data = .fields vs) (hp : (a, oe) ∈ X.pn) : CallR X (.builtin "isinstance") (rIsE X.K D a) := by
  rintro pins s σ H xs us Q I r ⟨c, cv, b, rfl, hcv, e, q⟩
  match us, r with
  | [_, _], .cons rx (.cons rt .nil) =>
    cases rx
    cases hcv _ rt
    have hget := (I.pin (a, oe) (List.mem_append_left _ hp)).1
    have J : PySem.W.InstAt s.heap a oe D none := by
      obtain ⟨vs, hv⟩ := hf
      obtain ⟨h1, h2⟩ := hz
      obtain ⟨oc, od, oda, osl⟩ := oe
      simp only at h1 h2 hv
      subst h1 h2 hv
      exact ⟨hget, rfl, rfl, trivial⟩
    exact PySem.W.kia_one (PySem.W.handS_kitx_exc C.hg C.hk C.hs C.hd C.ha C.hn C.ht C.hm) I.kIn J e (fun z => nomatch z) (fun tk => ⟨.bl b, H, I.kept (t' := tk) (fun _ _ z => z), rfl, q⟩)
/-- its reading in short: the error stands in slot i -/
theorem pe_isP {X : Cx} {a D : Addr} {oe : Obj} {i : Nat} {n y : Str} {v : V} {u : Value} {b : Bool} {p1 p2 p3 pos : Pos} (C : ExcC X.K D) (hz : Zc (.ref D) none oe) (hf : ∃ vs, oe.data = .fields vs) (hp : (a, oe) ∈ X.pn) (hg : Gl X "isinstance") (hm : X.mg "isinstance" = none)
    (hn : PE X (.Name n p2) (tVar i)) (hc : PE X (.Name y p3) (tC v)) (hr : ∀ w, RelV v w → w = u) (hb : PySem.W.kitOne X.K (.ref D) u = some b) : PE X (.Call (.Name "isinstance" p1) [.Name n p2, .Name y p3] [] pos) (fun σ H Q => σ[i]? = some (some (.ref a)) ∧ Q (.bl b) H) where
  run := by
    intro pins s σ H Q I h
    refine (pe_callB (call_isP C hz hf hp) hg hm (by decide +kernel) (pa_cons hn (pa_cons hc pa_nil))).run pins s σ H Q I ?_
    exact ⟨_, h.1, v, u, b, rfl, hr, hb, h.2⟩
/-- how often a flat thing stands in a list of flat things -/
def rCntF (K : PySem.W.Frag) : V → List V → Hp → VK → Prop := fun x xs H Q => ∃ (a : Addr) (ys : List V) (y : V), x = .ref a ∧ xs = [y] ∧ SqL K H a ys ∧ flatV y = true ∧ ys.all flatV = true ∧ Q (.int (ys.countP fun z => eqV z y : Nat)) H
theorem count_flat {y : V} {uy : Value} (ry : RelV y uy) : ∀ {ys : List V} {its : List Value}, Vals ys its → ys.all flatV = true → its.countP (eqU y) = ys.countP fun z => eqV z y
  | [], _, .nil, _ => rfl
  | z :: zs, _, .cons r rs, h => by
    rw [List.all_cons, Bool.and_eq_true] at h
    rw [List.countP_cons, List.countP_cons, count_flat ry rs h.2, eqU_of r h.1]
theorem mt_countF {X : Cx} : MtR X "list.count" (rCntF X.K) := by
  rintro pins s σ H x xs v us Q I rx rxs ⟨p, ys, y, rfl, rfl, hs, fy, fys, q⟩
  cases rx
  match us, rxs with
  | [uy], .cons ry .nil =>
    obtain ⟨its, rv, ⟨⟨cls, dd, data, sl⟩, n, ho, hc, hdn, hd⟩, hlen⟩ := I.list hs
    simp only at hc hd
    subst hc hd
    refine call_meets PySem.F.slot_list_count ⟨_, ho, rfl⟩ PySem.F.entry_list_count (PySem.F.args_list_count_2 _ _) (SeqAt.list_countAt p its.toArray n dd sl uy (eqU y)) ⟨ho, fun u' hu' => mem_eqAt ry fy rv fys u' (by simpa using hu'), ?_⟩
    refine ⟨.int (ys.countP fun z => eqV z y : Nat), H, I.tok _, ⟨s.toks, ?_⟩, q⟩
    show Value.int ((its.toArray.toList.countP (eqU y) : Nat) : Int) s.toks = _
    rw [show its.toArray.toList = its from rfl, count_flat ry rv fys]
end Q

/-! ## try: .. except X as n: return f(n) -/
namespace Q
open PySem PySem.Spec PyProof.Rows L2
/-- what is new of a heap is short -/
def Grows (H H' : Hp) : Prop := (∀ b o, H b = some o → H' b = some o) ∧ ∀ b o, H' b = some o → H b = some o ∨ lenOk o
theorem Grows.refl (H : Hp) : Grows H H := ⟨fun _ _ e => e, fun _ _ e => .inl e⟩
theorem Grows.step {H H' : Hp} {p : Addr} {o : HO} (g : Grows H H') (hp : H' p = none) (ho : lenOk o) : Grows H (upd H' p o) := by
  refine ⟨fun b o' e => ?_, fun b o' e => ?_⟩
  · rw [upd_ne (ne_of_none (g.1 b o' e) hp)]
    exact g.1 b o' e
  · by_cases q : b = p
    · subst q
      rw [upd_same] at e
      cases e
      exact .inr ho
    · rw [upd_ne q] at e
      exact g.2 b o' e
/-- the def that tells of an error at hand, by a number -/
def spErr (D : Addr) (j : Int) : Addr × Obj → Sp := fun p vs H Q _ => vs = [.ref p.1] ∧ Zc (.ref D) none p.2 ∧ (∃ fs, p.2.data = .fields fs) ∧ ∀ H', Grows H H' → Q (.int j) H'
theorem En.grows {K : PySem.W.Frag} {σ : Sg} {ρ : Env} {F : Foot} {G H H' : Hp} (e : En K σ ρ F G H) (g : Grows H H') : En K σ ρ F G H' ∧ Stp F G H F G H' :=
  by
  have there : ∀ b, H b ≠ none → H' b ≠ none := fun b h z => by
    cases q : H b with
    | none => exact h q
    | some o => rw [g.1 b o q] at z; cases z
  refine ⟨⟨fun b o q => g.1 b o (e.same b o q), e.len, fun i c h => CellOk.mono (Same.refl _) (fun b _ o q => g.1 b o q) (e.cell i c h), e.nod, e.dis, e.out, fun i a h => there a (e.th i a h), fun a o q => ?_, e.fz⟩, ⟨Same.refl _, fun b o _ q => g.1 b o q, fun i b h => .inl ⟨i, h⟩, fun b n z => absurd n z, there⟩⟩
  rcases g.2 a o q with z | z
  · exact e.ln a o z
  · exact z
section
variable {c : Ctx} {sc : Scope} {W : WX} {P : List Nat} {rk k : Nat} {f : Addr} {fd : FuncData} {ps : List Str} {i : Nat} {x n y : Str} {CA : Addr} {body : List Stmt} {np pn q pos1 pos2 pos' pos : Pos} {T : TrS}
/-- the errors that are told, and by what number -/
def Told (c : Ctx) (k : Nat) (f CA : Addr) (fd : FuncData) (ps : List Str) (z : XD) (j : Int) : Prop := ∃ D : Addr, c.mg z = some (.ref D) ∧ PySem.W.exmOne c.K (.ref D) (.ref CA) = some true ∧ FnE c.P c.w c.K c.mg c.base k f fd ps (spErr D j)
theorem ap_tryk (hN : c.N.Nodup) (hi : c.N[i]? = some n) (hln : sc.names.lookup n = some .local) (hd1 : (n == ("__debug__" : Str)) = false) (hd2 : (n == ("__classdict__" : Str)) = false) (hgx : GlS sc x) (hdx : (x == ("__debug__" : Str)) = false) (hmx : c.mg x = some (.ref CA))
    (hgy : GlS sc y) (hdy : (y == ("__debug__" : Str)) = false) (hmy : c.mg y = some (.ref f)) (hky : PySem.W.keepIn c.K (.ref f) = true) (hby : Binds c.K fd ps []) (room : Room k c.A)
    (hb : ∀ W', APs c sc W' P rk body T) :
    AP c sc W P rk (.Try body [.ExceptHandler (some (.Name x np)) (some n) [.Return (some (.Call (.Name y q) [.Name n pn] [] pos1)) pos2] pos'] [] [] pos)
      (fun κ ρ => T { κ with xc := fun ρ1 z => ∃ j, Told c k f CA fd ps z j ∧ i < ρ1.length ∧ κ.rt ρ1 (.int j) } ρ) := by
  let ts : Addr → Value → Option Addr → TS := fun a cls d D σ H => ∃ (E : Addr) (j : Int), cls = .ref E ∧ d = none ∧ FnE c.P c.w c.K c.mg c.base k f fd ps (spErr E j) ∧ σ[i]? = some (some (.ref a)) ∧ ∀ H', Grows H H' → D.rt (.int j) H'
  refine ⟨fun D σ H => (hb (wAs c.K (.ref CA) i ts W D)).choose D σ H, fun X hX => ?_, fun κ ρ σ F G H D e hT kk => ?_⟩
  · have I := hX.is.is
    have w : ∀ D, wAs X.K (.ref CA) i ts W D = wAs c.K (.ref CA) i ts W D := fun D => by rw [I.K]
    have := L2N.ps_try_as (X := X) (x := x) (n := n) (c := .ref CA) (i := i) (body := body) (suite := []) (b₀ := .Return (some (.Call (.Name y q) [.Name n pn] [] pos1)) pos2) (np := np) (pos := pos) (pos' := pos')
      (tb := fun W' => (hb W').choose) (ts := ts) (Wout := W) hX.stk hX.frm (by rw [I.N]; exact hN) (I.ix hi) (by show X.env.scope.names.lookup n = _; rw [I.sc]; exact hln) ⟨I.gl hgx, hdx, .inl (by rw [I.mg]; exact hmx)⟩ I.takes
      (fun W' pl xe tk hp => (hb W').choose_spec.1 _ ⟨⟨⟨I.P, I.w, I.K, I.mg, I.base, I.A, I.N, I.sc, I.calm, tk⟩, hX.is.st⟩, hp, hX.kind, hX.stk, hX.frm⟩)
      (fun a oe cls d pl hz hf => ⟨fun pins s σ H D J h => by
        obtain ⟨E, j, rfl, rfl, FE, h1, h2⟩ := h
        have hot : L2H.Hot1 (X.suite a ((a, oe) :: pl)).A (a, oe) := ⟨rfl, by
          obtain ⟨vs, hv⟩ := hf
          exact ⟨vs, hv, hz.2.2 vs hv⟩⟩
        have rm : L2H.RoomH k (X.suite a ((a, oe) :: pl)).A := by
          have r0 := L2H.roomH_of room
          rw [← I.A] at r0
          exact ⟨r0.dp, r0.un⟩
        have vis : Vis (X.suite a ((a, oe) :: pl)).env.scope n := by
          refine .inl ?_
          show X.env.scope.names.lookup n = _
          rw [I.sc]; exact hln
        have pv : PE (X.suite a ((a, oe) :: pl)) (.Name n pn) (tVar i) := pe_var (X := X.suite a ((a, oe) :: pl)) (I.ix hi) vis hd1 hd2
        have FE' : FnE (X.suite a ((a, oe) :: pl)).prog (X.suite a ((a, oe) :: pl)).w (X.suite a ((a, oe) :: pl)).K (X.suite a ((a, oe) :: pl)).mg (X.suite a ((a, oe) :: pl)).base k f fd ps (spErr E j) := by
          show FnE X.prog X.w X.K X.mg X.base k f fd ps (spErr E j)
          rw [I.P, I.w, I.K, I.mg, I.base]; exact FE
        refine (pss_one (ps_ret (pe_callE (q := q) (pos := pos1) FE' rm hot List.mem_cons_self (I.gl hgy) (by show X.mg y = _; rw [I.mg]; exact hmy) (by show PySem.W.keepIn X.K _ = true; rw [I.K]; exact hky) (by show Binds X.K fd ps []; rw [I.K]; exact hby) (pa_cons pv pa_nil) hdy (by rfl) (by rfl)))).run pins s σ H D J ?_
        exact ⟨_, h1, rfl, hz.zc, hf, h2⟩⟩)
    refine ⟨fun pins s σ H D J h => this.run pins s σ H D J ?_⟩
    show (hb (wAs X.K (.ref CA) i ts W D)).choose D σ H
    rw [w D]; exact h
  · refine (hb (wAs c.K (.ref CA) i ts W D)).choose_spec.2 _ ρ σ F G H D e hT ⟨kk.nx, kk.ct, kk.bk, kk.rt, ?_⟩
    rintro σ' ρ' z F' G' H' cls dd ⟨j, ⟨E, m1, m2, FE⟩, hlen, hr⟩ e' s' p' ⟨x1, x2⟩
    rw [m1] at x1
    cases x1
    subst x2
    refine ⟨true, m2, fun _ a ha => ⟨E, j, rfl, rfl, FE, ?_, fun H2 g => ?_⟩, fun z => by cases z⟩
    · rw [List.getElem?_set_self (by rw [← e'.len]; exact hlen)]
    · obtain ⟨e2, s2⟩ := e'.grows g
      exact kk.rt σ' ρ' (.int j) (.int j) [] F' G' H2 hr e2 ⟨by cases rk with | zero => exact .frz (.int j) | succ m => exact .flt rfl (.int j), .nil, (fun _ h => nomatch h), (fun _ h => nomatch h), (fun _ h => nomatch h)⟩ (s'.trans s2) p'
end
end Q

namespace K02
open PySem PySem.Spec PyProof.Rows L2 Q
def topS (i : Nat) : Stmt := PySem.Challenge.pw_turnalgebra_k02_fractions_refused.main.body.getD i (.Pass ⟨0, 0, 0, 0⟩)
abbrev s_is_whole : Stmt := topS 19
def N_is_whole : List Str := ["thing"]
def b_is_whole : Ss :=
    (.cons (.ret (.and (.isi (.var 0) .int) (.not (.isi (.var 0) .bool))))
    .nil)
abbrev s_common : Stmt := topS 20
def N_common : List Str := ["one", "other"]
def b_common : Ss :=
    (.cons (.whl (.cmp .NotEq (.var 1) (.int 0)) (.cons (.par 0 1 (.var 1) (.op .Mod (.var 0) (.var 1)))
    .nil))
    (.cons (.ret (.blt .abs (.cons (.var 0) .nil)))
    .nil))
abbrev s_share : Stmt := topS 21
def N_share : List Str := ["top", "bottom", "part"]
def b_share : Ss :=
    (.cons (.ite (.cmp .Eq (.var 1) (.int 0)) (.cons (.raise "NoShare" "a bottom of 0")
    .nil) .nil)
    (.cons (.set 2 (.call 1 0 (.cons (.var 0) (.cons (.var 1) .nil))))
    (.cons (.ite (.cmp .Lt (.var 1) (.int 0)) (.cons (.set 2 (.neg (.var 2)))
    .nil) .nil)
    (.cons (.ret (.tup (.cons (.op .FloorDiv (.var 0) (.var 2)) (.cons (.op .FloorDiv (.var 1) (.var 2)) .nil))))
    .nil))))
abbrev s_over : Stmt := topS 22
def N_over : List Str := ["u", "v"]
def b_over : Ss :=
    (.cons (.ret (.call 2 0 (.cons (.op .Mult (.ix (.var 0) (.int 0)) (.ix (.var 1) (.int 1))) (.cons (.op .Mult (.ix (.var 0) (.int 1)) (.ix (.var 1) (.int 0))) .nil))))
    .nil)
abbrev s_is_share : Stmt := topS 23
def N_is_share : List Str := ["thing"]
def b_is_share : Ss :=
    (.cons (.ite (.or (.not (.isi (.var 0) .tuple)) (.or (.cmp .NotEq (.blt .len (.cons (.var 0) .nil)) (.int 2)) (.or (.not (.call 0 0 (.cons (.ix (.var 0) (.int 0)) .nil))) (.not (.call 0 0 (.cons (.ix (.var 0) (.int 1)) .nil)))))) (.cons (.ret (.bl false))
    .nil) .nil)
    (.cons (.ret (.and (.cmp .Gt (.ix (.var 0) (.int 1)) (.int 0)) (.cmp .Eq (.call 1 0 (.cons (.ix (.var 0) (.int 0)) (.cons (.ix (.var 0) (.int 1)) .nil))) (.int 1))))
    .nil))
abbrev s_l_bag : Stmt := topS 25
def N_l_bag : List Str := ["_law_script", "_law_at", "_law_cell", "_law_mix", "_law_k"]
def b_l_bag : Ss :=
    (.cons (.set 2 (.int 0))
    (.cons (.ite (.cmp .Lt (.var 1) (.blt .len (.cons (.var 0) .nil))) (.cons (.set 2 (.blt .abs (.cons (.ix (.var 0) (.var 1)) .nil)))
    .nil) .nil)
    (.cons (.set 3 (.op .Mod (.op .Pow (.op .Add (.op .Add (.op .Mod (.var 2) (.int 2147483629)) (.op .Mult (.int 104729) (.var 1))) (.int 17)) (.int 5)) (.int 2147483647)))
    (.cons (.for (.nm 4) (.rng (.blt .mn (.cons (.blt .len (.cons (.var 0) .nil)) (.cons (.int 60) .nil)))) (.cons (.set 3 (.op .Mod (.op .Add (.op .Add (.op .Mult (.var 3) (.int 48271)) (.op .Mult (.op .Mod (.ix (.var 0) (.var 4)) (.int 2147483587)) (.op .Add (.var 4) (.int 3)))) (.var 4)) (.int 2147483629)))
    .nil))
    (.cons (.ite (.cmp .Lt (.var 2) (.op .Pow (.int 10) (.int 18))) (.cons (.set 2 (.int 0))
    .nil) .nil)
    (.cons (.ret (.lst 0 (.cons (.var 2) (.cons (.var 3) .nil))))
    .nil))))))
abbrev s_l_take : Stmt := topS 26
def N_l_take : List Str := ["_law_bag_here", "_law_many", "_law_digit"]
def b_l_take : Ss :=
    (.cons (.ite (.cmp .Gt (.pk 0 (.int 0)) (.int 0)) (.cons (.set 2 (.op .Mod (.pk 0 (.int 0)) (.var 1)))
    (.cons (.sti 0 (.int 0) (.op .FloorDiv (.pk 0 (.int 0)) (.var 1)))
    (.cons (.ret (.var 2))
    .nil))) .nil)
    (.cons (.sti 0 (.int 1) (.op .Mod (.op .Add (.op .Mult (.pk 0 (.int 1)) (.int 48271)) (.int 7919)) (.int 2147483647)))
    (.cons (.ret (.op .Mod (.op .Mod (.op .Mult (.op .FloorDiv (.op .Mod (.op .Pow (.pk 0 (.int 1)) (.int 3)) (.int 2147483587)) (.int 7)) (.int 69621)) (.int 1073741789)) (.var 1)))
    .nil)))
abbrev s_l_common : Stmt := topS 27
def N_l_common : List Str := ["_law_one", "_law_other"]
def b_l_common : Ss :=
    (.cons (.whl (.cmp .NotEq (.var 1) (.int 0)) (.cons (.par 0 1 (.var 1) (.op .Mod (.var 0) (.var 1)))
    .nil))
    (.cons (.ret (.blt .abs (.cons (.var 0) .nil)))
    .nil))
abbrev s_l_lowest : Stmt := topS 28
def N_l_lowest : List Str := ["_law_top", "_law_bottom", "_law_part"]
def b_l_lowest : Ss :=
    (.cons (.set 2 (.call 7 0 (.cons (.var 0) (.cons (.var 1) .nil))))
    (.cons (.ite (.cmp .Lt (.var 1) (.int 0)) (.cons (.set 2 (.op .Sub (.int 0) (.var 2)))
    .nil) .nil)
    (.cons (.ret (.tup (.cons (.op .FloorDiv (.var 0) (.var 2)) (.cons (.op .FloorDiv (.var 1) (.var 2)) .nil))))
    .nil)))
abbrev s_l_kind : Stmt := topS 29
abbrev s_l_refused : Stmt := topS 30
abbrev s_l_things : Stmt := topS 31
def N_l_things : List Str := ["_law_bag_here", "_law_number", "_law_few", "_law_many", "_law_some"]
def b_l_things : Ss :=
    (.cons (.set 2 (.op .Sub (.callr 6 0 0 (.cons (.int 30) .nil)) (.int 15)))
    (.cons (.set 3 (.op .Add (.int 1) (.callr 6 0 0 (.cons (.int 40) .nil))))
    (.cons (.set 4 (.lst 0 (.cons (.tup (.cons (.var 1) (.cons (.int 1) .nil))) (.cons (.tup (.cons (.var 2) (.cons (.var 3) .nil))) (.cons (.tup (.cons (.op .Mult (.var 2) (.int 2)) (.cons (.op .Mult (.var 3) (.int 2)) .nil))) (.cons (.tup (.cons (.var 2) (.cons (.int 0) .nil))) (.cons (.tup (.cons (.var 2) (.cons (.neg (.var 3)) .nil))) (.cons (.tup (.cons (.int 0) (.cons (.var 3) .nil))) (.cons (.tup (.cons (.int 0) (.cons (.int 1) .nil))) (.cons (.tup (.cons (.int 1) (.cons (.int 1) .nil))) .nil))))))))))
    (.cons (.set 4 (.cat (.var 4) (.lst 0 (.cons (.tup (.cons (.bl true) (.cons (.int 1) .nil))) (.cons (.tup (.cons (.var 2) (.cons (.bl true) .nil))) (.cons (.tup (.cons (.int 1) (.cons (.bl false) .nil))) (.cons (.lst 0 (.cons (.var 2) (.cons (.var 3) .nil))) (.cons (.tup (.cons (.var 2) .nil)) (.cons (.tup (.cons (.var 2) (.cons (.var 3) (.cons (.int 1) .nil)))) (.cons (.tup .nil) (.cons .non (.cons (.var 1) .nil))))))))))))
    (.cons (.set 4 (.cat (.var 4) (.lst 0 (.cons (.str "1") (.cons (.tup (.cons (.blt .str (.cons (.var 2) .nil)) (.cons (.var 3) .nil))) .nil)))))
    (.cons (.ret (.cat (.var 4) (.lst 0 (.cons (.tup (.cons (.tup (.cons (.var 2) (.cons (.var 3) .nil))) (.cons (.int 1) .nil))) (.cons (.tup (.cons (.var 2) (.cons (.tup (.cons (.var 3) (.cons (.int 1) .nil))) .nil))) (.cons (.tup (.cons .non (.cons (.int 1) .nil))) (.cons (.tup (.cons (.int 1) (.cons .non .nil))) (.cons (.lst 0 .nil) (.cons (.lst 0 (.cons (.tup (.cons (.var 2) (.cons (.var 3) .nil))) .nil)) (.cons (.bl true) (.cons (.tup (.cons (.var 3) (.cons (.var 2) .nil))) .nil)))))))))))
    .nil))))))
abbrev s_l_is_fraction : Stmt := topS 32
def N_l_is_fraction : List Str := ["_law_thing", "_law_number"]
def b_l_is_fraction : Ss :=
    (.cons (.ite (.or (.not (.isi (.var 0) .tuple)) (.cmp .NotEq (.blt .len (.cons (.var 0) .nil)) (.int 2))) (.cons (.ret (.bl false))
    .nil) .nil)
    (.cons (.ite (.blt .any (.cons (.comp 0 [1] (.nm 1) (.tup (.var 0)) .none (.or (.isi (.var 1) .bool) (.not (.isi (.var 1) .int)))) .nil)) (.cons (.ret (.bl false))
    .nil) .nil)
    (.cons (.ret (.and (.cmp .Gt (.ix (.var 0) (.int 1)) (.int 0)) (.cmp .Eq (.call 7 0 (.cons (.ix (.var 0) (.int 0)) (.cons (.ix (.var 0) (.int 1)) .nil))) (.int 1))))
    .nil)))
abbrev s_law : Stmt := topS 33
def N_law : List Str := ["_law_script", "_law_k", "_law_bag_here", "_law_number", "_law_turn", "_law_thing", "_law_told"]
def b_law : Ss :=
    (.cons (.for (.nm 1) (.rng (.blt .mx (.cons (.int 3) (.cons (.blt .mn (.cons (.blt .len (.cons (.var 0) .nil)) (.cons (.int 6) .nil))) .nil)))) (.cons (.seto 2 (.call 5 1 (.cons (.var 0) (.cons (.var 1) .nil))))
    (.cons (.set 3 (.int 0))
    (.cons (.for (.nm 4) (.rng (.op .Add (.int 1) (.callr 6 0 2 (.cons (.int 40) .nil)))) (.cons (.set 3 (.op .Add (.op .Mult (.var 3) (.int 10)) (.callr 6 0 2 (.cons (.int 10) .nil))))
    .nil))
    (.cons (.set 3 (.op .Mult (.var 3) (.ix (.lst 0 (.cons (.int 1) (.cons (.neg (.int 1)) .nil))) (.callr 6 0 2 (.cons (.int 2) .nil)))))
    (.cons (.ite (.or (.cmp .NotEq (.call 9 0 (.cons (.var 3) (.cons (.int 0) (.cons (.int 0) .nil)))) (.int 0)) (.cmp .NotEq (.call 9 0 (.cons (.var 3) (.cons (.int 0) (.cons (.int 1) .nil)))) (.int 0))) (.cons (.ret (.bl false))
    .nil) .nil)
    (.cons (.for (.nm 5) (.lst (.callr 10 0 2 (.cons (.var 3) .nil))) (.cons (.set 6 (.call 4 0 (.cons (.var 5) .nil)))
    (.cons (.ite (.or (.not (.isi (.var 6) .bool)) (.cmp .NotEq (.var 6) (.call 11 0 (.cons (.var 5) .nil)))) (.cons (.ret (.bl false))
    .nil) .nil)
    .nil)))
    .nil)))))))
    (.cons (.ret (.bl true))
    .nil))
-- builtins: abs any bool int isinstance len max min range str tuple
-- errors: NoShare
def forB : Ss → Ss
  | .cons (.for _ _ b) _ => b
  | _ => .nil
local macro_rules | `(tactic| walk_at "q") => `(tactic| ((conv => whnf); repeat (first | (refine ⟨_, rfl, ?_⟩; conv => whnf) | (refine ⟨True.intro, ?_⟩; conv => whnf) | (refine ⟨_, _, _, rfl, rfl, rfl, ?_⟩; conv => whnf) | (refine ⟨rfl, rfl, ?_⟩; conv => whnf) | (refine sel_tt rfl ?_; conv => whnf) | (refine sel_ff rfl ?_; conv => whnf) | (refine ⟨rfl, ?_⟩; conv => whnf) | (refine ⟨by decide, ?_⟩; conv => whnf))))
/-- no dict -/
def nod : D → Bool
  | .dict _ => false
  | _ => true
def okD : D → Bool
  | .dict _ => false
  | .tuple ds => ds.all nod
  | _ => true
def whD : D → Bool
  | .int _ => true
  | _ => false
def shD : D → Bool
  | .tuple [.int p, .int q] => decide (0 < q) && (Int.gcd p q == 1)
  | _ => false
def spSh : FSp := fun ds Φ _ => ∃ d, ds = [d] ∧ okD d = true ∧ Φ (.bool (shD d)) .none
def g0 : Ent := ⟨⟨"is_whole", none, 1, 0⟩, fun ds Φ _ => ∃ d, ds = [d] ∧ nod d = true ∧ Φ (.bool (whD d)) .none⟩
def g1 : Ent := ⟨⟨"common", none, 2, 0⟩, spGcd⟩
def g2 : Ent := ⟨⟨"share", none, 2, 0⟩, fun ds _ Ξ => ∃ a : Int, ds = [.int a, .int 0] ∧ Ξ .none "NoShare"⟩
def g3 : Ent := ⟨⟨"over", none, 2, 0⟩, fun ds _ Ξ => ∃ a : Int, ds = [.tuple [.int a, .int 1], .tuple [.int 0, .int 1]] ∧ Bd 4000 a ∧ Ξ .none "NoShare"⟩
def g4 : Ent := ⟨⟨"is_share", none, 1, 0⟩, spSh⟩
def g5 : Ent := ⟨⟨"_law_bag", none, 2, 1⟩, spBag⟩
def g6 : Ent := ⟨⟨"_law_take", some 1, 2, 0⟩, spTake⟩
def g7 : Ent := ⟨⟨"_law_common", none, 2, 0⟩, spGcd⟩
def g8 : Ent := g7
def g9 : Ent := ⟨⟨"_law_refused", none, 3, 0⟩, fun ds Φ _ => ∃ a w : Int, ds = [.int a, .int 0, .int w] ∧ ((w = 0 ∨ w = 1) ∧ Bd 4000 a) ∧ Φ (.int 0) .none⟩
def g10 : Ent := ⟨⟨"_law_things", some 1, 2, 0⟩, fun ds Φ _ => ∃ (b : D) (n : Int), ds = [b, .int n] ∧ Bag b ∧ ∀ (es : List D) b', (∀ d ∈ es, okD d = true) → Bag b' → Φ (.list es) b'⟩
def g11 : Ent := ⟨⟨"_law_is_fraction", none, 1, 0⟩, spSh⟩
def g12 : Ent := ⟨⟨"law", none, 1, 0⟩, fun ds Φ _ => ∃ ks : List Int, ds = [.list (ks.map PyData.int)] ∧ Φ (.bool true) .none⟩

theorem p0 : ∀ ds Φ Ξ, ds.length = 1 → g0.sp ds Φ Ξ → svs [] b_is_whole (ktOf none Φ Ξ) (Q.envOf none 1 ds) := by
  rintro ds Φ Ξ - ⟨d, rfl, hd, h⟩
  cases d with
  | none => walk_at "q"; exact h
  | bool b => walk_at "q"; exact h
  | int n => walk_at "q"; exact h
  | str x => walk_at "q"; exact h
  | list ds => walk_at "q"; exact h
  | tuple ds => walk_at "q"; exact h
  | dict ds => cases hd
theorem p1 : ∀ ds Φ Ξ, ds.length = 2 → g1.sp ds Φ Ξ → svs [g0] b_common (ktOf none Φ Ξ) (Q.envOf none 2 ds) := ok_gcd _ rfl
theorem p2 : ∀ ds Φ Ξ, ds.length = 2 → g2.sp ds Φ Ξ → svs [g0, g1] b_share (ktOf none Φ Ξ) (Q.envOf none 3 ds) := by
  rintro ds Φ Ξ - ⟨a, rfl, h⟩
  walk_at "q"
  exact h
theorem p3 : ∀ ds Φ Ξ, ds.length = 2 → g3.sp ds Φ Ξ → svs [g0, g1, g2] b_over (ktOf none Φ Ξ) (Q.envOf none 2 ds) := by
  rintro ds Φ Ξ - ⟨a, rfl, ha, h⟩
  have b1 : Bd 1 (1 : Int) := by unfold Bd; decide
  have b0 : Bd 1 (0 : Int) := by unfold Bd; decide
  walk_at "q"
  refine ⟨ha.mulok b1 (by decide), ?_⟩
  walk_at "q"
  refine ⟨b1.mulok b0 (by decide), ?_⟩
  walk_at "q"
  exact h
theorem p4 : ∀ ds Φ Ξ, ds.length = 1 → g4.sp ds Φ Ξ → svs [g0, g1, g2, g3] b_is_share (ktOf none Φ Ξ) (Q.envOf none 1 ds) := by
  rintro ds Φ Ξ - ⟨d, rfl, hd, h⟩
  cases d with
  | none => walk_at "q"; exact h
  | bool b => walk_at "q"; exact h
  | int n => walk_at "q"; exact h
  | str x => walk_at "q"; exact h
  | list ds => walk_at "q"; exact h
  | dict ds => cases hd
  | tuple ds =>
    match ds, hd, h with
    | [], hd, h => walk_at "q"; exact h
    | [x], hd, h => cases x <;> (walk_at "q"; exact h)
    | x :: y :: z :: r, hd, h =>
      have e : shD (.tuple (x :: y :: z :: r)) = false := by cases x <;> (try rfl); cases y <;> rfl
      rw [e] at h
      walk_at "q"
      exact h
    | [x, y], hd, h =>
      have hn : nod x = true ∧ nod y = true := by simpa [okD] using hd
      obtain ⟨hx, hy⟩ := hn
      cases x with
      | none => walk_at "q"; exact h
      | bool b => walk_at "q"; exact h
      | str b => walk_at "q"; exact h
      | list b => walk_at "q"; exact h
      | tuple b => walk_at "q"; exact h
      | dict b => cases hx
      | int p =>
        cases y with
        | none => walk_at "q"; exact h
        | bool b => walk_at "q"; exact h
        | str b => walk_at "q"; exact h
        | list b => walk_at "q"; exact h
        | tuple b => walk_at "q"; exact h
        | dict b => cases hy
        | int q =>
          walk_at "q"
          refine sel_mk (fun z => ?_) (fun z => ?_)
          · have e : shD (.tuple [.int p, .int q]) = decide ((Int.gcd p q : Int) = 1) := by
              show (decide (0 < q) && (Int.gcd p q == 1)) = _
              have z : decide (0 < q) = true := z
              rw [z, Bool.true_and]
              by_cases w : Int.gcd p q = 1
              · rw [w]; rfl
              · rw [decide_eq_false (fun w2 => w (by omega))]; simpa using w
            walk_at "q"
            refine ⟨_, _, rfl, ?_⟩
            walk_at "q"
            rw [eqv_int, ← e]
            exact h
          · have e : shD (.tuple [.int p, .int q]) = false := by
              show (decide (0 < q) && (Int.gcd p q == 1)) = _
              have z : decide (0 < q) = false := z
              rw [z]; rfl
            walk_at "q"
            rw [e] at h
            exact h
theorem p5 : ∀ ds Φ Ξ, ds.length = 2 → g5.sp ds Φ Ξ → svs [g0, g1, g2, g3, g4] b_l_bag (ktOf none Φ Ξ) (Q.envOf none 5 ds) := ok_bag _ rfl
theorem p6 : ∀ ds Φ Ξ, ds.length = 2 → g6.sp ds Φ Ξ → svs [g0, g1, g2, g3, g4, g5] b_l_take (ktOf (some 1) Φ Ξ) (Q.envOf (some 1) 3 ds) := ok_take _ rfl
theorem p7 : ∀ ds Φ Ξ, ds.length = 2 → g7.sp ds Φ Ξ → svs [g0, g1, g2, g3, g4, g5, g6] b_l_common (ktOf none Φ Ξ) (Q.envOf none 2 ds) := ok_gcd _ rfl
theorem log_of {i : Int} {b : Nat} (h : Bd b i) (hb : b ≤ 1900) : i.natAbs.log2 < 1920 := by
  by_cases h0 : i.natAbs = 0
  · rw [h0]; decide
  · have := (Nat.log2_lt h0).mpr h
    omega
theorem p10 : ∀ ds Φ Ξ, ds.length = 2 → g10.sp ds Φ Ξ → svs [g0, g1, g2, g3, g4, g5, g6, g7, g8, g9] b_l_things (ktOf (some 1) Φ Ξ) (Q.envOf (some 1) 5 ds) := by
  rintro ds Φ Ξ - ⟨b, n, rfl, ⟨c, m, rfl, hB⟩, h⟩
  walk_at "q"
  refine ⟨_, _, rfl, ⟨⟨_, _, rfl, hB⟩, by decide, by decide⟩, ?_⟩
  rintro x _ h1 h2 ⟨c, m, rfl, hB⟩
  walk_at "q"
  refine ⟨_, _, rfl, ⟨⟨_, _, rfl, hB⟩, by decide, by decide⟩, ?_⟩
  rintro y _ h3 h4 ⟨c, m, rfl, hB⟩
  have b2 : Bd 2 (2 : Int) := by unfold Bd; decide
  walk_at "q"
  refine ⟨(Bd.of (a := 5) 20 (by omega) (by omega) (by decide)).mulok b2 (by decide), ?_⟩
  walk_at "q"
  refine ⟨(Bd.of (a := 7) 60 (by omega) (by omega) (by decide)).mulok b2 (by decide), ?_⟩
  walk_at "q"
  refine ⟨Nat.le_of_ble_eq_true rfl, ?_⟩
  walk_at "q"
  refine ⟨log_of (Bd.of (a := 5) 20 (by omega) (by omega) (by decide)) (by decide), ?_⟩
  walk_at "q"
  refine ⟨Nat.le_of_ble_eq_true rfl, ?_⟩
  walk_at "q"
  refine ⟨Nat.le_of_ble_eq_true rfl, ?_⟩
  walk_at "q"
  refine h _ _ (fun d hd => ?_) ⟨_, _, rfl, hB⟩
  refine List.all_eq_true.mp (?_ : List.all _ okD = true) d hd
  rfl
theorem shD_no {d : D} (h : ∀ p q, d ≠ .tuple [.int p, .int q]) : shD d = false := by
  unfold shD
  split
  · exact absurd rfl (h _ _)
  · rfl
theorem shD_of {p q : Int} (z : decide (0 < q) = true) : shD (.tuple [.int p, .int q]) = decide ((Int.gcd p q : Int) = 1) := by
  show (decide (0 < q) && (Int.gcd p q == 1)) = _
  rw [z, Bool.true_and]
  by_cases w : Int.gcd p q = 1
  · rw [w]; rfl
  · rw [decide_eq_false (fun w2 => w (by omega))]; simpa using w
theorem shD_of2 {p q : Int} (z : decide (0 < q) = false) : shD (.tuple [.int p, .int q]) = false := by
  show (decide (0 < q) && (Int.gcd p q == 1)) = _
  rw [z]; rfl
theorem p11 : ∀ ds Φ Ξ, ds.length = 1 → g11.sp ds Φ Ξ → svs [g0, g1, g2, g3, g4, g5, g6, g7, g8, g9, g10] b_l_is_fraction (ktOf none Φ Ξ) (Q.envOf none 2 ds) := by
  rintro ds Φ Ξ - ⟨d, rfl, hd, h⟩
  cases d with
  | none => walk_at "q"; exact h
  | bool b => walk_at "q"; exact h
  | int n => walk_at "q"; exact h
  | str x => walk_at "q"; exact h
  | list ds => walk_at "q"; exact h
  | dict ds => cases hd
  | tuple ds =>
    match ds, hd, h with
    | [], hd, h => walk_at "q"; exact h
    | [x], hd, h => cases x <;> (walk_at "q"; exact h)
    | x :: y :: z :: r, hd, h =>
      have e : shD (.tuple (x :: y :: z :: r)) = false := by cases x <;> (try rfl); cases y <;> rfl
      rw [e] at h
      walk_at "q"
      exact h
    | [x, y], hd, h =>
      have hn : nod x = true ∧ nod y = true := by simpa [okD] using hd
      obtain ⟨hx, hy⟩ := hn
      cases x <;> cases y <;> first
        | (cases hx; done)
        | (cases hy; done)
        | (walk_at "q"
           first
             | (refine ⟨(by decide : (2 : Nat) ≤ 16777216), ?_⟩; walk_at "q")
             | skip
           refine ⟨fun i hi k d z => (by rw [List.mem_singleton.mp hi] at z; cases z), ?_⟩
           walk_at "q"
           refine ⟨[_, _], rfl, ?_⟩
           walk_at "q"
           exact h)
        | skip
      rename_i p q
      walk_at "q"
      refine ⟨(by decide : (2 : Nat) ≤ 16777216), ?_⟩
      walk_at "q"
      refine ⟨fun i hi k d z => (by rw [List.mem_singleton.mp hi] at z; cases z), ?_⟩
      walk_at "q"
      refine ⟨[_, _], rfl, ?_⟩
      walk_at "q"
      refine sel_mk (fun z => ?_) (fun z => ?_)
      · have e := shD_of (p := p) (q := q) z
        walk_at "q"
        refine ⟨_, _, rfl, ?_⟩
        walk_at "q"
        rw [eqv_int, ← e]
        exact h
      · have e := shD_of2 (p := p) (q := q) z
        walk_at "q"
        rw [e] at h
        exact h
theorem p12 : ∀ ds Φ Ξ, ds.length = 1 → g12.sp ds Φ Ξ → svs [g0, g1, g2, g3, g4, g5, g6, g7, g8, g9, g10, g11] b_law (ktOf none Φ Ξ) (Q.envOf none 7 ds) := by
  rintro ds Φ Ξ - ⟨ks, rfl, h⟩
  walk_at "q"
  refine ⟨by split <;> (try split) <;> omega, ?_⟩
  refine for_of (fun i ρ => ∃ c1 c2 c3 c4 c5 c6 : Cell, ρ = [.va (.list (ks.map PyData.int)), c1, c2, c3, c4, c5, c6]) ⟨_, _, _, _, _, _, rfl⟩ ?_ ?_
  · rintro i d ρ hd ⟨c1, c2, c3, c4, c5, c6, rfl⟩ W hW
    obtain ⟨rfl, hi⟩ := rng_get hd
    have hi : i < 7 := by
      simp only [List.length_map] at hi
      split at hi <;> (try split at hi) <;> omega
    walk_at "q"
    refine ⟨_, _, rfl, ⟨by omega, by omega⟩, ?_⟩
    rintro _ ⟨c, m, rfl, hB⟩
    walk_at "q"
    refine ⟨_, _, rfl, ⟨⟨_, _, rfl, hB⟩, by decide, by decide⟩, ?_⟩
    rintro n b h3 h4 ⟨c, m, rfl, hB⟩
    walk_at "q"
    refine ⟨by omega, ?_⟩
    refine for_of (fun j ρ => ∃ (x : Int) (b : D) (cl : Cell), 0 ≤ x ∧ x.toNat < 10 ^ j ∧ Bag b ∧ ρ = [.va (.list (ks.map PyData.int)), .va (.int i), .ow 1 b, .va (.int x), cl, c5, c6]) ⟨0, _, _, by decide, by decide, ⟨_, _, rfl, hB⟩, rfl⟩ ?_ ?_
    · rintro j d ρ hd ⟨x, b, cl, h5, h6, ⟨c, m, rfl, hB⟩, rfl⟩ W hW
      obtain ⟨rfl, hi⟩ := rng_get hd
      have h7 : (10 ^ j : Nat) ≤ 10 ^ 40 := Nat.pow_le_pow_right (by decide) (by omega)
      walk_at "q"
      refine ⟨(bdB (n := 133) h5 (by omega) : Bd 133 x).mulok (bdB (n := 4) (by decide) (by decide)) (by decide), ?_⟩
      walk_at "q"
      refine ⟨_, _, rfl, ⟨⟨_, _, rfl, hB⟩, by decide, by decide⟩, ?_⟩
      intro y b h8 h9 hB'
      refine hW _ ⟨_, _, _, ?_, ?_, hB', rfl⟩
      · omega
      · rw [Nat.pow_succ]; omega
    · rintro ρ ⟨x, b, cl, h5, h6, ⟨c, m, rfl, hB⟩, rfl⟩
      rw [List.length_map, List.length_range] at h6
      have h7 : (10 ^ (1 + n).toNat : Nat) ≤ 10 ^ 40 := Nat.pow_le_pow_right (by decide) (by omega)
      have hx : Bd 133 x := bdB h5 (by omega)
      walk_at "q"
      refine ⟨_, _, rfl, ⟨⟨_, _, rfl, hB⟩, by decide, by decide⟩, ?_⟩
      rintro s b h1 h2 ⟨c, m, rfl, hB⟩
      have hs : atI [PyData.int 1, PyData.int (-1)] s = some (PyData.int (1 - 2 * s)) := by
        have e : s = 0 ∨ s = 1 := by omega
        rcases e with rfl | rfl <;> rfl
      refine ⟨_, hs, ?_⟩
      walk_at "q"
      have hb : Bd 2 (1 - 2 * s) := Bd.of 4 (by omega) (by omega) (by decide)
      refine ⟨hx.mulok hb (by decide), ?_⟩
      have hz : Bd 4000 (x * (1 - 2 * s)) := (hx.mul hb).up (by decide)
      generalize x * (1 - 2 * s) = z at *
      walk_at "q"
      refine ⟨_, _, rfl, ⟨.inl rfl, hz⟩, ?_⟩
      walk_at "q"
      refine ⟨_, _, rfl, ⟨.inr rfl, hz⟩, ?_⟩
      walk_at "q"
      refine ⟨_, _, rfl, ⟨_, _, rfl, hB⟩, ?_⟩
      intro es b hes hB
      walk_at "q"
      refine for_of (fun j ρ => ∃ c2 c3 c4 c5 c6 c7 : Cell, ρ = [.va (.list (ks.map PyData.int)), c2, c3, c4, c5, c6, c7]) ⟨_, _, _, _, _, _, rfl⟩ ?_ ?_
      · rintro j d ρ hd ⟨c2, c3, c4, c5, c6, c7, rfl⟩ V hV
        have hd := hes d (List.mem_of_getElem? hd)
        walk_at "q"
        refine ⟨hd, ?_⟩
        walk_at "q"
        refine ⟨hd, ?_⟩
        walk_at "q"
        refine sel_ff (by rw [eqv_bool]; simp) ?_
        walk_at "q"
        exact hV _ ⟨_, _, _, _, _, _, rfl⟩
      · rintro ρ ⟨c2, c3, c4, c5, c6, c7, rfl⟩
        walk_at "q"
        exact hW _ ⟨_, _, _, _, _, _, rfl⟩
  · rintro ρ ⟨c1, c2, c3, c4, c5, c6, rfl⟩
    walk_at "q"
    exact h
end K02

namespace K02
open PySem PySem.Spec PyProof.Rows L2 Q
local macro_rules | `(tactic| walk_at "q") => `(tactic| ((conv => whnf); repeat (first | (refine ⟨_, rfl, ?_⟩; conv => whnf) | (refine ⟨True.intro, ?_⟩; conv => whnf) | (refine ⟨_, _, _, rfl, rfl, rfl, ?_⟩; conv => whnf) | (refine ⟨rfl, rfl, ?_⟩; conv => whnf) | (refine sel_tt rfl ?_; conv => whnf) | (refine sel_ff rfl ?_; conv => whnf) | (refine ⟨rfl, ?_⟩; conv => whnf) | (refine ⟨by decide, ?_⟩; conv => whnf))))
/-- a class, and whether the error at hand is of it -/
def Cl (K : PySem.W.Frag) (mg : Str → Option Value) (D : Addr) (y : Str) (b : Bool) : Prop := ∃ C, mg y = some (.ref C) ∧ PySem.W.kitOne K (.ref D) (.ref C) = some b
def N_kind : List Str := ["_law_e", "_law_marks"]
theorem ty_ix : typeOf (.builtin "list.index") = pure (.type "method_descriptor") := by
  show builtinType _ = _
  rw [builtinType_eq_fast]
  kernel_rfl
theorem ty_ct : typeOf (.builtin "list.count") = pure (.type "method_descriptor") := by
  show builtinType _ = _
  rw [builtinType_eq_fast]
  kernel_rfl
theorem four : 4 ≤ sizeLine := by rw [sizeLine_eq]; decide
theorem names_kind : namesB N_kind ["_law_e"] (defScope s_l_kind) = true := by decide +kernel
theorem gl_kind : (["isinstance", "NoShare", "NoBase", "NoDeeds", "NoIdeal", "NoSpan", "NoPaper", "NoPart", "NoTurn", "NoTrace", "NoStill", "NoText", "NoAlgebra", "NoRow", "NoName", "NoPlace", "TooMuch", "AlgebraError", "ValueError"] : List Str).all (fun y => glB (defScope s_l_kind) y) = true := by decide +kernel
theorem sl_kind0 : slotB N_kind (defScope s_l_kind) 0 "_law_e" = true := by decide +kernel
theorem sl_kind1 : slotB N_kind (defScope s_l_kind) 1 "_law_marks" = true := by decide +kernel
theorem lo_kind1 : lclB (defScope s_l_kind) "_law_marks" = true := by decide +kernel
theorem lc_kind1 : locB (defScope s_l_kind) "_law_marks" = true := by decide +kernel
theorem cat_step {H Hk : Hp} {pk q : Addr} {L Z : List V} (g : Grows H Hk) (e : Hk pk = some (.lst L)) (hq : Hk q = none) (hz : Z.length ≤ 16777216) : upd Hk q (.lst Z) pk = some (.lst L) ∧ upd Hk q (.lst Z) q = some (.lst Z) ∧ Grows H (upd Hk q (.lst Z)) :=
  ⟨by rw [upd_ne (ne_of_none e hq)]; exact e, upd_same, g.step hq hz⟩
theorem cat_end {H Hk : Hp} {p : Addr} {L : List V} (g : Grows H Hk) (hp : Hk p = none) (hz : L.length ≤ 16777216) : ∃ H', H' = upd Hk p (.lst L) ∧ H' p = some (.lst L) ∧ Grows H H' := ⟨_, rfl, upd_same, g.step hp hz⟩
section
variable {P : Program} {w : World} {K : PySem.W.Frag} {mg : Str → Option Value} {base : Heap}
theorem kind_ok {f D : Addr} {fd : FuncData} (F : Fun K "_law_kind" "_law_kind" s_l_kind f fd) (C : ExcC K D) (hi : mg "isinstance" = none) (hv : mg "ValueError" = none) (kv : PySem.W.kitOne K (.ref D) (.type "ValueError") = some true)
    (c0 : Cl K mg D "NoShare" true) (cA : Cl K mg D "AlgebraError" true) (cs : ∀ y ∈ (["NoBase", "NoDeeds", "NoIdeal", "NoSpan", "NoPaper", "NoPart", "NoTurn", "NoTrace", "NoStill", "NoText", "NoAlgebra", "NoRow", "NoName", "NoPlace", "TooMuch"] : List Str), Cl K mg D y false) :
    FnE P w K mg base 1 f fd ["_law_e"] (spErr D 0) := by
  obtain ⟨oc, od, kV, doc, pm, an, cdv, ct, osl, rfl, lk, hcd⟩ := F.ex
  refine fnE_of lk hcd (namesB_ok names_kind) (fun p vs H Q E h => by rw [h.1]; rfl) fun A out s H vs Q E p hot hsp => ?_
  obtain ⟨a, oe⟩ := p
  obtain ⟨rfl, hz, hf, hQ⟩ := hsp
  generalize hX : L2H.cxH (L2N.CX P w) P w K mg base N_kind "_law_kind" (defScope s_l_kind) f cdv A out s H E (a, oe) = X
  have xK : X.K = K := by rw [← hX]; rfl
  have xmg : X.mg = mg := by rw [← hX]; rfl
  have xN : X.N = N_kind := by rw [← hX]; rfl
  have xsc : X.env.scope = defScope s_l_kind := by rw [← hX]; rfl
  have xpn : (a, oe) ∈ X.pn := by rw [← hX]; exact List.mem_cons_self
  have gl : ∀ y, glB (defScope s_l_kind) y = true → Gl X y := fun y h => by
    show X.env.scope.names.lookup y = _
    rw [xsc]; exact (glB_ok h).1
  have var : ∀ (i : Nat) (y : Str) pos, slotB N_kind (defScope s_l_kind) i y = true → PE X (.Name y pos) (tVar i) := fun i y pos h => by
    obtain ⟨h1, h2, h3, h4⟩ := slotB_ok h
    exact pe_var (by rw [xN]; exact h1) (by rw [xsc]; exact h2) h3 h4
  have glo := List.all_eq_true.mp gl_kind
  have is : ∀ (y : Str) (b : Bool), Cl K mg D y b → glB (defScope s_l_kind) y = true → ∀ p1 p2 p3 pos, PE X (.Call (.Name "isinstance" p1) [.Name "_law_e" p2, .Name y p3] [] pos) (fun σ H Q => σ[0]? = some (some (.ref a)) ∧ Q (.bl b) H) := fun y b ⟨c, h1, h2⟩ hy p1 p2 p3 pos =>
    pe_isP (xK ▸ C) hz hf xpn (gl _ (glo _ (by simp))) (by rw [xmg]; exact hi) (var 0 _ _ sl_kind0) (pe_glob (v := .ref c) (u := .ref c) (gl _ hy) (by rw [xmg]; exact h1) rfl (glB_ok hy).2) (fun w e => e) (xK ▸ h2)
  have isN : ∀ y ∈ (["NoBase", "NoDeeds", "NoIdeal", "NoSpan", "NoPaper", "NoPart", "NoTurn", "NoTrace", "NoStill", "NoText", "NoAlgebra", "NoRow", "NoName", "NoPlace", "TooMuch"] : List Str), ∀ p1 p2 p3 pos, PE X (.Call (.Name "isinstance" p1) [.Name "_law_e" p2, .Name y p3] [] pos) (fun σ H Q => σ[0]? = some (some (.ref a)) ∧ Q (.bl false) H) := fun y hy p1 p2 p3 pos =>
    is y false (cs y hy) (glo y (by simp at hy ⊢; rcases hy with h | h | h | h | h | h | h | h | h | h | h | h | h | h | h <;> simp [h])) p1 p2 p3 pos
  have isV : ∀ p1 p2 p3 pos, PE X (.Call (.Name "isinstance" p1) [.Name "_law_e" p2, .Name "ValueError" p3] [] pos) (fun σ H Q => σ[0]? = some (some (.ref a)) ∧ Q (.bl true) H) := fun p1 p2 p3 pos =>
    pe_isP (xK ▸ C) hz hf xpn (gl _ (glo _ (by simp))) (by rw [xmg]; exact hi) (var 0 _ _ sl_kind0) (pe_bltn (v := .ty "ValueError") (gl _ (glo _ (by simp))) (by rw [xmg]; exact hv) (u := .type "ValueError") (by decide +kernel) rfl (by decide) (by decide)) (fun w e => e) (xK ▸ kv)
  have nd : X.N.Nodup := by rw [xN]; decide
  have lc : Loc X.env.scope "_law_marks" := by rw [xsc]; exact locB_ok lc_kind1
  have hfm : X.env.scope.names.lookup ("_law_marks" : Str) = some .local := by rw [xsc]; exact lclB_ok lo_kind1
  have hi1 : X.N[1]? = some ("_law_marks" : Str) := by rw [xN]; rfl
  have set1 : ∀ {e : Expr} {te : TE} (pos pos' : Pos), PE X e te → (hs : swapsWith e (some (.Name "_law_marks" pos')) pos.line X.env = pure false := by rfl) → PS X (.Assign [.Name "_law_marks" pos'] e pos) (tAsg te (gName 1)) := fun pos pos' he hs => ps_set nd hi1 lc he hs (.inr hfm)
  have isN' : ∀ (y : Str) (p1 p2 p3 pos : Pos), y ∈ (["NoBase", "NoDeeds", "NoIdeal", "NoSpan", "NoPaper", "NoPart", "NoTurn", "NoTrace", "NoStill", "NoText", "NoAlgebra", "NoRow", "NoName", "NoPlace", "TooMuch"] : List Str) → PE X (.Call (.Name "isinstance" p1) [.Name "_law_e" p2, .Name y p3] [] pos) (fun σ H Q => σ[0]? = some (some (.ref a)) ∧ Q (.bl false) H) := fun y p1 p2 p3 pos hy => isN y hy p1 p2 p3 pos
  have row : ∀ (y1 y2 y3 y4 : Str) (P1 P2 P3 P4 Q1 Q2 Q3 Q4 R1 R2 R3 R4 T1 T2 T3 T4 U : Pos), y1 ∈ (["NoBase", "NoDeeds", "NoIdeal", "NoSpan", "NoPaper", "NoPart", "NoTurn", "NoTrace", "NoStill", "NoText", "NoAlgebra", "NoRow", "NoName", "NoPlace", "TooMuch"] : List Str) → True := fun _ _ _ _ _ _ _ _ _ _ _ _ _ _ _ _ _ _ _ _ _ _ => trivial
  refine ⟨_, pss_cons (set1 _ _ (pe_lst (pa_cons (is _ _ c0 (glo _ (by simp)) _ _ _ _) (pa_cons (isN' _ _ _ _ _ (by simp)) (pa_cons (isN' _ _ _ _ _ (by simp)) (pa_cons (isN' _ _ _ _ _ (by simp)) pa_nil))))))
    (pss_cons (set1 _ _ (pe_op op_cat (var 1 _ _ sl_kind1) (pe_lst (pa_cons (isN' _ _ _ _ _ (by simp)) (pa_cons (isN' _ _ _ _ _ (by simp)) (pa_cons (isN' _ _ _ _ _ (by simp)) (pa_cons (isN' _ _ _ _ _ (by simp)) pa_nil)))))))
    (pss_cons (set1 _ _ (pe_op op_cat (var 1 _ _ sl_kind1) (pe_lst (pa_cons (isN' _ _ _ _ _ (by simp)) (pa_cons (isN' _ _ _ _ _ (by simp)) (pa_cons (isN' _ _ _ _ _ (by simp)) (pa_cons (isN' _ _ _ _ _ (by simp)) pa_nil)))))))
    (pss_cons (set1 _ _ (pe_op op_cat (var 1 _ _ sl_kind1) (pe_lst (pa_cons (isN' _ _ _ _ _ (by simp)) (pa_cons (isN' _ _ _ _ _ (by simp)) (pa_cons (isN' _ _ _ _ _ (by simp)) (pa_cons (isN' _ _ _ _ _ (by simp)) pa_nil)))))))
    (pss_cons (ps_if (pw_or (pt_cmpR op_ne (pe_bm PySem.F.plainAttrs_list PySem.F.slot_list_count ty_ct mt_countF (var 1 _ _ sl_kind1) (pa_cons pe_bl pa_nil)) pe_int (nomark _)) (pw_or (pt_not (pt_val (is _ _ cA (glo _ (by simp)) _ _ _ _))) (pw_or1 (pt_not (pt_val (isV _ _ _ _)))))).pt (pss_one (ps_ret (pe_un un_neg pe_int))) pss_nil)
    (pss_one (ps_ret (pe_bm PySem.F.plainAttrs_list PySem.F.slot_list_index ty_ix mt_index (var 1 _ _ sl_kind1) (pa_cons pe_bl pa_nil)))))))), ?_⟩
  refine ⟨rfl, rfl, rfl, rfl, four, fun p1 h1 => ?_⟩
  obtain ⟨H1, r1, e1, g1⟩ := cat_end (L := [V.bl true, .bl false, .bl false, .bl false]) (Grows.refl H) h1 (by decide)
  rw [← r1]
  refine ⟨_, rfl, rfl, rfl, rfl, rfl, four, fun q2 h2 => ?_⟩
  obtain ⟨a2, b2, c2⟩ := cat_step (Z := [V.bl false, .bl false, .bl false, .bl false]) g1 e1 h2 (by decide)
  refine ⟨_, _, _, _, rfl, rfl, a2, b2, (by rw [sizeLine_eq]; decide), fun p2 h3 => ?_⟩
  obtain ⟨H2, r2, e2, g2⟩ := cat_end (L := [V.bl true, .bl false, .bl false, .bl false] ++ [V.bl false, .bl false, .bl false, .bl false]) c2 h3 (by decide)
  rw [← r2]
  refine ⟨_, rfl, rfl, rfl, rfl, rfl, four, fun q3 h4 => ?_⟩
  obtain ⟨a3, b3, c3⟩ := cat_step (Z := [V.bl false, .bl false, .bl false, .bl false]) g2 e2 h4 (by decide)
  refine ⟨_, _, _, _, rfl, rfl, a3, b3, (by rw [sizeLine_eq]; decide), fun p3 h5 => ?_⟩
  obtain ⟨H3, r3, e3, g3⟩ := cat_end (L := ([V.bl true, .bl false, .bl false, .bl false] ++ [V.bl false, .bl false, .bl false, .bl false]) ++ [V.bl false, .bl false, .bl false, .bl false]) c3 h5 (by decide)
  rw [← r3]
  refine ⟨_, rfl, rfl, rfl, rfl, rfl, four, fun q4 h6 => ?_⟩
  obtain ⟨a4, b4, c4⟩ := cat_step (Z := [V.bl false, .bl false, .bl false, .bl false]) g3 e3 h6 (by decide)
  refine ⟨_, _, _, _, rfl, rfl, a4, b4, (by rw [sizeLine_eq]; decide), fun p4 h7 => ?_⟩
  obtain ⟨H4, r4, e4, g4⟩ := cat_end (L := (([V.bl true, .bl false, .bl false, .bl false] ++ [V.bl false, .bl false, .bl false, .bl false]) ++ [V.bl false, .bl false, .bl false, .bl false]) ++ [V.bl false, .bl false, .bl false, .bl false]) c4 h7 (by decide)
  rw [← r4]
  have sq : SqL X.K H4 p4 _ := .inl (.inl e4)
  refine ⟨_, rfl, .inl ⟨rfl, _, sq⟩, p4, _, _, rfl, rfl, sq, rfl, rfl, ?_⟩
  refine ⟨rfl, _, rfl, ?_⟩
  refine iteF ?_
  refine ⟨rfl, true, rfl, iteF ?_⟩
  refine ⟨rfl, true, rfl, iteF ?_⟩
  refine ⟨_, rfl, .inl ⟨rfl, _, sq⟩, p4, _, .bl true, 0, .bl true, rfl, rfl, sq, rfl, rfl, rfl, rfl, fun m z hm => absurd hm (Nat.not_lt_zero m), hQ _ g4⟩
end
def bTry : Ss := .cons (.ite (.cmp .Eq (.var 2) (.int 0)) (.cons (.expr (.call 2 0 (.cons (.var 0) (.cons (.var 1) .nil)))) .nil) (.cons (.expr (.call 3 0 (.cons (.tup (.cons (.var 0) (.cons (.int 1) .nil))) (.cons (.tup (.cons (.int 0) (.cons (.int 1) .nil))) .nil)))) .nil)) .nil
def bEnd : Ss := .cons (.ret .non) .nil
def N_ref : List Str := ["_law_u", "_law_v", "_law_way", "_law_e"]
def blts : Bl := ⟨["abs", "any", "bool", "int", "isinstance", "len", "max", "min", "range", "str", "tuple"], ["NoShare"]⟩
def G9 : List Ent := [g0, g1, g2, g3, g4, g5, g6, g7, g8]
def tryOf : List Stmt → List Stmt
  | .Try b _ _ _ _ :: _ => b
  | _ => []
theorem chk1 : chkSs ⟨N_ref, G9.map (·.sig), blts⟩ (defScope s_l_refused) [] 0 bTry (tryOf (defBody s_l_refused)) = true := by decide +kernel
theorem chk2 : chkSs ⟨N_ref, G9.map (·.sig), blts⟩ (defScope s_l_refused) [] 0 bEnd ((defBody s_l_refused).drop 1) = true := by decide +kernel
theorem n9 : namesB N_ref ["_law_u", "_law_v", "_law_way"] (defScope s_l_refused) = true := by decide +kernel
theorem lo9 : lclB (defScope s_l_refused) "_law_e" = true := by decide +kernel
theorem gx9 : glB (defScope s_l_refused) "AlgebraError" = true := by decide +kernel
theorem gy9 : glB (defScope s_l_refused) "_law_kind" = true := by decide +kernel
section
variable {P : Program} {w : World} {K : PySem.W.Frag} {mg : Str → Option Value} {base : Heap}
theorem d9 {f fk CA D : Addr} {fd fdk : FuncData} (F : Fun K "_law_refused" "_law_refused" s_l_refused f fd) (FE : FnE P w K mg base 1 fk fdk ["_law_e"] (spErr D 0)) (mD : mg "NoShare" = some (.ref D)) (mA : mg "AlgebraError" = some (.ref CA)) (eA : PySem.W.exmOne K (.ref D) (.ref CA) = some true)
    (mk : mg "_law_kind" = some (.ref fk)) (kk : PySem.W.keepIn K (.ref fk) = true) (bk : Binds K fdk ["_law_e"] []) (gok : GOk P w K mg base G9 9) (bok : ∀ x ∈ blts.b, mg x = none) (xok : ∀ x ∈ blts.x, XOk K mg x) :
    FnOk P w K mg base (L2N.CX P w) 10 f fd ["_law_u", "_law_v", "_law_way"] (toSp K mg g9) := by
  refine fn_okT (bl := blts) (Γ := G9) F (fun κ ρ => svs G9 bTry { κ with nx := fun ρ1 => svs G9 bEnd κ ρ1, xc := fun ρ1 z => ∃ j, Told ⟨P, w, K, mg, base, callerA, []⟩ 1 fk CA fdk ["_law_e"] z j ∧ 3 < ρ1.length ∧ κ.rt ρ1 (.int j) } ρ) n9 rfl (by decide) (fun A W room sd => ?_) gok bok xok ?_
  · exact aps_cons (ap_tryk (k := 1) (fd := fdk) sd.nd rfl (lclB_ok lo9) (by decide) (by decide) (glB_ok gx9).1 (glB_ok gx9).2 mA (glB_ok gy9).1 (glB_ok gy9).2 mk kk bk (room.mono (by decide)) (fun W' => snd_Ss sd bTry _ chk1)) (snd_Ss sd bEnd _ chk2)
  · rintro ds Φ Ξ - ⟨a, n, rfl, ⟨hn, hb⟩, h⟩
    have told : Told ⟨P, w, K, mg, base, callerA, []⟩ 1 fk CA fdk ["_law_e"] "NoShare" 0 := ⟨D, mD, eA, FE⟩
    rcases hn with rfl | rfl
    · walk_at "q"
      exact ⟨0, told, (by decide : (3 : Nat) < 4), h⟩
    · walk_at "q"
      exact ⟨hb, 0, told, (by decide : (3 : Nat) < 4), h⟩
end
end K02

namespace K02
open PySem PySem.Spec PyProof.Rows L2 Q
theorem cx_no {P : Program} {w : World} {H : Hp} {s : Shared} {e : Value} {s' : Shared} (z : L2N.CX P w [] H s (fun _ _ _ => False) e s') : False := by
  unfold L2N.CX at z
  obtain ⟨_, _, _, _, _, _, _, _, _, _, _, _, y⟩ := z
  exact y
theorem law_at (ks : List Int) (Φ : D → D → Prop) (Ξ : D → XD → Prop) (_ : ks.length ≤ 63) (_ : ∀ z ∈ ks, Builtin.Int.intBits z ≤ 1048576) (h : Φ (.bool true) .none) : g12.sp [.list (ks.map PyData.int)] Φ Ξ := ⟨ks, rfl, h⟩
theorem kit_yes {K : PySem.W.Frag} {D C : Addr} (h1 : PySem.W.isClsIn K C = true) (h2 : PySem.W.typeIn K (.ref C) = some (.type "type")) (h3 : PySem.W.subIn K (.ref D) (.ref C) = some true) : PySem.W.kitOne K (.ref D) (.ref C) = some true := by
  have e : ((PySem.W.clsIn K C).isSome && PySem.W.typeIn K (.ref C) == some (.type "type")) = true := by
    have h1' : (PySem.W.clsIn K C).isSome = true := h1
    rw [h1', h2]; rfl
  unfold PySem.W.kitOne PySem.W.kitCls
  simp only
  rw [if_pos e, h3]
  split <;> rfl
theorem kit_no {K : PySem.W.Frag} {D C : Addr} (h0 : PySem.W.subIn K (.ref D) (.ref D) = some true) (h1 : PySem.W.isClsIn K C = true) (h2 : PySem.W.typeIn K (.ref C) = some (.type "type")) (h3 : PySem.W.subIn K (.ref D) (.ref C) = some false) : PySem.W.kitOne K (.ref D) (.ref C) = some false := by
  have e : ((PySem.W.clsIn K C).isSome && PySem.W.typeIn K (.ref C) == some (.type "type")) = true := by
    have h1' : (PySem.W.clsIn K C).isSome = true := h1
    rw [h1', h2]; rfl
  unfold PySem.W.kitOne PySem.W.kitCls
  simp only
  rw [if_pos e, h3, if_neg]
  intro q
  have q : Value.ref D = Value.ref C := by simpa using q
  rw [← q, h0] at h3
  cases h3
theorem kit_ty {K : PySem.W.Frag} {D : Addr} (h : PySem.W.subIn K (.ref D) (.type "ValueError") = some true) : PySem.W.kitOne K (.ref D) (.type "ValueError") = some true := by
  unfold PySem.W.kitOne PySem.W.kitCls
  simp only
  split
  · rfl
  · rw [if_pos (by decide +kernel), h]
section
variable {P : Program} {w : World} {K : PySem.W.Frag} {mg : Str → Option Value} {base : Heap}
theorem c0 : chkSs ⟨N_is_whole, ([] : List Ent).map (·.sig), blts⟩ (defScope s_is_whole) (prot none) 0 b_is_whole (defBody s_is_whole) = true := by decide +kernel
theorem n0 : namesB N_is_whole ["thing"] (defScope s_is_whole) = true := by decide +kernel
theorem d0 {f : Addr} {fd : FuncData} (F : Fun K "is_whole" "is_whole" s_is_whole f fd) (gok : GOk P w K mg base [] 0) (bok : ∀ x ∈ blts.b, mg x = none) (xok : ∀ x ∈ blts.x, XOk K mg x) : FnOk P w K mg base (L2N.CX P w) 1 f fd ["thing"] (toSp K mg g0) :=
  fn_ok F b_is_whole n0 rfl (by decide) c0 gok bok xok p0
theorem c1 : chkSs ⟨N_common, ([g0] : List Ent).map (·.sig), blts⟩ (defScope s_common) (prot none) 0 b_common (defBody s_common) = true := by decide +kernel
theorem n1 : namesB N_common ["one", "other"] (defScope s_common) = true := by decide +kernel
theorem d1 {f : Addr} {fd : FuncData} (F : Fun K "common" "common" s_common f fd) (gok : GOk P w K mg base [g0] 1) (bok : ∀ x ∈ blts.b, mg x = none) (xok : ∀ x ∈ blts.x, XOk K mg x) : FnOk P w K mg base (L2N.CX P w) 2 f fd ["one", "other"] (toSp K mg g1) :=
  fn_ok F b_common n1 rfl (by decide) c1 gok bok xok p1
theorem c2 : chkSs ⟨N_share, ([g0, g1] : List Ent).map (·.sig), blts⟩ (defScope s_share) (prot none) 0 b_share (defBody s_share) = true := by decide +kernel
theorem n2 : namesB N_share ["top", "bottom"] (defScope s_share) = true := by decide +kernel
theorem d2 {f : Addr} {fd : FuncData} (F : Fun K "share" "share" s_share f fd) (gok : GOk P w K mg base [g0, g1] 2) (bok : ∀ x ∈ blts.b, mg x = none) (xok : ∀ x ∈ blts.x, XOk K mg x) : FnOk P w K mg base (L2N.CX P w) 3 f fd ["top", "bottom"] (toSp K mg g2) :=
  fn_ok F b_share n2 rfl (by decide) c2 gok bok xok p2
theorem c3 : chkSs ⟨N_over, ([g0, g1, g2] : List Ent).map (·.sig), blts⟩ (defScope s_over) (prot none) 0 b_over (defBody s_over) = true := by decide +kernel
theorem n3 : namesB N_over ["u", "v"] (defScope s_over) = true := by decide +kernel
theorem d3 {f : Addr} {fd : FuncData} (F : Fun K "over" "over" s_over f fd) (gok : GOk P w K mg base [g0, g1, g2] 3) (bok : ∀ x ∈ blts.b, mg x = none) (xok : ∀ x ∈ blts.x, XOk K mg x) : FnOk P w K mg base (L2N.CX P w) 4 f fd ["u", "v"] (toSp K mg g3) :=
  fn_ok F b_over n3 rfl (by decide) c3 gok bok xok p3
theorem c4 : chkSs ⟨N_is_share, ([g0, g1, g2, g3] : List Ent).map (·.sig), blts⟩ (defScope s_is_share) (prot none) 0 b_is_share (defBody s_is_share) = true := by decide +kernel
theorem n4 : namesB N_is_share ["thing"] (defScope s_is_share) = true := by decide +kernel
theorem d4 {f : Addr} {fd : FuncData} (F : Fun K "is_share" "is_share" s_is_share f fd) (gok : GOk P w K mg base [g0, g1, g2, g3] 4) (bok : ∀ x ∈ blts.b, mg x = none) (xok : ∀ x ∈ blts.x, XOk K mg x) : FnOk P w K mg base (L2N.CX P w) 5 f fd ["thing"] (toSp K mg g4) :=
  fn_ok F b_is_share n4 rfl (by decide) c4 gok bok xok p4
theorem c5 : chkSs ⟨N_l_bag, ([g0, g1, g2, g3, g4] : List Ent).map (·.sig), blts⟩ (defScope s_l_bag) (prot none) 1 b_l_bag (defBody s_l_bag) = true := by decide +kernel
theorem n5 : namesB N_l_bag ["_law_script", "_law_at"] (defScope s_l_bag) = true := by decide +kernel
theorem d5 {f : Addr} {fd : FuncData} (F : Fun K "_law_bag" "_law_bag" s_l_bag f fd) (gok : GOk P w K mg base [g0, g1, g2, g3, g4] 5) (bok : ∀ x ∈ blts.b, mg x = none) (xok : ∀ x ∈ blts.x, XOk K mg x) : FnOk P w K mg base (L2N.CX P w) 6 f fd ["_law_script", "_law_at"] (toSp K mg g5) :=
  fn_ok F b_l_bag n5 rfl (by decide) c5 gok bok xok p5
theorem c6 : chkSs ⟨N_l_take, ([g0, g1, g2, g3, g4, g5] : List Ent).map (·.sig), blts⟩ (defScope s_l_take) (prot (some 1)) 0 b_l_take (defBody s_l_take) = true := by decide +kernel
theorem n6 : namesB N_l_take ["_law_bag_here", "_law_many"] (defScope s_l_take) = true := by decide +kernel
theorem d6 {f : Addr} {fd : FuncData} (F : Fun K "_law_take" "_law_take" s_l_take f fd) (gok : GOk P w K mg base [g0, g1, g2, g3, g4, g5] 6) (bok : ∀ x ∈ blts.b, mg x = none) (xok : ∀ x ∈ blts.x, XOk K mg x) : FnOk P w K mg base (L2N.CX P w) 7 f fd ["_law_bag_here", "_law_many"] (toSp K mg g6) :=
  fn_ok F b_l_take n6 rfl (by decide) c6 gok bok xok p6
theorem c7 : chkSs ⟨N_l_common, ([g0, g1, g2, g3, g4, g5, g6] : List Ent).map (·.sig), blts⟩ (defScope s_l_common) (prot none) 0 b_l_common (defBody s_l_common) = true := by decide +kernel
theorem n7 : namesB N_l_common ["_law_one", "_law_other"] (defScope s_l_common) = true := by decide +kernel
theorem d7 {f : Addr} {fd : FuncData} (F : Fun K "_law_common" "_law_common" s_l_common f fd) (gok : GOk P w K mg base [g0, g1, g2, g3, g4, g5, g6] 7) (bok : ∀ x ∈ blts.b, mg x = none) (xok : ∀ x ∈ blts.x, XOk K mg x) : FnOk P w K mg base (L2N.CX P w) 8 f fd ["_law_one", "_law_other"] (toSp K mg g7) :=
  fn_ok F b_l_common n7 rfl (by decide) c7 gok bok xok p7
theorem c10 : chkSs ⟨N_l_things, ([g0, g1, g2, g3, g4, g5, g6, g7, g8, g9] : List Ent).map (·.sig), blts⟩ (defScope s_l_things) (prot (some 1)) 0 b_l_things (defBody s_l_things) = true := by decide +kernel
theorem n10 : namesB N_l_things ["_law_bag_here", "_law_number"] (defScope s_l_things) = true := by decide +kernel
theorem d10 {f : Addr} {fd : FuncData} (F : Fun K "_law_things" "_law_things" s_l_things f fd) (gok : GOk P w K mg base [g0, g1, g2, g3, g4, g5, g6, g7, g8, g9] 10) (bok : ∀ x ∈ blts.b, mg x = none) (xok : ∀ x ∈ blts.x, XOk K mg x) : FnOk P w K mg base (L2N.CX P w) 11 f fd ["_law_bag_here", "_law_number"] (toSp K mg g10) :=
  fn_ok F b_l_things n10 rfl (by decide) c10 gok bok xok p10
theorem c11 : chkSs ⟨N_l_is_fraction, ([g0, g1, g2, g3, g4, g5, g6, g7, g8, g9, g10] : List Ent).map (·.sig), blts⟩ (defScope s_l_is_fraction) (prot none) 0 b_l_is_fraction (defBody s_l_is_fraction) = true := by decide +kernel
theorem n11 : namesB N_l_is_fraction ["_law_thing"] (defScope s_l_is_fraction) = true := by decide +kernel
theorem d11 {f : Addr} {fd : FuncData} (F : Fun K "_law_is_fraction" "_law_is_fraction" s_l_is_fraction f fd) (gok : GOk P w K mg base [g0, g1, g2, g3, g4, g5, g6, g7, g8, g9, g10] 11) (bok : ∀ x ∈ blts.b, mg x = none) (xok : ∀ x ∈ blts.x, XOk K mg x) : FnOk P w K mg base (L2N.CX P w) 12 f fd ["_law_thing"] (toSp K mg g11) :=
  fn_ok F b_l_is_fraction n11 rfl (by decide) c11 gok bok xok p11
theorem c12 : chkSs ⟨N_law, ([g0, g1, g2, g3, g4, g5, g6, g7, g8, g9, g10, g11] : List Ent).map (·.sig), blts⟩ (defScope s_law) (prot none) 0 b_law (defBody s_law) = true := by decide +kernel
theorem n12 : namesB N_law ["_law_script"] (defScope s_law) = true := by decide +kernel
theorem d12 {f : Addr} {fd : FuncData} (F : Fun K "law" "law" s_law f fd) (gok : GOk P w K mg base [g0, g1, g2, g3, g4, g5, g6, g7, g8, g9, g10, g11] 12) (bok : ∀ x ∈ blts.b, mg x = none) (xok : ∀ x ∈ blts.x, XOk K mg x) : FnOk P w K mg base (L2N.CX P w) 13 f fd ["_law_script"] (toSp K mg g12) :=
  fn_ok F b_law n12 rfl (by decide) c12 gok bok xok p12
end
theorem all_mk {l : PySem.W.OpenLaw} {w : World} {K : PySem.W.Frag} {h : Heap} {mg : Str → Option Value} {fa f0 f1 f2 f3 f4 f5 f6 f7 f9 f10 f11 f12 : Addr} (X : K.In h) (G : h.Ns mainGlobals mg) (hfa : mg "law" = some (.ref fa))
    {od0 an0 od1 an1 od2 an2 od3 an3 od4 an4 od5 an5 od6 an6 od7 an7 od9 an9 od10 an10 od11 an11 od12 an12 : Option Addr} {sl0 sl1 sl2 sl3 sl4 sl5 sl6 sl7 sl9 sl10 sl11 sl12 : Array (Option Value)} {oc0 kV0 dc0 pm0 cd0 ct0 oc1 kV1 dc1 pm1 cd1 ct1 oc2 kV2 dc2 pm2 cd2 ct2 oc3 kV3 dc3 pm3 cd3 ct3 oc4 kV4 dc4 pm4 cd4 ct4 oc5 kV5 dc5 pm5 cd5 ct5 oc6 kV6 dc6 pm6 cd6 ct6 oc7 kV7 dc7 pm7 cd7 ct7 oc9 kV9 dc9 pm9 cd9 ct9 oc10 kV10 dc10 pm10 cd10 ct10 oc11 kV11 dc11 pm11 cd11 ct11 oc12 kV12 dc12 pm12 cd12 ct12 : Value}
    (a0 : PySem.W.nsIn K mainGlobals "is_whole" = some (some (.ref f0))) (l0 : K.lookup f0 = some ⟨oc0, od0, .func (PySem.W.fnOf "is_whole" "is_whole" (defArgs s_is_whole) (defBody s_is_whole) (defScope s_is_whole) .none kV0 dc0 pm0 an0 cd0 ct0), sl0⟩) (c0 : PySem.W.codeIn K cd0 "is_whole" = true) (k0 : PySem.W.keepIn K (.ref f0) = true)
    (a1 : PySem.W.nsIn K mainGlobals "common" = some (some (.ref f1))) (l1 : K.lookup f1 = some ⟨oc1, od1, .func (PySem.W.fnOf "common" "common" (defArgs s_common) (defBody s_common) (defScope s_common) .none kV1 dc1 pm1 an1 cd1 ct1), sl1⟩) (c1 : PySem.W.codeIn K cd1 "common" = true) (k1 : PySem.W.keepIn K (.ref f1) = true)
    (a2 : PySem.W.nsIn K mainGlobals "share" = some (some (.ref f2))) (l2 : K.lookup f2 = some ⟨oc2, od2, .func (PySem.W.fnOf "share" "share" (defArgs s_share) (defBody s_share) (defScope s_share) .none kV2 dc2 pm2 an2 cd2 ct2), sl2⟩) (c2 : PySem.W.codeIn K cd2 "share" = true) (k2 : PySem.W.keepIn K (.ref f2) = true)
    (a3 : PySem.W.nsIn K mainGlobals "over" = some (some (.ref f3))) (l3 : K.lookup f3 = some ⟨oc3, od3, .func (PySem.W.fnOf "over" "over" (defArgs s_over) (defBody s_over) (defScope s_over) .none kV3 dc3 pm3 an3 cd3 ct3), sl3⟩) (c3 : PySem.W.codeIn K cd3 "over" = true) (k3 : PySem.W.keepIn K (.ref f3) = true)
    (a4 : PySem.W.nsIn K mainGlobals "is_share" = some (some (.ref f4))) (l4 : K.lookup f4 = some ⟨oc4, od4, .func (PySem.W.fnOf "is_share" "is_share" (defArgs s_is_share) (defBody s_is_share) (defScope s_is_share) .none kV4 dc4 pm4 an4 cd4 ct4), sl4⟩) (c4 : PySem.W.codeIn K cd4 "is_share" = true) (k4 : PySem.W.keepIn K (.ref f4) = true)
    (a5 : PySem.W.nsIn K mainGlobals "_law_bag" = some (some (.ref f5))) (l5 : K.lookup f5 = some ⟨oc5, od5, .func (PySem.W.fnOf "_law_bag" "_law_bag" (defArgs s_l_bag) (defBody s_l_bag) (defScope s_l_bag) .none kV5 dc5 pm5 an5 cd5 ct5), sl5⟩) (c5 : PySem.W.codeIn K cd5 "_law_bag" = true) (k5 : PySem.W.keepIn K (.ref f5) = true)
    (a6 : PySem.W.nsIn K mainGlobals "_law_take" = some (some (.ref f6))) (l6 : K.lookup f6 = some ⟨oc6, od6, .func (PySem.W.fnOf "_law_take" "_law_take" (defArgs s_l_take) (defBody s_l_take) (defScope s_l_take) .none kV6 dc6 pm6 an6 cd6 ct6), sl6⟩) (c6 : PySem.W.codeIn K cd6 "_law_take" = true) (k6 : PySem.W.keepIn K (.ref f6) = true)
    (a7 : PySem.W.nsIn K mainGlobals "_law_common" = some (some (.ref f7))) (l7 : K.lookup f7 = some ⟨oc7, od7, .func (PySem.W.fnOf "_law_common" "_law_common" (defArgs s_l_common) (defBody s_l_common) (defScope s_l_common) .none kV7 dc7 pm7 an7 cd7 ct7), sl7⟩) (c7 : PySem.W.codeIn K cd7 "_law_common" = true) (k7 : PySem.W.keepIn K (.ref f7) = true)
    (a9 : PySem.W.nsIn K mainGlobals "_law_refused" = some (some (.ref f9))) (l9 : K.lookup f9 = some ⟨oc9, od9, .func (PySem.W.fnOf "_law_refused" "_law_refused" (defArgs s_l_refused) (defBody s_l_refused) (defScope s_l_refused) .none kV9 dc9 pm9 an9 cd9 ct9), sl9⟩) (c9 : PySem.W.codeIn K cd9 "_law_refused" = true) (k9 : PySem.W.keepIn K (.ref f9) = true)
    (a10 : PySem.W.nsIn K mainGlobals "_law_things" = some (some (.ref f10))) (l10 : K.lookup f10 = some ⟨oc10, od10, .func (PySem.W.fnOf "_law_things" "_law_things" (defArgs s_l_things) (defBody s_l_things) (defScope s_l_things) .none kV10 dc10 pm10 an10 cd10 ct10), sl10⟩) (c10 : PySem.W.codeIn K cd10 "_law_things" = true) (k10 : PySem.W.keepIn K (.ref f10) = true)
    (a11 : PySem.W.nsIn K mainGlobals "_law_is_fraction" = some (some (.ref f11))) (l11 : K.lookup f11 = some ⟨oc11, od11, .func (PySem.W.fnOf "_law_is_fraction" "_law_is_fraction" (defArgs s_l_is_fraction) (defBody s_l_is_fraction) (defScope s_l_is_fraction) .none kV11 dc11 pm11 an11 cd11 ct11), sl11⟩) (c11 : PySem.W.codeIn K cd11 "_law_is_fraction" = true) (k11 : PySem.W.keepIn K (.ref f11) = true)
    (a12 : PySem.W.nsIn K mainGlobals "law" = some (some (.ref f12))) (l12 : K.lookup f12 = some ⟨oc12, od12, .func (PySem.W.fnOf "law" "law" (defArgs s_law) (defBody s_law) (defScope s_law) .none kV12 dc12 pm12 an12 cd12 ct12), sl12⟩) (c12 : PySem.W.codeIn K cd12 "law" = true) (k12 : PySem.W.keepIn K (.ref f12) = true)
    {CD CA fK C0 C1 C2 C3 C4 C5 C6 C7 C8 C9 C10 C11 C12 C13 C14 : Addr} {odK anK : Option Addr} {slK : Array (Option Value)} {ocK kVK dcK pmK cdK ctK : Value}
    (aX : PySem.W.nsIn K mainGlobals "NoShare" = some (some (.ref CD))) (xX : PySem.W.excIn K CD [.type "ValueError", .type "Exception", .type "BaseException", .type "object"] "ValueError.__new__" = true) (kX : PySem.W.keepIn K (.ref CD) = true) (bX : PySem.W.subIn K (.ref CD) (.type "BaseException") = some true) (tX : PySem.W.typeIn K (.ref CD) = some (.type "type"))
    (aA : PySem.W.nsIn K mainGlobals "AlgebraError" = some (some (.ref CA))) (bA : PySem.W.subIn K (.ref CA) (.type "BaseException") = some true) (hA : PySem.W.hasDictIn K CA = true) (tA : PySem.W.typeIn K (.ref CA) = some (.type "type")) (sA : PySem.W.subIn K (.ref CD) (.ref CA) = some true)
    (e1 : PySem.W.findIn K (.ref CD) "__getattribute__" = some (some (.builtin "BaseException.__getattribute__"))) (e2 : PySem.W.findIn K (.ref CD) "__getattr__" = some none) (e4 : PySem.W.hasDictIn K CD = true) (e5 : PySem.W.findIn K (.ref CD) "__class__" = some (some (.builtin "object.__class__")))
    (e6 : PySem.W.specialIn K (.builtin "object.__class__") "__get__" = some (some (.builtin "getset_descriptor.__get__"))) (e7 : PySem.W.takesIn K (.builtin "object.__class__") = some true) (e8 : PySem.W.mroIn K CD (.type "object") = some true)
    (iD : PySem.W.isClsIn K CD = true) (sD : PySem.W.subIn K (.ref CD) (.ref CD) = some true) (iA : PySem.W.isClsIn K CA = true) (sV : PySem.W.subIn K (.ref CD) (.type "ValueError") = some true) (zV : PySem.W.nsIn K mainGlobals "ValueError" = some none)
    (aK : PySem.W.nsIn K mainGlobals "_law_kind" = some (some (.ref fK))) (lK : K.lookup fK = some ⟨ocK, odK, .func (PySem.W.fnOf "_law_kind" "_law_kind" (defArgs s_l_kind) (defBody s_l_kind) (defScope s_l_kind) .none kVK dcK pmK anK cdK ctK), slK⟩) (cK : PySem.W.codeIn K cdK "_law_kind" = true) (kK : PySem.W.keepIn K (.ref fK) = true)
    (o0 : PySem.W.nsIn K mainGlobals "NoBase" = some (some (.ref C0))) (i0 : PySem.W.isClsIn K C0 = true) (y0 : PySem.W.typeIn K (.ref C0) = some (.type "type")) (r0 : PySem.W.subIn K (.ref CD) (.ref C0) = some false)
    (o1 : PySem.W.nsIn K mainGlobals "NoDeeds" = some (some (.ref C1))) (i1 : PySem.W.isClsIn K C1 = true) (y1 : PySem.W.typeIn K (.ref C1) = some (.type "type")) (r1 : PySem.W.subIn K (.ref CD) (.ref C1) = some false)
    (o2 : PySem.W.nsIn K mainGlobals "NoIdeal" = some (some (.ref C2))) (i2 : PySem.W.isClsIn K C2 = true) (y2 : PySem.W.typeIn K (.ref C2) = some (.type "type")) (r2 : PySem.W.subIn K (.ref CD) (.ref C2) = some false)
    (o3 : PySem.W.nsIn K mainGlobals "NoSpan" = some (some (.ref C3))) (i3 : PySem.W.isClsIn K C3 = true) (y3 : PySem.W.typeIn K (.ref C3) = some (.type "type")) (r3 : PySem.W.subIn K (.ref CD) (.ref C3) = some false)
    (o4 : PySem.W.nsIn K mainGlobals "NoPaper" = some (some (.ref C4))) (i4 : PySem.W.isClsIn K C4 = true) (y4 : PySem.W.typeIn K (.ref C4) = some (.type "type")) (r4 : PySem.W.subIn K (.ref CD) (.ref C4) = some false)
    (o5 : PySem.W.nsIn K mainGlobals "NoPart" = some (some (.ref C5))) (i5 : PySem.W.isClsIn K C5 = true) (y5 : PySem.W.typeIn K (.ref C5) = some (.type "type")) (r5 : PySem.W.subIn K (.ref CD) (.ref C5) = some false)
    (o6 : PySem.W.nsIn K mainGlobals "NoTurn" = some (some (.ref C6))) (i6 : PySem.W.isClsIn K C6 = true) (y6 : PySem.W.typeIn K (.ref C6) = some (.type "type")) (r6 : PySem.W.subIn K (.ref CD) (.ref C6) = some false)
    (o7 : PySem.W.nsIn K mainGlobals "NoTrace" = some (some (.ref C7))) (i7 : PySem.W.isClsIn K C7 = true) (y7 : PySem.W.typeIn K (.ref C7) = some (.type "type")) (r7 : PySem.W.subIn K (.ref CD) (.ref C7) = some false)
    (o8 : PySem.W.nsIn K mainGlobals "NoStill" = some (some (.ref C8))) (i8 : PySem.W.isClsIn K C8 = true) (y8 : PySem.W.typeIn K (.ref C8) = some (.type "type")) (r8 : PySem.W.subIn K (.ref CD) (.ref C8) = some false)
    (o9 : PySem.W.nsIn K mainGlobals "NoText" = some (some (.ref C9))) (i9 : PySem.W.isClsIn K C9 = true) (y9 : PySem.W.typeIn K (.ref C9) = some (.type "type")) (r9 : PySem.W.subIn K (.ref CD) (.ref C9) = some false)
    (o10 : PySem.W.nsIn K mainGlobals "NoAlgebra" = some (some (.ref C10))) (i10 : PySem.W.isClsIn K C10 = true) (y10 : PySem.W.typeIn K (.ref C10) = some (.type "type")) (r10 : PySem.W.subIn K (.ref CD) (.ref C10) = some false)
    (o11 : PySem.W.nsIn K mainGlobals "NoRow" = some (some (.ref C11))) (i11 : PySem.W.isClsIn K C11 = true) (y11 : PySem.W.typeIn K (.ref C11) = some (.type "type")) (r11 : PySem.W.subIn K (.ref CD) (.ref C11) = some false)
    (o12 : PySem.W.nsIn K mainGlobals "NoName" = some (some (.ref C12))) (i12 : PySem.W.isClsIn K C12 = true) (y12 : PySem.W.typeIn K (.ref C12) = some (.type "type")) (r12 : PySem.W.subIn K (.ref CD) (.ref C12) = some false)
    (o13 : PySem.W.nsIn K mainGlobals "NoPlace" = some (some (.ref C13))) (i13 : PySem.W.isClsIn K C13 = true) (y13 : PySem.W.typeIn K (.ref C13) = some (.type "type")) (r13 : PySem.W.subIn K (.ref CD) (.ref C13) = some false)
    (o14 : PySem.W.nsIn K mainGlobals "TooMuch" = some (some (.ref C14))) (i14 : PySem.W.isClsIn K C14 = true) (y14 : PySem.W.typeIn K (.ref C14) = some (.type "type")) (r14 : PySem.W.subIn K (.ref CD) (.ref C14) = some false)
    (z0 : PySem.W.nsIn K mainGlobals "abs" = some none) (z1 : PySem.W.nsIn K mainGlobals "any" = some none) (z2 : PySem.W.nsIn K mainGlobals "bool" = some none) (z3 : PySem.W.nsIn K mainGlobals "int" = some none) (z4 : PySem.W.nsIn K mainGlobals "isinstance" = some none) (z5 : PySem.W.nsIn K mainGlobals "len" = some none) (z6 : PySem.W.nsIn K mainGlobals "max" = some none) (z7 : PySem.W.nsIn K mainGlobals "min" = some none) (z8 : PySem.W.nsIn K mainGlobals "range" = some none) (z9 : PySem.W.nsIn K mainGlobals "str" = some none) (z10 : PySem.W.nsIn K mainGlobals "tuple" = some none) :
    ∃ fd : FuncData, (∀ (s : Shared) (v : Value), BindsTo s fd ⟨[v], []⟩ [("_law_script", v)]) ∧ ∀ base : Heap, K.In base → base.Ns mainGlobals mg → FnOk l.prog w K mg base (L2N.CX l.prog w) 13 fa fd ["_law_script"] (lawSp K) := by
  have e := hfa.symm.trans (PySem.W.mg_of X G a12)
  cases e
  have bok : ∀ x ∈ blts.b, mg x = none := by
    intro x hx
    simp only [blts, List.mem_cons, List.not_mem_nil, or_false] at hx
    rcases hx with rfl | rfl | rfl | rfl | rfl | rfl | rfl | rfl | rfl | rfl | rfl
    · exact PySem.W.mg_none_of X G z0
    · exact PySem.W.mg_none_of X G z1
    · exact PySem.W.mg_none_of X G z2
    · exact PySem.W.mg_none_of X G z3
    · exact PySem.W.mg_none_of X G z4
    · exact PySem.W.mg_none_of X G z5
    · exact PySem.W.mg_none_of X G z6
    · exact PySem.W.mg_none_of X G z7
    · exact PySem.W.mg_none_of X G z8
    · exact PySem.W.mg_none_of X G z9
    · exact PySem.W.mg_none_of X G z10
  have F0 := fun_mk (st := s_is_whole) l0 c0 k0
  have b0 := F0.binds (ps := ["thing"]) fun _ _ _ _ _ _ us hl => match us, hl with | [_], _ => rfl
  have F1 := fun_mk (st := s_common) l1 c1 k1
  have b1 := F1.binds (ps := ["one", "other"]) fun _ _ _ _ _ _ us hl => match us, hl with | [_, _], _ => rfl
  have F2 := fun_mk (st := s_share) l2 c2 k2
  have b2 := F2.binds (ps := ["top", "bottom"]) fun _ _ _ _ _ _ us hl => match us, hl with | [_, _], _ => rfl
  have F3 := fun_mk (st := s_over) l3 c3 k3
  have b3 := F3.binds (ps := ["u", "v"]) fun _ _ _ _ _ _ us hl => match us, hl with | [_, _], _ => rfl
  have F4 := fun_mk (st := s_is_share) l4 c4 k4
  have b4 := F4.binds (ps := ["thing"]) fun _ _ _ _ _ _ us hl => match us, hl with | [_], _ => rfl
  have F5 := fun_mk (st := s_l_bag) l5 c5 k5
  have b5 := F5.binds (ps := ["_law_script", "_law_at"]) fun _ _ _ _ _ _ us hl => match us, hl with | [_, _], _ => rfl
  have F6 := fun_mk (st := s_l_take) l6 c6 k6
  have b6 := F6.binds (ps := ["_law_bag_here", "_law_many"]) fun _ _ _ _ _ _ us hl => match us, hl with | [_, _], _ => rfl
  have F7 := fun_mk (st := s_l_common) l7 c7 k7
  have b7 := F7.binds (ps := ["_law_one", "_law_other"]) fun _ _ _ _ _ _ us hl => match us, hl with | [_, _], _ => rfl
  have F9 := fun_mk (st := s_l_refused) l9 c9 k9
  have b9 := F9.binds (ps := ["_law_u", "_law_v", "_law_way"]) fun _ _ _ _ _ _ us hl => match us, hl with | [_, _, _], _ => rfl
  have F10 := fun_mk (st := s_l_things) l10 c10 k10
  have b10 := F10.binds (ps := ["_law_bag_here", "_law_number"]) fun _ _ _ _ _ _ us hl => match us, hl with | [_, _], _ => rfl
  have F11 := fun_mk (st := s_l_is_fraction) l11 c11 k11
  have b11 := F11.binds (ps := ["_law_thing"]) fun _ _ _ _ _ _ us hl => match us, hl with | [_], _ => rfl
  have F12 := fun_mk (st := s_law) l12 c12 k12
  have b12 := F12.binds (ps := ["_law_script"]) fun _ _ _ _ _ _ us hl => match us, hl with | [_], _ => rfl
  refine ⟨PySem.W.fnOf "law" "law" (defArgs s_law) (defBody s_law) (defScope s_law) .none kV12 dc12 pm12 an12 cd12 ct12, fun s v => .of_eq rfl, fun base _ _ => ?_⟩
  have t0 : GOk l.prog w K mg base [] 0 := GOk.nil
  have xok : ∀ x ∈ blts.x, XOk K mg x := by
    intro x hx
    simp only [blts, List.mem_cons, List.not_mem_nil, or_false] at hx
    subst hx
    exact ⟨CD, _, _, _, _, PySem.W.mg_of X G aX, kX, PySem.F.excBase_ValueError, xX, bX, tX⟩
  have cs : ∀ y ∈ (["NoBase", "NoDeeds", "NoIdeal", "NoSpan", "NoPaper", "NoPart", "NoTurn", "NoTrace", "NoStill", "NoText", "NoAlgebra", "NoRow", "NoName", "NoPlace", "TooMuch"] : List Str), Cl K mg CD y false := by
    intro y hy
    simp only [List.mem_cons, List.not_mem_nil, or_false] at hy
    rcases hy with rfl | rfl | rfl | rfl | rfl | rfl | rfl | rfl | rfl | rfl | rfl | rfl | rfl | rfl | rfl
    · exact ⟨C0, PySem.W.mg_of X G o0, kit_no sD i0 y0 r0⟩
    · exact ⟨C1, PySem.W.mg_of X G o1, kit_no sD i1 y1 r1⟩
    · exact ⟨C2, PySem.W.mg_of X G o2, kit_no sD i2 y2 r2⟩
    · exact ⟨C3, PySem.W.mg_of X G o3, kit_no sD i3 y3 r3⟩
    · exact ⟨C4, PySem.W.mg_of X G o4, kit_no sD i4 y4 r4⟩
    · exact ⟨C5, PySem.W.mg_of X G o5, kit_no sD i5 y5 r5⟩
    · exact ⟨C6, PySem.W.mg_of X G o6, kit_no sD i6 y6 r6⟩
    · exact ⟨C7, PySem.W.mg_of X G o7, kit_no sD i7 y7 r7⟩
    · exact ⟨C8, PySem.W.mg_of X G o8, kit_no sD i8 y8 r8⟩
    · exact ⟨C9, PySem.W.mg_of X G o9, kit_no sD i9 y9 r9⟩
    · exact ⟨C10, PySem.W.mg_of X G o10, kit_no sD i10 y10 r10⟩
    · exact ⟨C11, PySem.W.mg_of X G o11, kit_no sD i11 y11 r11⟩
    · exact ⟨C12, PySem.W.mg_of X G o12, kit_no sD i12 y12 r12⟩
    · exact ⟨C13, PySem.W.mg_of X G o13, kit_no sD i13 y13 r13⟩
    · exact ⟨C14, PySem.W.mg_of X G o14, kit_no sD i14 y14 r14⟩
  have FK := fun_mk (st := s_l_kind) lK cK kK
  have bK := FK.binds (ps := ["_law_e"]) fun _ _ _ _ _ _ us hl => match us, hl with | [_], _ => rfl
  have FE : FnE l.prog w K mg base 1 fK _ ["_law_e"] (spErr CD 0) := kind_ok FK ⟨e1, e2, bX, e4, e5, e6, e7, e8⟩ (bok _ (by simp [blts])) (PySem.W.mg_none_of X G zV) (kit_ty sV) ⟨CD, PySem.W.mg_of X G aX, kit_yes iD tX sD⟩ ⟨CA, PySem.W.mg_of X G aA, kit_yes iA tA sA⟩ cs
  have eA := PySem.W.exm_ref bA hA tA sA
  have t1 : GOk l.prog w K mg base [g0] 1 := GOk.snoc t0 (d0 F0 t0 bok xok) (PySem.W.mg_of X G a0) k0 b0
  have t2 : GOk l.prog w K mg base [g0, g1] 2 := GOk.snoc t1 (d1 F1 t1 bok xok) (PySem.W.mg_of X G a1) k1 b1
  have t3 : GOk l.prog w K mg base [g0, g1, g2] 3 := GOk.snoc t2 (d2 F2 t2 bok xok) (PySem.W.mg_of X G a2) k2 b2
  have t4 : GOk l.prog w K mg base [g0, g1, g2, g3] 4 := GOk.snoc t3 (d3 F3 t3 bok xok) (PySem.W.mg_of X G a3) k3 b3
  have t5 : GOk l.prog w K mg base [g0, g1, g2, g3, g4] 5 := GOk.snoc t4 (d4 F4 t4 bok xok) (PySem.W.mg_of X G a4) k4 b4
  have t6 : GOk l.prog w K mg base [g0, g1, g2, g3, g4, g5] 6 := GOk.snoc t5 (d5 F5 t5 bok xok) (PySem.W.mg_of X G a5) k5 b5
  have t7 : GOk l.prog w K mg base [g0, g1, g2, g3, g4, g5, g6] 7 := GOk.snoc t6 (d6 F6 t6 bok xok) (PySem.W.mg_of X G a6) k6 b6
  have t8 : GOk l.prog w K mg base [g0, g1, g2, g3, g4, g5, g6, g7] 8 := GOk.snoc t7 (d7 F7 t7 bok xok) (PySem.W.mg_of X G a7) k7 b7
  have t9 : GOk l.prog w K mg base [g0, g1, g2, g3, g4, g5, g6, g7, g8] 9 := GOk.snoc t8 ((d7 F7 t7 bok xok).mono (by decide)) (PySem.W.mg_of X G a7) k7 b7
  have t10 : GOk l.prog w K mg base [g0, g1, g2, g3, g4, g5, g6, g7, g8, g9] 10 := GOk.snoc t9 (d9 F9 FE (PySem.W.mg_of X G aX) (PySem.W.mg_of X G aA) eA (PySem.W.mg_of X G aK) kK bK t9 bok xok) (PySem.W.mg_of X G a9) k9 b9
  have t11 : GOk l.prog w K mg base [g0, g1, g2, g3, g4, g5, g6, g7, g8, g9, g10] 11 := GOk.snoc t10 (d10 F10 t10 bok xok) (PySem.W.mg_of X G a10) k10 b10
  have t12 : GOk l.prog w K mg base [g0, g1, g2, g3, g4, g5, g6, g7, g8, g9, g10, g11] 12 := GOk.snoc t11 (d11 F11 t11 bok xok) (PySem.W.mg_of X G a11) k11 b11
  exact (d12 F12 t12 bok xok).imp fun vs H Q E q => law_imp rfl rfl rfl law_at vs H Q E q
theorem walk {l : PySem.W.OpenLaw} {q : Program} {loose : List Str} {XP : (Str → Option Value) → Heap → Prop} {YP : World → Heap → Prop} {d : DefRec} {K : Params → PySem.W.Frag} (hn : l.most = some 63) (hdf : d.params.defaults = [])
    (hY : ∀ (w : World) (h : Heap), YP w h → (K w.params).In h)
    (F : ∀ (w : World) (mg : Str → Option Value) (fa : Addr) (h : Heap), (K w.params).In h → h.Ns mainGlobals mg → mg d.name = some (.ref fa) →
      ∃ fd : FuncData, (∀ (s : Shared) (u : Value), BindsTo s fd ⟨[u], []⟩ [("_law_script", u)]) ∧ ∀ base : Heap, (K w.params).In base → base.Ns mainGlobals mg → FnOk l.prog w (K w.params) mg base (L2N.CX l.prog w) 13 fa fd ["_law_script"] (lawSp (K w.params))) :
    PySem.W.WalkO q loose XP YP l.row.toRowW d [] (fun f vs => PySem.call f vs) :=
  L2.walk_ofB (n := 63) (k := 13) (x := "_law_script") (CX := fun w => L2N.CX l.prog w) (sp := fun w => lawSp (K w.params)) hn (by decide) hdf ⟨rfl, by decide, by decide⟩ hY F (fun _ H a ns hl hb hO hS => ⟨a, ns, rfl, hl, hb, hO, hS, fun _ => rfl⟩) (fun _ _ _ _ _ z => cx_no z)
end K02

open PySem PySem.W PyProof.Rows in
set_option maxRecDepth 100000 in
set_option maxHeartbeats 0 in
theorem PySem.Challenge.cw_turnalgebra_k02_fractions_refused_holds : PySem.Challenge.rw_turnalgebra_k02_fractions_refused.Holds := by
  w_on; o_law; k_head; (case hw => w_witness2)
  k_fill
  refine K02.walk (l := PySem.Challenge.rw_turnalgebra_k02_fractions_refused) rfl rfl (fun w h Y => PySem.W.kIn_of Y) ?F
  case F =>
    intro w mg fa h KX G hmg
    refine' K02.all_mk KX G hmg ?a0 ?l0 ?c0 ?k0 ?a1 ?l1 ?c1 ?k1 ?a2 ?l2 ?c2 ?k2 ?a3 ?l3 ?c3 ?k3 ?a4 ?l4 ?c4 ?k4 ?a5 ?l5 ?c5 ?k5 ?a6 ?l6 ?c6 ?k6 ?a7 ?l7 ?c7 ?k7 ?a9 ?l9 ?c9 ?k9 ?a10 ?l10 ?c10 ?k10 ?a11 ?l11 ?c11 ?k11 ?a12 ?l12 ?c12 ?k12 ?aX ?xX ?kX ?bX ?tX ?aA ?bA ?hA ?tA ?sA ?e1 ?e2 ?e4 ?e5 ?e6 ?e7 ?e8 ?iD ?sD ?iA ?sV ?zV ?aK ?lK ?cK ?kK ?o0 ?i0 ?y0 ?r0 ?o1 ?i1 ?y1 ?r1 ?o2 ?i2 ?y2 ?r2 ?o3 ?i3 ?y3 ?r3 ?o4 ?i4 ?y4 ?r4 ?o5 ?i5 ?y5 ?r5 ?o6 ?i6 ?y6 ?r6 ?o7 ?i7 ?y7 ?r7 ?o8 ?i8 ?y8 ?r8 ?o9 ?i9 ?y9 ?r9 ?o10 ?i10 ?y10 ?r10 ?o11 ?i11 ?y11 ?r11 ?o12 ?i12 ?y12 ?r12 ?o13 ?i13 ?y13 ?r13 ?o14 ?i14 ?y14 ?r14 ?z0 ?z1 ?z2 ?z3 ?z4 ?z5 ?z6 ?z7 ?z8 ?z9 ?z10
    (case a0 => k_is)
    (case l0 => k_is)
    (case c0 => k_is)
    (case k0 => k_is)
    (case a1 => k_is)
    (case l1 => k_is)
    (case c1 => k_is)
    (case k1 => k_is)
    (case a2 => k_is)
    (case l2 => k_is)
    (case c2 => k_is)
    (case k2 => k_is)
    (case a3 => k_is)
    (case l3 => k_is)
    (case c3 => k_is)
    (case k3 => k_is)
    (case a4 => k_is)
    (case l4 => k_is)
    (case c4 => k_is)
    (case k4 => k_is)
    (case a5 => k_is)
    (case l5 => k_is)
    (case c5 => k_is)
    (case k5 => k_is)
    (case a6 => k_is)
    (case l6 => k_is)
    (case c6 => k_is)
    (case k6 => k_is)
    (case a7 => k_is)
    (case l7 => k_is)
    (case c7 => k_is)
    (case k7 => k_is)
    (case a9 => k_is)
    (case l9 => k_is)
    (case c9 => k_is)
    (case k9 => k_is)
    (case a10 => k_is)
    (case l10 => k_is)
    (case c10 => k_is)
    (case k10 => k_is)
    (case a11 => k_is)
    (case l11 => k_is)
    (case c11 => k_is)
    (case k11 => k_is)
    (case a12 => k_is)
    (case l12 => k_is)
    (case c12 => k_is)
    (case k12 => k_is)
    (case aX => k_is)
    (case xX => k_exc)
    (case kX => k_is)
    (case bX => k_is)
    (case tX => k_is)
    (case aA => k_is)
    (case bA => k_is)
    (case hA => k_is)
    (case tA => k_is)
    (case sA => k_is)
    (case e1 => k_is)
    (case e2 => k_is)
    (case e4 => k_is)
    (case e5 => k_is)
    (case e6 => k_is)
    (case e7 => k_is)
    (case e8 => k_is)
    (case iD => k_is)
    (case sD => k_is)
    (case iA => k_is)
    (case sV => k_is)
    (case zV => k_is)
    (case aK => k_is)
    (case lK => k_is)
    (case cK => k_is)
    (case kK => k_is)
    (case o0 => k_is)
    (case i0 => k_is)
    (case y0 => k_is)
    (case r0 => k_is)
    (case o1 => k_is)
    (case i1 => k_is)
    (case y1 => k_is)
    (case r1 => k_is)
    (case o2 => k_is)
    (case i2 => k_is)
    (case y2 => k_is)
    (case r2 => k_is)
    (case o3 => k_is)
    (case i3 => k_is)
    (case y3 => k_is)
    (case r3 => k_is)
    (case o4 => k_is)
    (case i4 => k_is)
    (case y4 => k_is)
    (case r4 => k_is)
    (case o5 => k_is)
    (case i5 => k_is)
    (case y5 => k_is)
    (case r5 => k_is)
    (case o6 => k_is)
    (case i6 => k_is)
    (case y6 => k_is)
    (case r6 => k_is)
    (case o7 => k_is)
    (case i7 => k_is)
    (case y7 => k_is)
    (case r7 => k_is)
    (case o8 => k_is)
    (case i8 => k_is)
    (case y8 => k_is)
    (case r8 => k_is)
    (case o9 => k_is)
    (case i9 => k_is)
    (case y9 => k_is)
    (case r9 => k_is)
    (case o10 => k_is)
    (case i10 => k_is)
    (case y10 => k_is)
    (case r10 => k_is)
    (case o11 => k_is)
    (case i11 => k_is)
    (case y11 => k_is)
    (case r11 => k_is)
    (case o12 => k_is)
    (case i12 => k_is)
    (case y12 => k_is)
    (case r12 => k_is)
    (case o13 => k_is)
    (case i13 => k_is)
    (case y13 => k_is)
    (case r13 => k_is)
    (case o14 => k_is)
    (case i14 => k_is)
    (case y14 => k_is)
    (case r14 => k_is)
    (case z0 => k_is)
    (case z1 => k_is)
    (case z2 => k_is)
    (case z3 => k_is)
    (case z4 => k_is)
    (case z5 => k_is)
    (case z6 => k_is)
    (case z7 => k_is)
    (case z8 => k_is)
    (case z9 => k_is)
    (case z10 => k_is)
