import PyProof.Rows.All
import HandS.ForMost
import HandS.Zip
import HandS.Wide
import HandS.EndBits
import HandS.IsInst
import HandS.Exc
import HandS.TupAny
import HandS.TupLe
import HandS.TupMul
import HandS.Style
import HandS.FStr
import HandS.Text
import HandS.NoneIn
import HandS.SortKw
import PySem.Challenge.RW_fewmirrors_k04_rows_and_tables
set_option Elab.async false
set_option linter.all false
set_option maxRecDepth 100000
set_option maxHeartbeats 0
namespace DD
open PySem PySem.Spec L2
open PyProof.Rows hiding St

inductive D where
  | non
  | bl (b : Bool)
  | int (i : Int)
  | str (x : Str)
  | tup (l : List D)
  | lst (l : List D)
  | fz (l : List D)
  | ins (c : Str) (ks : List Str) (l : List D)

/-- v: frozen data; m: a list of one's own; mi: an instance of one's own -/
inductive A where
  | v (d : D)
  | m (l : List A)
  | mi (c : Str) (ks : List Str) (l : List A)

mutual
def A.frz : A → D
  | .v d => d
  | .m l => .lst (frzs l)
  | .mi c ks l => .ins c ks (frzs l)
def frzs : List A → List D
  | [] => []
  | a :: l => a.frz :: frzs l
end
theorem frzs_eq : ∀ l : List A, frzs l = l.map A.frz
  | [] => rfl
  | a :: l => by rw [frzs, frzs_eq l]; rfl
theorem frzs_v : ∀ l : List D, frzs (l.map A.v) = l
  | [] => rfl
  | a :: l => by rw [List.map_cons, frzs, frzs_v l]; rfl

section
variable (K : PySem.W.Frag) (mg : Str → Option Value)
mutual
inductive RepD (Z : Hp) : V → D → Prop
  | non : RepD Z .non .non
  | bl (b : Bool) : RepD Z (.bl b) (.bl b)
  | int (i : Int) : RepD Z (.int i) (.int i)
  | str (x : Str) : RepD Z (.str x) (.str x)
  | tup {a : Addr} {vs : List V} {ds : List D} : SqT K Z a vs → RepDs Z vs ds → RepD Z (.ref a) (.tup ds)
  | lst {a : Addr} {vs : List V} {ds : List D} : Z a = some (.lst vs) → RepDs Z vs ds → RepD Z (.ref a) (.lst ds)
  | fz {a : Addr} {vs : List V} {ds : List D} : SqL K Z a vs → RepDs Z vs ds → RepD Z (.ref a) (.fz ds)
  | ins {a C dx : Addr} {c : Str} {ws : List (Str × V)} {ds : List D} : mg c = some (.ref C) → Z a = some (.ins C dx ws) → RepDs Z (ws.map (·.2)) ds → RepD Z (.ref a) (.ins c (ws.map (·.1)) ds)
inductive RepDs (Z : Hp) : List V → List D → Prop
  | nil : RepDs Z [] []
  | cons {x : V} {xs : List V} {d : D} {ds : List D} : RepD Z x d → RepDs Z xs ds → RepDs Z (x :: xs) (d :: ds)
end
mutual
inductive RepA (Z H : Hp) : V → A → List Addr → Prop
  | v {x : V} {d : D} : RepD K mg Z x d → RepA Z H x (.v d) []
  | m {a : Addr} {vs : List V} {l : List A} {fp : List Addr} : H a = some (.lst vs) → RepAs Z H vs l fp → RepA Z H (.ref a) (.m l) (a :: fp)
  | mi {a C dx : Addr} {c : Str} {ws : List (Str × V)} {l : List A} {fp : List Addr} : mg c = some (.ref C) → H a = some (.ins C dx ws) → RepAs Z H (ws.map (·.2)) l fp →
      RepA Z H (.ref a) (.mi c (ws.map (·.1)) l) (a :: fp)
inductive RepAs (Z H : Hp) : List V → List A → List Addr → Prop
  | nil : RepAs Z H [] [] []
  | cons {x : V} {xs : List V} {a : A} {as : List A} {f g : List Addr} : RepA Z H x a f → RepAs Z H xs as g → RepAs Z H (x :: xs) (a :: as) (f ++ g)
end
end

section
variable {K : PySem.W.Frag} {mg : Str → Option Value} {Z Z' H H' : Hp}

theorem sameT {a : Addr} {xs : List V} (e : Same Z Z') (h : SqT K Z a xs) : SqT K Z' a xs := by
  rcases h with (h | ⟨o, h⟩) | h
  · exact .inl (.inl (e _ _ h))
  · exact .inl (.inr ⟨o, e _ _ h⟩)
  · exact .inr h

mutual
theorem RepD.mono (e : Same Z Z') : ∀ (d : D) (x : V), RepD K mg Z x d → RepD K mg Z' x d
  | .non, _, h => by cases h; exact .non
  | .bl _, _, h => by cases h; exact .bl _
  | .int _, _, h => by cases h; exact .int _
  | .str _, _, h => by cases h; exact .str _
  | .tup l, _, h => by
    cases h with
    | tup h1 h2 => exact .tup (sameT e h1) (RepDs.mono e l _ h2)
  | .lst l, _, h => by
    cases h with
    | lst h1 h2 => exact .lst (e _ _ h1) (RepDs.mono e l _ h2)
  | .fz l, _, h => by
    cases h with
    | fz h1 h2 => exact .fz (e.seq h1) (RepDs.mono e l _ h2)
  | .ins c ks l, _, h => by
    cases h with
    | ins h1 h2 h3 => exact .ins h1 (e _ _ h2) (RepDs.mono e l _ h3)
theorem RepDs.mono (e : Same Z Z') : ∀ (ds : List D) (xs : List V), RepDs K mg Z xs ds → RepDs K mg Z' xs ds
  | [], _, h => by cases h; exact .nil
  | d :: ds, _, h => by
    cases h with
    | cons h1 h2 => exact .cons (RepD.mono e d _ h1) (RepDs.mono e ds _ h2)
end

mutual
theorem RepA.mono (e : Same Z Z') : ∀ (a : A) (x : V) (fp : List Addr), (∀ b ∈ fp, H' b = H b) → RepA K mg Z H x a fp → RepA K mg Z' H' x a fp
  | .v d, _, _, _, h => by
    cases h with
    | v h => exact .v (RepD.mono e d _ h)
  | .m l, _, _, k, h => by
    cases h with
    | m h1 h2 => exact .m ((k _ List.mem_cons_self).trans h1) (RepAs.mono e l _ _ (fun b hb => k b (List.mem_cons_of_mem _ hb)) h2)
  | .mi c ks l, _, _, k, h => by
    cases h with
    | mi h1 h2 h3 => exact .mi h1 ((k _ List.mem_cons_self).trans h2) (RepAs.mono e l _ _ (fun b hb => k b (List.mem_cons_of_mem _ hb)) h3)
theorem RepAs.mono (e : Same Z Z') : ∀ (l : List A) (xs : List V) (fp : List Addr), (∀ b ∈ fp, H' b = H b) → RepAs K mg Z H xs l fp → RepAs K mg Z' H' xs l fp
  | [], _, _, _, h => by cases h; exact .nil
  | a :: l, _, _, k, h => by
    cases h with
    | cons h1 h2 => exact .cons (RepA.mono e a _ _ (fun b hb => k b (List.mem_append_left _ hb)) h1) (RepAs.mono e l _ _ (fun b hb => k b (List.mem_append_right _ hb)) h2)
end

mutual
theorem RepA.freeze (e : Same Z Z') : ∀ (a : A) (x : V) (fp : List Addr), (∀ b ∈ fp, Z' b = H b) → RepA K mg Z H x a fp → RepD K mg Z' x a.frz
  | .v d, _, _, _, h => by
    cases h with
    | v h => exact RepD.mono e d _ h
  | .m l, _, _, k, h => by
    cases h with
    | m h1 h2 => exact .lst ((k _ List.mem_cons_self).trans h1) (RepAs.freeze e l _ _ (fun b hb => k b (List.mem_cons_of_mem _ hb)) h2)
  | .mi c ks l, _, _, k, h => by
    cases h with
    | mi h1 h2 h3 => exact .ins h1 ((k _ List.mem_cons_self).trans h2) (RepAs.freeze e l _ _ (fun b hb => k b (List.mem_cons_of_mem _ hb)) h3)
theorem RepAs.freeze (e : Same Z Z') : ∀ (l : List A) (xs : List V) (fp : List Addr), (∀ b ∈ fp, Z' b = H b) → RepAs K mg Z H xs l fp → RepDs K mg Z' xs (frzs l)
  | [], _, _, _, h => by cases h; exact .nil
  | a :: l, _, _, k, h => by
    cases h with
    | cons h1 h2 => exact .cons (RepA.freeze e a _ _ (fun b hb => k b (List.mem_append_left _ hb)) h1) (RepAs.freeze e l _ _ (fun b hb => k b (List.mem_append_right _ hb)) h2)
end

mutual
theorem RepA.there : ∀ (a : A) (x : V) (fp : List Addr), RepA K mg Z H x a fp → ∀ b ∈ fp, ∃ o, H b = some o
  | .v d, _, _, h, b, hb => by
    cases h with
    | v h => cases hb
  | .m l, _, _, h, b, hb => by
    cases h with
    | m h1 h2 =>
      rcases List.mem_cons.mp hb with e | hb
      · exact e ▸ ⟨_, h1⟩
      · exact RepAs.there l _ _ h2 b hb
  | .mi c ks l, _, _, h, b, hb => by
    cases h with
    | mi h1 h2 h3 =>
      rcases List.mem_cons.mp hb with e | hb
      · exact e ▸ ⟨_, h2⟩
      · exact RepAs.there l _ _ h3 b hb
theorem RepAs.there : ∀ (l : List A) (xs : List V) (fp : List Addr), RepAs K mg Z H xs l fp → ∀ b ∈ fp, ∃ o, H b = some o
  | [], _, _, h, b, hb => by cases h; cases hb
  | a :: l, _, _, h, b, hb => by
    cases h with
    | cons h1 h2 =>
      rcases List.mem_append.mp hb with hb | hb
      · exact RepA.there a _ _ h1 b hb
      · exact RepAs.there l _ _ h2 b hb
end

theorem RepDs.length : ∀ {xs : List V} {ds : List D}, RepDs K mg Z xs ds → xs.length = ds.length
  | [], _, h => by cases h; rfl
  | _ :: xs, _, h => by
    cases h with
    | cons _ h => simp [RepDs.length h]
theorem RepAs.length : ∀ {xs : List V} {l : List A} {fp : List Addr}, RepAs K mg Z H xs l fp → xs.length = l.length
  | [], _, _, h => by cases h; rfl
  | _ :: xs, _, _, h => by
    cases h with
    | cons _ h => simp [RepAs.length h]
theorem RepDs.get : ∀ {xs : List V} {ds : List D} {i : Nat} {d : D}, RepDs K mg Z xs ds → ds[i]? = some d → ∃ x, xs[i]? = some x ∧ RepD K mg Z x d
  | [], _, _, _, h, e => by cases h; simp at e
  | x :: xs, _, 0, _, h, e => by
    cases h with
    | cons h1 h2 => simp at e; subst e; exact ⟨_, rfl, h1⟩
  | x :: xs, _, i + 1, _, h, e => by
    cases h with
    | cons h1 h2 =>
      obtain ⟨y, h3, h4⟩ := RepDs.get (i := i) h2 (by simpa using e)
      exact ⟨y, by simpa using h3, h4⟩
theorem RepDs.get' : ∀ {xs : List V} {ds : List D} {i : Nat} {x : V}, RepDs K mg Z xs ds → xs[i]? = some x → ∃ d, ds[i]? = some d ∧ RepD K mg Z x d
  | [], _, _, _, h, e => by simp at e
  | x :: xs, _, 0, _, h, e => by
    cases h with
    | cons h1 h2 => simp at e; subst e; exact ⟨_, rfl, h1⟩
  | x :: xs, _, i + 1, _, h, e => by
    cases h with
    | cons h1 h2 =>
      obtain ⟨y, h3, h4⟩ := RepDs.get' (i := i) h2 (by simpa using e)
      exact ⟨y, by simpa using h3, h4⟩
theorem RepDs.append : ∀ {xs ys : List V} {ds es : List D}, RepDs K mg Z xs ds → RepDs K mg Z ys es → RepDs K mg Z (xs ++ ys) (ds ++ es)
  | [], _, _, _, h, g => by cases h; exact g
  | x :: xs, _, _, _, h, g => by
    cases h with
    | cons h1 h2 => exact .cons h1 (RepDs.append h2 g)
theorem RepDs.take : ∀ {xs : List V} {ds : List D} (n : Nat), RepDs K mg Z xs ds → RepDs K mg Z (xs.take n) (ds.take n)
  | _, _, 0, _ => .nil
  | [], _, _ + 1, h => by cases h; exact .nil
  | x :: xs, _, n + 1, h => by
    cases h with
    | cons h1 h2 => exact .cons h1 (RepDs.take n h2)
theorem RepDs.drop : ∀ {xs : List V} {ds : List D} (n : Nat), RepDs K mg Z xs ds → RepDs K mg Z (xs.drop n) (ds.drop n)
  | _, _, 0, h => h
  | [], _, _ + 1, h => by cases h; exact .nil
  | x :: xs, _, n + 1, h => by
    cases h with
    | cons h1 h2 => exact RepDs.drop n h2
theorem RepDs.reverse : ∀ {xs : List V} {ds : List D}, RepDs K mg Z xs ds → RepDs K mg Z xs.reverse ds.reverse
  | [], _, h => by cases h; exact .nil
  | x :: xs, _, h => by
    cases h with
    | cons h1 h2 =>
      rw [List.reverse_cons, List.reverse_cons]
      exact RepDs.append (RepDs.reverse h2) (.cons h1 .nil)
/-- frozen data as a list of A -/
theorem RepDs.toA : ∀ {xs : List V} {ds : List D}, RepDs K mg Z xs ds → RepAs K mg Z H xs (ds.map A.v) []
  | [], _, h => by cases h; exact .nil
  | x :: xs, _, h => by
    cases h with
    | cons h1 h2 =>
      have q := RepAs.cons (H := H) (.v h1) (RepDs.toA h2)
      exact q
theorem RepAs.append : ∀ {xs ys : List V} {l k : List A} {f g : List Addr}, RepAs K mg Z H xs l f → RepAs K mg Z H ys k g → RepAs K mg Z H (xs ++ ys) (l ++ k) (f ++ g)
  | [], _, _, _, _, _, h, g => by cases h; exact g
  | x :: xs, _, _, _, _, _, h, g => by
    cases h with
    | cons h1 h2 =>
      rw [List.append_assoc]
      exact .cons h1 (RepAs.append h2 g)
/-- an element and what is left of the list when it is put otherwise, taken out -/
theorem RepAs.at : ∀ {xs : List V} {l : List A} {f : List Addr} {i : Nat} {a : A}, RepAs K mg Z H xs l f → l[i]? = some a →
    ∃ x fa, xs[i]? = some x ∧ RepA K mg Z H x a fa ∧ (∃ g, RepAs K mg Z H (xs.eraseIdx i) (l.eraseIdx i) g ∧ ∀ y, g.count y + fa.count y = f.count y) ∧
      ∀ {y : V} {c : A} {fc : List Addr}, RepA K mg Z H y c fc → ∃ g, RepAs K mg Z H (xs.set i y) (l.set i c) g ∧ ∀ z, g.count z + fa.count z = f.count z + fc.count z
  | [], _, _, _, _, h, e => by cases h; simp at e
  | x :: xs, _, _, 0, _, h, e => by
    cases h with
    | @cons _ _ a as fa g h1 h2 =>
      simp at e; subst e
      refine ⟨x, fa, rfl, h1, ⟨g, h2, fun y => by rw [List.count_append]; omega⟩, fun {y c fc} hc => ⟨fc ++ g, .cons hc h2, fun z => by rw [List.count_append, List.count_append]; omega⟩⟩
  | x :: xs, _, _, i + 1, _, h, e => by
    cases h with
    | @cons _ _ a0 as f0 g0 h1 h2 =>
      obtain ⟨y, fa, e1, r, ⟨g, r2, e2⟩, r3⟩ := RepAs.at (i := i) h2 (by simpa using e)
      refine ⟨y, fa, by simpa using e1, r, ⟨f0 ++ g, ?_, fun z => ?_⟩, fun {y c fc} hc => ?_⟩
      · exact .cons h1 r2
      · have := e2 z; rw [List.count_append, List.count_append]; omega
      · obtain ⟨g', r4, e4⟩ := r3 hc
        refine ⟨f0 ++ g', .cons h1 r4, fun z => ?_⟩
        have := e4 z
        rw [List.count_append, List.count_append]; omega
end

abbrev DEnv := List (Option A)
section
variable (K : PySem.W.Frag) (mg : Str → Option Value)
inductive SRep (P : Nat → Addr → Prop) (Z H : Hp) : Nat → St → DEnv → List Addr → Prop
  | nil {n : Nat} : SRep P Z H n [] [] []
  | no {n : Nat} {s : Option V} {σ : St} {ρ : DEnv} {f : List Addr} : SRep P Z H (n + 1) σ ρ f → SRep P Z H n (s :: σ) (none :: ρ) f
  | so {n : Nat} {x : V} {a : A} {σ : St} {ρ : DEnv} {f g : List Addr} : RepA K mg Z H x a f → (∀ b ∈ f, P n b) → SRep P Z H (n + 1) σ ρ g → SRep P Z H n (some x :: σ) (some a :: ρ) (f ++ g)
end
section
variable {K : PySem.W.Frag} {mg : Str → Option Value} {P P' : Nat → Addr → Prop} {Z Z' H H' : Hp}
theorem SRep.length : ∀ {σ : St} {n : Nat} {ρ : DEnv} {f : List Addr}, SRep K mg P Z H n σ ρ f → σ.length = ρ.length
  | [], _, _, _, h => by cases h; rfl
  | _ :: σ, _, _, _, h => by
    cases h with
    | no h => simp [SRep.length h]
    | so _ _ h => simp [SRep.length h]
theorem SRep.mono (e : Same Z Z') : ∀ {σ : St} {n : Nat} {ρ : DEnv} {f : List Addr}, (∀ b ∈ f, H' b = H b) → (∀ n, ∀ b ∈ f, P n b → P' n b) → SRep K mg P Z H n σ ρ f → SRep K mg P' Z' H' n σ ρ f
  | [], _, _, _, _, _, h => by cases h; exact .nil
  | _ :: σ, _, _, _, k, p, h => by
    cases h with
    | no h => exact .no (SRep.mono e k p h)
    | so h1 h2 h3 =>
      exact .so (RepA.mono e _ _ _ (fun b hb => k b (List.mem_append_left _ hb)) h1) (fun b hb => p _ b (List.mem_append_left _ hb) (h2 b hb))
        (SRep.mono e (fun b hb => k b (List.mem_append_right _ hb)) (fun n b hb => p n b (List.mem_append_right _ hb)) h3)
theorem SRep.there : ∀ {σ : St} {n : Nat} {ρ : DEnv} {f : List Addr}, SRep K mg P Z H n σ ρ f → ∀ b ∈ f, ∃ o, H b = some o
  | [], _, _, _, h, b, hb => by cases h; cases hb
  | _ :: σ, _, _, _, h, b, hb => by
    cases h with
    | no h => exact SRep.there h b hb
    | so h1 h2 h3 =>
      rcases List.mem_append.mp hb with hb | hb
      · exact RepA.there _ _ _ h1 b hb
      · exact SRep.there h3 b hb
theorem SRep.p : ∀ {σ : St} {n : Nat} {ρ : DEnv} {f : List Addr}, SRep K mg P Z H n σ ρ f → ∀ b ∈ f, ∃ n, P n b
  | [], _, _, _, h, b, hb => by cases h; cases hb
  | _ :: σ, _, _, _, h, b, hb => by
    cases h with
    | no h => exact SRep.p h b hb
    | so h1 h2 h3 =>
      rcases List.mem_append.mp hb with hb | hb
      · exact ⟨_, h2 b hb⟩
      · exact SRep.p h3 b hb
/-- a slot is taken out -/
theorem SRep.out : ∀ {σ : St} {n : Nat} {ρ : DEnv} {f : List Addr} {i : Nat} {a : A}, SRep K mg P Z H n σ ρ f → ρ[i]? = some (some a) →
    ∃ x fa g, σ[i]? = some (some x) ∧ RepA K mg Z H x a fa ∧ (∀ b ∈ fa, P (n + i) b) ∧ SRep K mg P Z H n σ (ρ.set i none) g ∧ ∀ y, g.count y + fa.count y = f.count y
  | [], _, _, _, _, _, h, e => by cases h; simp at e
  | s :: σ, n, _, _, 0, _, h, e => by
    cases h with
    | no h => simp at e
    | @so _ x a0 _ _ f g h1 h2 h3 =>
      simp at e; subst e
      exact ⟨x, f, g, rfl, h1, h2, .no h3, fun y => by rw [List.count_append]; omega⟩
  | s :: σ, n, _, _, i + 1, _, h, e => by
    cases h with
    | no h =>
      obtain ⟨x, fa, g, e1, r, p, r2, e2⟩ := SRep.out (i := i) h (by simpa using e)
      exact ⟨x, fa, g, by simpa using e1, r, (by rw [← Nat.add_assoc, Nat.add_right_comm]; exact p), .no r2, e2⟩
    | @so _ x0 a0 _ _ f0 g0 h1 h2 h3 =>
      obtain ⟨x, fa, g, e1, r, p, r2, e2⟩ := SRep.out (i := i) h3 (by simpa using e)
      refine ⟨x, fa, f0 ++ g, by simpa using e1, r, (by rw [← Nat.add_assoc, Nat.add_right_comm]; exact p), .so h1 h2 r2, fun y => ?_⟩
      have := e2 y
      rw [List.count_append, List.count_append]; omega
/-- a slot is stored -/
theorem SRep.into : ∀ {σ : St} {n : Nat} {ρ : DEnv} {f : List Addr} {i : Nat} {a : A} {x : V} {fa : List Addr}, SRep K mg P Z H n σ ρ f → i < σ.length → RepA K mg Z H x a fa → (∀ b ∈ fa, P (n + i) b) →
    ∃ g, SRep K mg P Z H n (σ.set i (some x)) (ρ.set i (some a)) g ∧ ∀ y, g.count y ≤ f.count y + fa.count y
  | [], _, _, _, _, _, _, _, h, e, _, _ => by simp at e
  | s :: σ, n, _, _, 0, a, x, fa, h, e, r, p => by
    cases h with
    | @no _ _ _ _ f h => exact ⟨_, .so r p h, fun y => by rw [List.count_append]; omega⟩
    | @so _ x0 a0 _ _ f g h1 h2 h3 => exact ⟨fa ++ g, .so r p h3, fun y => by rw [List.count_append, List.count_append]; omega⟩
  | s :: σ, n, _, _, i + 1, a, x, fa, h, e, r, p => by
    have p' : ∀ b ∈ fa, P (n + 1 + i) b := by rw [Nat.add_right_comm, Nat.add_assoc]; exact p
    cases h with
    | no h =>
      obtain ⟨g, r2, e2⟩ := SRep.into (i := i) h (by simpa using e) r p'
      exact ⟨g, .no r2, e2⟩
    | @so _ x0 a0 _ _ f0 g0 h1 h2 h3 =>
      obtain ⟨g, r2, e2⟩ := SRep.into (i := i) h3 (by simpa using e) r p'
      refine ⟨f0 ++ g, .so h1 h2 r2, fun y => ?_⟩
      have := e2 y
      rw [List.count_append, List.count_append]; omega
theorem set_same {α : Type} : ∀ {l : List α} {i : Nat} {x : α}, l[i]? = some x → l.set i x = l
  | [], _, _, e => by simp at e
  | a :: l, 0, x, e => by simp at e; subst e; rfl
  | a :: l, i + 1, x, e => by rw [List.set_cons_succ, set_same (by simpa using e)]
/-- a slot is forgotten -/
theorem SRep.drop1 : ∀ {σ : St} {n : Nat} {ρ : DEnv} {f : List Addr} (i : Nat), SRep K mg P Z H n σ ρ f → ∃ g, SRep K mg P Z H n σ (ρ.set i none) g ∧ ∀ y, g.count y ≤ f.count y
  | [], _, _, _, _, h => by cases h; exact ⟨[], by simpa using .nil, fun _ => Nat.le_refl _⟩
  | s :: σ, n, _, _, 0, h => by
    cases h with
    | @no _ _ _ _ f h => exact ⟨_, .no h, fun _ => Nat.le_refl _⟩
    | @so _ x0 a0 _ _ f g h1 h2 h3 => exact ⟨g, .no h3, fun y => by rw [List.count_append]; omega⟩
  | s :: σ, n, _, _, i + 1, h => by
    cases h with
    | no h =>
      obtain ⟨g, r2, e2⟩ := SRep.drop1 i h
      exact ⟨g, .no r2, e2⟩
    | @so _ x0 a0 _ _ f0 g0 h1 h2 h3 =>
      obtain ⟨g, r2, e2⟩ := SRep.drop1 i h3
      refine ⟨f0 ++ g, .so h1 h2 r2, fun y => ?_⟩
      have := e2 y
      rw [List.count_append, List.count_append]; omega
/-- the slots' values forgotten by place: σ too -/
theorem SRep.wipe1 : ∀ {σ : St} {n : Nat} {ρ : DEnv} {f : List Addr} (i : Nat) (s : Option V), SRep K mg P Z H n σ ρ f → ∃ g, SRep K mg P Z H n (σ.set i s) (ρ.set i none) g ∧ ∀ y, g.count y ≤ f.count y
  | [], _, _, _, _, _, h => by cases h; exact ⟨[], by simpa using .nil, fun _ => Nat.le_refl _⟩
  | s :: σ, n, _, _, 0, _, h => by
    cases h with
    | @no _ _ _ _ f h => exact ⟨_, .no h, fun _ => Nat.le_refl _⟩
    | @so _ x0 a0 _ _ f g h1 h2 h3 => exact ⟨g, .no h3, fun y => by rw [List.count_append]; omega⟩
  | s :: σ, n, _, _, i + 1, s', h => by
    cases h with
    | no h =>
      obtain ⟨g, r2, e2⟩ := SRep.wipe1 i s' h
      exact ⟨g, .no r2, e2⟩
    | @so _ x0 a0 _ _ f0 g0 h1 h2 h3 =>
      obtain ⟨g, r2, e2⟩ := SRep.wipe1 i s' h3
      refine ⟨f0 ++ g, .so h1 h2 r2, fun y => ?_⟩
      have := e2 y
      rw [List.count_append, List.count_append]; omega
end

/-- what stood at the entry: the frozen part, the heap, the addresses lent by the caller, how many parameters -/
structure Base where
  Z : Hp
  H : Hp
  fp : Nat → Addr → Prop
  pn : List Nat
  σ0 : St
/-- an address of the i-th slot: lent, or made since the entry -/
def Base.Own (b : Base) (i : Nat) (a : Addr) : Prop := b.fp i a ∨ b.H a = none
structure Sta (K : PySem.W.Frag) (mg : Str → Option Value) (b : Base) (Z H : Hp) (σ : St) (ρ : DEnv) (vs : List V) (as : List A) : Prop where
  zz : Same b.Z Z
  zh : Same Z H
  kz : ∀ a, b.H a ≠ none → Z a = b.Z a
  kh : ∀ a o, b.H a = some o → (∀ i, ¬ b.fp i a) → H a = some o
  kd : ∀ a, b.H a ≠ none → H a ≠ none
  pin : ∀ i ∈ b.pn, σ[i]? = b.σ0[i]?
  lw : ∀ i a, b.fp i a → i ∈ b.pn
  rep : ∃ f g, SRep K mg b.Own Z H 0 σ ρ f ∧ RepAs K mg Z H vs as g ∧ (∀ y, f.count y + g.count y ≤ 1) ∧ (∀ a, a ∈ f ∨ a ∈ g → Z a = none) ∧ ∀ a ∈ g, b.H a = none
section
variable {K : PySem.W.Frag} {mg : Str → Option Value} {b : Base} {Z Z' H H' : Hp} {σ : St} {ρ : DEnv} {vs : List V} {as : List A} {x y : V} {a c : A} {d : D} {i : Nat}
theorem same_ne {H H' : Hp} (h : Same H H') {a : Addr} (n : H a ≠ none) : H' a ≠ none := by
  cases e : H a with
  | none => exact absurd e n
  | some o => rw [h a o e]; simp
theorem mem_count {f : List Addr} {y : Addr} (h : y ∈ f) : 0 < f.count y := List.count_pos_iff.mpr h
theorem count_mem {f : List Addr} {y : Addr} (h : 0 < f.count y) : y ∈ f := List.count_pos_iff.mp h
theorem Sta.len (S : Sta K mg b Z H σ ρ vs as) : σ.length = ρ.length := let ⟨_, _, h, _⟩ := S.rep; h.length
theorem Sta.push (S : Sta K mg b Z H σ ρ vs as) (r : RepD K mg Z x d) : Sta K mg b Z H σ ρ (x :: vs) (.v d :: as) := by
  obtain ⟨f, g, h1, h2, h3⟩ := S.rep
  exact ⟨S.zz, S.zh, S.kz, S.kh, S.kd, S.pin, S.lw, f, [] ++ g, h1, .cons (.v r) h2, h3⟩
theorem Sta.pop (S : Sta K mg b Z H σ ρ (x :: vs) (a :: as)) : Sta K mg b Z H σ ρ vs as := by
  obtain ⟨f, g, h1, h2, h3, h4, h5⟩ := S.rep
  cases h2 with
  | @cons _ _ _ _ f0 g0 r1 r2 =>
    refine ⟨S.zz, S.zh, S.kz, S.kh, S.kd, S.pin, S.lw, f, g0, h1, r2, fun y => ?_, fun a ha => h4 a ?_, fun a ha => h5 a (List.mem_append_right _ ha)⟩
    · have := h3 y; rw [List.count_append] at this; omega
    · exact ha.imp id fun z => List.mem_append_right _ z
theorem Sta.top (S : Sta K mg b Z H σ ρ (x :: vs) (.v d :: as)) : RepD K mg Z x d := by
  obtain ⟨f, g, h1, h2, _⟩ := S.rep
  cases h2 with
  | cons r1 r2 => cases r1 with
    | v r => exact r
theorem Sta.top2 (S : Sta K mg b Z H σ ρ (y :: x :: vs) (a :: .v d :: as)) : RepD K mg Z x d := S.pop.top
/-- the frozen part grows by new addresses, the heap by the same or more -/
theorem Sta.grow (S : Sta K mg b Z H σ ρ vs as) (z : Same Z Z') (zh : Same Z' H') (hh : Same H H') (nz : ∀ a, H a ≠ none → Z' a = Z a) (nb : ∀ a, b.H a ≠ none → Z' a = Z a) : Sta K mg b Z' H' σ ρ vs as := by
  obtain ⟨f, g, h1, h2, h3, h4, h5⟩ := S.rep
  have kf : ∀ y ∈ f, H' y = H y := fun y hy => by
    obtain ⟨o, e⟩ := h1.there y hy
    rw [e, hh _ _ e]
  have kg : ∀ y ∈ g, H' y = H y := fun y hy => by
    obtain ⟨o, e⟩ := RepAs.there _ _ _ h2 y hy
    rw [e, hh _ _ e]
  refine ⟨S.zz.trans z, zh, fun a ha => (nb a ha).trans (S.kz a ha), fun a o e ha => hh _ _ (S.kh a o e ha), fun a ha => same_ne hh (S.kd a ha), S.pin, S.lw, f, g, h1.mono z kf (fun _ _ _ p => p), RepAs.mono z _ _ _ kg h2, h3, fun a ha => ?_, h5⟩
  rw [nz a ?_]
  · exact h4 a ha
  · rcases ha with ha | ha
    · obtain ⟨o, e⟩ := h1.there a ha; rw [e]; simp
    · obtain ⟨o, e⟩ := RepAs.there _ _ _ h2 a ha; rw [e]; simp
theorem Sta.bnone (S : Sta K mg b Z H σ ρ vs as) {p : Addr} (hp : H p = none) : b.H p = none := by
  cases e : b.H p with
  | none => rfl
  | some o => exact absurd hp (S.kd p (by rw [e]; simp))
end
end DD

namespace DD
open PySem PySem.Spec L2
open PyProof.Rows hiding St
section
variable {K : PySem.W.Frag} {mg : Str → Option Value} {b : Base} {Z Z' H H' : Hp} {σ : St} {ρ : DEnv} {vs ws : List V} {as l : List A} {x y : V} {a c : A} {d : D} {i : Nat} {p : Addr} {o : HO}
theorem same_upd (hp : H p = none) : Same H (upd H p o) := fun q u e => by rw [upd_ne (ne_of_none e hp)]; exact e
theorem Same.none_of (z : Same Z H) (hp : H p = none) : Z p = none := z.free hp
/-- a new frozen object -/
theorem Sta.newF (S : Sta K mg b Z H σ ρ vs as) (hp : H p = none) (r : RepD K mg (upd Z p o) (.ref p) d) : Sta K mg b (upd Z p o) (upd H p o) σ ρ (.ref p :: vs) (.v d :: as) := by
  have zp : Z p = none := S.zh.free hp
  refine Sta.push (S.grow (same_upd zp) ?_ (same_upd hp) (fun q hq => upd_ne fun e => hq (e ▸ hp)) fun q hq => upd_ne fun e => hq (e ▸ S.bnone hp)) r
  intro q u e
  by_cases h : q = p
  · subst h; rw [upd_same] at e ⊢; exact e
  · rw [upd_ne h] at e ⊢; exact S.zh _ _ e
/-- a new object that is not tracked by the state (garbage) -/
theorem Sta.newG (S : Sta K mg b Z H σ ρ vs as) (hp : H p = none) : Sta K mg b Z (upd H p o) σ ρ vs as :=
  S.grow (Same.refl Z) (S.zh.trans (same_upd hp)) (same_upd hp) (fun _ _ => rfl) fun _ _ => rfl
theorem RepAs.split : ∀ {ws vs : List V} {l as : List A} {g : List Addr}, ws.length = l.length → RepAs K mg Z H (ws ++ vs) (l ++ as) g → ∃ f1 f2, g = f1 ++ f2 ∧ RepAs K mg Z H ws l f1 ∧ RepAs K mg Z H vs as f2
  | [], _, [], _, g, _, h => ⟨[], g, rfl, .nil, h⟩
  | [], _, _ :: _, _, _, e, _ => by simp at e
  | _ :: _, _, [], _, _, e, _ => by simp at e
  | w :: ws, vs, a :: l, as, _, e, h => by
    cases h with
    | @cons _ _ _ _ f g h1 h2 =>
      obtain ⟨f1, f2, e1, r1, r2⟩ := RepAs.split (by simpa using e) h2
      exact ⟨f ++ f1, f2, by rw [e1, List.append_assoc], .cons h1 r1, r2⟩
/-- a new list of one's own, of pending values -/
theorem Sta.newM (S : Sta K mg b Z H σ ρ (ws ++ vs) (l ++ as)) (hl : ws.length = l.length) (hp : H p = none) : Sta K mg b Z (upd H p (.lst ws)) σ ρ (.ref p :: vs) (.m l :: as) := by
  obtain ⟨f, g, h1, h2, h3, h4, h5⟩ := S.rep
  obtain ⟨g1, g2, e, r1, r2⟩ := h2.split hl
  have nf : ∀ q ∈ f, q ≠ p := fun q hq e => by
    obtain ⟨o, z⟩ := h1.there q hq
    rw [e, hp] at z; cases z
  have ng : ∀ q ∈ g, q ≠ p := fun q hq e => by
    obtain ⟨o, z⟩ := RepAs.there _ _ _ h2 q hq
    rw [e, hp] at z; cases z
  have zp : Z p = none := S.zh.free hp
  subst e
  refine ⟨S.zz, S.zh.trans (same_upd hp), S.kz, fun q o e hq => same_upd hp _ _ (S.kh q o e hq), fun q hq => same_ne (same_upd hp) (S.kd q hq), S.pin, S.lw, f, (p :: g1) ++ g2,
    h1.mono (Same.refl Z) (fun q hq => upd_ne (nf q hq)) (fun _ _ _ z => z), .cons (.m upd_same (RepAs.mono (Same.refl Z) _ _ _ (fun q hq => upd_ne (ng q (List.mem_append_left _ hq))) r1)) (RepAs.mono (Same.refl Z) _ _ _ (fun q hq => upd_ne (ng q (List.mem_append_right _ hq))) r2), fun y => ?_, fun q hq => ?_, fun q hq => ?_⟩
  · have := h3 y
    rw [List.count_append] at this ⊢
    by_cases e : y = p
    · have c1 : f.count y = 0 := List.count_eq_zero.mpr fun z => nf y z e
      have c2 : g1.count y = 0 := List.count_eq_zero.mpr fun z => ng y (List.mem_append_left _ z) e
      have c3 : g2.count y = 0 := List.count_eq_zero.mpr fun z => ng y (List.mem_append_right _ z) e
      have c4 := List.count_cons (a := y) (b := p) (l := g1)
      split at c4 <;> omega
    · rw [List.count_cons_of_ne (fun z => e z.symm)]
      omega
  · rcases hq with hq | hq
    · exact h4 q (.inl hq)
    · rcases List.mem_append.mp hq with hq | hq
      · rcases List.mem_cons.mp hq with e | hq
        · exact e ▸ zp
        · exact h4 q (.inr (List.mem_append_left _ hq))
      · exact h4 q (.inr (List.mem_append_right _ hq))
  · rcases List.mem_append.mp hq with hq | hq
    · rcases List.mem_cons.mp hq with e | hq
      · exact e ▸ S.bnone hp
      · exact h5 q (List.mem_append_left _ hq)
    · exact h5 q (List.mem_append_right _ hq)
/-- the top is frozen -/
theorem Sta.freeze (S : Sta K mg b Z H σ ρ (x :: vs) (a :: as)) : ∃ Z', Same Z Z' ∧ Sta K mg b Z' H σ ρ (x :: vs) (.v a.frz :: as) := by
  obtain ⟨f, g, h1, h2, h3, h4, h5⟩ := S.rep
  cases h2 with
  | @cons _ _ _ _ fa g0 r1 r2 =>
    have zs : Same Z (fun q => if q ∈ fa then H q else Z q) := fun q o e => by
      by_cases hq : q ∈ fa
      · rw [h4 q (.inr (List.mem_append_left _ hq))] at e; cases e
      · show (if q ∈ fa then H q else Z q) = some o
        rw [if_neg hq]; exact e
    refine ⟨fun q => if q ∈ fa then H q else Z q, zs, S.zz.trans zs, fun q o e => ?_, fun q hq => ?_, S.kh, S.kd, S.pin, S.lw, f, [] ++ g0, h1.mono zs (fun _ _ => rfl) (fun _ _ _ z => z), .cons (.v (RepA.freeze zs _ _ _ (fun q hq => if_pos hq) r1)) (RepAs.mono zs _ _ _ (fun _ _ => rfl) r2), fun y => ?_, fun q hq => ?_, fun q hq => h5 q (List.mem_append_right _ hq)⟩
    · have e : (if q ∈ fa then H q else Z q) = some o := e
      split at e
      · exact e
      · exact S.zh _ _ e
    · show (if q ∈ fa then H q else Z q) = b.Z q
      rw [if_neg fun z => hq (h5 q (List.mem_append_left _ z))]
      exact S.kz q hq
    · have := h3 y; rw [List.count_append] at this; rw [List.nil_append]; omega
    · show (if q ∈ fa then H q else Z q) = none
      have nq : q ∉ fa := fun z => by
        have c := h3 q
        rw [List.count_append] at c
        have c1 := mem_count z
        rcases hq with hq | hq
        · have := mem_count hq; omega
        · have := mem_count (f := g0) hq; omega
      rw [if_neg nq]
      exact h4 q (hq.imp id fun z => List.mem_append_right _ z)
/-- a slot that is frozen data is read -/
theorem SRep.get {P : Nat → Addr → Prop} : ∀ {σ : St} {n : Nat} {ρ : DEnv} {f : List Addr} {i : Nat} {d : D}, SRep K mg P Z H n σ ρ f → ρ[i]? = some (some (.v d)) → ∃ x, σ[i]? = some (some x) ∧ RepD K mg Z x d
  | [], _, _, _, _, _, h, e => by cases h; simp at e
  | s :: σ, n, _, _, 0, _, h, e => by
    cases h with
    | no h => simp at e
    | so h1 h2 h3 =>
      simp at e; subst e
      cases h1 with
      | v r => exact ⟨_, rfl, r⟩
  | s :: σ, n, _, _, i + 1, _, h, e => by
    cases h with
    | no h =>
      obtain ⟨x, e1, r⟩ := SRep.get (i := i) h (by simpa using e)
      exact ⟨x, by simpa using e1, r⟩
    | so h1 h2 h3 =>
      obtain ⟨x, e1, r⟩ := SRep.get (i := i) h3 (by simpa using e)
      exact ⟨x, by simpa using e1, r⟩
theorem Sta.slot (S : Sta K mg b Z H σ ρ vs as) (e : ρ[i]? = some (some (.v d))) : ∃ x, σ[i]? = some (some x) ∧ RepD K mg Z x d := by
  obtain ⟨f, g, h1, _⟩ := S.rep
  exact h1.get e
/-- the top goes to a slot -/
theorem Sta.store (S : Sta K mg b Z H σ ρ (x :: vs) (a :: as)) (hi : i < ρ.length) (hn : i ∉ b.pn) : Sta K mg b Z H (σ.set i (some x)) (ρ.set i (some a)) vs as := by
  obtain ⟨f, g, h1, h2, h3, h4, h5⟩ := S.rep
  cases h2 with
  | @cons _ _ _ _ fa g0 r1 r2 =>
    obtain ⟨f', h6, h7⟩ := h1.into (i := i) (by rw [S.len]; exact hi) r1 (fun q hq => .inr (h5 q (List.mem_append_left _ hq)))
    refine ⟨S.zz, S.zh, S.kz, S.kh, S.kd, fun j hj => by rw [List.getElem?_set_ne (show i ≠ j from fun e => hn (by rw [e]; exact hj))]; exact S.pin j hj, S.lw, f', g0, h6, r2, fun y => ?_, fun q hq => ?_, fun q hq => h5 q (List.mem_append_right _ hq)⟩
    · have := h3 y; have := h7 y; rw [List.count_append] at *; omega
    · rcases hq with hq | hq
      · have c := mem_count hq
        have c2 := h7 q
        have : 0 < f.count q ∨ 0 < fa.count q := by omega
        rcases this with z | z
        · exact h4 q (.inl (count_mem z))
        · exact h4 q (.inr (List.mem_append_left _ (count_mem z)))
      · exact h4 q (.inr (List.mem_append_right _ hq))
/-- a slot is forgotten, whatever it holds then -/
theorem Sta.wipe1 (S : Sta K mg b Z H σ ρ vs as) (i : Nat) (s : Option V) (hn : i ∉ b.pn) : Sta K mg b Z H (σ.set i s) (ρ.set i none) vs as := by
  obtain ⟨f, g, h1, h2, h3, h4, h5⟩ := S.rep
  obtain ⟨f', h6, h7⟩ := h1.wipe1 i s
  refine ⟨S.zz, S.zh, S.kz, S.kh, S.kd, fun j hj => by rw [List.getElem?_set_ne (show i ≠ j from fun e => hn (by rw [e]; exact hj))]; exact S.pin j hj, S.lw, f', g, h6, h2, fun y => ?_, fun q hq => ?_, h5⟩
  · have := h3 y; have := h7 y; omega
  · rcases hq with hq | hq
    · have c := mem_count hq
      have c2 := h7 q
      exact h4 q (.inl (count_mem (by omega)))
    · exact h4 q (.inr hq)
theorem Sta.drop1 (S : Sta K mg b Z H σ ρ vs as) (i : Nat) : Sta K mg b Z H σ (ρ.set i none) vs as := by
  obtain ⟨f, g, h1, h2, h3, h4, h5⟩ := S.rep
  obtain ⟨f', h6, h7⟩ := h1.drop1 i
  refine ⟨S.zz, S.zh, S.kz, S.kh, S.kd, S.pin, S.lw, f', g, h6, h2, fun y => ?_, fun q hq => ?_, h5⟩
  · have := h3 y; have := h7 y; omega
  · rcases hq with hq | hq
    · have c := mem_count hq
      have c2 := h7 q
      exact h4 q (.inl (count_mem (by omega)))
    · exact h4 q (.inr hq)
/-- pending values dropped -/
theorem Sta.pops : ∀ {ws : List V} {l : List A}, Sta K mg b Z H σ ρ (ws ++ vs) (l ++ as) → ws.length = l.length → Sta K mg b Z H σ ρ vs as
  | [], [], S, _ => S
  | [], _ :: _, _, e => by simp at e
  | _ :: _, [], _, e => by simp at e
  | _ :: ws, _ :: l, S, e => Sta.pops (ws := ws) (l := l) S.pop (by simpa using e)
/-- the pending values put in another order: what stands below ws comes ahead -/
theorem Sta.rot (S : Sta K mg b Z H σ ρ (ws ++ x :: vs) (l ++ a :: as)) (hl : ws.length = l.length) : Sta K mg b Z H σ ρ (x :: (ws ++ vs)) (a :: (l ++ as)) := by
  obtain ⟨f, g, h1, h2, h3, h4, h5⟩ := S.rep
  obtain ⟨g1, g2, e, r1, r2⟩ := h2.split hl
  cases r2 with
  | @cons _ _ _ _ fa g0 r3 r4 =>
    subst e
    have m : ∀ q, q ∈ fa ++ (g1 ++ g0) → q ∈ g1 ++ (fa ++ g0) := fun q hq => by
      simp only [List.mem_append] at hq ⊢
      rcases hq with h | h | h
      · exact .inr (.inl h)
      · exact .inl h
      · exact .inr (.inr h)
    refine ⟨S.zz, S.zh, S.kz, S.kh, S.kd, S.pin, S.lw, f, fa ++ (g1 ++ g0), h1, .cons r3 (r1.append r4), fun y => ?_, fun q hq => h4 q (hq.imp id (m q)), fun q hq => h5 q (m q hq)⟩
    have := h3 y
    simp only [List.count_append] at this ⊢
    omega
/-- .. and back -/
theorem Sta.unrot (S : Sta K mg b Z H σ ρ (x :: (ws ++ vs)) (a :: (l ++ as))) (hl : ws.length = l.length) : Sta K mg b Z H σ ρ (ws ++ x :: vs) (l ++ a :: as) := by
  obtain ⟨f, g, h1, h2, h3, h4, h5⟩ := S.rep
  cases h2 with
  | @cons _ _ _ _ fa g' r3 r4 =>
    obtain ⟨g1, g0, e, r1, r2⟩ := r4.split hl
    subst e
    have m : ∀ q, q ∈ g1 ++ (fa ++ g0) → q ∈ fa ++ (g1 ++ g0) := fun q hq => by
      simp only [List.mem_append] at hq ⊢
      rcases hq with h | h | h
      · exact .inr (.inl h)
      · exact .inl h
      · exact .inr (.inr h)
    refine ⟨S.zz, S.zh, S.kz, S.kh, S.kd, S.pin, S.lw, f, g1 ++ (fa ++ g0), h1, r1.append (.cons r3 r2), fun y => ?_, fun q hq => h4 q (hq.imp id (m q)), fun q hq => h5 q (m q hq)⟩
    have := h3 y
    simp only [List.count_append] at this ⊢
    omega
/-- several pending values are frozen -/
theorem Sta.freezes : ∀ {ws : List V} {l : List A} {vs : List V} {as : List A} {Z : Hp}, Sta K mg b Z H σ ρ (ws ++ vs) (l ++ as) → ws.length = l.length →
    ∃ Z', Same Z Z' ∧ RepDs K mg Z' ws (frzs l) ∧ Sta K mg b Z' H σ ρ vs as
  | [], [], _, _, _, S, _ => ⟨_, Same.refl _, .nil, S⟩
  | [], _ :: _, _, _, _, _, e => by simp at e
  | _ :: _, [], _, _, _, _, e => by simp at e
  | w :: ws, a :: l, vs, as, Z, S, e => by
    obtain ⟨Z1, z1, S1⟩ := Sta.freeze (vs := ws ++ vs) (as := l ++ as) S
    obtain ⟨Z2, z2, r2, S2⟩ := Sta.freezes (ws := ws) (l := l) S1.pop (by simpa using e)
    exact ⟨Z2, z1.trans z2, .cons (RepD.mono z2 _ _ S1.top) r2, S2⟩
end
end DD

namespace DD
open PySem PySem.Spec L2
open PyProof.Rows hiding St

/-- an exception: its class by name, its own fields -/
structure Ex where
  c : Str
  ks : List Str := []
  ds : List D := []
inductive R (α : Type) where
  | ok (a : α) (ρ : DEnv)
  | exc (e : Ex) (ρ : DEnv)
  | bad
abbrev M (α : Type) := DEnv → R α
def R.bind {α β : Type} (r : R α) (g : α → DEnv → R β) : R β := match r with
  | .ok a ρ => g a ρ
  | .exc e ρ => .exc e ρ
  | .bad => .bad
def M.bind {α β : Type} (f : M α) (g : α → M β) : M β := fun ρ => (f ρ).bind g
def M.pure {α : Type} (a : α) : M α := fun ρ => .ok a ρ
def ofO {α : Type} (o : Option α) : M α := fun ρ => match o with
  | some a => .ok a ρ
  | none => .bad
theorem R.bind_ok {α β : Type} {a : α} {ρ : DEnv} {g : α → DEnv → R β} : (R.ok a ρ).bind g = g a ρ := rfl
theorem R.bind_exc {α β : Type} {e : Ex} {ρ : DEnv} {g : α → DEnv → R β} : (R.exc e ρ : R α).bind g = .exc e ρ := rfl
theorem R.bind_bad {α β : Type} {g : α → DEnv → R β} : (R.bad : R α).bind g = .bad := rfl
def R.sat {α : Type} (r : R α) (p : α → DEnv → Prop) (x : Ex → DEnv → Prop) : Prop := match r with
  | .ok a ρ => p a ρ
  | .exc e ρ => x e ρ
  | .bad => False
theorem R.sat_bind {α β : Type} {r : R α} {g : α → DEnv → R β} {p : β → DEnv → Prop} {x : Ex → DEnv → Prop} (h : (r.bind g).sat p x) : r.sat (fun a ρ => (g a ρ).sat p x) x := by
  cases r with
  | ok a ρ => exact h
  | exc e ρ => exact h
  | bad => exact h
theorem R.sat_mono {α : Type} {r : R α} {p q : α → DEnv → Prop} {x y : Ex → DEnv → Prop} (h : r.sat p x) (hp : ∀ a ρ, p a ρ → q a ρ) (hx : ∀ e ρ, x e ρ → y e ρ) : r.sat q y := by
  cases r with
  | ok a ρ => exact hp _ _ h
  | exc e ρ => exact hx _ _ h
  | bad => exact h

/-- what stays through a def's body: the written part, the module's names, the wish of exceptions, the lent parameters -/
structure SC where
  K : PySem.W.Frag
  mg : Str → Option Value
  W : WX
  pn : List Nat
def ClsIs (mg : Str → Option Value) (c : Str) (cls : Value) : Prop := mg c = some cls ∨ (mg c = none ∧ bootBuiltins c = some cls)
structure ExR (K : PySem.W.Frag) (mg : Str → Option Value) (Z : Hp) (cls : Value) (d : Option Addr) (e : Ex) : Prop where
  cls : ClsIs mg e.c cls
  own : (e.ks = [] ∧ e.ds = []) ∨ ∃ dx ws, d = some dx ∧ Z dx = some (.xd ws) ∧ e.ks = ws.map (·.1) ∧ RepDs K mg Z (ws.map (·.2)) e.ds
def XPost (C : SC) (b : Base) (vs : List V) (as : List A) (e : Ex) (ρ : DEnv) : Prop :=
  ∀ Z' H' σ' cls d, Sta C.K C.mg b Z' H' σ' ρ vs as → ExR C.K C.mg Z' cls d e → C.W cls d σ' H'
abbrev Fin (α : Type) := Base → List V → List A → α → DEnv → Prop
/-- from the state with the pending values ps on top of any others: g runs to what fin wants -/
def Go {α : Type} (C : SC) (fin : Fin α) (ps : List V) (pa : List A) (g : M α) (σ : St) (H : Hp) : Prop :=
  ∃ b Z ρ vs as, b.pn = C.pn ∧ ps.length = pa.length ∧ Sta C.K C.mg b Z H σ ρ (ps ++ vs) (pa ++ as) ∧ (g ρ).sat (fin b vs as) (XPost C b vs as)
def finE (C : SC) (σ : St) (Q : VK) : Fin A := fun b vs as a ρ => ∀ Z' H' v, Sta C.K C.mg b Z' H' σ ρ (v :: vs) (a :: as) → Q v H'
def finT (C : SC) (σ : St) (Q : Bool → Hp → Prop) : Fin Bool := fun b vs as c ρ => ∀ Z' H', Sta C.K C.mg b Z' H' σ ρ vs as → Q c H'
def finA (C : SC) (σ : St) (Q : List V → Hp → Prop) : Fin (List A) := fun b vs as l ρ => ∀ Z' H' ws, ws.length = l.length → Sta C.K C.mg b Z' H' σ ρ (ws ++ vs) (l ++ as) → Q ws H'
def tE (C : SC) (f : M A) : TE := fun σ H Q => Go C (finE C σ Q) [] [] f σ H
def tT (C : SC) (f : M Bool) : TT := fun σ H Q => Go C (finT C σ Q) [] [] f σ H
def tA (C : SC) (f : M (List A)) : TA := fun σ H Q => Go C (finA C σ Q) [] [] f σ H
inductive Flow where
  | nx
  | ret (a : A)
  | bk
  | ct
def finS (C : SC) (D : Ends) : Fin Flow := fun b vs as fl ρ => match fl with
  | .nx => ∀ Z' H' σ', Sta C.K C.mg b Z' H' σ' ρ vs as → D.nx σ' H'
  | .ret a => ∀ Z' H' σ' v, Sta C.K C.mg b Z' H' σ' ρ (v :: vs) (a :: as) → D.rt v H'
  | .bk => ∀ Z' H' σ', Sta C.K C.mg b Z' H' σ' ρ vs as → D.bk σ' H'
  | .ct => ∀ Z' H' σ', Sta C.K C.mg b Z' H' σ' ρ vs as → D.ct σ' H'
def tS (C : SC) (F : M Flow) : TS := fun D σ H => Go C (finS C D) [] [] F σ H

section
variable {α β : Type} {C : SC} {fin : Fin α} {ps : List V} {pa : List A} {σ : St} {H : Hp}
theorem XPost.pops {b : Base} {vs : List V} {as : List A} {e : Ex} {ρ : DEnv} (h : XPost C b vs as e ρ) (hl : ps.length = pa.length) : XPost C b (ps ++ vs) (pa ++ as) e ρ :=
  fun Z' H' σ' cls d S x => h Z' H' σ' cls d (S.pops hl) x
/-- an expression comes first -/
theorem Go.bindE {f : M A} {g : A → M α} (h : Go C fin ps pa (f.bind g) σ H) : tE C f σ H (fun x H1 => ∃ a, Go C fin (x :: ps) (a :: pa) (g a) σ H1) := by
  obtain ⟨b, Z, ρ, vs, as, hb, hl, S, h⟩ := h
  refine ⟨b, Z, ρ, ps ++ vs, pa ++ as, hb, rfl, S, R.sat_mono (R.sat_bind h) (fun a ρ' q Z' H' v S' => ?_) fun e ρ' q => q.pops hl⟩
  exact ⟨a, b, Z', ρ', vs, as, hb, by simp [hl], S', q⟩
theorem Go.bindT {f : M Bool} {g : Bool → M α} (h : Go C fin ps pa (f.bind g) σ H) : tT C f σ H (fun c H1 => Go C fin ps pa (g c) σ H1) := by
  obtain ⟨b, Z, ρ, vs, as, hb, hl, S, h⟩ := h
  refine ⟨b, Z, ρ, ps ++ vs, pa ++ as, hb, rfl, S, R.sat_mono (R.sat_bind h) (fun c ρ' q Z' H' S' => ?_) fun e ρ' q => q.pops hl⟩
  exact ⟨b, Z', ρ', vs, as, hb, hl, S', q⟩
theorem Go.bindA {f : M (List A)} {g : List A → M α} (h : Go C fin ps pa (f.bind g) σ H) : tA C f σ H (fun ws H1 => ∃ l, ws.length = l.length ∧ Go C fin (ws ++ ps) (l ++ pa) (g l) σ H1) := by
  obtain ⟨b, Z, ρ, vs, as, hb, hl, S, h⟩ := h
  refine ⟨b, Z, ρ, ps ++ vs, pa ++ as, hb, rfl, S, R.sat_mono (R.sat_bind h) (fun l ρ' q Z' H' ws e S' => ?_) fun e ρ' q => q.pops hl⟩
  exact ⟨l, e, b, Z', ρ', vs, as, hb, by simp [hl, e], by rw [List.append_assoc, List.append_assoc]; exact S', q⟩
theorem tE.mono {f : M A} {Q Q' : VK} (h : tE C f σ H Q) (k : ∀ v H', Q v H' → Q' v H') : tE C f σ H Q' := by
  obtain ⟨b, Z, ρ, vs, as, hb, hl, S, h⟩ := h
  exact ⟨b, Z, ρ, vs, as, hb, hl, S, R.sat_mono h (fun a ρ' q Z' H' v S' => k _ _ (q Z' H' v S')) fun _ _ q => q⟩
theorem tT.mono {f : M Bool} {Q Q' : Bool → Hp → Prop} (h : tT C f σ H Q) (k : ∀ v H', Q v H' → Q' v H') : tT C f σ H Q' := by
  obtain ⟨b, Z, ρ, vs, as, hb, hl, S, h⟩ := h
  exact ⟨b, Z, ρ, vs, as, hb, hl, S, R.sat_mono h (fun a ρ' q Z' H' S' => k _ _ (q Z' H' S')) fun _ _ q => q⟩
theorem tA.mono {f : M (List A)} {Q Q' : List V → Hp → Prop} (h : tA C f σ H Q) (k : ∀ v H', Q v H' → Q' v H') : tA C f σ H Q' := by
  obtain ⟨b, Z, ρ, vs, as, hb, hl, S, h⟩ := h
  exact ⟨b, Z, ρ, vs, as, hb, hl, S, R.sat_mono h (fun a ρ' q Z' H' ws e S' => k _ _ (q Z' H' ws e S')) fun _ _ q => q⟩
theorem PE.w {X : Cx} {e : Expr} {t t' : TE} (h : PE X e t) (k : ∀ σ H Q, t' σ H Q → t σ H Q) : PE X e t' := ⟨fun pins s σ H Q I hw => h.run pins s σ H Q I (k σ H Q hw)⟩
theorem PT.w {X : Cx} {e : Expr} {t t' : TT} (h : PT X e t) (k : ∀ σ H Q, t' σ H Q → t σ H Q) : PT X e t' := ⟨fun pins s σ H Q I hw => h.run pins s σ H Q I (k σ H Q hw)⟩
theorem PA.w {X : Cx} {e : List Expr} {t t' : TA} (h : PA X e t) (k : ∀ σ H Q, t' σ H Q → t σ H Q) : PA X e t' := ⟨fun pos pins s σ H Q I hw => h.run pos pins s σ H Q I (k σ H Q hw)⟩
theorem PS.w {X : Cx} {e : Stmt} {t t' : TS} (h : PS X e t) (k : ∀ D σ H, t' D σ H → t D σ H) : PS X e t' := ⟨fun pins s σ H D I hw => h.run pins s σ H D I (k D σ H hw)⟩
theorem PSs.w {X : Cx} {e : List Stmt} {t t' : TS} (h : PSs X e t) (k : ∀ D σ H, t' D σ H → t D σ H) : PSs X e t' := ⟨fun pins s σ H D I hw => h.run pins s σ H D I (k D σ H hw)⟩
end

def dVar (i : Nat) : M A := fun ρ => match ρ[i]? with
  | some (some (.v d)) => .ok (.v d) ρ
  | _ => .bad
def dC (d : D) : M A := fun ρ => .ok (.v d) ρ
def dOp2 (op : A → A → Option A) (f g : M A) : M A := f.bind fun a => g.bind fun c => ofO (op a c)
def dOp1 (op : A → Option A) (f : M A) : M A := f.bind fun a => ofO (op a)
def dTest (f : M A) : M Bool := f.bind fun a ρ => match a with
  | .v (.bl c) => .ok c ρ
  | _ => .bad
def dNil : M (List A) := fun ρ => .ok [] ρ
def dCons (f : M A) (g : M (List A)) : M (List A) := f.bind fun a => g.bind fun l ρ => .ok (a :: l) ρ
def dTup (f : M (List A)) : M A := f.bind fun l ρ => if l.length ≤ sizeLine then .ok (.v (.tup (frzs l))) ρ else .bad
def dLst (f : M (List A)) : M A := f.bind fun l ρ => if l.length ≤ sizeLine then .ok (.m l) ρ else .bad
def dIf (c : M Bool) (f g : M A) : M A := c.bind fun k => if k = true then f else g
def dAndT (f g : M Bool) : M Bool := f.bind fun k => if k = true then g else M.pure false
def dOrT (f g : M Bool) : M Bool := f.bind fun k => if k = true then M.pure true else g
def dNotT (f : M Bool) : M Bool := f.bind fun k => M.pure (!k)
def dAndV (f g : M A) : M A := (dTest f).bind fun k => if k = true then g else M.pure (.v (.bl false))
def dOrV (f g : M A) : M A := (dTest f).bind fun k => if k = true then M.pure (.v (.bl true)) else g
def dNotV (f : M A) : M A := (dTest f).bind fun k => M.pure (.v (.bl (!k)))

/-- a two-place operation on pending values, by what they stand for -/
def Op2 (C : SC) (r : R2) (op : A → A → Option A) : Prop :=
  ∀ (b : Base) (Z H : Hp) (σ : St) (ρ : DEnv) (vs : List V) (as : List A) (x y : V) (a c res : A) (Q : VK), Sta C.K C.mg b Z H σ ρ (y :: x :: vs) (c :: a :: as) → op a c = some res →
    (∀ Z' H' v, Sta C.K C.mg b Z' H' σ ρ (v :: vs) (res :: as) → Q v H') → r x y H Q
def Op1 (C : SC) (r : V → Hp → VK → Prop) (op : A → Option A) : Prop :=
  ∀ (b : Base) (Z H : Hp) (σ : St) (ρ : DEnv) (vs : List V) (as : List A) (x : V) (a res : A) (Q : VK), Sta C.K C.mg b Z H σ ρ (x :: vs) (a :: as) → op a = some res →
    (∀ Z' H' v, Sta C.K C.mg b Z' H' σ ρ (v :: vs) (res :: as) → Q v H') → r x H Q
def OpN (C : SC) (r : List V → Hp → VK → Prop) (op : List A → Option A) : Prop :=
  ∀ (b : Base) (Z H : Hp) (σ : St) (ρ : DEnv) (vs : List V) (as : List A) (ws : List V) (l : List A) (res : A) (Q : VK), ws.length = l.length → Sta C.K C.mg b Z H σ ρ (ws ++ vs) (l ++ as) → op l = some res →
    (∀ Z' H' v, Sta C.K C.mg b Z' H' σ ρ (v :: vs) (res :: as) → Q v H') → r ws H Q

section
variable {X : Cx} {C : SC} {a b c e : Expr} {es : List Expr} {f g h : M A} {fs : M (List A)} {p q r : M Bool} {pos : Pos} {i : Nat}
theorem de_var {x : Str} (hN : X.N[i]? = some x) (hv : Vis X.env.scope x) (hd : (x == ("__debug__" : Str)) = false := by decide) (hcd : (x == ("__classdict__" : Str)) = false := by decide) : PE X (.Name x pos) (tE C (dVar i)) := by
  refine PE.w (pe_var hN hv hd hcd) fun σ H Q ⟨bs, Z, ρ, vs, as, hb, hl, S, k⟩ => ?_
  unfold dVar at k
  split at k
  · rename_i d hd
    obtain ⟨x, e, r⟩ := S.slot hd
    exact ⟨x, e, k _ _ _ (S.push r)⟩
  · exact k.elim
theorem go_pure {σ : St} {H : Hp} {Q : VK} {d : D} {v : V} (k : Go C (finE C σ Q) [] [] (fun ρ => .ok (.v d) ρ) σ H) (r : ∀ Z, RepD C.K C.mg Z v d) : Q v H := by
  obtain ⟨bs, Z, ρ, vs, as, hb, hl, S, k⟩ := k
  exact k _ _ _ (S.push (r Z))
theorem de_int {n : Int} {j} : PE X (.Constant (.int n) j pos) (tE C (dC (.int n))) := PE.w pe_int fun _ _ _ k => go_pure k fun _ => .int n
theorem de_bl {n : Bool} {j} : PE X (.Constant (.bool n) j pos) (tE C (dC (.bl n))) := PE.w pe_bl fun _ _ _ k => go_pure k fun _ => .bl n
theorem de_non {j} : PE X (.Constant .none j pos) (tE C (dC .non)) := PE.w pe_non fun _ _ _ k => go_pure k fun _ => .non
theorem de_str {n : Str} {j} : PE X (.Constant (.str n) j pos) (tE C (dC (.str n))) := PE.w pe_str fun _ _ _ k => go_pure k fun _ => .str n
theorem go_ofO {α : Type} {fin : Fin α} {ps : List V} {pa : List A} {o : Option α} {σ : St} {H : Hp} (k : Go C fin ps pa (ofO o) σ H) : ∃ x, o = some x ∧ Go C fin ps pa (M.pure x) σ H := by
  obtain ⟨b, Z, ρ, vs, as, hb, hl, S, k⟩ := k
  unfold ofO at k
  cases o with
  | none => exact k.elim
  | some x => exact ⟨x, rfl, b, Z, ρ, vs, as, hb, hl, S, k⟩
theorem go_op2 {r : R2} {op : A → A → Option A} (ho : Op2 C r op) {x y : V} {u w : A} {σ : St} {H : Hp} {Q : VK} (k : Go C (finE C σ Q) [y, x] [w, u] (ofO (op u w)) σ H) : r x y H Q := by
  obtain ⟨res, e, bs, Z, ρ, vs, as, hb, hl, S, k⟩ := go_ofO k
  exact ho bs Z H σ ρ vs as x y u w res Q S e k
theorem de_op2 {op : Operator} {r : R2} {o : A → A → Option A} (hr : OpR X (binaryOp op) r) (ho : Op2 C r o) (ha : PE X a (tE C f)) (hb : PE X b (tE C g)) : PE X (.BinOp a op b pos) (tE C (dOp2 o f g)) := by
  refine PE.w (pe_op hr ha hb) fun σ H Q k => ?_
  refine (Go.bindE k).mono fun x H1 ⟨u, k1⟩ => (Go.bindE k1).mono fun y H2 ⟨w, k2⟩ => go_op2 ho k2
theorem de_cmp {op : CmpOp} {r : R2} {o : A → A → Option A} (hr : OpR X (compareOp op) r) (ho : Op2 C r o) (ha : PE X a (tE C f)) (hb : PE X b (tE C g)) (hm : behindInMarks op b = false) : PE X (.Compare a [op] [b] pos) (tE C (dOp2 o f g)) := by
  refine PE.w (pe_cmpR hr ha hb hm) fun σ H Q k => ?_
  refine (Go.bindE k).mono fun x H1 ⟨u, k1⟩ => (Go.bindE k1).mono fun y H2 ⟨w, k2⟩ => go_op2 ho k2
/-- a test's reading of a value -/
theorem go_test {σ : St} {H : Hp} {Q : Bool → Hp → Prop} (k : Go C (finT C σ Q) [] [] (dTest f) σ H) : tE C f σ H fun x H' => ∃ d, x = .bl d ∧ Q d H' := by
  refine (Go.bindE k).mono fun x H1 ⟨u, bs, Z, ρ, vs, as, hb, hl, S, k1⟩ => ?_
  split at k1
  · rename_i c
    have t := Sta.top (vs := vs) (as := as) S
    cases t
    exact ⟨c, rfl, k1 _ _ (Sta.pop (vs := vs) (as := as) S)⟩
  · exact k1.elim
theorem dt_cmp {op : CmpOp} {r : R2} {o : A → A → Option A} (hr : OpR X (compareOp op) r) (ho : Op2 C r o) (ha : PE X a (tE C f)) (hb : PE X b (tE C g)) (hm : behindInMarks op b = false) : PT X (.Compare a [op] [b] pos) (tT C (dTest (dOp2 o f g))) := by
  refine PT.w (pt_cmpR hr ha hb hm) fun σ H Q k => ?_
  have k' := go_test k
  refine (Go.bindE k').mono fun x H1 ⟨u, k1⟩ => (Go.bindE k1).mono fun y H2 ⟨w, k2⟩ => go_op2 ho k2
theorem de_un {op : UnaryOp} {r : V → Hp → VK → Prop} {o : A → Option A} (hr : UnR X (unaryOp op) r) (ho : Op1 C r o) (ha : PE X a (tE C f)) : PE X (.UnaryOp op a pos) (tE C (dOp1 o f)) := by
  refine PE.w (pe_un hr ha) fun σ H Q k => ?_
  refine (Go.bindE k).mono fun x H1 ⟨u, k1⟩ => ?_
  obtain ⟨res, e, bs, Z, ρ, vs, as, hb, hl, S, k2⟩ := go_ofO k1
  exact ho bs Z H1 σ ρ vs as x u res Q S e k2
/-- an expression whose value is a bool, as a test -/
theorem dt_val (ha : PE X a (tE C f)) (he : ∀ whole, isTrue a X.env whole = (do let v ← whole; standAt a.pos; holding [v] (truthy v)) := by intro _; rfl) : PT X a (tT C (dTest f)) :=
  PT.w (pt_val ha he) fun σ H Q k => go_test k

theorem da_nil : PA X [] (tA C dNil) := PA.w pa_nil fun σ H Q ⟨b, Z, ρ, vs, as, hb, hl, S, k⟩ => k _ _ [] rfl S
theorem da_cons (ha : PE X e (tE C f)) (hr : PA X es (tA C fs)) (hs : starEach (e :: es) X.env = (false, eval e X.env) :: starEach es X.env := by rfl) : PA X (e :: es) (tA C (dCons f fs)) := by
  refine PA.w (pa_cons ha hr hs) fun σ H Q k => ?_
  refine (Go.bindE k).mono fun x H1 ⟨u, k1⟩ => (Go.bindA k1).mono fun ws H2 ⟨l, hl, b, Z, ρ, vs, as, hb, _, S, k2⟩ => ?_
  exact k2 _ _ (x :: ws) (by simp [hl]) (by
    have S' : Sta C.K C.mg b Z H2 σ ρ (ws ++ x :: vs) (l ++ u :: as) := by simpa using S
    exact S'.rot hl)
theorem de_tup {k0} (h : PA X es (tA C fs)) : PE X (.Tuple es k0 pos) (tE C (dTup fs)) := by
  refine PE.w (pe_tup h) fun σ H Q k => ?_
  refine (Go.bindA k).mono fun ws H1 ⟨l, hl, b, Z, ρ, vs, as, hb, _, S, k1⟩ => ?_
  split at k1
  · rename_i hz
    refine ⟨by rw [hl]; exact hz, fun p hp => ?_⟩
    rw [List.append_nil, List.append_nil] at S
    obtain ⟨Z', _, r, S'⟩ := S.freezes hl
    have zp := S'.zh.free hp
    exact k1 _ _ _ (S'.newF (o := .tup ws) hp (.tup (SqT.of upd_same) (RepDs.mono (same_upd zp) _ _ r)))
  · exact k1.elim
theorem de_lst (h : PA X es (tA C fs)) : PE X (.List es pos) (tE C (dLst fs)) := by
  refine PE.w (pe_lst h) fun σ H Q k => ?_
  refine (Go.bindA k).mono fun ws H1 ⟨l, hl, b, Z, ρ, vs, as, hb, _, S, k1⟩ => ?_
  split at k1
  · rename_i hz
    refine ⟨by rw [hl]; exact hz, fun p hp => ?_⟩
    rw [List.append_nil, List.append_nil] at S
    exact k1 _ _ _ (S.newM hl hp)
  · exact k1.elim

theorem go_mpure {α : Type} {fin : Fin α} {x : α} {σ : St} {H : Hp} (k : Go C fin [] [] (M.pure x) σ H) : ∃ b Z ρ vs as, b.pn = C.pn ∧ Sta C.K C.mg b Z H σ ρ vs as ∧ fin b vs as x ρ :=
  let ⟨b, Z, ρ, vs, as, hb, _, S, k⟩ := k
  ⟨b, Z, ρ, vs, as, hb, S, k⟩
theorem go_tpure {σ : St} {H : Hp} {Q : Bool → Hp → Prop} {c : Bool} (k : Go C (finT C σ Q) [] [] (M.pure c) σ H) : Q c H := by
  obtain ⟨b, Z, ρ, vs, as, hb, S, k⟩ := go_mpure k
  exact k _ _ S
theorem go_vpure {σ : St} {H : Hp} {Q : VK} {c : Bool} (k : Go C (finE C σ Q) [] [] (M.pure (.v (.bl c))) σ H) : Q (.bl c) H := by
  obtain ⟨b, Z, ρ, vs, as, hb, S, k⟩ := go_mpure k
  exact k _ _ _ (S.push (.bl c))
variable {rest : List Expr}
theorem dw_and1 (ha : PT X a (tT C p)) : PW X (.BoolOp .And [a] pos) (tT C p) := pw_and1 ha
theorem dw_or1 (ha : PT X a (tT C p)) : PW X (.BoolOp .Or [a] pos) (tT C p) := pw_or1 ha
theorem PW.w {t t' : TT} (h : PW X e t) (k : ∀ σ H Q, t' σ H Q → t σ H Q) : PW X e t' := ⟨fun wh pins s σ H Q I hw => h.run wh pins s σ H Q I (k σ H Q hw)⟩
theorem dw_and (ha : PT X a (tT C p)) (hb : PW X (.BoolOp .And (b :: rest) pos) (tT C q)) : PW X (.BoolOp .And (a :: b :: rest) pos) (tT C (dAndT p q)) := by
  refine PW.w (pw_and ha hb) fun σ H Q k => (Go.bindT k).mono fun c H1 k1 => ?_
  cases c with
  | true => exact k1
  | false => exact go_tpure k1
theorem dw_or (ha : PT X a (tT C p)) (hb : PW X (.BoolOp .Or (b :: rest) pos) (tT C q)) : PW X (.BoolOp .Or (a :: b :: rest) pos) (tT C (dOrT p q)) := by
  refine PW.w (pw_or ha hb) fun σ H Q k => (Go.bindT k).mono fun c H1 k1 => ?_
  cases c with
  | true => exact go_tpure k1
  | false => exact k1
theorem dt_not (ha : PT X a (tT C p)) : PT X (.UnaryOp .Not a pos) (tT C (dNotT p)) := by
  refine PT.w (pt_not ha) fun σ H Q k => (Go.bindT k).mono fun c H1 k1 => go_tpure k1
theorem de_and (ha : PE X a (tE C f)) (hb : PE X (.BoolOp .And (b :: rest) pos) (tE C g)) : PE X (.BoolOp .And (a :: b :: rest) pos) (tE C (dAndV f g)) := by
  refine PE.w (pe_and ha hb) fun σ H Q k => (go_test (Go.bindT k)).mono fun x H1 ⟨c, e, k1⟩ => ⟨c, e, ?_⟩
  cases c with
  | true => exact k1
  | false => exact go_vpure k1
theorem de_or (ha : PE X a (tE C f)) (hb : PE X (.BoolOp .Or (b :: rest) pos) (tE C g)) : PE X (.BoolOp .Or (a :: b :: rest) pos) (tE C (dOrV f g)) := by
  refine PE.w (pe_or ha hb) fun σ H Q k => (go_test (Go.bindT k)).mono fun x H1 ⟨c, e, k1⟩ => ⟨c, e, ?_⟩
  cases c with
  | true => exact go_vpure k1
  | false => exact k1
theorem de_one {op} (ha : PE X a (tE C f)) : PE X (.BoolOp op [a] pos) (tE C f) := pe_one ha
theorem de_not (ha : PE X a (tE C f)) : PE X (.UnaryOp .Not a pos) (tE C (dNotV f)) := by
  refine PE.w (pe_not ha) fun σ H Q k => (go_test (Go.bindT k)).mono fun x H1 ⟨c, e, k1⟩ => ⟨c, e, go_vpure k1⟩
theorem de_if (hc : PT X c (tT C p)) (ha : PE X a (tE C f)) (hb : PE X b (tE C g)) : PE X (.IfExp c a b pos) (tE C (dIf p f g)) := by
  refine PE.w (pe_ifExp hc ha hb) fun σ H Q k => (Go.bindT k).mono fun d H1 k1 => ?_
  cases d with
  | true => exact k1
  | false => exact k1
end
end DD

namespace DD
open PySem PySem.Spec L2
open PyProof.Rows hiding St
section
variable {K : PySem.W.Frag} {mg : Str → Option Value} {b : Base} {Z Z' H H' : Hp} {σ : St} {ρ : DEnv} {vs ws : List V} {as l pa : List A} {x y : V} {a c : A} {d : D} {i k : Nat} {p : Addr} {o : HO}
theorem SRep.ownd {P : Nat → Addr → Prop} {f : List Addr} {n : Nat} (h : SRep K mg P Z H n σ ρ f) (e : ρ[i]? = some (some a)) : ∃ x fa g, σ[i]? = some (some x) ∧ RepA K mg Z H x a fa ∧ (∀ q ∈ fa, P (n + i) q) ∧ SRep K mg P Z H n σ (ρ.set i none) g ∧ ∀ y, g.count y + fa.count y = f.count y := h.out e
/-- the list of the i-th slot, and what may be done to it -/
theorem Sta.mutL (S : Sta K mg b Z H σ ρ (ws ++ vs) (pa ++ as)) (hl : ws.length = pa.length) (e : ρ[i]? = some (some (.m l))) :
    ∃ p xs fl g1, σ[i]? = some (some (.ref p)) ∧ H p = some (.lst xs) ∧ xs.length = l.length ∧ RepAs K mg Z H xs l fl ∧ RepAs K mg Z H ws pa g1 ∧ (∀ q ∈ g1, b.H q = none) ∧ (i ∉ b.pn → ∀ q ∈ fl, b.H q = none) ∧
      ∀ {xs' : List V} {l' : List A} {fl' : List Addr} {ws' : List V} {pa' : List A} {g1' : List Addr}, RepAs K mg Z H xs' l' fl' → RepAs K mg Z H ws' pa' g1' → (∀ y, fl'.count y + g1'.count y ≤ fl.count y + g1.count y) → (∀ q ∈ g1', b.H q = none) →
        Sta K mg b Z (upd H p (.lst xs')) σ (ρ.set i (some (.m l'))) (ws' ++ vs) (pa' ++ as) := by
  obtain ⟨f, g, h1, h2, h3, h4, h5⟩ := S.rep
  obtain ⟨g1, g2, eg, r1, r2⟩ := h2.split hl
  obtain ⟨x, fa, f0, e1, r3, pw, r4, cn⟩ := h1.out e
  cases r3 with
  | @m p xs _ fl hp rl =>
    subst eg
    refine ⟨p, xs, fl, g1, e1, hp, rl.length, rl, r1, fun q hq => h5 q (List.mem_append_left _ hq), fun hn q hq => ?_, fun {xs' l' fl' ws' pa' g1'} k1 k2 k3 k4 => ?_⟩
    · rcases pw q (List.mem_cons_of_mem _ hq) with z | z
      · exact absurd (S.lw _ _ (by simpa using z)) hn
      · exact z
    have cp : ∀ y, f0.count y + (fl.count y + if p = y then 1 else 0) + (g1.count y + g2.count y) ≤ 1 := fun y => by
      have c1 := h3 y
      have c2 := cn y
      rw [List.count_append] at c1
      rw [List.count_cons] at c2
      simp only [beq_iff_eq] at c2
      omega
    have zp : Z p = none := h4 p (.inl (count_mem (by have := cn p; rw [List.count_cons_self] at this; omega)))
    have np : ∀ {q : Addr}, (0 < f0.count q ∨ 0 < fl.count q ∨ 0 < g1.count q ∨ 0 < g2.count q) → q ≠ p := fun {q} hq e' => by
      have := cp q
      rw [if_pos e'.symm] at this
      omega
    have nf0 : ∀ q ∈ f0, q ≠ p := fun q hq => np (.inl (mem_count hq))
    have ng2 : ∀ q ∈ g2, q ≠ p := fun q hq => np (.inr (.inr (.inr (mem_count hq))))
    have nfl' : ∀ q, (q ∈ fl' ∨ q ∈ g1') → q ≠ p := fun q hq => by
      have := k3 q
      have : 0 < fl'.count q ∨ 0 < g1'.count q := hq.imp mem_count mem_count
      exact np (by omega)
    have ow : ∀ q ∈ p :: fl', b.Own (0 + i) q := fun q hq => by
      rcases List.mem_cons.mp hq with e' | hq
      · exact e' ▸ pw p List.mem_cons_self
      · have := k3 q
        have := mem_count hq
        have : 0 < fl.count q ∨ 0 < g1.count q := by omega
        rcases this with z | z
        · exact pw q (List.mem_cons_of_mem _ (count_mem z))
        · exact .inr (h5 q (List.mem_append_left _ (count_mem z)))
    have hi : i < σ.length := (List.getElem?_eq_some_iff.mp e1).1
    have r5 : SRep K mg b.Own Z (upd H p (.lst xs')) 0 σ (ρ.set i none) f0 := r4.mono (Same.refl Z) (fun q hq => upd_ne (nf0 q hq)) fun _ _ _ z => z
    obtain ⟨f', r6, c6⟩ := r5.into (i := i) (x := .ref p) hi (RepA.m upd_same (RepAs.mono (Same.refl Z) _ _ _ (fun q hq => upd_ne (nfl' q (.inl hq))) k1)) ow
    rw [set_same e1, List.set_set] at r6
    refine ⟨S.zz, fun q u eq => ?_, S.kz, fun q u eq hq => ?_, fun q hq => ?_, S.pin, S.lw, f', g1' ++ g2, r6, (RepAs.mono (Same.refl Z) _ _ _ (fun q hq => upd_ne (nfl' q (.inr hq))) k2).append (RepAs.mono (Same.refl Z) _ _ _ (fun q hq => upd_ne (ng2 q hq)) r2), fun y => ?_, fun q hq => ?_, fun q hq => ?_⟩
    · have hne : q ≠ p := fun e' => by rw [e', zp] at eq; cases eq
      rw [upd_ne hne]; exact S.zh _ _ eq
    · have hne : q ≠ p := fun e' => by
        subst e'
        rcases pw q List.mem_cons_self with z | z
        · exact hq _ z
        · rw [eq] at z; cases z
      rw [upd_ne hne]; exact S.kh _ _ eq hq
    · by_cases e' : q = p
      · rw [e', upd_same]; simp
      · rw [upd_ne e']; exact S.kd q hq
    · have c1 := cp y
      have c2 := c6 y
      have c3 := k3 y
      rw [List.count_cons] at c2
      simp only [beq_iff_eq] at c2
      rw [List.count_append]
      omega
    · have src : 0 < f.count q ∨ 0 < g1.count q ∨ 0 < g2.count q := by
        have c2 := c6 q
        have c3 := k3 q
        have c4 := cn q
        rw [List.count_cons] at c2 c4
        rcases hq with hq | hq
        · have := mem_count hq; omega
        · have := mem_count hq; rw [List.count_append] at this; omega
      rcases src with z | z | z
      · exact h4 q (.inl (count_mem z))
      · exact h4 q (.inr (List.mem_append_left _ (count_mem z)))
      · exact h4 q (.inr (List.mem_append_right _ (count_mem z)))
    · rcases List.mem_append.mp hq with hq | hq
      · exact k4 q hq
      · exact h5 q (List.mem_append_right _ hq)
theorem Sta.append (S : Sta K mg b Z H σ ρ (x :: vs) (a :: as)) (e : ρ[i]? = some (some (.m l))) :
    ∃ p xs, σ[i]? = some (some (.ref p)) ∧ H p = some (.lst xs) ∧ xs.length = l.length ∧ Sta K mg b Z (upd H p (.lst (xs ++ [x]))) σ (ρ.set i (some (.m (l ++ [a])))) vs as := by
  obtain ⟨p, xs, fl, g1, e1, hp, hl, r1, r2, _, _, k⟩ := Sta.mutL (ws := [x]) (pa := [a]) S rfl e
  exact ⟨p, xs, e1, hp, hl, k (ws' := []) (pa' := []) (r1.append r2) .nil (fun y => by simp) (fun q hq => by cases hq)⟩
theorem Sta.setitem (S : Sta K mg b Z H σ ρ (x :: vs) (a :: as)) (e : ρ[i]? = some (some (.m l))) (hk : k < l.length) :
    ∃ p xs, σ[i]? = some (some (.ref p)) ∧ H p = some (.lst xs) ∧ xs.length = l.length ∧ Sta K mg b Z (upd H p (.lst (xs.set k x))) σ (ρ.set i (some (.m (l.set k a)))) vs as := by
  obtain ⟨p, xs, fl, g1, e1, hp, hl, r1, r2, _, _, q⟩ := Sta.mutL (ws := [x]) (pa := [a]) S rfl e
  cases r2 with
  | @cons _ _ _ _ fa g h1 h2 =>
    cases h2
    obtain ⟨y, fy, e2, r3, _, st⟩ := r1.at (i := k) (a := l[k]) (List.getElem?_eq_getElem hk)
    obtain ⟨g', r4, c4⟩ := st h1
    exact ⟨p, xs, e1, hp, hl, q (ws' := []) (pa' := []) r4 .nil (fun y => by have := c4 y; simp; omega) (fun q hq => by cases hq)⟩
/-- an item that is frozen data is taken out -/
theorem Sta.popat (S : Sta K mg b Z H σ ρ vs as) (e : ρ[i]? = some (some (.m l))) (hk : l[k]? = some (.v d)) :
    ∃ p xs x, σ[i]? = some (some (.ref p)) ∧ H p = some (.lst xs) ∧ xs.length = l.length ∧ xs[k]? = some x ∧ Sta K mg b Z (upd H p (.lst (xs.eraseIdx k))) σ (ρ.set i (some (.m (l.eraseIdx k)))) (x :: vs) (.v d :: as) := by
  obtain ⟨p, xs, fl, g1, e1, hp, hl, r1, r2, _, _, q⟩ := Sta.mutL (ws := []) (pa := []) S rfl e
  cases r2
  obtain ⟨y, fy, e2, r3, ⟨g', r4, c4⟩, _⟩ := r1.at (i := k) hk
  refine ⟨p, xs, y, e1, hp, hl, e2, q (ws' := [y]) (pa' := [.v d]) (g1' := fy ++ []) r4 (.cons r3 .nil) (fun y => by have := c4 y; simp; omega) fun q hq => ?_⟩
  cases r3 with
  | v _ => cases hq
theorem Sta.readL (S : Sta K mg b Z H σ ρ vs as) (e : ρ[i]? = some (some (.m l))) : ∃ p xs fl, σ[i]? = some (some (.ref p)) ∧ H p = some (.lst xs) ∧ xs.length = l.length ∧ RepAs K mg Z H xs l fl := by
  obtain ⟨p, xs, fl, g1, e1, hp, hl, r1, _⟩ := Sta.mutL (ws := []) (pa := []) S rfl e
  exact ⟨p, xs, fl, e1, hp, hl, r1⟩
/-- an own value leaves its slot -/
theorem Sta.move (S : Sta K mg b Z H σ ρ vs as) (e : ρ[i]? = some (some a)) (hn : i ∉ b.pn) : ∃ x, σ[i]? = some (some x) ∧ Sta K mg b Z H σ (ρ.set i none) (x :: vs) (a :: as) := by
  obtain ⟨f, g, h1, h2, h3, h4, h5⟩ := S.rep
  obtain ⟨x, fa, f0, e1, r3, pw, r4, cn⟩ := h1.out e
  refine ⟨x, e1, S.zz, S.zh, S.kz, S.kh, S.kd, S.pin, S.lw, f0, fa ++ g, r4, .cons r3 h2, fun y => ?_, fun q hq => ?_, fun q hq => ?_⟩
  · have := cn y; have := h3 y; rw [List.count_append]; omega
  · have : 0 < f.count q ∨ 0 < g.count q := by
      have := cn q
      rcases hq with hq | hq
      · have := mem_count hq; omega
      · have := mem_count hq; rw [List.count_append] at this; omega
    exact h4 q (this.imp count_mem count_mem)
  · rcases List.mem_append.mp hq with hq | hq
    · rcases pw q hq with z | z
      · exact absurd (S.lw _ _ (by simpa using z)) hn
      · exact z
    · exact h5 q hq
end

def frzB (own : Bool) (a : A) : A := if own then a else .v a.frz
def dSet (own : Bool) (i : Nat) (f : M A) : M Flow := f.bind fun a ρ => if i < ρ.length then .ok .nx (ρ.set i (some (frzB own a))) else .bad
def dExpr (f : M A) : M Flow := f.bind fun _ => M.pure .nx
def dRet (f : M A) : M Flow := f.bind fun a => M.pure (.ret a)
def dRetN : M Flow := M.pure (.ret (.v .non))
def dSkip : M Flow := M.pure .nx
def dSeq (F G : M Flow) : M Flow := F.bind fun fl => match fl with
  | .nx => G
  | .ret a => M.pure (.ret a)
  | .bk => M.pure .bk
  | .ct => M.pure .ct
def dIfS (c : M Bool) (F G : M Flow) : M Flow := c.bind fun k => if k = true then F else G
def dBreak : M Flow := M.pure .bk
def dCont : M Flow := M.pure .ct
def dMove (i : Nat) : M A := fun ρ => match ρ[i]? with
  | some (some a) => .ok a (ρ.set i none)
  | _ => .bad
/-- a slot's list is read as frozen data from here on -/
def frzSlot (i : Nat) (ρ : DEnv) : DEnv := match ρ[i]? with
  | some (some a) => ρ.set i (some (.v a.frz))
  | _ => ρ
def dFrz {α : Type} (i : Nat) (F : M α) : M α := fun ρ => F (frzSlot i ρ)
def forL (g : D → M Unit) (F : M Flow) : List D → M Flow
  | [] => M.pure .nx
  | d :: ds => (g d).bind fun _ => F.bind fun fl => match fl with
    | .nx => forL g F ds
    | .ct => forL g F ds
    | .bk => M.pure .nx
    | .ret a => M.pure (.ret a)
def dFor (src : M (List D)) (g : D → M Unit) (F : M Flow) : M Flow := src.bind fun ds => forL g F ds
def whileN (c : M Bool) (F : M Flow) : Nat → M Flow
  | 0 => fun _ => .bad
  | n + 1 => c.bind fun k => if k = true then F.bind fun fl => match fl with
      | .nx => whileN c F n
      | .ct => whileN c F n
      | .bk => M.pure .nx
      | .ret a => M.pure (.ret a)
    else M.pure .nx
open Classical in
noncomputable def dWhile (c : M Bool) (F : M Flow) : M Flow := fun ρ => if h : ∃ n, whileN c F n ρ ≠ .bad then whileN c F (Classical.choose h) ρ else .bad
theorem whileN_mono {c : M Bool} {F : M Flow} : ∀ {n : Nat} {ρ : DEnv}, whileN c F n ρ ≠ .bad → whileN c F (n + 1) ρ = whileN c F n ρ
  | 0, ρ, h => absurd rfl h
  | n + 1, ρ, h => by
    unfold whileN at h
    unfold whileN
    simp only [M.bind] at h ⊢
    cases e : c ρ with
    | bad => rfl
    | exc x ρ' => rfl
    | ok k ρ' =>
      rw [e] at h
      simp only [R.bind_ok] at h ⊢
      cases k with
      | false => rfl
      | true =>
        simp only [if_true, M.bind] at h ⊢
        cases e2 : F ρ' with
        | bad => rfl
        | exc x ρ2 => rfl
        | ok fl ρ2 =>
          rw [e2] at h
          simp only [R.bind_ok] at h ⊢
          cases fl with
          | nx => exact whileN_mono h
          | ct => exact whileN_mono h
          | bk => rfl
          | ret a => rfl
theorem whileN_le {c : M Bool} {F : M Flow} {n : Nat} {ρ : DEnv} (h : whileN c F n ρ ≠ .bad) : ∀ k, whileN c F (n + k) ρ = whileN c F n ρ
  | 0 => rfl
  | k + 1 => by
    have ih := whileN_le h k
    rw [← Nat.add_assoc, whileN_mono (by rw [ih]; exact h), ih]
theorem dWhile_eq {c : M Bool} {F : M Flow} {n : Nat} {ρ : DEnv} (h : whileN c F n ρ ≠ .bad) : dWhile c F ρ = whileN c F n ρ := by
  have hx : ∃ n, whileN c F n ρ ≠ .bad := ⟨n, h⟩
  unfold dWhile
  rw [dif_pos hx]
  have h2 := Classical.choose_spec hx
  rcases Nat.le_total n (Classical.choose hx) with q | q
  · obtain ⟨k, e⟩ := Nat.le.dest q
    rw [← e, whileN_le h]
  · obtain ⟨k, e⟩ := Nat.le.dest q
    have := whileN_le h2 k
    rw [e] at this
    exact this.symm
theorem dWhile_some {c : M Bool} {F : M Flow} {ρ : DEnv} (h : dWhile c F ρ ≠ .bad) : ∃ n, dWhile c F ρ = whileN c F n ρ := by
  unfold dWhile at h ⊢
  split
  · exact ⟨_, rfl⟩
  · rename_i h'; rw [dif_neg h'] at h; exact absurd rfl h

section
variable {X : Cx} {C : SC} {a c e : Expr} {st : Stmt} {sts sts' rest : List Stmt} {f g : M A} {F G : M Flow} {p : M Bool} {pos pos' : Pos} {i : Nat} {x : Str}
theorem go_store {own : Bool} {D : Ends} {y : V} {u : A} {σ : St} {H : Hp} (hn : i ∉ C.pn) (k : Go C (finS C D) [y] [u] (fun ρ => if i < ρ.length then .ok .nx (ρ.set i (some (frzB own u))) else .bad) σ H) : D.nx (σ.set i (some y)) H := by
  obtain ⟨b, Z, ρ, vs, as, hb, hl, S, k⟩ := k
  dsimp only at k
  split at k
  · rename_i hi
    have hn' : i ∉ b.pn := by rw [hb]; exact hn
    cases own with
    | true => exact k _ _ _ (Sta.store (vs := vs) (as := as) S hi hn')
    | false =>
      obtain ⟨Z', _, S'⟩ := Sta.freeze (vs := vs) (as := as) S
      exact k _ _ _ (S'.store hi hn')
  · exact k.elim
theorem ds_set (own : Bool) (hN : X.N.Nodup) (hi : X.N[i]? = some x) (hx : Loc X.env.scope x) (hn : i ∉ C.pn) (he : PE X e (tE C f)) (hs : swapsWith e (some (.Name x pos')) pos.line X.env = pure false := by rfl)
    (hf : X.fn x = true ∨ X.env.scope.names.lookup x = some .local := by first | exact .inl rfl | exact .inr rfl | assumption) : PS X (.Assign [.Name x pos'] e pos) (tS C (dSet own i f)) := by
  refine PS.w (ps_set hN hi hx he hs hf) fun D σ H k => ?_
  exact (Go.bindE k).mono fun y H1 ⟨u, k1⟩ => go_store hn k1
theorem ds_expr (he : PE X e (tE C f)) (hs : swapsWith e none pos.line X.env = pure false := by rfl) : PS X (.Expr e pos) (tS C (dExpr f)) := by
  refine PS.w (ps_expr he hs) fun D σ H k => ?_
  exact (Go.bindE k).mono fun y H1 ⟨u, b, Z, ρ, vs, as, hb, hl, S, k⟩ => k _ _ _ (Sta.pop (vs := vs) (as := as) S)
theorem ds_ret (he : PE X e (tE C f)) : PS X (.Return (some e) pos) (tS C (dRet f)) := by
  refine PS.w (ps_ret he) fun D σ H k => ?_
  exact (Go.bindE k).mono fun y H1 ⟨u, b, Z, ρ, vs, as, hb, hl, S, k⟩ => k _ _ _ _ S
theorem ds_retN : PS X (.Return none pos) (tS C dRetN) := by
  refine PS.w ps_retN fun D σ H ⟨b, Z, ρ, vs, as, hb, hl, S, k⟩ => ?_
  exact k _ _ _ _ (S.push .non)
theorem dss_nil : PSs X [] (tS C dSkip) := by
  refine PSs.w pss_nil fun D σ H ⟨b, Z, ρ, vs, as, hb, hl, S, k⟩ => ?_
  exact k _ _ _ S
theorem ds_pass : PS X (.Pass pos) (tS C dSkip) := by
  refine PS.w ps_pass fun D σ H ⟨b, Z, ρ, vs, as, hb, hl, S, k⟩ => ?_
  exact k _ _ _ S
theorem ds_break : PS X (.Break pos) (tS C dBreak) := by
  refine PS.w ps_break fun D σ H ⟨b, Z, ρ, vs, as, hb, hl, S, k⟩ => ?_
  exact k _ _ _ S
theorem ds_cont : PS X (.Continue pos) (tS C dCont) := by
  refine PS.w ps_continue fun D σ H ⟨b, Z, ρ, vs, as, hb, hl, S, k⟩ => ?_
  exact k _ _ _ S
theorem ds_doc {y : Str} {j} : PS X (.Expr (.Constant (.str y) j pos) pos') (tS C dSkip) := by
  refine PS.w ps_doc fun D σ H ⟨b, Z, ρ, vs, as, hb, hl, S, k⟩ => ?_
  exact k _ _ _ S
theorem go_seq {D : Ends} {σ : St} {H : Hp} (k : tS C (dSeq F G) D σ H) : tS C F { D with nx := tS C G D } σ H := by
  obtain ⟨b, Z, ρ, vs, as, hb, hl, S, k⟩ := k
  refine ⟨b, Z, ρ, vs, as, hb, rfl, S, R.sat_mono (R.sat_bind k) (fun fl ρ' q => ?_) fun _ _ q => q⟩
  cases fl with
  | nx => exact fun Z' H' σ' S' => ⟨b, Z', ρ', vs, as, hb, rfl, S', q⟩
  | ret a => exact q
  | bk => exact q
  | ct => exact q
theorem dss_cons (h1 : PS X st (tS C F)) (h2 : PSs X rest (tS C G)) : PSs X (st :: rest) (tS C (dSeq F G)) := PSs.w (pss_cons h1 h2) fun D σ H k => go_seq k
theorem dss_one (h1 : PS X st (tS C F)) : PSs X [st] (tS C F) := pss_one h1
theorem tS.imp {D D' : Ends} {σ : St} {H : Hp} (h : tS C F D σ H) (k : ∀ b vs as fl ρ', b.pn = C.pn → finS C D b vs as fl ρ' → finS C D' b vs as fl ρ') : tS C F D' σ H := by
  obtain ⟨b, Z, ρ, vs, as, hb, hl, S, h⟩ := h
  exact ⟨b, Z, ρ, vs, as, hb, rfl, S, R.sat_mono h (fun fl ρ' q => k b vs as fl ρ' hb q) fun _ _ q => q⟩
theorem ds_if (hc : PT X c (tT C p)) (ha : PSs X sts (tS C F)) (hb : PSs X sts' (tS C G)) : PS X (.If c sts sts' pos) (tS C (dIfS p F G)) := by
  refine PS.w (ps_if hc ha hb) fun D σ H k => (Go.bindT k).mono fun d H1 k1 => ?_
  cases d with
  | true => exact k1
  | false => exact k1
theorem de_move (hN : X.N[i]? = some x) (hv : Vis X.env.scope x) (hn : i ∉ C.pn) (hd : (x == ("__debug__" : Str)) = false := by decide) (hcd : (x == ("__classdict__" : Str)) = false := by decide) : PE X (.Name x pos) (tE C (dMove i)) := by
  refine PE.w (pe_var hN hv hd hcd) fun σ H Q ⟨b, Z, ρ, vs, as, hb, hl, S, k⟩ => ?_
  unfold dMove at k
  split at k
  · rename_i a ha
    obtain ⟨y, e, S'⟩ := Sta.move (vs := vs) (as := as) S ha (by rw [hb]; exact hn)
    exact ⟨y, e, k _ _ _ S'⟩
  · exact k.elim
theorem go_frz {α : Type} {fin : Fin α} {F : M α} {σ : St} {H : Hp} (hn : i ∉ C.pn) (k : Go C fin [] [] (dFrz i F) σ H) : Go C fin [] [] F σ H := by
  obtain ⟨b, Z, ρ, vs, as, hb, hl, S, k⟩ := k
  unfold dFrz frzSlot at k
  split at k
  · rename_i a ha
    have hn' : i ∉ b.pn := by rw [hb]; exact hn
    obtain ⟨y, e, S1⟩ := Sta.move (vs := vs) (as := as) S ha hn'
    obtain ⟨Z', _, S2⟩ := S1.freeze
    have hi : i < (ρ.set i none).length := by rw [List.length_set]; exact (List.getElem?_eq_some_iff.mp ha).1
    have S3 := S2.store hi hn'
    rw [set_same e, List.set_set] at S3
    exact ⟨b, Z', _, vs, as, hb, rfl, S3, k⟩
  · exact ⟨b, Z, ρ, vs, as, hb, rfl, S, k⟩
theorem ds_frz (i : Nat) (hn : i ∉ C.pn) (h : PS X st (tS C F)) : PS X st (tS C (dFrz i F)) := PS.w h fun D σ H k => go_frz hn k
theorem de_frz (i : Nat) (hn : i ∉ C.pn) (h : PE X e (tE C f)) : PE X e (tE C (dFrz i f)) := PE.w h fun σ H Q k => go_frz hn k

/-- what is walked, by its items -/
def IsIt (C : SC) (J : It) (ws : List V) (pa : List A) (ds : List D) : Prop :=
  ∀ (b : Base) (Z H : Hp) (σ : St) (ρ : DEnv) (vs : List V) (as : List A), Sta C.K C.mg b Z H σ ρ (ws ++ vs) (pa ++ as) →
    (∀ i d, ds[i]? = some d → J.go i H ∧ ∀ x H', J.yld i H x H' → ∃ Z', Sta C.K C.mg b Z' H' σ ρ (x :: (ws ++ vs)) (.v d :: (pa ++ as))) ∧ J.stop ds.length H
def finI (C : SC) (σ : St) (R : It → Hp → Prop) : Fin (List D) := fun b vs as ds ρ => ∀ Z' H' ws pa J, ws.length = pa.length → Sta C.K C.mg b Z' H' σ ρ (ws ++ vs) (pa ++ as) → IsIt C J ws pa ds → R J H'
def tI (C : SC) (src : M (List D)) : TI := fun σ H R => Go C (finI C σ R) [] [] src σ H
def tG (C : SC) (sl : List Nat) (g : D → M Unit) : TG := fun v σ H Q => ∃ b Z ρ vs as d, b.pn = C.pn ∧ Sta C.K C.mg b Z H σ ρ (v :: vs) (.v d :: as) ∧ (g d ρ).sat (fun _ ρ' => ∀ Z' H' σ', Sta C.K C.mg b Z' H' σ' ρ' vs as → wipe σ' sl = wipe σ sl → Q σ' H') (XPost C b vs as)
theorem wipe_set (σ : St) (i : Nat) (x : Option V) : ∀ {sl : List Nat}, i ∈ sl → wipe (σ.set i x) sl = wipe σ sl
  | [], h => by cases h
  | j :: sl, h => by
    unfold wipe
    by_cases e : i ∈ sl
    · rw [wipe_set σ i x e]
    · have ej : i = j := by
        rcases List.mem_cons.mp h with z | z
        · exact z
        · exact absurd z e
      subst ej
      have : ∀ sl : List Nat, i ∉ sl → wipe (σ.set i x) sl = (wipe σ sl).set i x := fun sl => by
        induction sl with
        | nil => intro _; rfl
        | cons k sl ih =>
          intro hk
          rw [List.mem_cons, not_or] at hk
          unfold wipe
          rw [ih hk.2, List.set_comm _ _ (Ne.symm hk.1)]
      rw [this sl e, List.set_set]
theorem PI.w {tg : Expr} {t t' : TI} (h : PI X tg e t) (k : ∀ σ H R, t' σ H R → t σ H R) : PI X tg e t' := ⟨fun pins s σ H R I hw => h.run pins s σ H R I (k σ H R hw)⟩
theorem PG.w {tg : Expr} {t t' : TG} (h : PG X tg t) (k : ∀ v σ H Q, t' v σ H Q → t v σ H Q) : PG X tg t' := ⟨fun pins s σ H v u Q I r hw => h.run pins s σ H v u Q I r (k v σ H Q hw)⟩
def gSet (i : Nat) : D → M Unit := fun d ρ => if i < ρ.length then .ok () (ρ.set i (some (.v d))) else .bad
theorem dg_name {sl : List Nat} (hs : i ∈ sl) (hN : X.N.Nodup) (hi : X.N[i]? = some x) (hx : Loc X.env.scope x) (hn : i ∉ C.pn) (hf : X.fn x = true ∨ X.env.scope.names.lookup x = some .local := by first | exact .inl rfl | exact .inr rfl | assumption) : PG X (.Name x pos) (tG C sl (gSet i)) := by
  refine PG.w (pg_name hN hi hx hf) fun v σ H Q ⟨b, Z, ρ, vs, as, d, hb, S, k⟩ => ?_
  unfold gSet at k
  split at k
  · rename_i hi
    exact k _ _ _ (S.store hi (by rw [hb]; exact hn)) (wipe_set _ _ _ hs)
  · exact k.elim
variable {sl : List Nat} {tg iter : Expr} {src : M (List D)} {gt : D → M Unit} {body : List Stmt}
theorem ds_for (hp : PassesOwn (model X.prog X.w) X.A X.env X.xe) (hc : X.calm = true) (hi : PI X tg iter (tI C src)) (hg : PG X tg (tG C sl gt)) (hb : PSs X body (tS C F))
    (hs : ∀ x, foldedSetIterable iter X.env x = pure x := by intro _; rfl) : PS X (.For tg iter body [] pos) (tS C (dFor src gt F)) := by
  refine PS.w (ps_for hp hc hi hg hb hs) fun D σ H k => ?_
  obtain ⟨b, Z, ρ, vs, as, hbn, hl, S, k⟩ := k
  refine ⟨b, Z, ρ, vs, as, hbn, rfl, S, R.sat_mono (R.sat_bind k) (fun ds ρ' q Z' H' ws pa J hl S' hJ => ?_) fun _ _ q => q⟩
  refine ⟨fun i m σ H => ∃ Z ρ, Sta C.K C.mg b Z H σ ρ (ws ++ vs) (pa ++ as) ∧ i + m = ds.length ∧ (forL gt F (ds.drop i) ρ).sat (finS C D b vs as) (XPost C b vs as), ⟨ds.length, Z', ρ', S', by omega, by simpa using q⟩, ?_⟩
  rintro i m σ1 H1 ⟨Z1, ρ1, S1, em, q1⟩
  obtain ⟨turn, stop⟩ := hJ b Z1 H1 σ1 ρ1 vs as S1
  by_cases hi : i < ds.length
  · obtain ⟨go, yld⟩ := turn i ds[i] (List.getElem?_eq_getElem hi)
    refine .inr ⟨go, fun σ2 H2 => ∃ Z ρ, Sta C.K C.mg b Z H2 σ2 ρ (ws ++ vs) (pa ++ as) ∧ (forL gt F (ds.drop (i + 1)) ρ).sat (finS C D b vs as) (XPost C b vs as), fun σ2 H2 ⟨Z2, ρ2, S2, q2⟩ => ⟨m - 1, by omega, Z2, ρ2, S2, by omega, q2⟩, fun x H2 hy => ?_⟩
    obtain ⟨Z2, S2⟩ := yld x H2 hy
    rw [List.drop_eq_getElem_cons hi] at q1
    refine ⟨b, Z2, ρ1, ws ++ vs, pa ++ as, ds[i], hbn, S2, R.sat_mono (R.sat_bind q1) (fun _ ρ3 q3 Z3 H3 σ3 S3 _ => ?_) fun _ _ q => q.pops hl⟩
    refine ⟨b, Z3, ρ3, ws ++ vs, pa ++ as, hbn, rfl, S3, R.sat_mono (R.sat_bind q3) (fun fl ρ4 q4 => ?_) fun _ _ q => q.pops hl⟩
    cases fl with
    | nx => exact fun Z' H' σ' S' => ⟨Z', ρ4, S', q4⟩
    | ct => exact fun Z' H' σ' S' => ⟨Z', ρ4, S', q4⟩
    | bk => exact fun Z' H' σ' S' => q4 Z' H' σ' (S'.pops hl)
    | ret a => exact fun Z' H' σ' v S' => q4 Z' H' σ' v ((S'.unrot hl).pops hl)
  · have e : i = ds.length := by omega
    subst e
    rw [List.drop_length] at q1
    exact .inl ⟨stop, q1 _ _ _ (S1.pops hl)⟩
theorem ds_while (hp : PassesOwn (model X.prog X.w) X.A X.env X.xe) (hc : PT X c (tT C p)) (hb : PSs X body (tS C F)) : PS X (.While c body [] pos) (tS C (dWhile p F)) := by
  refine PS.w (ps_while hp hc hb) fun D σ H k => ?_
  obtain ⟨b, Z, ρ, vs, as, hbn, hl, S, k⟩ := k
  have nb : dWhile p F ρ ≠ .bad := fun e => by rw [e] at k; exact k
  obtain ⟨n, en⟩ := dWhile_some nb
  rw [en] at k
  refine ⟨fun m σ H => ∃ Z ρ, Sta C.K C.mg b Z H σ ρ vs as ∧ (whileN p F m ρ).sat (finS C D b vs as) (XPost C b vs as), ⟨n, Z, ρ, S, k⟩, ?_⟩
  rintro m σ1 H1 ⟨Z1, ρ1, S1, q1⟩
  cases m with
  | zero => exact q1.elim
  | succ m =>
    refine ⟨b, Z1, ρ1, vs, as, hbn, rfl, S1, R.sat_mono (R.sat_bind q1) (fun d ρ2 q2 Z2 H2 S2 => ?_) fun _ _ q => q⟩
    cases d with
    | true =>
      refine ⟨fun σ H => ∃ Z ρ, Sta C.K C.mg b Z H σ ρ vs as ∧ (whileN p F m ρ).sat (finS C D b vs as) (XPost C b vs as), fun σ' H' q => ⟨m, by omega, q⟩, ?_⟩
      refine ⟨b, Z2, ρ2, vs, as, hbn, rfl, S2, R.sat_mono (R.sat_bind q2) (fun fl ρ3 q3 => ?_) fun _ _ q => q⟩
      cases fl with
      | nx => exact fun Z' H' σ' S' => ⟨Z', ρ3, S', q3⟩
      | ct => exact fun Z' H' σ' S' => ⟨Z', ρ3, S', q3⟩
      | bk => exact fun Z' H' σ' S' => q3 Z' H' σ' S'
      | ret a => exact q3
    | false => exact q2 Z2 H2 σ1 S2
end
end DD

namespace DD
open PySem PySem.Spec L2
open PyProof.Rows hiding St

mutual
def D.py : D → PyData
  | .non => .none
  | .bl b => .bool b
  | .int i => .int i
  | .str x => .str x
  | .tup l => .tuple (pys l)
  | .lst l => .list (pys l)
  | .fz l => .list (pys l)
  | .ins _ _ _ => .none
def pys : List D → List PyData
  | [] => []
  | d :: l => d.py :: pys l
end
mutual
def D.plain : D → Bool
  | .tup l => plains l
  | .lst l => plains l
  | .fz l => plains l
  | .ins _ _ _ => false
  | _ => true
def plains : List D → Bool
  | [] => true
  | d :: l => d.plain && plains l
end
def D.cmp (d : D) : Bool := d.plain && SeqAt.shaped d.py
section
variable {K : PySem.W.Frag} {mg : Str → Option Value} {Z H : Hp}
mutual
theorem RepD.dp (z : Same Z H) : ∀ (d : D) (x : V), RepD K mg Z x d → d.plain = true → Dp K H x d.py
  | .non, _, h, _ => by cases h; exact .non
  | .bl _, _, h, _ => by cases h; exact .bl _
  | .int _, _, h, _ => by cases h; exact .int _
  | .str _, _, h, _ => by cases h; exact .str _
  | .tup l, _, h, p => by
    cases h with
    | tup h1 h2 => exact .tup (sameT z h1) (RepDs.dp z l _ h2 (by simpa [D.plain] using p))
  | .lst l, _, h, p => by
    cases h with
    | lst h1 h2 => exact .lst (SqL.of (z _ _ h1)) (RepDs.dp z l _ h2 (by simpa [D.plain] using p))
  | .fz l, _, h, p => by
    cases h with
    | fz h1 h2 => exact .lst (z.seq h1) (RepDs.dp z l _ h2 (by simpa [D.plain] using p))
  | .ins _ _ _, _, h, p => by simp [D.plain] at p
theorem RepDs.dp (z : Same Z H) : ∀ (ds : List D) (xs : List V), RepDs K mg Z xs ds → plains ds = true → DpAll K H xs (pys ds)
  | [], _, h, _ => by cases h; exact .nil
  | d :: ds, _, h, p => by
    cases h with
    | cons h1 h2 =>
      have p' : d.plain = true ∧ plains ds = true := by simpa [plains] using p
      exact .cons (RepD.dp z d _ h1 p'.1) (RepDs.dp z ds _ h2 p'.2)
end
end

def ii (g : Int → Int → Option D) (a c : A) : Option A := match a, c with
  | .v (.int i), .v (.int j) => (g i j).map .v
  | _, _ => none
section
variable {C : SC} {X : Cx}
theorem op2_ints {r : R2} {Cd : Int → Int → Prop} {gv : Int → Int → V} {g : Int → Int → Option D} (hr : ∀ x y H Q, rI Cd gv x y H Q → r x y H Q)
    (hg : ∀ i j d, g i j = some d → Cd i j ∧ ∀ Z, RepD C.K C.mg Z (gv i j) d) : Op2 C r (ii g) := by
  intro b Z H σ ρ vs as x y a c res Q S e k
  unfold ii at e
  split at e
  · rename_i i j
    cases e' : g i j with
    | none => rw [e'] at e; cases e
    | some d =>
      rw [e'] at e
      cases e
      obtain ⟨h1, h2⟩ := hg i j d e'
      have t1 := S.top
      have t2 := S.top2
      cases t1
      cases t2
      exact hr _ _ _ _ ⟨i, j, rfl, rfl, h1, k _ _ _ (S.pop.pop.push (h2 Z))⟩
  · cases e
/-- IntMulOk below a bound -/
theorem mulOk {i j : Int} (h : i.natAbs.log2 + j.natAbs.log2 < 134217000) : IntMulOk i j := by
  have b : ∀ x : Int, Builtin.Int.intBits x ≤ x.natAbs.log2 + 1 := fun x => by
    unfold Builtin.Int.intBits
    split <;> omega
  have h1 := b i
  have h2 := b j
  have e : bitsLine = 134217728 := by decide
  unfold IntMulOk
  intro z
  rw [Bool.and_eq_true] at z
  have z2 := z.2
  unfold Builtin.Int.intTooBig at z2
  have z3 := of_decide_eq_true z2
  rw [e] at z3
  omega
def MulC (i j : Int) : Prop := i.natAbs.log2 + j.natAbs.log2 < 134217000
def DivC (i j : Int) : Prop := j ≠ 0 ∧ (j.natAbs.log2 < 9000 ∨ i.natAbs.log2 < j.natAbs.log2 + 4400)
theorem divOk {i j : Int} (h : DivC i j) : Builtin.divisionGoesByPylong i j = false := by
  rcases h.2 with h2 | h2
  · exact PyProof.noPylong_of_log2 h2
  · have h0 := h.1
    unfold Builtin.divisionGoesByPylong
    have hj : (j == 0) = false := by simp [h0]
    simp only [hj]
    by_cases hi : (i == 0) = true
    · simp only [hi]
      simp
    · simp only [hi]
      simp only [Bool.and_eq_false_iff, decide_eq_false_iff_not]
      right
      simp only [Bool.false_eq_true, if_false]
      omega
theorem or_mul : OpR X (binaryOp .Mult) (rI MulC fun i j => .int (i * j)) := opI fun _ _ _ _ _ _ _ hc q => mul_int q (mulOk hc)
theorem or_div : OpR X (binaryOp .FloorDiv) (rI DivC fun i j => .int (i.fdiv j)) := opI fun _ _ _ _ _ _ _ hc q => floordiv_int hc.1 q (.inl (divOk hc))

def opAdd (a c : A) : Option A := match a, c with
  | .v (.int i), .v (.int j) => some (.v (.int (i + j)))
  | .v (.tup l), .v (.tup k) => if l.length + k.length ≤ sizeLine then some (.v (.tup (l ++ k))) else none
  | .v (.str x), .v (.str y) => if x.length + y.length ≤ sizeLine then some (.v (.str (x ++ y))) else none
  | .m l, .m k => if l.length + k.length ≤ sizeLine then some (.m ((frzs l ++ frzs k).map A.v)) else none
  | .v (.lst l), .m k => if l.length + k.length ≤ sizeLine then some (.m ((l ++ frzs k).map A.v)) else none
  | .m l, .v (.lst k) => if l.length + k.length ≤ sizeLine then some (.m ((frzs l ++ k).map A.v)) else none
  | .v (.lst l), .v (.lst k) => if l.length + k.length ≤ sizeLine then some (.m ((l ++ k).map A.v)) else none
  | _, _ => none
def rAdd (K : PySem.W.Frag) : R2 := fun x y H Q => (rI0 (fun i j => .int (i + j)) x y H Q ∨ rCatA K x y H Q) ∨ (rCat x y H Q ∨ ∃ i j, x = .str i ∧ y = .str j ∧ i.length + j.length ≤ sizeLine ∧ Q (.str (i ++ j)) H)
theorem or_add : OpR X (binaryOp .Add) (rAdd X.K) := (op_add.or op_catA).or (op_cat.or op_add_str)
/-- two lists end to end -/
theorem add_lists {b : Base} {Z H : Hp} {σ : St} {ρ : DEnv} {vs : List V} {as : List A} {x y : V} {l k : List D} {Q : VK} (S : Sta C.K C.mg b Z H σ ρ (y :: x :: vs) (.v (.lst k) :: .v (.lst l) :: as)) (hz : l.length + k.length ≤ sizeLine)
    (q : ∀ Z' H' v, Sta C.K C.mg b Z' H' σ ρ (v :: vs) (.m ((l ++ k).map A.v) :: as) → Q v H') : rCat x y H Q := by
  have t1 := S.top
  have t2 := S.top2
  cases t1 with
  | lst h1 h2 =>
    cases t2 with
    | lst h3 h4 =>
      refine ⟨_, _, _, _, rfl, rfl, S.zh _ _ h3, S.zh _ _ h1, by rw [h4.length, h2.length]; exact hz, fun p hp => ?_⟩
      have r := RepDs.append h4 h2
      have S' := S.pop.pop
      have S2 : ∀ {ws : List V} {ds : List D}, RepDs C.K C.mg Z ws ds → Sta C.K C.mg b Z H σ ρ (ws ++ vs) (ds.map A.v ++ as) := fun {ws} => by
        induction ws with
        | nil => intro ds h; cases h; exact S'
        | cons w ws ih =>
          intro ds h
          cases h with
          | cons h1 h2 => exact (ih h2).push h1
      exact q _ _ _ ((S2 r).newM (by rw [List.length_map]; exact r.length) hp)
theorem Sta.freeze2 {b : Base} {Z H : Hp} {σ : St} {ρ : DEnv} {vs : List V} {as : List A} {x y : V} {a c : A} (S : Sta C.K C.mg b Z H σ ρ (y :: x :: vs) (c :: a :: as)) : ∃ Z', Sta C.K C.mg b Z' H σ ρ (y :: x :: vs) (.v c.frz :: .v a.frz :: as) := by
  obtain ⟨Z1, _, S1⟩ := S.freeze
  obtain ⟨Z2, z2, S2⟩ := S1.pop.freeze
  exact ⟨Z2, S2.push (RepD.mono z2 _ _ S1.top)⟩
theorem frzs_length : ∀ l : List A, (frzs l).length = l.length
  | [] => rfl
  | a :: l => by rw [frzs, List.length_cons, List.length_cons, frzs_length l]
theorem o2_add : Op2 C (rAdd C.K) opAdd := by
  intro b Z H σ ρ vs as x y a c res Q S e k
  unfold opAdd at e
  split at e
  · rename_i i j
    cases e
    have t1 := S.top
    have t2 := S.top2
    cases t1
    cases t2
    exact .inl (.inl ⟨i, j, rfl, rfl, k _ _ _ (S.pop.pop.push (.int _))⟩)
  · rename_i l m
    split at e
    · rename_i hz
      cases e
      have t1 := S.top
      have t2 := S.top2
      cases t1 with
      | tup h1 h2 =>
        cases t2 with
        | tup h3 h4 =>
          refine .inl (.inr ⟨_, _, _, _, rfl, rfl, sameT S.zh h3, sameT S.zh h1, by rw [h4.length, h2.length]; exact hz, fun e0 => ?_, fun e0 e1 => ?_, fun e0 e1 p hp => ?_⟩)
          · subst e0
            cases h4
            exact k _ _ _ (S.pop.pop.push (.tup h1 h2))
          · subst e1
            cases h2
            rw [List.append_nil] at k
            exact k _ _ _ (S.pop.pop.push (.tup h3 h4))
          · have zp := S.zh.free hp
            exact k _ _ _ (S.pop.pop.newF (o := .tup _) hp (.tup (SqT.of upd_same) (RepDs.mono (same_upd zp) _ _ (RepDs.append h4 h2))))
    · cases e
  · rename_i u w
    split at e
    · rename_i hz
      cases e
      have t1 := S.top
      have t2 := S.top2
      cases t1
      cases t2
      exact .inr (.inr ⟨u, w, rfl, rfl, hz, k _ _ _ (S.pop.pop.push (.str _))⟩)
    · cases e
  · rename_i l m
    split at e
    · rename_i hz
      cases e
      obtain ⟨Z', S'⟩ := S.freeze2
      exact .inr (.inl (add_lists S' (by rw [frzs_length, frzs_length]; exact hz) k))
    · cases e
  · rename_i l m
    split at e
    · rename_i hz
      cases e
      obtain ⟨Z', S'⟩ := S.freeze2
      exact .inr (.inl (add_lists S' (by rw [frzs_length]; exact hz) k))
    · cases e
  · rename_i l m
    split at e
    · rename_i hz
      cases e
      obtain ⟨Z', S'⟩ := S.freeze2
      exact .inr (.inl (add_lists S' (by rw [frzs_length]; exact hz) k))
    · cases e
  · rename_i l m
    split at e
    · rename_i hz
      cases e
      exact .inr (.inl (add_lists S hz k))
    · cases e
  · cases e

def opSub : A → A → Option A := ii fun i j => some (.int (i - j))
theorem o2_sub : Op2 C (rI0 fun i j => .int (i - j)) opSub := op2_ints (Cd := fun _ _ => True) (fun _ _ _ _ ⟨i, j, e1, e2, _, q⟩ => ⟨i, j, e1, e2, q⟩) fun i j d e => by cases e; exact ⟨trivial, fun _ => .int _⟩
open Classical in
noncomputable def opMulI (i j : Int) : Option D := if MulC i j then some (.int (i * j)) else none
open Classical in
noncomputable def opMul (a c : A) : Option A := match a, c with
  | .v (.int i), .v (.int j) => if MulC i j then some (.v (.int (i * j))) else none
  | .m l, .v (.int k) => if l.length * k.toNat ≤ sizeLine ∧ -(2 ^ 63) ≤ k ∧ k < 2 ^ 63 then some (.m ((List.replicate k.toNat (frzs l)).flatten.map A.v)) else none
  | .v (.tup l), .v (.int k) => if l ≠ [] ∧ l.length ≤ 1000 ∧ 2 ≤ k ∧ k ≤ 1000 then some (.v (.tup (List.replicate k.toNat l).flatten)) else none
  | _, _ => none
def rMul (K : PySem.W.Frag) : R2 := fun x y H Q => (rI MulC (fun i j => .int (i * j)) x y H Q ∨ rRep x y H Q) ∨ rRepT K x y H Q
theorem or_mulA : OpR X (binaryOp .Mult) (rMul X.K) := (or_mul.or op_rep).or op_repT
theorem RepDs.rep {K : PySem.W.Frag} {mg : Str → Option Value} {Z : Hp} {ws : List V} {ds : List D} (h : RepDs K mg Z ws ds) : ∀ k : Nat, RepDs K mg Z (List.replicate k ws).flatten (List.replicate k ds).flatten
  | 0 => .nil
  | k + 1 => by
    rw [List.replicate_succ, List.replicate_succ, List.flatten_cons, List.flatten_cons]
    exact RepDs.append h (RepDs.rep h k)
theorem Sta.pushes {b : Base} {Z H : Hp} {σ : St} {ρ : DEnv} {vs : List V} {as : List A} (S : Sta C.K C.mg b Z H σ ρ vs as) : ∀ {ws : List V} {ds : List D}, RepDs C.K C.mg Z ws ds → Sta C.K C.mg b Z H σ ρ (ws ++ vs) (ds.map A.v ++ as)
  | [], _, h => by cases h; exact S
  | w :: ws, _, h => by
    cases h with
    | cons h1 h2 => exact (Sta.pushes S h2).push h1
theorem o2_mul : Op2 C (rMul C.K) opMul := by
  intro b Z H σ ρ vs as x y a c res Q S e k
  unfold opMul at e
  split at e
  · rename_i i j
    split at e
    · rename_i hz
      cases e
      have t1 := S.top
      have t2 := S.top2
      cases t1
      cases t2
      exact .inl (.inl ⟨i, j, rfl, rfl, hz, k _ _ _ (S.pop.pop.push (.int _))⟩)
    · cases e
  · rename_i l n
    split at e
    · rename_i hz
      cases e
      obtain ⟨Z', S'⟩ := S.freeze2
      have t1 := S'.top
      have t2 := S'.top2
      cases t1
      cases t2 with
      | lst h3 h4 =>
        refine .inl (.inr ⟨_, n, _, rfl, rfl, S'.zh _ _ h3, hz.2.1, hz.2.2, by rw [h4.length, frzs_length]; exact hz.1, fun p hp => ?_⟩)
        have r := h4.rep n.toNat
        exact k _ _ _ ((S'.pop.pop.pushes r).newM (by rw [List.length_map]; exact r.length) hp)
    · cases e
  · rename_i l n
    split at e
    · rename_i hz
      cases e
      have t1 := S.top
      have t2 := S.top2
      cases t1
      cases t2 with
      | tup h3 h4 =>
        refine .inr ⟨_, n, _, rfl, rfl, sameT S.zh h3, fun e0 => ?_, hz.2.2.1, hz.2.2.2, by rw [h4.length]; exact hz.2.1, fun p hp => ?_⟩
        · subst e0; cases h4; exact hz.1 rfl
        · have zp := S.zh.free hp
          exact k _ _ _ (S.pop.pop.newF (o := .tup _) hp (.tup (SqT.of upd_same) (RepDs.mono (same_upd zp) _ _ (h4.rep n.toNat))))
    · cases e
  · cases e
open Classical in
noncomputable def opDiv : A → A → Option A := ii fun i j => if DivC i j then some (.int (i.fdiv j)) else none
theorem o2_div : Op2 C (rI DivC fun i j => .int (i.fdiv j)) opDiv := op2_ints (fun _ _ _ _ h => h) fun i j d e => by
  split at e
  · rename_i h; cases e; exact ⟨h, fun _ => .int _⟩
  · cases e
def opMod : A → A → Option A := ii fun i j => if j ≠ 0 then some (.int (i.fmod j)) else none
theorem o2_mod : Op2 C (rI (fun _ j => j ≠ 0) fun i j => .int (i.fmod j)) opMod := op2_ints (fun _ _ _ _ h => h) fun i j d e => by
  split at e
  · rename_i h; cases e; exact ⟨h, fun _ => .int _⟩
  · cases e
open Classical in
noncomputable def opPow : A → A → Option A := ii fun i j => if CPow i j then some (.int (i ^ j.toNat)) else none
theorem o2_pow : Op2 C (rI CPow fun i j => .int (i ^ j.toNat)) opPow := op2_ints (fun _ _ _ _ h => h) fun i j d e => by
  split at e
  · rename_i h; cases e; exact ⟨h, fun _ => .int _⟩
  · cases e
def opNeg (a : A) : Option A := match a with
  | .v (.int i) => some (.v (.int (-i)))
  | _ => none
theorem o1_neg : Op1 C (rU fun i => .int (-i)) opNeg := by
  intro b Z H σ ρ vs as x a res Q S e k
  unfold opNeg at e
  split at e
  · cases e
    have t := S.top
    cases t
    exact ⟨_, rfl, k _ _ _ (S.pop.push (.int _))⟩
  · cases e
def opLt : A → A → Option A := ii fun i j => some (.bl (decide (i < j)))
def opLe : A → A → Option A := ii fun i j => some (.bl (decide (i ≤ j)))
def opGt : A → A → Option A := ii fun i j => some (.bl (decide (j < i)))
def opGe : A → A → Option A := ii fun i j => some (.bl (decide (j ≤ i)))
theorem o2_c0 {g : Int → Int → Bool} : Op2 C (rI0 fun i j => .bl (g i j)) (ii fun i j => some (.bl (g i j))) := op2_ints (Cd := fun _ _ => True) (fun _ _ _ _ ⟨i, j, e1, e2, _, q⟩ => ⟨i, j, e1, e2, q⟩) fun i j d e => by cases e; exact ⟨trivial, fun _ => .bl _⟩
theorem o2_lt : Op2 C (rI0 fun i j => .bl (decide (i < j))) opLt := o2_c0
theorem o2_le : Op2 C (rI0 fun i j => .bl (decide (i ≤ j))) opLe := o2_c0
theorem o2_gt : Op2 C (rI0 fun i j => .bl (decide (j < i))) opGt := o2_c0
theorem o2_ge : Op2 C (rI0 fun i j => .bl (decide (j ≤ i))) opGe := o2_c0
def opEqv (f : Bool → Bool) (a c : A) : Option A := if a.frz.cmp && c.frz.cmp then some (.v (.bl (f (PyData.eqv a.frz.py c.frz.py)))) else none
def opEq : A → A → Option A := opEqv id
def opNe : A → A → Option A := opEqv not
theorem cmp_of {d : D} (h : d.cmp = true) : d.plain = true ∧ SeqAt.shaped d.py = true := by simpa [D.cmp] using h
theorem o2_eqv {f : Bool → Bool} {r : R2} (hr : ∀ x y H Q, (∃ d e, Dp C.K H x d ∧ Dp C.K H y e ∧ SeqAt.shaped d = true ∧ SeqAt.shaped e = true ∧ Q (.bl (f (PyData.eqv d e))) H) → r x y H Q) : Op2 C r (opEqv f) := by
  intro b Z H σ ρ vs as x y a c res Q S e k
  unfold opEqv at e
  split at e
  · rename_i hz
    cases e
    simp only [Bool.and_eq_true] at hz
    obtain ⟨p1, s1⟩ := cmp_of hz.1
    obtain ⟨p2, s2⟩ := cmp_of hz.2
    obtain ⟨Z', S'⟩ := S.freeze2
    exact hr _ _ _ _ ⟨_, _, RepD.dp S'.zh _ _ S'.top2 p1, RepD.dp S'.zh _ _ S'.top p2, s1, s2, k _ _ _ (S'.pop.pop.push (.bl _))⟩
  · cases e
theorem o2_eq : Op2 C (rEqD C.K) opEq := o2_eqv fun _ _ _ _ h => h
theorem o2_ne : Op2 C (rNeD C.K) opNe := o2_eqv fun _ _ _ _ h => h
/-- x is None -/
def isN (d : D) : Bool := match d with
  | .non => true
  | _ => false
def opIsN (a c : A) : Option A := match a, c with
  | .v d, .v .non => some (.v (.bl (isN d)))
  | _, _ => none
def opNotN (a c : A) : Option A := match a, c with
  | .v d, .v .non => some (.v (.bl (!isN d)))
  | _, _ => none
theorem RepD.isN {K : PySem.W.Frag} {mg : Str → Option Value} {Z : Hp} {x : V} {d : D} (h : RepD K mg Z x d) : decide (x = .non) = DD.isN d := by
  cases h <;> simp [DD.isN]
theorem o2_isN : Op2 C (fun x y H Q => y = .non ∧ Q (.bl (decide (x = .non))) H) opIsN := by
  intro b Z H σ ρ vs as x y a c res Q S e k
  unfold opIsN at e
  split at e
  · cases e
    have t := S.top
    cases t
    exact ⟨rfl, k _ _ _ (S.pop.pop.push (by rw [RepD.isN S.top2]; exact .bl _))⟩
  · cases e
theorem o2_notN : Op2 C (fun x y H Q => y = .non ∧ Q (.bl (!decide (x = .non))) H) opNotN := by
  intro b Z H σ ρ vs as x y a c res Q S e k
  unfold opNotN at e
  split at e
  · cases e
    have t := S.top
    cases t
    exact ⟨rfl, k _ _ _ (S.pop.pop.push (by rw [RepD.isN S.top2]; exact .bl _))⟩
  · cases e
/-- x is True, of truths -/
def opIsB (a c : A) : Option A := match a, c with
  | .v (.bl x), .v (.bl y) => some (.v (.bl (decide (x = y))))
  | _, _ => none
def opNotB (a c : A) : Option A := match a, c with
  | .v (.bl x), .v (.bl y) => some (.v (.bl (!decide (x = y))))
  | _, _ => none
theorem o2_isB : Op2 C (fun x y H Q => ∃ a b, x = .bl a ∧ y = .bl b ∧ Q (.bl (decide (a = b))) H) opIsB := by
  intro b Z H σ ρ vs as x y a c res Q S e k
  unfold opIsB at e
  split at e
  · cases e
    have t := S.top
    have t2 := S.top2
    cases t
    cases t2
    exact ⟨_, _, rfl, rfl, k _ _ _ (S.pop.pop.push (.bl _))⟩
  · cases e
theorem o2_notB : Op2 C (fun x y H Q => ∃ a b, x = .bl a ∧ y = .bl b ∧ Q (.bl (!decide (a = b))) H) opNotB := by
  intro b Z H σ ρ vs as x y a c res Q S e k
  unfold opNotB at e
  split at e
  · cases e
    have t := S.top
    have t2 := S.top2
    cases t
    cases t2
    exact ⟨_, _, rfl, rfl, k _ _ _ (S.pop.pop.push (.bl _))⟩
  · cases e
/-- in, not in: flat things in a list or tuple of flat things -/
def D.toV : D → V
  | .non => .non
  | .bl b => .bl b
  | .int i => .int i
  | .str x => .str x
  | _ => .non
def D.flat : D → Bool
  | .non => true
  | .bl _ => true
  | .int _ => true
  | .str _ => true
  | _ => false
theorem RepD.flat {K : PySem.W.Frag} {mg : Str → Option Value} {Z : Hp} {x : V} {d : D} (h : RepD K mg Z x d) (f : d.flat = true) : x = d.toV ∧ flatV x = true := by
  cases h <;> simp_all [D.flat, D.toV, flatV]
theorem RepDs.flat {K : PySem.W.Frag} {mg : Str → Option Value} {Z : Hp} : ∀ {xs : List V} {ds : List D}, RepDs K mg Z xs ds → ds.all D.flat = true → xs = ds.map D.toV ∧ xs.all flatV = true
  | [], _, h, _ => by cases h; exact ⟨rfl, rfl⟩
  | x :: xs, _, h, f => by
    cases h with
    | cons h1 h2 =>
      rw [List.all_cons, Bool.and_eq_true] at f
      obtain ⟨e1, e2⟩ := h1.flat f.1
      obtain ⟨e3, e4⟩ := RepDs.flat h2 f.2
      exact ⟨by rw [List.map_cons, ← e1, ← e3], by rw [List.all_cons, e2, e4]; rfl⟩
def inD (d : D) (ds : List D) : Bool := inV d.toV (ds.map D.toV)
def seqD : D → Option (List D)
  | .tup l => some l
  | .lst l => some l
  | .fz l => some l
  | _ => none
def opIn (f : Bool → Bool) (a c : A) : Option A := match seqD c.frz with
  | some ds => if a.frz.flat && ds.all D.flat then some (.v (.bl (f (inD a.frz ds)))) else none
  | none => none
/-- a sequence's place in the heap -/
theorem RepD.seq {K : PySem.W.Frag} {mg : Str → Option Value} {Z H : Hp} {x : V} {d : D} {ds : List D} (h : RepD K mg Z x d) (z : Same Z H) (e : seqD d = some ds) : ∃ p xs, x = .ref p ∧ (SqL K H p xs ∨ SqT K H p xs) ∧ RepDs K mg Z xs ds := by
  cases h with
  | tup h1 h2 => cases e; exact ⟨_, _, rfl, .inr (sameT z h1), h2⟩
  | lst h1 h2 => cases e; exact ⟨_, _, rfl, .inl (SqL.of (z _ _ h1)), h2⟩
  | fz h1 h2 => cases e; exact ⟨_, _, rfl, .inl (z.seq h1), h2⟩
  | _ => cases e
theorem o2_in {neg : Bool} : Op2 C (rIn C.K neg) (opIn fun k => if neg then !k else k) := by
  intro b Z H σ ρ vs as x y a c res Q S e k
  unfold opIn at e
  split at e
  · rename_i ds hds
    split at e
    · rename_i hz
      cases e
      rw [Bool.and_eq_true] at hz
      obtain ⟨Z', S'⟩ := S.freeze2
      obtain ⟨p, xs, rfl, hs, r⟩ := S'.top.seq S'.zh hds
      obtain ⟨e1, f1⟩ := S'.top2.flat hz.1
      obtain ⟨e2, f2⟩ := r.flat hz.2
      refine ⟨p, xs, rfl, hs, f1, f2, ?_⟩
      have q := k _ _ _ (S'.pop.pop.push (.bl (if neg then !inD a.frz ds else inD a.frz ds)))
      unfold inD at q
      rw [← e1, ← e2] at q
      cases neg <;> exact q
    · cases e
  · cases e
def opIx (a c : A) : Option A := match c with
  | .v (.int i) => (match a.frz with
    | .str z => (match atI z.cps.toList i with
      | some n => if z.length ≤ sizeLine then some (.v (.str ⟨#[n]⟩)) else none
      | none => none)
    | d => (match seqD d with
      | some ds => (match atI ds i with
        | some e => some (.v e)
        | none => none)
      | none => none))
  | _ => none
theorem atI_rep {K : PySem.W.Frag} {mg : Str → Option Value} {Z : Hp} {xs : List V} {ds : List D} {i : Int} {d : D} (h : RepDs K mg Z xs ds) (e : atI ds i = some d) : ∃ x, atI xs i = some x ∧ RepD K mg Z x d := by
  unfold atI at e ⊢
  rw [h.length]
  cases q : ixN ds.length i with
  | none => rw [q] at e; cases e
  | some j =>
    rw [q] at e
    exact h.get e
theorem ix_of {K : PySem.W.Frag} {mg : Str → Option Value} {b : Base} {Z H : Hp} {σ : St} {ρ : DEnv} {vs : List V} {as : List A} {x : V} {d : D} {ds : List D} {i : Int} {e : D} {Q : VK} (S : Sta K mg b Z H σ ρ (x :: vs) (.v d :: as)) (hds : seqD d = some ds) (he : atI ds i = some e)
    (k : ∀ Z' H' v, Sta K mg b Z' H' σ ρ (v :: vs) (.v e :: as) → Q v H') : rIx K x (.int i) H Q := by
  obtain ⟨p, xs, rfl, hs, r⟩ := S.top.seq S.zh hds
  obtain ⟨y, e1, r1⟩ := atI_rep r he
  rcases hs with hs | hs
  · exact .inl ⟨p, xs, i, y, rfl, rfl, hs, e1, k _ _ _ (S.pop.push r1)⟩
  · exact .inr (.inl ⟨p, xs, i, y, rfl, rfl, hs, e1, k _ _ _ (S.pop.push r1)⟩)
theorem o2_ix : Op2 C (rIx C.K) opIx := by
  intro b Z H σ ρ vs as x y a c res Q S e k
  obtain ⟨Z', S'⟩ := S.freeze2
  unfold opIx at e
  split at e
  · rename_i i
    have t := S'.top
    simp only [A.frz] at t
    cases t
    split at e
    · rename_i z hz
      split at e
      · rename_i n hn
        split at e
        · rename_i hl
          cases e
          rw [hz] at S'
          have t2 := S'.top2
          cases t2
          exact .inr (.inr ⟨z, i, n, rfl, rfl, hl, hn, k _ _ _ (S'.pop.pop.push (.str _))⟩)
        · cases e
      · cases e
    · split at e
      · rename_i ds hds
        split at e
        · rename_i d' hd
          cases e
          exact ix_of S'.pop hds hd k
        · cases e
      · cases e
  · cases e
end
end DD

namespace DD
open PySem PySem.Spec L2
open PyProof.Rows hiding St

/-- what a def makes of its arguments: the value, and what its lent arguments hold then -/
inductive FR where
  | ok (a : A) (l : List A)
  | exc (e : Ex) (l : List A)
  | bad
abbrev Fn := List A → FR
def okArgs (pn : List Nat) : Nat → List A → Bool
  | _, [] => true
  | i, .v _ :: as => !pn.contains i && okArgs pn (i + 1) as
  | i, _ :: as => pn.contains i && okArgs pn (i + 1) as
def lentL (pn : List Nat) : Nat → List A → DEnv → Option (List A)
  | _, [], _ => some []
  | _, _ :: _, [] => none
  | i, a :: as, s :: ρ => if pn.contains i then (match s with
      | some c => (lentL pn (i + 1) as ρ).map (c :: ·)
      | none => none)
    else (lentL pn (i + 1) as ρ).map (a :: ·)
/-- a def of n parameters and N names by its body; pn: the parameters that it may change -/
def dFn (n N : Nat) (pn : List Nat) (body : M Flow) : Fn := fun as =>
  if as.length = n ∧ okArgs pn 0 as = true then
    match body (as.map some ++ List.replicate (N - n) none) with
    | .ok fl ρ => (match lentL pn 0 as ρ with
      | some l => (match fl with
        | .ret a => .ok a l
        | .nx => .ok (.v .non) l
        | _ => .bad)
      | none => .bad)
    | .exc e ρ => (match lentL pn 0 as ρ with
      | some l => .exc e l
      | none => .bad)
    | .bad => .bad
  else .bad

section
variable (K : PySem.W.Frag) (mg : Str → Option Value)
/-- values with the footprint of each -/
inductive RepL (Z H : Hp) : List V → List A → List (List Addr) → Prop
  | nil : RepL Z H [] [] []
  | cons {x : V} {xs : List V} {a : A} {as : List A} {f : List Addr} {fs : List (List Addr)} : RepA K mg Z H x a f → RepL Z H xs as fs → RepL Z H (x :: xs) (a :: as) (f :: fs)
end
/-- behind a call -/
structure After (Z H : Hp) (fs : List (List Addr)) (Z' H' : Hp) : Prop where
  zz : Same Z Z'
  zh : Same Z' H'
  kz : ∀ a, H a ≠ none → Z' a = Z a
  kh : ∀ a o, H a = some o → a ∉ fs.flatten → H' a = some o
  kd : ∀ a, H a ≠ none → H' a ≠ none
def spD (K : PySem.W.Frag) (mg : Str → Option Value) (F : Fn) : Sp := fun vs H Q E => ∃ Z as fs, Same Z H ∧ RepL K mg Z H vs as fs ∧ (∀ y, fs.flatten.count y ≤ 1) ∧ (∀ a ∈ fs.flatten, Z a = none) ∧
  match F as with
  | .ok r l => ∀ Z' H' v fr fs', After Z H fs Z' H' → RepA K mg Z' H' v r fr → RepL K mg Z' H' vs l fs' → (∀ y, fr.count y + fs'.flatten.count y ≤ 1) → (∀ a, a ∈ fr ∨ a ∈ fs'.flatten → Z' a = none) → (∀ a ∈ fr, H a = none) →
      (∀ (i : Nat) (f f' : List Addr), fs[i]? = some f → fs'[i]? = some f' → ∀ a ∈ f', a ∈ f ∨ H a = none) → Q v H'
  | .exc e l => ∀ Z' H' cls d fs', After Z H fs Z' H' → ExR K mg Z' cls d e → RepL K mg Z' H' vs l fs' → (∀ y, fs'.flatten.count y ≤ 1) → (∀ a ∈ fs'.flatten, Z' a = none) →
      (∀ (i : Nat) (f f' : List Addr), fs[i]? = some f → fs'[i]? = some f' → ∀ a ∈ f', a ∈ f ∨ H a = none) → E cls d H'
  | .bad => False

section
variable {K : PySem.W.Frag} {mg : Str → Option Value} {Z Z' H H' : Hp}
theorem RepL.length : ∀ {xs : List V} {as : List A} {fs : List (List Addr)}, RepL K mg Z H xs as fs → xs.length = as.length
  | [], _, _, h => by cases h; rfl
  | _ :: _, _, _, h => by
    cases h with
    | cons _ h => simp [RepL.length h]
theorem RepL.lengthf : ∀ {xs : List V} {as : List A} {fs : List (List Addr)}, RepL K mg Z H xs as fs → xs.length = fs.length
  | [], _, _, h => by cases h; rfl
  | _ :: _, _, _, h => by
    cases h with
    | cons _ h => simp [RepL.lengthf h]
theorem SRep.blank {P : Nat → Addr → Prop} : ∀ {n : Nat} (m : Nat), SRep K mg P Z H n (List.replicate m none) (List.replicate m none) []
  | _, 0 => .nil
  | _, m + 1 => .no (SRep.blank m)
/-- the slots at a def's entry -/
theorem SRep.start {P : Nat → Addr → Prop} : ∀ {vs : List V} {as : List A} {fs : List (List Addr)} {n : Nat} (m : Nat), RepL K mg Z H vs as fs → (∀ i f, fs[i]? = some f → ∀ a ∈ f, P (n + i) a) →
    SRep K mg P Z H n (vs.map some ++ List.replicate m none) (as.map some ++ List.replicate m none) fs.flatten
  | [], _, _, n, m, h, _ => by
    cases h
    exact SRep.blank m
  | v :: vs, _, _, n, m, h, p => by
    cases h with
    | @cons _ _ a as f fs h1 h2 =>
      refine .so h1 (fun b hb => p 0 f rfl b hb) (SRep.start m h2 fun i g hg a ha => ?_)
      have := p (i + 1) g (by simpa using hg) a ha
      rwa [Nat.add_right_comm, Nat.add_assoc]
/-- what the lent parameters hold at the end -/
theorem SRep.lent {P : Nat → Addr → Prop} {pn : List Nat} : ∀ {vs : List V} {as : List A} {fs : List (List Addr)} {n : Nat} {σ : St} {ρ : DEnv} {f : List Addr} {l : List A}, RepL K mg Z H vs as fs → okArgs pn n as = true → Same Z Z' → SRep K mg P Z' H' n σ ρ f →
    (∀ i, n + i ∈ pn → i < vs.length → σ[i]? = some (vs[i]?)) → lentL pn n as ρ = some l → ∃ fs', RepL K mg Z' H' vs l fs' ∧ (∀ y, fs'.flatten.count y ≤ f.count y) ∧ ∀ i f', fs'[i]? = some f' → ∀ a ∈ f', P (n + i) a
  | [], _, _, _, _, _, _, _, h, _, _, _, _, e => by
    cases h
    simp only [lentL, Option.some.injEq] at e
    subst e
    exact ⟨[], .nil, fun y => by simp, fun i f' e => by simp at e⟩
  | v :: vs, _, _, n, σ, ρ, f, l, h, ok, zz, hs, pin, e => by
    cases h with
    | @cons _ _ a as fa fs h1 h2 =>
      cases hs with
      | nil => simp [lentL] at e
      | @no _ s σ ρ f hs =>
        have pin' : ∀ i, n + 1 + i ∈ pn → i < vs.length → σ[i]? = some (vs[i]?) := fun i hi hl => by
          have := pin (i + 1) (by rwa [Nat.add_right_comm, Nat.add_assoc] at hi) (by simpa using hl)
          simpa using this
        unfold lentL at e
        split at e
        · cases e
        · rename_i hn
          cases h1 with
          | v r =>
            simp only [okArgs, Bool.and_eq_true] at ok
            cases q : lentL pn (n + 1) as ρ with
            | none => rw [q] at e; cases e
            | some l' =>
              rw [q] at e
              cases e
              obtain ⟨fs', r1, c1, p1⟩ := SRep.lent h2 ok.2 zz hs pin' q
              refine ⟨[] :: fs', .cons (.v (RepD.mono zz _ _ r)) r1, fun y => by simpa using c1 y, fun i f' ef => ?_⟩
              cases i with
              | zero => simp at ef; subst ef; intro a ha; cases ha
              | succ i =>
                intro a ha
                have := p1 i f' (by simpa using ef) a ha
                rwa [Nat.add_right_comm, Nat.add_assoc] at this
          | m _ _ => simp only [okArgs, Bool.and_eq_true] at ok; exact absurd ok.1 hn
          | mi _ _ _ => simp only [okArgs, Bool.and_eq_true] at ok; exact absurd ok.1 hn
      | @so _ x c σ ρ fc f hc pc hs =>
        have pin' : ∀ i, n + 1 + i ∈ pn → i < vs.length → σ[i]? = some (vs[i]?) := fun i hi hl => by
          have := pin (i + 1) (by rwa [Nat.add_right_comm, Nat.add_assoc] at hi) (by simpa using hl)
          simpa using this
        have ok' : okArgs pn (n + 1) as = true := by
          cases a <;> simp only [okArgs, Bool.and_eq_true] at ok <;> exact ok.2
        unfold lentL at e
        split at e
        · rename_i hn
          have ex : x = v := by
            have := pin 0 (by simpa using hn) (by simp)
            simpa using this
          subst ex
          dsimp only at e
          cases q : lentL pn (n + 1) as ρ with
          | none => rw [q] at e; cases e
          | some l' =>
            rw [q] at e
            cases e
            obtain ⟨fs', r1, c1, p1⟩ := SRep.lent h2 ok' zz hs pin' q
            refine ⟨fc :: fs', .cons hc r1, fun y => ?_, fun i f' ef => ?_⟩
            · have := c1 y
              rw [List.flatten_cons, List.count_append, List.count_append]; omega
            · cases i with
              | zero => simp at ef; subst ef; exact pc
              | succ i =>
                intro a ha
                have := p1 i f' (by simpa using ef) a ha
                rwa [Nat.add_right_comm, Nat.add_assoc] at this
        · rename_i hn
          cases h1 with
          | v r =>
            cases q : lentL pn (n + 1) as ρ with
            | none => rw [q] at e; cases e
            | some l' =>
              rw [q] at e
              cases e
              obtain ⟨fs', r1, c1, p1⟩ := SRep.lent h2 ok' zz hs pin' q
              refine ⟨[] :: fs', .cons (.v (RepD.mono zz _ _ r)) r1, fun y => ?_, fun i f' ef => ?_⟩
              · have := c1 y
                rw [List.flatten_cons, List.nil_append, List.count_append]; omega
              · cases i with
                | zero => simp at ef; subst ef; intro a ha; cases ha
                | succ i =>
                  intro a ha
                  have := p1 i f' (by simpa using ef) a ha
                  rwa [Nat.add_right_comm, Nat.add_assoc] at this
          | m _ _ => simp only [okArgs, Bool.and_eq_true] at ok; exact absurd ok.1 hn
          | mi _ _ _ => simp only [okArgs, Bool.and_eq_true] at ok; exact absurd ok.1 hn
/-- of parameters that are not lent nothing is owned -/
theorem okArgs_fp {pn : List Nat} : ∀ {vs : List V} {as : List A} {fs : List (List Addr)} {n : Nat}, RepL K mg Z H vs as fs → okArgs pn n as = true → ∀ i f, fs[i]? = some f → ∀ a ∈ f, n + i ∈ pn
  | [], _, _, _, h, _, i, f, e, _, _ => by cases h; simp at e
  | v :: vs, _, _, n, h, ok, i, f, e, q, hq => by
    cases h with
    | @cons _ _ a as fa fs h1 h2 =>
      cases i with
      | zero =>
        simp at e; subst e
        cases h1 with
        | v r => cases hq
        | m _ _ => simp only [okArgs, Bool.and_eq_true] at ok; simpa using ok.1
        | mi _ _ _ => simp only [okArgs, Bool.and_eq_true] at ok; simpa using ok.1
      | succ i =>
        have ok' : okArgs pn (n + 1) as = true := by
          cases a <;> simp only [okArgs, Bool.and_eq_true] at ok <;> exact ok.2
        have := okArgs_fp h2 ok' i f (by simpa using e) q hq
        rwa [Nat.add_right_comm, Nat.add_assoc] at this
end

section
variable {P : Program} {w : World} {K : PySem.W.Frag} {mg : Str → Option Value} {base : Heap}
/-- a def's body keeps what it makes: no exception leaves it -/
theorem body_ok {n N : Nat} {pn : List Nat} {body : M Flow} {F : Fn} (hF : ∀ as, F as ≠ .bad → F as = dFn n N pn body as) {vs : List V} {H : Hp} {Q : VK} {E : XK} {W : WX} (hW : ∀ cls d σ H', E cls d H' → W cls d σ H') (h : spD K mg F vs H Q E) (hn : n ≤ N) :
    vs.length = n ∧ tS ⟨K, mg, W, pn⟩ body { nx := fun _ H' => Q .non H', rt := Q } (vs.map some ++ List.replicate (N - n) none) H := by
  obtain ⟨Z, as, fs, zh, r, c1, zn, h⟩ := h
  have nb : F as ≠ .bad := fun e => by rw [e] at h; exact h
  rw [hF as nb] at h
  unfold dFn at h
  by_cases ok : as.length = n ∧ okArgs pn 0 as = true
  · rw [if_pos ok] at h
    have hl : vs.length = n := r.length.trans ok.1
    refine ⟨hl, ⟨Z, H, fun i a => ∃ f, fs[i]? = some f ∧ a ∈ f, pn, vs.map some ++ List.replicate (N - n) none⟩, Z, as.map some ++ List.replicate (N - n) none, [], [], rfl, rfl, ?_, ?_⟩
    · refine ⟨Same.refl Z, zh, fun _ _ => rfl, fun _ _ e _ => e, fun _ e => e, fun _ _ => rfl, fun i a ⟨f, e, ha⟩ => ?_, fs.flatten, [], ?_, .nil, fun y => by simpa using c1 y, fun a ha => ?_, fun a ha => by cases ha⟩
      · have := okArgs_fp r ok.2 i f e a ha
        simpa using this
      · exact SRep.start _ r fun i f e a ha => .inl ⟨f, by simpa using e, ha⟩
      · rcases ha with ha | ha
        · exact zn a ha
        · cases ha
    · -- the end
      have pinE : ∀ {σ' : St}, (∀ i ∈ pn, σ'[i]? = (vs.map some ++ List.replicate (N - n) none)[i]?) → ∀ i, 0 + i ∈ pn → i < vs.length → σ'[i]? = some (vs[i]?) := fun {σ'} hp i hi hlt => by
        rw [Nat.zero_add] at hi
        rw [hp i hi, List.getElem?_append_left (by simpa using hlt), List.getElem?_map, List.getElem?_eq_getElem hlt]
        rfl
      have aft : ∀ {Z' H' : Hp} {σ' : St} {ρ' : DEnv} {ws : List V} {bs : List A}, Sta K mg ⟨Z, H, fun i a => ∃ f, fs[i]? = some f ∧ a ∈ f, pn, vs.map some ++ List.replicate (N - n) none⟩ Z' H' σ' ρ' ws bs → After Z H fs Z' H' := fun S =>
        ⟨S.zz, S.zh, S.kz, fun a o e ha => S.kh a o e fun i ⟨f, ef, haf⟩ => ha (List.mem_flatten.mpr ⟨f, List.mem_of_getElem? ef, haf⟩), S.kd⟩
      have own : ∀ {fs' : List (List Addr)} {i : Nat} {f f' : List Addr}, fs[i]? = some f → fs'[i]? = some f' → (∀ i f', fs'[i]? = some f' → ∀ a ∈ f', Base.Own ⟨Z, H, fun i a => ∃ f, fs[i]? = some f ∧ a ∈ f, pn, vs.map some ++ List.replicate (N - n) none⟩ (0 + i) a) → ∀ a ∈ f', a ∈ f ∨ H a = none :=
        fun {fs' i f f'} e1 e2 p a ha => by
          rcases p i f' e2 a ha with ⟨g, eg, hg⟩ | z
          · rw [Nat.zero_add, e1] at eg; cases eg; exact .inl hg
          · exact .inr z
      cases eb : body (as.map some ++ List.replicate (N - n) none) with
      | bad => rw [eb] at h; exact h.elim
      | exc e ρ' =>
        rw [eb] at h
        dsimp only at h
        cases el : lentL pn 0 as ρ' with
        | none => rw [el] at h; exact h.elim
        | some l =>
          rw [el] at h
          intro Z' H' σ' cls d S x
          obtain ⟨f, g, h1, h2, h3, h4, h5⟩ := S.rep
          cases h2
          obtain ⟨fs', r1, c2, p1⟩ := SRep.lent r ok.2 S.zz h1 (pinE S.pin) el
          exact hW _ _ _ _ (h Z' H' cls d fs' (aft S) x r1 (fun y => by have := c2 y; have := h3 y; omega) (fun a ha => h4 a (.inl (count_mem (by have := c2 a; have := mem_count ha; omega)))) fun i f f' e1 e2 => own e1 e2 p1)
      | ok fl ρ' =>
        rw [eb] at h
        dsimp only at h
        cases el : lentL pn 0 as ρ' with
        | none => rw [el] at h; exact h.elim
        | some l =>
          rw [el] at h
          have fin : ∀ {r0 : A} {Z' H' : Hp} {σ' : St} {v : V}, (∀ Z' H' v fr fs', After Z H fs Z' H' → RepA K mg Z' H' v r0 fr → RepL K mg Z' H' vs l fs' → (∀ y, fr.count y + fs'.flatten.count y ≤ 1) → (∀ a, a ∈ fr ∨ a ∈ fs'.flatten → Z' a = none) → (∀ a ∈ fr, H a = none) →
              (∀ (i : Nat) (f f' : List Addr), fs[i]? = some f → fs'[i]? = some f' → ∀ a ∈ f', a ∈ f ∨ H a = none) → Q v H') → Sta K mg ⟨Z, H, fun i a => ∃ f, fs[i]? = some f ∧ a ∈ f, pn, vs.map some ++ List.replicate (N - n) none⟩ Z' H' σ' ρ' [v] [r0] → Q v H' := fun {r0 Z' H' σ' v} hq S => by
            obtain ⟨f, g, h1, h2, h3, h4, h5⟩ := S.rep
            cases h2 with
            | @cons _ _ _ _ fr g0 hr hn0 =>
              cases hn0
              obtain ⟨fs', r1, c2, p1⟩ := SRep.lent r ok.2 S.zz h1 (pinE S.pin) el
              refine hq Z' H' v fr fs' (aft S) hr r1 (fun y => ?_) (fun a ha => ?_) (fun a ha => h5 a (List.mem_append_left _ ha)) fun i f f' e1 e2 => own e1 e2 p1
              · have := c2 y; have := h3 y; rw [List.append_nil] at this; omega
              · rcases ha with ha | ha
                · exact h4 a (.inr (List.mem_append_left _ ha))
                · exact h4 a (.inl (count_mem (by have := c2 a; have := mem_count ha; omega)))
          cases fl with
          | nx => exact fun Z' H' σ' S => fin (v := .non) h (S.push .non)
          | ret a => exact fun Z' H' σ' v S => fin h S
          | bk => exact h.elim
          | ct => exact h.elim
  · rw [if_neg ok] at h
    exact h.elim

/-- a def, without exceptions -/
theorem fn_ok {x qual : Str} {st : Stmt} {f : Addr} {fd : FuncData} {Ns ps : List Str} {k : Nat} {pn : List Nat} {body : M Flow} {F : Fn} (Fu : Fun K x qual st f fd) (S : FnScope Ns ps (defScope st))
    (hF : ∀ as, F as ≠ .bad → F as = dFn ps.length Ns.length pn body as)
    (hb : ∀ (cdv : Value) (A : Around) (outer : List PySem.Env) (s : Shared) (H : Hp) (E : XK), Room k (A.deeper (envOfC qual (defScope st) s.heap.objs.size f cdv)) →
      PSs (cxOf CX0 P w K mg base Ns qual (defScope st) f cdv A outer s H E).nox (defBody st) (tS ⟨K, mg, fun _ _ _ _ => False, pn⟩ body)) : FnOk P w K mg base CX0 (k + 1) f fd ps (fun vs H Q _ => spD K mg F vs H Q fun _ _ _ => False) := by
  have hn : ps.length ≤ Ns.length := by have := congrArg List.length S.pre; rw [List.length_take] at this; omega
  refine Fu.ok S (fun vs H Q E h => (body_ok (W := fun _ _ _ _ => False) hF (fun _ _ _ _ z => z) h hn).1) fun cdv A outer s H vs Q E hr h => ?_
  obtain ⟨hl, ht⟩ := body_ok (W := fun _ _ _ _ => False) hF (fun _ _ _ _ z => z) h hn
  refine ⟨_, hb cdv A outer s H E hr, ?_⟩
  unfold L2.start
  rw [hl]
  exact ht
end

/-- an argument: a value, or the list of a slot by its place -/
inductive AV where
  | val (a : A)
  | ref (i : Nat)
inductive ArgR (σ : St) : List V → List AV → List V → List A → Prop
  | nil : ArgR σ [] [] [] []
  | val {w : V} {ws : List V} {a : A} {l : List AV} {pv : List V} {pa : List A} : ArgR σ ws l pv pa → ArgR σ (w :: ws) (.val a :: l) (w :: pv) (a :: pa)
  | ref {w : V} {ws : List V} {i : Nat} {l : List AV} {pv : List V} {pa : List A} : σ[i]? = some (some w) → ArgR σ ws l pv pa → ArgR σ (w :: ws) (.ref i :: l) pv pa
def finV (C : SC) (σ : St) (Q : List V → Hp → Prop) : Fin (List AV) := fun b vs as l ρ => ∀ Z' H' ws pv pa, ArgR σ ws l pv pa → Sta C.K C.mg b Z' H' σ ρ (pv ++ vs) (pa ++ as) → Q ws H'
def tV (C : SC) (f : M (List AV)) : TA := fun σ H Q => Go C (finV C σ Q) [] [] f σ H
def vNil : M (List AV) := M.pure []
def vVal (own : Bool) (f : M A) (fs : M (List AV)) : M (List AV) := f.bind fun a => fs.bind fun l => M.pure (.val (frzB own a) :: l)
def vRef (i : Nat) (fs : M (List AV)) : M (List AV) := fun ρ => match ρ[i]? with
  | some (some _) => (fs.bind fun l => M.pure (.ref i :: l)) ρ
  | _ => .bad
def gath : List AV → DEnv → Option (List A × DEnv)
  | [], ρ => some ([], ρ)
  | .val a :: l, ρ => (gath l ρ).map fun q => (a :: q.1, q.2)
  | .ref i :: l, ρ => match ρ[i]? with
    | some (some a) => (gath l (ρ.set i none)).map fun q => (a :: q.1, q.2)
    | _ => none
def back : List AV → List A → DEnv → DEnv
  | .ref i :: l, a :: as, ρ => back l as (ρ.set i (some a))
  | .val _ :: l, _ :: as, ρ => back l as ρ
  | _, _, ρ => ρ
def dCall (F : Fn) (fs : M (List AV)) (ds : List D) : M A := fs.bind fun l ρ => match gath l ρ with
  | none => .bad
  | some q => match F (q.1 ++ ds.map .v) with
    | .ok r l' => .ok r (back l l' q.2)
    | .exc e l' => .exc e (back l l' q.2)
    | .bad => .bad
section
variable {K : PySem.W.Frag} {mg : Str → Option Value} {Z Z' H H' : Hp}
theorem ArgR.length {σ : St} : ∀ {ws : List V} {l : List AV} {pv : List V} {pa : List A}, ArgR σ ws l pv pa → ws.length = l.length ∧ pv.length = pa.length
  | [], _, _, _, h => by cases h; exact ⟨rfl, rfl⟩
  | _ :: _, _, _, _, h => by
    cases h with
    | val h => obtain ⟨h1, h2⟩ := ArgR.length h; simp [h1, h2]
    | ref _ h => obtain ⟨h1, h2⟩ := ArgR.length h; simp [h1, h2]
theorem gath_rep {P : Nat → Addr → Prop} {σ : St} : ∀ {ws : List V} {l : List AV} {pv : List V} {pa : List A} {ρ ρ1 : DEnv} {f g : List Addr} {as1 : List A}, SRep K mg P Z H 0 σ ρ f → RepAs K mg Z H pv pa g → ArgR σ ws l pv pa → gath l ρ = some (as1, ρ1) →
    ∃ f1 fs, SRep K mg P Z H 0 σ ρ1 f1 ∧ RepL K mg Z H ws as1 fs ∧ (∀ y, f1.count y + fs.flatten.count y = f.count y + g.count y) ∧ (∀ (k i : Nat) (f' : List Addr), l[k]? = some (.ref i) → fs[k]? = some f' → ∀ a ∈ f', P i a) ∧
      ∀ (k : Nat) (c : A) (f' : List Addr), l[k]? = some (.val c) → fs[k]? = some f' → ∀ y ∈ f', y ∈ g
  | [], _, _, _, ρ, ρ1, f, g, as1, hs, hp, h, e => by
    cases h
    cases hp
    simp only [gath, Option.some.injEq, Prod.mk.injEq] at e
    obtain ⟨e1, e2⟩ := e
    subst e1 e2
    exact ⟨f, [], hs, .nil, fun y => by simp, fun k i f' e => by simp at e, fun k c f' e => by simp at e⟩
  | w :: ws, _, _, _, ρ, ρ1, f, g, as1, hs, hp, h, e => by
    cases h with
    | @val _ _ a l pv pa h =>
      cases hp with
      | @cons _ _ _ _ fa g0 h1 h2 =>
        unfold gath at e
        cases q : gath l ρ with
        | none => rw [q] at e; cases e
        | some z =>
          rw [q] at e
          simp only [Option.map_some, Option.some.injEq, Prod.mk.injEq] at e
          obtain ⟨e1, e2⟩ := e
          subst e1 e2
          obtain ⟨f1, fs, r1, r2, c1, p1, p2⟩ := gath_rep hs h2 h q
          refine ⟨f1, fa :: fs, r1, .cons h1 r2, fun y => by have := c1 y; rw [List.flatten_cons, List.count_append, List.count_append]; omega, fun k i f' ek ef => ?_, fun k c f' ek ef => ?_⟩
          · cases k with
            | zero => simp at ek
            | succ k => exact p1 k i f' (by simpa using ek) (by simpa using ef)
          · cases k with
            | zero => simp at ef; subst ef; exact fun y hy => List.mem_append_left _ hy
            | succ k => exact fun y hy => List.mem_append_right _ (p2 k c f' (by simpa using ek) (by simpa using ef) y hy)
    | @ref _ _ i l pv pa hw h =>
      unfold gath at e
      split at e
      · rename_i a ha
        cases q : gath l (ρ.set i none) with
        | none => rw [q] at e; cases e
        | some z =>
          rw [q] at e
          simp only [Option.map_some, Option.some.injEq, Prod.mk.injEq] at e
          obtain ⟨e1, e2⟩ := e
          subst e1 e2
          obtain ⟨x, fa, f0, ex, ra, pw, rs, cn⟩ := hs.out ha
          have exw : x = w := by rw [hw] at ex; cases ex; rfl
          subst exw
          obtain ⟨f1, fs, r1, r2, c1, p1, p2⟩ := gath_rep rs hp h q
          refine ⟨f1, fa :: fs, r1, .cons ra r2, fun y => by have := c1 y; have := cn y; rw [List.flatten_cons, List.count_append]; omega, fun k j f' ek ef => ?_, fun k c f' ek ef => ?_⟩
          · cases k with
            | zero =>
              simp at ek ef
              subst ek ef
              intro y hy
              have := pw y hy
              rwa [Nat.zero_add] at this
            | succ k => exact p1 k j f' (by simpa using ek) (by simpa using ef)
          · cases k with
            | zero => simp at ek
            | succ k => exact p2 k c f' (by simpa using ek) (by simpa using ef)
      · cases e
theorem back_rep {P : Nat → Addr → Prop} {σ : St} : ∀ {ws ys : List V} {l : List AV} {pv : List V} {pa : List A} {ρ : DEnv} {f : List Addr} {as1 : List A} {fs : List (List Addr)}, SRep K mg P Z H 0 σ ρ f → RepL K mg Z H (ws ++ ys) as1 fs → ArgR σ ws l pv pa →
    (∀ (k i : Nat) (f' : List Addr), l[k]? = some (.ref i) → fs[k]? = some f' → ∀ a ∈ f', P i a) → ∃ f2, SRep K mg P Z H 0 σ (back l as1 ρ) f2 ∧ ∀ y, f2.count y ≤ f.count y + fs.flatten.count y
  | [], ys, _, _, _, ρ, f, as1, fs, hs, hp, h, p => by
    cases h
    exact ⟨f, by unfold back; exact hs, fun y => Nat.le_add_right _ _⟩
  | w :: ws, ys, _, _, _, ρ, f, as1, fs, hs, hp, h, p => by
    cases hp with
    | @cons _ _ a as1 fa fs h1 h2 =>
      cases h with
      | @val _ _ c l pv pa h =>
        obtain ⟨f2, r, c2⟩ := back_rep hs h2 h fun k i f' ek ef => p (k + 1) i f' (by simpa using ek) (by simpa using ef)
        exact ⟨f2, by unfold back; exact r, fun y => by have := c2 y; rw [List.flatten_cons, List.count_append]; omega⟩
      | @ref _ _ i l pv pa hw h =>
        obtain ⟨f1, r1, c1⟩ := hs.into (i := i) (List.getElem?_eq_some_iff.mp hw).1 h1 (fun y hy => by rw [Nat.zero_add]; exact p 0 i fa rfl rfl y hy)
        rw [set_same hw] at r1
        obtain ⟨f2, r, c2⟩ := back_rep r1 h2 h fun k j f' ek ef => p (k + 1) j f' (by simpa using ek) (by simpa using ef)
        exact ⟨f2, by unfold back; exact r, fun y => by have := c2 y; have := c1 y; rw [List.flatten_cons, List.count_append]; omega⟩
theorem RepL.append : ∀ {xs ys : List V} {as bs : List A} {fs gs : List (List Addr)}, RepL K mg Z H xs as fs → RepL K mg Z H ys bs gs → RepL K mg Z H (xs ++ ys) (as ++ bs) (fs ++ gs)
  | [], _, _, _, _, _, h, g => by cases h; exact g
  | _ :: _, _, _, _, _, _, h, g => by
    cases h with
    | cons h1 h2 => exact .cons h1 (RepL.append h2 g)
theorem RepDs.toL : ∀ {xs : List V} {ds : List D}, RepDs K mg Z xs ds → RepL K mg Z H xs (ds.map .v) (ds.map fun _ => [])
  | [], _, h => by cases h; exact .nil
  | x :: xs, _, h => by
    cases h with
    | cons h1 h2 => exact .cons (.v h1) (RepDs.toL h2)
theorem flatten_nils {α β : Type} : ∀ l : List α, (l.map fun _ => ([] : List β)).flatten = []
  | [] => rfl
  | _ :: l => by rw [List.map_cons, List.flatten_cons, flatten_nils l]; rfl
end
section
variable {X : Cx} {C : SC} {e : Expr} {es : List Expr} {f : M A} {fs : M (List AV)} {pos p : Pos} {i : Nat} {x : Str}
theorem dv_nil : PA X [] (tV C vNil) := PA.w pa_nil fun σ H Q ⟨b, Z, ρ, vs, as, hb, hl, S, k⟩ => k _ _ [] [] [] .nil S
theorem Go.bindV {α : Type} {fin : Fin α} {ps : List V} {pa : List A} {σ : St} {H : Hp} {f : M (List AV)} {g : List AV → M α} (h : Go C fin ps pa (f.bind g) σ H) : tV C f σ H (fun ws H1 => ∃ l pv qa, ArgR σ ws l pv qa ∧ Go C fin (pv ++ ps) (qa ++ pa) (g l) σ H1) := by
  obtain ⟨b, Z, ρ, vs, as, hb, hl, S, h⟩ := h
  refine ⟨b, Z, ρ, ps ++ vs, pa ++ as, hb, rfl, S, R.sat_mono (R.sat_bind h) (fun l ρ' q Z' H' ws pv qa r S' => ?_) fun e ρ' q => q.pops hl⟩
  exact ⟨l, pv, qa, r, b, Z', ρ', vs, as, hb, by simp [hl, r.length.2], by rw [List.append_assoc, List.append_assoc]; exact S', q⟩
theorem tV.mono {f : M (List AV)} {Q Q' : List V → Hp → Prop} {σ : St} {H : Hp} (h : tV C f σ H Q) (k : ∀ v H', Q v H' → Q' v H') : tV C f σ H Q' := by
  obtain ⟨b, Z, ρ, vs, as, hb, hl, S, h⟩ := h
  exact ⟨b, Z, ρ, vs, as, hb, hl, S, R.sat_mono h (fun a ρ' q Z' H' ws pv pa r S' => k _ _ (q Z' H' ws pv pa r S')) fun _ _ q => q⟩
theorem dv_val (own : Bool) (ha : PE X e (tE C f)) (hr : PA X es (tV C fs)) (hs : starEach (e :: es) X.env = (false, eval e X.env) :: starEach es X.env := by rfl) : PA X (e :: es) (tV C (vVal own f fs)) := by
  refine PA.w (pa_cons ha hr hs) fun σ H Q k => ?_
  refine (Go.bindE k).mono fun y H1 ⟨u, k1⟩ => (Go.bindV k1).mono fun ws H2 ⟨l, pv, qa, r, b, Z, ρ, vs, as, hb, _, S, k2⟩ => ?_
  have S' : Sta C.K C.mg b Z H2 σ ρ (pv ++ y :: vs) (qa ++ u :: as) := by simpa using S
  have S2 := S'.rot r.length.2
  cases own with
  | true => exact k2 _ _ (y :: ws) (y :: pv) (u :: qa) (.val r) S2
  | false =>
    obtain ⟨Z', _, S3⟩ := S2.freeze
    exact k2 _ _ (y :: ws) (y :: pv) (.v u.frz :: qa) (.val r) S3
theorem dv_ref (hN : X.N[i]? = some x) (hv : Vis X.env.scope x) (hr : PA X es (tV C fs)) (hd : (x == ("__debug__" : Str)) = false := by decide) (hcd : (x == ("__classdict__" : Str)) = false := by decide)
    (hs : starEach (.Name x p :: es) X.env = (false, eval (.Name x p) X.env) :: starEach es X.env := by rfl) : PA X (.Name x p :: es) (tV C (vRef i fs)) := by
  refine PA.w (pa_cons (pe_var hN hv hd hcd) hr hs) fun σ H Q ⟨b, Z, ρ, vs, as, hb, hl, S, k⟩ => ?_
  unfold vRef at k
  split at k
  · rename_i a ha
    obtain ⟨ff, g, h1, _⟩ := S.rep
    obtain ⟨y, fa, f0, ey, _⟩ := h1.out ha
    refine ⟨y, ey, ?_⟩
    have k' : Go C (finV C σ Q) [] [] (fs.bind fun l => M.pure (.ref i :: l)) σ H := ⟨b, Z, ρ, vs, as, hb, hl, S, k⟩
    exact (Go.bindV k').mono fun ws H2 ⟨l, pv, qa, r, b, Z, ρ, vs, as, hb, _, S, k2⟩ => k2 _ _ (y :: ws) pv qa (.ref ey r) (by simpa using S)
  · exact k.elim
/-- behind a call, in the caller's state -/
theorem Sta.called {K : PySem.W.Frag} {mg : Str → Option Value} {b : Base} {Z H Z2 H2 : Hp} {σ : St} {ρ ρ1 : DEnv} {vs pv ws ys : List V} {as pa as1 l' : List A} {l : List AV} {ds : List D} (S : Sta K mg b Z H σ ρ (pv ++ vs) (pa ++ as)) (r : ArgR σ ws l pv pa) (hg : gath l ρ = some (as1, ρ1)) (hy : RepDs K mg Z ys ds) :
    ∃ fs, RepL K mg Z H (ws ++ ys) (as1 ++ ds.map .v) fs ∧ (∀ y, fs.flatten.count y ≤ 1) ∧ (∀ a ∈ fs.flatten, Z a = none) ∧
      ∀ {Z2 H2 : Hp} {l' : List A} {fs' : List (List Addr)} {ps : List V} {qa : List A} {fr : List Addr}, After Z H fs Z2 H2 → RepL K mg Z2 H2 (ws ++ ys) l' fs' → (∀ (i : Nat) (f f' : List Addr), fs[i]? = some f → fs'[i]? = some f' → ∀ a ∈ f', a ∈ f ∨ H a = none) →
        RepAs K mg Z2 H2 ps qa fr → (∀ y, fr.count y + fs'.flatten.count y ≤ 1) → (∀ a, a ∈ fr ∨ a ∈ fs'.flatten → Z2 a = none) → (∀ a ∈ fr, H a = none) → Sta K mg b Z2 H2 σ (back l l' ρ1) (ps ++ vs) (qa ++ as) := by
  obtain ⟨f, g, h1, h2, h3, h4, h5⟩ := S.rep
  obtain ⟨g1, g2, eg, r1, r2⟩ := h2.split r.length.2
  obtain ⟨f1, fs, s1, l1, c1, p1, p2⟩ := gath_rep h1 r1 r hg
  have cf : ∀ y, f1.count y + fs.flatten.count y + g2.count y ≤ 1 := fun y => by
    have := h3 y; have := c1 y
    rw [eg, List.count_append] at *; omega
  have fe : (fs ++ ds.map fun _ => ([] : List Addr)).flatten = fs.flatten := by rw [List.flatten_append, flatten_nils, List.append_nil]
  have inF : ∀ a, (0 < f1.count a ∨ 0 < fs.flatten.count a ∨ 0 < g2.count a) → a ∈ f ∨ a ∈ g := fun a ha => by
    have := c1 a
    rw [eg]
    by_cases q : 0 < f.count a
    · exact .inl (count_mem q)
    · right
      refine List.mem_append.mpr ?_
      by_cases q2 : 0 < g1.count a
      · exact .inl (count_mem q2)
      · exact .inr (count_mem (by omega))
  refine ⟨fs ++ ds.map fun _ => [], l1.append (RepDs.toL hy), fun y => by rw [fe]; have := cf y; omega, fun a ha => ?_, fun {Z2 H2 l' fs' ps qa fr} af rl own rr cr zr hr => ?_⟩
  · rw [fe] at ha
    exact h4 a (inF a (.inr (.inl (mem_count ha))))
  · have nin : ∀ a, (0 < f1.count a ∨ 0 < g2.count a) → a ∉ (fs ++ ds.map fun _ => ([] : List Addr)).flatten := fun a ha hm => by
      rw [fe] at hm
      have := cf a; have := mem_count hm; omega
    have k1 : ∀ y ∈ f1, H2 y = H y := fun y hy => by
      obtain ⟨o, e⟩ := s1.there y hy
      rw [e, af.kh _ _ e (nin y (.inl (mem_count hy)))]
    have k2 : ∀ y ∈ g2, H2 y = H y := fun y hy => by
      obtain ⟨o, e⟩ := RepAs.there _ _ _ r2 y hy
      rw [e, af.kh _ _ e (nin y (.inr (mem_count hy)))]
    have pin : ∀ (k i : Nat) (f' : List Addr), l[k]? = some (.ref i) → fs'[k]? = some f' → ∀ a ∈ f', b.Own i a := fun k i f' ek ef a ha => by
      have hk : k < fs.length := by
        have : k < l.length := (List.getElem?_eq_some_iff.mp ek).1
        rw [← l1.lengthf, r.length.1]; exact this
      rcases own k fs[k] f' (by rw [List.getElem?_append_left hk]; exact List.getElem?_eq_getElem hk) ef a ha with z | z
      · exact p1 k i fs[k] ek (List.getElem?_eq_getElem hk) a z
      · exact .inr (S.bnone z)
    obtain ⟨f2, s2, c2⟩ := back_rep (s1.mono af.zz k1 fun _ _ _ z => z) rl r pin
    refine ⟨S.zz.trans af.zz, af.zh, fun a ha => (af.kz a (S.kd a ha)).trans (S.kz a ha), fun a o e ha => af.kh a o (S.kh a o e ha) ?_, fun a ha => af.kd a (S.kd a ha), S.pin, S.lw, f2, fr ++ g2, s2, rr.append (RepAs.mono af.zz _ _ _ k2 r2), fun y => ?_, fun a ha => ?_, fun a ha => ?_⟩
    · intro hm
      rw [fe] at hm
      obtain ⟨f', hf', haf⟩ := List.mem_flatten.mp hm
      obtain ⟨k, ek⟩ := List.getElem?_of_mem hf'
      have hk : k < l.length := by
        have := (List.getElem?_eq_some_iff.mp ek).1
        rw [← l1.lengthf, r.length.1] at this; exact this
      cases el : l[k] with
      | val c =>
        have := h5 a (by rw [eg]; exact List.mem_append_left _ (p2 k c f' (by rw [List.getElem?_eq_getElem hk, el]) ek a haf))
        rw [e] at this; cases this
      | ref i =>
        rcases p1 k i f' (by rw [List.getElem?_eq_getElem hk, el]) ek a haf with z | z
        · exact ha i z
        · rw [e] at z; cases z
    · have e1 := cf y; have e2 := c2 y; have e3 := cr y
      rw [List.count_append]
      -- a new address of the result is in nothing that stood
      by_cases q : 0 < f1.count y ∨ 0 < g2.count y
      · have : H y ≠ none := by
          rcases q with q | q
          · obtain ⟨o, e⟩ := s1.there y (count_mem q); rw [e]; simp
          · obtain ⟨o, e⟩ := RepAs.there _ _ _ r2 y (count_mem q); rw [e]; simp
        have nfr : fr.count y = 0 := List.count_eq_zero.mpr fun z => this (hr y z)
        have nfs : fs'.flatten.count y = 0 := List.count_eq_zero.mpr fun z => by
          obtain ⟨f', hf', haf⟩ := List.mem_flatten.mp z
          obtain ⟨k, ek⟩ := List.getElem?_of_mem hf'
          have hk : k < (fs ++ ds.map fun _ => ([] : List Addr)).length := by
            have := (List.getElem?_eq_some_iff.mp ek).1
            rw [← rl.lengthf, (l1.append (RepDs.toL (H := H) hy)).lengthf] at this
            exact this
          rcases own k _ f' (List.getElem?_eq_getElem hk) ek y haf with z | z
          · exact nin y q (List.mem_flatten.mpr ⟨_, List.getElem_mem hk, z⟩)
          · exact this z
        omega
      · omega
    · have : 0 < f1.count a ∨ 0 < g2.count a ∨ (a ∈ fr ∨ a ∈ fs'.flatten) := by
        have e2 := c2 a
        rcases ha with ha | ha
        · have := mem_count ha
          by_cases q : 0 < f1.count a
          · exact .inl q
          · exact .inr (.inr (.inr (count_mem (by omega))))
        · rcases List.mem_append.mp ha with ha | ha
          · exact .inr (.inr (.inl ha))
          · exact .inr (.inl (mem_count ha))
      rcases this with q | q | q
      · obtain ⟨o, e⟩ := s1.there a (count_mem q)
        rw [af.kz a (by rw [e]; simp)]
        exact h4 a (inF a (.inl q))
      · obtain ⟨o, e⟩ := RepAs.there _ _ _ r2 a (count_mem q)
        rw [af.kz a (by rw [e]; simp)]
        exact h4 a (inF a (.inr (.inr q)))
      · exact zr a q
    · rcases List.mem_append.mp ha with ha | ha
      · exact S.bnone (hr a ha)
      · exact h5 a (by rw [eg]; exact List.mem_append_right _ ha)

/-- a def that may be called by its name -/
structure CalD (P : Program) (w : World) (K : PySem.W.Frag) (mg : Str → Option Value) (base : Heap) (k : Nat) (x : Str) (F : Fn) (ds : List D) : Prop where
  ex : ∃ (f : Addr) (fd : FuncData) (ps : List Str) (us : List Value) (ys : List V), FnOk P w K mg base CX0 k f fd ps (fun vs H Q _ => spD K mg F vs H Q fun _ _ _ => False) ∧ mg x = some (.ref f) ∧ PySem.W.keepIn K (.ref f) = true ∧ Binds K fd ps us ∧ Vals ys us ∧
    ∀ Z, RepDs K mg Z ys ds
/-- a call's reading from the state with its arguments -/
theorem go_call {F : Fn} {ds : List D} {ys : List V} (hy : ∀ Z, RepDs C.K C.mg Z ys ds) {σ : St} {H : Hp} {Q : VK} {ws pv : List V} {l : List AV} {pa : List A} {E : XK} (r : ArgR σ ws l pv pa) (hE : ∀ cls d H', E cls d H' → C.W cls d σ H')
    (hE' : ∀ cls d H', C.W cls d σ H' → E cls d H')
    (k : Go C (finE C σ Q) pv pa (fun ρ => match gath l ρ with
      | none => .bad
      | some q => match F (q.1 ++ ds.map .v) with
        | .ok r l' => .ok r (back l l' q.2)
        | .exc e l' => .exc e (back l l' q.2)
        | .bad => .bad) σ H) : spD C.K C.mg F (ws ++ ys) H Q E := by
  obtain ⟨b, Z, ρ, vs, as, hb, hl, S, k⟩ := k
  dsimp only at k
  cases eg : gath l ρ with
  | none => rw [eg] at k; exact k.elim
  | some q =>
    obtain ⟨as1, ρ1⟩ := q
    rw [eg] at k
    dsimp only at k
    obtain ⟨fs, r1, c1, z1, fin⟩ := Sta.called (Z2 := Z) (H2 := H) (l' := []) S r eg (hy Z)
    refine ⟨Z, _, fs, S.zh, r1, c1, z1, ?_⟩
    cases eF : F (as1 ++ ds.map .v) with
    | bad => rw [eF] at k; exact k.elim
    | ok u l' =>
      rw [eF] at k
      intro Z' H' v fr fs' af hr rl cr zr nr own
      exact k Z' H' v (fin (ps := [v]) (qa := [u]) (fr := fr ++ []) af rl own (.cons hr .nil) (by simpa using cr) (by simpa using zr) (by simpa using nr))
    | exc e l' =>
      rw [eF] at k
      intro Z' H' cls d fs' af hx rl cr zr own
      exact hE' _ _ _ (k Z' H' σ cls d (fin (ps := []) (qa := []) (fr := []) af rl own .nil (by simpa using cr) (by simpa using zr) (by simp)) hx)
theorem de_call {F : Fn} {ds : List D} {k : Nat} (c : CalD X.prog X.w X.K X.mg X.base k x F ds) (hr : Room k X.A) (hg : Gl X x) (hK : X.K = C.K) (hM : X.mg = C.mg) (hW : C.W = fun _ _ _ _ => False) (ha : PA X (e :: es) (tV C fs)) (hdb : (x == ("__debug__" : Str)) = false := by decide)
    (he : starEach (e :: es) X.env = (false, eval e X.env) :: starEach es X.env := by rfl) (hpl : (backTo pos (starEach es X.env)).any (·.1) = false := by rfl) : PE X (.Call (.Name x p) (e :: es) [] pos) (tE C (dCall F fs ds)) := by
  obtain ⟨f, fd, ps, us, ys, F', h1, h2, h3, h4, h5⟩ := c.ex
  refine PE.w (pe_call (E := fun _ _ _ => False) F' hr hg h1 h2 h3 h4 pass0 ha hdb he hpl) fun σ H Q q => ?_
  refine (Go.bindV q).mono fun ws H1 ⟨l, pv, qa, r, q1⟩ => ?_
  rw [hK, hM] at h5
  show spD X.K X.mg F (ws ++ ys) H1 Q fun _ _ _ => False
  rw [hK, hM]
  exact go_call h5 r (fun _ _ _ z => z.elim) (fun _ _ _ z => by rw [hW] at z; exact z) (by simpa using q1)
end
end DD

namespace DD
open PySem PySem.Spec L2
open PyProof.Rows hiding St

def dBlt (op : List A → Option A) (fs : M (List A)) : M A := fs.bind fun l => ofO (op l)
section
variable {C : SC} {X : Cx} {x : Str} {p pos : Pos} {e : Expr} {es : List Expr} {fs : M (List A)} {bid T : String} {r : List V → Hp → VK → Prop} {op : List A → Option A}
theorem go_blt (ho : OpN C r op) {σ : St} {H : Hp} {Q : VK} (k : tE C (dBlt op fs) σ H Q) : tA C fs σ H fun vs H1 => r vs H1 Q := by
  refine (Go.bindA k).mono fun ws H1 ⟨l, hl, k1⟩ => ?_
  obtain ⟨res, e, b, Z, ρ, vs, as, hb, _, S, k2⟩ := go_ofO k1
  rw [List.append_nil, List.append_nil] at S
  exact ho b Z H1 σ ρ vs as ws l res Q hl S e k2
theorem de_callB (hc : CallR X (.builtin bid) r) (ho : OpN C r op) (hg : Gl X x) (hm : X.mg x = none) (hv : bootBuiltins x = some (.builtin bid)) (ha : PA X (e :: es) (tA C fs)) (hn : x ≠ "__name__" := by decide) (hdb : (x == ("__debug__" : Str)) = false := by decide)
    (he : starEach (e :: es) X.env = (false, eval e X.env) :: starEach es X.env := by rfl) (hpl : (backTo pos (starEach es X.env)).any (·.1) = false := by rfl) : PE X (.Call (.Name x p) (e :: es) [] pos) (tE C (dBlt op fs)) :=
  PE.w (pe_callB hc hg hm hv ha hn hdb he hpl) fun σ H Q k => go_blt ho k
theorem de_callTy (hc : CallR X (.type T) r) (ho : OpN C r op) (hg : Gl X x) (hm : X.mg x = none) (hv : bootBuiltins x = some (.type T)) (ha : PA X (e :: es) (tA C fs)) (hn : x ≠ "__name__" := by decide) (hdb : (x == ("__debug__" : Str)) = false := by decide)
    (he : starEach (e :: es) X.env = (false, eval e X.env) :: starEach es X.env := by rfl) (hpl : (backTo pos (starEach es X.env)).any (·.1) = false := by rfl) : PE X (.Call (.Name x p) (e :: es) [] pos) (tE C (dBlt op fs)) :=
  PE.w (pe_callTy hc hg hm hv ha hn hdb he hpl) fun σ H Q k => go_blt ho k
theorem one {ws : List V} {a : A} (h : ws.length = [a].length) : ∃ w, ws = [w] := by
  match ws, h with
  | [w], _ => exact ⟨w, rfl⟩
theorem two {ws : List V} {a c : A} (h : ws.length = [a, c].length) : ∃ w y, ws = [w, y] := by
  match ws, h with
  | [w, y], _ => exact ⟨w, y, rfl⟩
def opLen (l : List A) : Option A := match l with
  | [.m l] => some (.v (.int l.length))
  | [.v (.str z)] => if z.length ≤ sizeLine then some (.v (.int z.length)) else none
  | [.v d] => (seqD d).map fun ds => .v (.int ds.length)
  | _ => none
def rLen (K : PySem.W.Frag) : List V → Hp → VK → Prop := fun xs H Q => (∃ p ys, xs = [.ref p] ∧ (SqL K H p ys ∨ SqT K H p ys) ∧ Q (.int ys.length) H) ∨ ∃ z, xs = [.str z] ∧ z.length ≤ sizeLine ∧ Q (.int z.length) H
theorem cl_len : CallR X (.builtin "len") (rLen X.K) := call_len_seq.or call_len_str
theorem on_len : OpN C (rLen C.K) opLen := by
  intro b Z H σ ρ vs as ws l res Q hl S e k
  unfold opLen at e
  split at e
  · cases e
    obtain ⟨w, rfl⟩ := one hl
    obtain ⟨f, g, h1, h2, h3, h4, h5⟩ := Sta.rep S
    cases h2 with
    | cons r1 r2 => cases r1 with
      | m hp hr =>
        exact .inl ⟨_, _, rfl, .inl (SqL.of hp), by rw [hr.length]; exact k _ _ _ ((Sta.pop S).push (.int _))⟩
  · split at e
    · rename_i hz
      cases e
      obtain ⟨w, rfl⟩ := one hl
      have t := Sta.top S
      cases t
      exact .inr ⟨_, rfl, hz, k _ _ _ ((Sta.pop S).push (.int _))⟩
    · cases e
  · rename_i d _
    obtain ⟨w, rfl⟩ := one hl
    cases hd : seqD d with
    | none => rw [hd] at e; cases e
    | some ds =>
      rw [hd] at e
      cases e
      obtain ⟨p, xs, rfl, hs, r⟩ := (Sta.top S).seq S.zh hd
      exact .inl ⟨p, xs, rfl, hs, by rw [r.length]; exact k _ _ _ ((Sta.pop S).push (.int _))⟩
  · cases e
def opAbs (l : List A) : Option A := match l with
  | [.v (.int i)] => some (.v (.int (if i < 0 then -i else i)))
  | _ => none
theorem on_abs : OpN C (fun xs H Q => ∃ i, xs = [.int i] ∧ Q (.int (if i < 0 then -i else i)) H) opAbs := by
  intro b Z H σ ρ vs as ws l res Q hl S e k
  unfold opAbs at e
  split at e
  · cases e
    obtain ⟨w, rfl⟩ := one hl
    have t := Sta.top S
    cases t
    exact ⟨_, rfl, k _ _ _ ((Sta.pop S).push (.int _))⟩
  · cases e
def opI2 (g : Int → Int → Int) (l : List A) : Option A := match l with
  | [.v (.int i), .v (.int j)] => some (.v (.int (g i j)))
  | _ => none
theorem on_i2 {g : Int → Int → Int} : OpN C (fun xs H Q => ∃ i j, xs = [.int i, .int j] ∧ Q (.int (g i j)) H) (opI2 g) := by
  intro b Z H σ ρ vs as ws l res Q hl S e k
  unfold opI2 at e
  split at e
  · cases e
    obtain ⟨w, y, rfl⟩ := two hl
    have t := Sta.top S
    have t2 := Sta.top (Sta.pop S)
    cases t
    cases t2
    exact ⟨_, _, rfl, k _ _ _ ((Sta.pop (Sta.pop S)).push (.int _))⟩
  · cases e
def opMax : List A → Option A := opI2 fun i j => if j > i then j else i
def opMin : List A → Option A := opI2 fun i j => if j < i then j else i
def bls : List D → Option (List Bool)
  | [] => some []
  | .bl b :: l => (bls l).map (b :: ·)
  | _ => none
theorem bls_rep {K : PySem.W.Frag} {mg : Str → Option Value} {Z : Hp} : ∀ {xs : List V} {ds : List D} {bs : List Bool}, RepDs K mg Z xs ds → bls ds = some bs → xs = bs.map V.bl
  | [], _, _, h, e => by cases h; simp [bls] at e; subst e; rfl
  | x :: xs, _, bs, h, e => by
    cases h with
    | @cons _ _ d ds h1 h2 =>
      cases h1 with
      | bl b =>
        unfold bls at e
        cases q : bls ds with
        | none => rw [q] at e; cases e
        | some cs =>
          rw [q] at e
          cases e
          rw [bls_rep h2 q]
          rfl
      | _ => simp [bls] at e
def lstD : D → Option (List D)
  | .lst l => some l
  | .fz l => some l
  | _ => none
theorem RepD.lsq {K : PySem.W.Frag} {mg : Str → Option Value} {Z H : Hp} {x : V} {d : D} {ds : List D} (h : RepD K mg Z x d) (z : Same Z H) (e : lstD d = some ds) : ∃ p xs, x = .ref p ∧ SqL K H p xs ∧ RepDs K mg Z xs ds := by
  cases h with
  | lst h1 h2 => cases e; exact ⟨_, _, rfl, SqL.of (z _ _ h1), h2⟩
  | fz h1 h2 => cases e; exact ⟨_, _, rfl, z.seq h1, h2⟩
  | _ => cases e
def opBs (g : List Bool → Bool) (l : List A) : Option A := match l with
  | [a] => (lstD a.frz).bind fun ds => (bls ds).map fun bs => .v (.bl (g bs))
  | _ => none
theorem on_bs {g : List Bool → Bool} : OpN C (fun vs H Q => ∃ (a : Addr) (bs : List Bool), vs = [V.ref a] ∧ SqL C.K H a (bs.map V.bl) ∧ Q (.bl (g bs)) H) (opBs g) := by
  intro b Z H σ ρ vs as ws l res Q hl S e k
  unfold opBs at e
  split at e
  · rename_i a
    obtain ⟨w, rfl⟩ := one hl
    obtain ⟨Z', _, S'⟩ := Sta.freeze S
    cases hd : lstD a.frz with
    | none => rw [hd] at e; cases e
    | some ds =>
      rw [hd] at e
      cases hb : bls ds with
      | none => simp [hb] at e
      | some bs =>
        simp only [Option.bind_some, hb, Option.map_some, Option.some.injEq] at e
        subst e
        obtain ⟨q, xs, rfl, hs, r⟩ := (Sta.top S').lsq S'.zh hd
        have ex := bls_rep r hb
        subst ex
        exact ⟨q, bs, rfl, hs, k _ _ _ ((Sta.pop S').push (.bl _))⟩
  · cases e
def opAll : List A → Option A := opBs fun bs => bs.all id
def opAny : List A → Option A := opBs fun bs => bs.any id
def opTuple (l : List A) : Option A := match l with
  | [a] => (seqD a.frz).map fun ds => .v (.tup ds)
  | _ => none
theorem on_tuple : OpN C (fun xs H Q => ∃ p ys, xs = [.ref p] ∧ ((SqL C.K H p ys ∧ ∀ l, H l = none → Q (.ref l) (upd H l (.tup ys))) ∨ (SqT C.K H p ys ∧ Q (.ref p) H))) opTuple := by
  intro b Z H σ ρ vs as ws l res Q hl S e k
  unfold opTuple at e
  split at e
  · rename_i a
    obtain ⟨w, rfl⟩ := one hl
    obtain ⟨Z', _, S'⟩ := Sta.freeze S
    have t := Sta.top S'
    have S2 := Sta.pop S'
    generalize a.frz = d at e t
    cases t with
    | @tup q xs ds h1 h2 =>
      cases e
      exact ⟨q, xs, rfl, .inr ⟨sameT S'.zh h1, k _ _ _ (S2.push (.tup h1 h2))⟩⟩
    | @lst q xs ds h1 h2 =>
      cases e
      refine ⟨q, xs, rfl, .inl ⟨SqL.of (S'.zh _ _ h1), fun p hp => ?_⟩⟩
      exact k _ _ _ (S2.newF (o := .tup xs) hp (.tup (SqT.of upd_same) (RepDs.mono (same_upd (S'.zh.free hp)) _ _ h2)))
    | @fz q xs ds h1 h2 =>
      cases e
      refine ⟨q, xs, rfl, .inl ⟨S'.zh.seq h1, fun p hp => ?_⟩⟩
      exact k _ _ _ (S2.newF (o := .tup xs) hp (.tup (SqT.of upd_same) (RepDs.mono (same_upd (S'.zh.free hp)) _ _ h2)))
    | _ => cases e
  · cases e
def opList (l : List A) : Option A := match l with
  | [a] => (seqD a.frz).map fun ds => .m (ds.map .v)
  | _ => none
theorem on_list : OpN C (fun xs H Q => ∃ p ys, xs = [.ref p] ∧ (SqL C.K H p ys ∨ SqT C.K H p ys) ∧ ∀ l, H l = none → Q (.ref l) (upd H l (.lst ys))) opList := by
  intro b Z H σ ρ vs as ws l res Q hl S e k
  unfold opList at e
  split at e
  · rename_i a
    obtain ⟨w, rfl⟩ := one hl
    obtain ⟨Z', _, S'⟩ := Sta.freeze S
    cases hd : seqD a.frz with
    | none => rw [hd] at e; cases e
    | some ds =>
      rw [hd] at e
      cases e
      obtain ⟨q, xs, rfl, hs, r⟩ := (Sta.top S').seq S'.zh hd
      refine ⟨q, xs, rfl, hs, fun p hp => ?_⟩
      exact k _ _ _ (((Sta.pop S').pushes r).newM (by rw [List.length_map]; exact r.length) hp)
  · cases e
def opInt (l : List A) : Option A := match l with
  | [.v (.int i)] => some (.v (.int i))
  | [.v (.bl k)] => some (.v (.int (if k then 1 else 0)))
  | _ => none
theorem on_int : OpN C (fun xs H Q => (∃ i, xs = [.int i] ∧ Q (.int i) H) ∨ ∃ k, xs = [.bl k] ∧ Q (.int (if k then 1 else 0)) H) opInt := by
  intro b Z H σ ρ vs as ws l res Q hl S e k
  unfold opInt at e
  split at e
  · cases e
    obtain ⟨w, rfl⟩ := one hl
    have t := Sta.top S
    cases t
    exact .inl ⟨_, rfl, k _ _ _ ((Sta.pop S).push (.int _))⟩
  · cases e
    obtain ⟨w, rfl⟩ := one hl
    have t := Sta.top S
    cases t
    exact .inr ⟨_, rfl, k _ _ _ ((Sta.pop S).push (.int _))⟩
  · cases e
def opStr (l : List A) : Option A := match l with
  | [.v (.int i)] => if i.natAbs.log2 < 1920 then some (.v (.str (toString i))) else none
  | _ => none
theorem on_str : OpN C (fun xs H Q => ∃ i : Int, xs = [.int i] ∧ i.natAbs.log2 < 1920 ∧ Q (.str (toString i)) H) opStr := by
  intro b Z H σ ρ vs as ws l res Q hl S e k
  unfold opStr at e
  split at e
  · split at e
    · rename_i hz
      cases e
      obtain ⟨w, rfl⟩ := one hl
      have t := Sta.top S
      cases t
      exact ⟨_, rfl, hz, k _ _ _ ((Sta.pop S).push (.str _))⟩
    · cases e
  · cases e
end

def kindD : D → String
  | .non => "NoneType"
  | .bl _ => "bool"
  | .int _ => "int"
  | .str _ => "str"
  | .tup _ => "tuple"
  | .lst _ => "list"
  | .fz _ => "list"
  | .ins _ _ _ => ""
def opIs (T : String) (l : List A) : Option A := match l with
  | [.v d] => if kindD d = "" then none else (kitB (kindD d) T).map fun b => .v (.bl b)
  | [.m _] => (kitB "list" T).map fun b => .v (.bl b)
  | _ => none
def dIsi (T : String) (f : M A) : M A := f.bind fun a => ofO (opIs T [a])
theorem RepD.ty {K : PySem.W.Frag} {mg : Str → Option Value} {Z H : Hp} {x : V} {d : D} (h : RepD K mg Z x d) (z : Same Z H) (n : kindD d ≠ "") : TyX K H x (.type (kindD d)) := by
  cases h with
  | non => exact .base .non
  | bl b => exact .base (.bl b)
  | int i => exact .base (.int i)
  | str x => exact .base (.str x)
  | tup h1 h2 =>
    rcases sameT z h1 with (h | ⟨o, h⟩) | ⟨o, _, _, h, c, _⟩
    · exact .base (.tup h)
    · exact .fTuple h
    · exact .kTuple h c
  | lst h1 h2 => exact .base (.lst (z _ _ h1))
  | fz h1 h2 =>
    rcases z.seq h1 with (h | ⟨o, h⟩) | ⟨o, _, _, h, c, _⟩
    · exact .base (.lst h)
    · exact .base (.frz h)
    · exact .kList h c
  | ins _ _ _ => exact absurd rfl n
section
variable {C : SC} {X : Cx} {e : Expr} {f : M A} {p p2 pos : Pos} {T : String} {y : Str}
theorem de_isi (hK : X.K = C.K) (hg : Gl X "isinstance") (hm : X.mg "isinstance" = none) (ha : PE X e (tE C f)) (hg2 : Gl X y) (hm2 : X.mg y = none) (hv2 : bootBuiltins y = some (.type T)) (hv : bootBuiltins "isinstance" = some (.builtin "isinstance"))
    (hn2 : y ≠ "__name__" := by decide) (hdb2 : (y == ("__debug__" : Str)) = false := by decide)
    (he : starEach (e :: [.Name y p2]) X.env = (false, eval e X.env) :: starEach [.Name y p2] X.env := by rfl) (he2 : starEach (.Name y p2 :: []) X.env = (false, eval (.Name y p2) X.env) :: starEach [] X.env := by rfl)
    (hpl : (backTo pos (starEach [.Name y p2] X.env)).any (·.1) = false := by rfl) : PE X (.Call (.Name "isinstance" p) [e, .Name y p2] [] pos) (tE C (dIsi T f)) := by
  refine PE.w (pe_callB call_isi hg hm hv (pa_cons ha (pa_cons (pe_bltn (v := .ty T) hg2 hm2 hv2 rfl hn2 hdb2) pa_nil he2) he) (by decide) (by decide) he hpl) fun σ H Q k => ?_
  refine (Go.bindE k).mono fun x H1 ⟨a, k1⟩ => ?_
  obtain ⟨res, e1, b, Z, ρ, vs, as, hb, _, S, k2⟩ := go_ofO k1
  show rIsi X.K [x, .ty T] H1 Q
  rw [hK]
  unfold opIs at e1
  split at e1
  · rename_i d heq
    cases heq
    split at e1
    · cases e1
    · rename_i hn
      cases q : kitB (kindD d) T with
      | none => rw [q] at e1; cases e1
      | some c =>
        rw [q] at e1
        cases e1
        exact ⟨x, .ty T, _, _, c, rfl, .ty T, (Sta.top (vs := vs) (as := as) S).ty S.zh hn, kit_ty q, k2 _ _ _ ((Sta.pop (vs := vs) (as := as) S).push (.bl _))⟩
  · rename_i l heq
    cases heq
    cases q : kitB "list" T with
    | none => rw [q] at e1; cases e1
    | some c =>
      rw [q] at e1
      cases e1
      obtain ⟨Z', _, S'⟩ := Sta.freeze (vs := vs) (as := as) S
      exact ⟨x, .ty T, _, _, c, rfl, .ty T, (Sta.top S').ty S'.zh (by simp [A.frz, kindD]), kit_ty q, k2 _ _ _ ((Sta.pop S').push (.bl _))⟩
  · cases e1
end

def cutL {α : Type} (xs : List α) (lo hi : Option Int) : List α := (xs.drop (HT.sIx xs.length 0 lo)).take (HT.sIx xs.length xs.length hi - HT.sIx xs.length 0 lo)
theorem cut_rep {K : PySem.W.Frag} {mg : Str → Option Value} {Z : Hp} {xs : List V} {ds : List D} (h : RepDs K mg Z xs ds) (lo hi : Option Int) : RepDs K mg Z (cutV xs lo hi) (cutL ds lo hi) := by
  unfold cutV cutL
  rw [h.length]
  exact RepDs.take _ (RepDs.drop _ h)
def opSl (a : A) (lo hi : Option Int) : Option A := match a.frz with
  | .tup l => some (.v (.tup (cutL l lo hi)))
  | .lst l => some (.m ((cutL l lo hi).map .v))
  | .fz l => some (.m ((cutL l lo hi).map .v))
  | .str z => if z.length ≤ sizeLine then some (.v (.str (cutS z lo hi))) else none
  | _ => none
def pNo : M (Option Int) := M.pure none
def pSo (f : M A) : M (Option Int) := f.bind fun a ρ => match a with
  | .v (.int i) => .ok (some i) ρ
  | _ => .bad
def dSl (f : M A) (lo hi : M (Option Int)) : M A := f.bind fun a => lo.bind fun l => hi.bind fun h => ofO (opSl a l h)
def rSl (K : PySem.W.Frag) : V → Option Int → Option Int → Hp → VK → Prop := fun x lo hi H Q => rSlA K x lo hi H Q ∨ (rSlL K x lo hi H Q ∨ rSlS x lo hi H Q)
def finO (C : SC) (σ : St) (Q : Option Int → Hp → Prop) : Fin (Option Int) := fun b vs as o ρ => ∀ Z' H', Sta C.K C.mg b Z' H' σ ρ vs as → Q o H'
def tO (C : SC) (f : M (Option Int)) : TO := fun σ H Q => Go C (finO C σ Q) [] [] f σ H
section
variable {C : SC} {X : Cx} {e : Expr} {lo hi : Option Expr} {f : M A} {l h : M (Option Int)} {pos p2 : Pos}
theorem sl_all : SlR X (rSl X.K) := sl_tupA.or (sl_list.or sl_str)
theorem PO.w {e : Option Expr} {t t' : TO} (h : PO X e t) (k : ∀ σ H Q, t' σ H Q → t σ H Q) : PO X e t' := ⟨fun pins s σ H Q I hw => h.run pins s σ H Q I (k σ H Q hw)⟩
theorem do_none : PO X none (tO C pNo) := PO.w po_none fun σ H Q ⟨b, Z, ρ, vs, as, hb, hl, S, k⟩ => k _ _ S
theorem do_some (he : PE X e (tE C f)) : PO X (some e) (tO C (pSo f)) := by
  refine PO.w (po_some he) fun σ H Q k => ?_
  refine (Go.bindE k).mono fun x H1 ⟨a, b, Z, ρ, vs, as, hb, _, S, k1⟩ => ?_
  dsimp only at k1
  split at k1
  · have t := Sta.top (vs := vs) (as := as) S
    cases t
    exact ⟨_, rfl, k1 _ _ (Sta.pop (vs := vs) (as := as) S)⟩
  · exact k1.elim
theorem Go.bindO {α : Type} {fin : Fin α} {ps : List V} {pa : List A} {σ : St} {H : Hp} {f : M (Option Int)} {g : Option Int → M α} (h : Go C fin ps pa (f.bind g) σ H) : tO C f σ H (fun o H1 => Go C fin ps pa (g o) σ H1) := by
  obtain ⟨b, Z, ρ, vs, as, hb, hl, S, h⟩ := h
  refine ⟨b, Z, ρ, ps ++ vs, pa ++ as, hb, rfl, S, R.sat_mono (R.sat_bind h) (fun c ρ' q Z' H' S' => ?_) fun e ρ' q => q.pops hl⟩
  exact ⟨b, Z', ρ', vs, as, hb, hl, S', q⟩
theorem tO.mono {f : M (Option Int)} {Q Q' : Option Int → Hp → Prop} {σ : St} {H : Hp} (h : tO C f σ H Q) (k : ∀ v H', Q v H' → Q' v H') : tO C f σ H Q' := by
  obtain ⟨b, Z, ρ, vs, as, hb, hl, S, h⟩ := h
  exact ⟨b, Z, ρ, vs, as, hb, hl, S, R.sat_mono h (fun a ρ' q Z' H' S' => k _ _ (q Z' H' S')) fun _ _ q => q⟩
theorem de_slice (hK : X.K = C.K) (he : PE X e (tE C f)) (hl : PO X lo (tO C l)) (hh : PO X hi (tO C h)) : PE X (.Subscript e (.Slice lo hi none p2) pos) (tE C (dSl f l h)) := by
  refine PE.w (pe_slice sl_all he hl hh) fun σ H Q k => ?_
  refine (Go.bindE k).mono fun x H1 ⟨a, k1⟩ => (Go.bindO k1).mono fun i H2 k2 => (Go.bindO k2).mono fun j H3 k3 => ?_
  obtain ⟨res, e1, b, Z, ρ, vs, as, hb, _, S, k4⟩ := go_ofO k3
  rw [hK]
  obtain ⟨Z', _, S'⟩ := Sta.freeze (vs := vs) (as := as) S
  have t := Sta.top S'
  have S2 := Sta.pop S'
  unfold opSl at e1
  generalize a.frz = d at e1 t
  cases t with
  | @tup q xs ds h1 h2 =>
    cases e1
    refine .inl ⟨q, xs, rfl, sameT S'.zh h1, fun hw => ?_, fun hw p hp => ?_⟩
    · have ed : cutL ds i j = ds := by
        unfold cutL
        rw [← h2.length, hw.1, hw.2, List.drop_zero, Nat.sub_zero, h2.length, List.take_length]
      rw [ed] at k4
      exact k4 _ _ _ (S2.push (.tup h1 h2))
    · exact k4 _ _ _ (S2.newF (o := .tup _) hp (.tup (SqT.of upd_same) (RepDs.mono (same_upd (S'.zh.free hp)) _ _ (cut_rep h2 i j))))
  | @lst q xs ds h1 h2 =>
    cases e1
    refine .inr (.inl ⟨q, xs, rfl, SqL.of (S'.zh _ _ h1), fun p hp => ?_⟩)
    have r := cut_rep h2 i j
    exact k4 _ _ _ ((S2.pushes r).newM (by rw [List.length_map]; exact r.length) hp)
  | @fz q xs ds h1 h2 =>
    cases e1
    refine .inr (.inl ⟨q, xs, rfl, S'.zh.seq h1, fun p hp => ?_⟩)
    have r := cut_rep h2 i j
    exact k4 _ _ _ ((S2.pushes r).newM (by rw [List.length_map]; exact r.length) hp)
  | str z =>
    dsimp only at e1
    split at e1
    · rename_i hz
      cases e1
      exact .inr (.inr ⟨z, rfl, hz, k4 _ _ _ (S2.push (.str _))⟩)
    · cases e1
  | _ => cases e1
/-- xs[::-1] of a list -/
def dRev (f : M A) : M A := f.bind fun a => ofO ((lstD a.frz).map fun ds => .m (ds.reverse.map .v))
theorem de_rev {k : Nat} {p1 p3 p4 : Pos} (hK : X.K = C.K) (he : PE X e (tE C f)) : PE X (.Subscript e (.Slice none none (some (.UnaryOp .USub (.Constant (.int 1) k p1) p3)) p4) pos) (tE C (dRev f)) := by
  refine PE.w (pe_revL he) fun σ H Q q => ?_
  refine (Go.bindE q).mono fun x H1 ⟨a, k1⟩ => ?_
  obtain ⟨res, e1, b, Z, ρ, vs, as, hb, _, S, k2⟩ := go_ofO k1
  rw [hK]
  obtain ⟨Z', _, S'⟩ := Sta.freeze (vs := vs) (as := as) S
  cases hd : lstD a.frz with
  | none => rw [hd] at e1; cases e1
  | some ds =>
    rw [hd] at e1
    cases e1
    obtain ⟨q, xs, rfl, hs, r⟩ := (Sta.top S').lsq S'.zh hd
    refine ⟨q, xs, rfl, hs, fun p hp => ?_⟩
    exact k2 _ _ _ (((Sta.pop S').pushes r.reverse).newM (by rw [List.length_map]; exact r.reverse.length) hp)
end

section
variable {C : SC} {X : Cx} {a b : Expr} {f g : M A} {pos : Pos}
theorem de_ix (ha : PE X a (tE C f)) (hb : PE X b (tE C g)) (hK : X.K = C.K) (hs : PlainIx b) : PE X (.Subscript a b pos) (tE C (dOp2 opIx f g)) := by
  refine PE.w (pe_ix ix_seq ha hb hs) fun σ H Q k => ?_
  refine (Go.bindE k).mono fun x H1 ⟨u, k1⟩ => (Go.bindE k1).mono fun y H2 ⟨w, k2⟩ => ?_
  rw [hK]
  exact go_op2 o2_ix k2
end

def dItems (f : M A) : M (List D) := f.bind fun a => ofO (seqD a.frz)
def dRng1 (f : M A) : M (List D) := f.bind fun a => ofO (match a with
  | .v (.int j) => if -(2 ^ 62) ≤ j ∧ j < 2 ^ 62 then some ((List.range j.toNat).map fun i : Nat => .int i) else none
  | _ => none)
def dRng2 (f g : M A) : M (List D) := f.bind fun a => g.bind fun c => ofO (match a, c with
  | .v (.int i), .v (.int j) => if -(2 ^ 62) ≤ i ∧ i < 2 ^ 62 ∧ -(2 ^ 62) ≤ j ∧ j < 2 ^ 62 then some ((List.range (j - i).toNat).map fun n : Nat => .int (i + n)) else none
  | _, _ => none)
section
variable {C : SC} {X : Cx} {e e2 tg : Expr} {f g : M A} {pos p : Pos}
def iSeq (K : PySem.W.Frag) (tl : TE) : TI := fun σ H R => tl σ H fun x H1 => ∃ a, x = .ref a ∧ (((∃ xs, SqL K H1 a xs) ∧ R (Itl K a) H1) ∨ ((∃ xs, SqT K H1 a xs) ∧ R (Itt K a) H1))
theorem pi_seq {l : Expr} {tl : TE} (hl : PE X l tl) : PI X tg l (iSeq X.K tl) := by
  refine ⟨fun pins s σ H R I h => ?_⟩
  refine thn (hl.run pins s σ H _ I h) fun v s1 ⟨x, H1, I1, r1, q1⟩ => ?_
  obtain ⟨a, e, q⟩ := q1
  subst e
  cases r1
  rcases q with ⟨⟨xs, hq⟩, q⟩ | ⟨⟨xs, hq⟩, q⟩
  · obtain ⟨its, rv, p, hz⟩ := I1.list hq
    refine wpAny_pyIter_list p.isList ?_
    refine ⟨s1.heap.objs.size, [s1.heap.objs.size], _, _, H1, rfl, I1.kept (t' := s1.toks) fun b o e => Heap.get?_push_of_some _ e, turn_list a _, ⟨_, Heap.get?_push_size _ rfl, rfl, rfl⟩, fun b hb => ?_, q⟩
    have e : b = s1.heap.objs.size := by simpa using hb
    subst e
    exact I1.fpOk (Nat.le_refl _) (I1.hok.fresh (Nat.le_refl _))
  · obtain ⟨its, rv, p, hz⟩ := I1.tuple hq
    refine wpAny_pyIter_tuple (show s1.heap.IsTuple a its.toArray from p) ?_
    refine ⟨s1.heap.objs.size, [s1.heap.objs.size], _, _, H1, rfl, I1.kept (t' := s1.toks) fun b o e => Heap.get?_push_of_some _ e, turn_tuple a _, ⟨_, Heap.get?_push_size _ rfl, rfl, rfl⟩, fun b hb => ?_, q⟩
    have e : b = s1.heap.objs.size := by simpa using hb
    subst e
    exact I1.fpOk (Nat.le_refl _) (I1.hok.fresh (Nat.le_refl _))
theorem isIt_list {a : Addr} {d : D} {ds : List D} (hd : lstD d = some ds) : IsIt C (Itl C.K a) [.ref a] [.v d] ds := by
  intro b Z H σ ρ vs as S
  obtain ⟨q, xs, e, hs, r⟩ := (Sta.top S).lsq S.zh hd
  cases e
  refine ⟨fun i d hi => ?_, xs, hs, by rw [r.length]; exact Nat.le_refl _⟩
  obtain ⟨x, hx, rx⟩ := r.get hi
  refine ⟨⟨xs, x, hs, hx⟩, fun y H' ⟨e', hy⟩ => ?_⟩
  subst e'
  have := hy xs hs
  rw [hx] at this
  cases this
  exact ⟨Z, S.push rx⟩
theorem isIt_tup {a : Addr} {ds : List D} : IsIt C (Itt C.K a) [.ref a] [.v (.tup ds)] ds := by
  intro b Z H σ ρ vs as S
  have t := Sta.top S
  cases t with
  | @tup _ xs _ h1 r =>
    have hs := sameT S.zh h1
    refine ⟨fun i d hi => ?_, xs, hs, by rw [r.length]; exact Nat.le_refl _⟩
    obtain ⟨x, hx, rx⟩ := r.get hi
    refine ⟨⟨xs, x, hs, hx⟩, fun y H' ⟨e', hy⟩ => ?_⟩
    subst e'
    have := hy xs hs
    rw [hx] at this
    cases this
    exact ⟨Z, S.push rx⟩
theorem di_seq (hK : X.K = C.K) (he : PE X e (tE C f)) : PI X tg e (tI C (dItems f)) := by
  refine PI.w (pi_seq he) fun σ H R k => ?_
  refine (Go.bindE k).mono fun x H1 ⟨a, k1⟩ => ?_
  obtain ⟨ds, e1, b, Z, ρ, vs, as, hb, _, S, k2⟩ := go_ofO k1
  rw [hK]
  obtain ⟨Z', _, S'⟩ := Sta.freeze (vs := vs) (as := as) S
  have t := Sta.top S'
  generalize a.frz = d at e1 t S'
  cases t with
  | @tup q xs es h1 h2 =>
    cases e1
    exact ⟨q, rfl, .inr ⟨⟨xs, sameT S'.zh h1⟩, k2 _ _ [.ref q] [.v (.tup _)] _ rfl S' isIt_tup⟩⟩
  | @lst q xs es h1 h2 =>
    cases e1
    exact ⟨q, rfl, .inl ⟨⟨xs, SqL.of (S'.zh _ _ h1)⟩, k2 _ _ [.ref q] [.v (.lst _)] _ rfl S' (isIt_list rfl)⟩⟩
  | @fz q xs es h1 h2 =>
    cases e1
    exact ⟨q, rfl, .inl ⟨⟨xs, S'.zh.seq h1⟩, k2 _ _ [.ref q] [.v (.fz _)] _ rfl S' (isIt_list rfl)⟩⟩
  | _ => cases e1
theorem isIt_rng {lo : Int} {n : Nat} : IsIt C (Itr lo n) [] [] ((List.range n).map fun i : Nat => .int (lo + i)) := by
  intro b Z H σ ρ vs as S
  refine ⟨fun i d hi => ?_, by show n ≤ _; simp⟩
  have hin : i < n := by
    have := (List.getElem?_eq_some_iff.mp hi).1
    simpa using this
  refine ⟨hin, fun y H' ⟨e1, e2⟩ => ?_⟩
  subst e1 e2
  rw [List.getElem?_map, List.getElem?_range hin] at hi
  cases hi
  exact ⟨Z, S.push (.int _)⟩
theorem di_rng1 (hg : Gl X "range") (hm : X.mg "range" = none) (ha : PE X e (tE C f)) (hs : starEach [e] X.env = [(false, eval e X.env)] := by rfl) (hs' : starEach (e :: []) X.env = (false, eval e X.env) :: starEach [] X.env := by rfl) : PI X tg (.Call (.Name "range" p) [e] [] pos) (tI C (dRng1 f)) := by
  refine PI.w (pi_range1 hg hm (pa_cons ha pa_nil hs') hs) fun σ H R k => ?_
  refine (Go.bindE k).mono fun x H1 ⟨a, k1⟩ => ?_
  obtain ⟨ds, e1, b, Z, ρ, vs, as, hb, _, S, k2⟩ := go_ofO k1
  split at e1
  · rename_i j
    split at e1
    · rename_i hz
      cases e1
      have t := Sta.top (vs := vs) (as := as) S
      cases t
      refine ⟨_, rfl, hz.1, hz.2, k2 _ _ [] [] _ rfl (Sta.pop (vs := vs) (as := as) S) ?_⟩
      simpa using isIt_rng (C := C) (lo := 0)
    · cases e1
  · cases e1
theorem di_rng2 (hg : Gl X "range") (hm : X.mg "range" = none) (ha : PE X e (tE C f)) (hb : PE X e2 (tE C g)) (hs : starEach [e, e2] X.env = [(false, eval e X.env), (false, eval e2 X.env)] := by rfl) (hs2 : starEach [e2] X.env = [(false, eval e2 X.env)] := by rfl)
    (ht : starEach (e :: [e2]) X.env = (false, eval e X.env) :: starEach [e2] X.env := by rfl) (ht2 : starEach (e2 :: []) X.env = (false, eval e2 X.env) :: starEach [] X.env := by rfl) : PI X tg (.Call (.Name "range" p) [e, e2] [] pos) (tI C (dRng2 f g)) := by
  refine PI.w (pi_range2 hg hm (pa_cons ha (pa_cons hb pa_nil ht2) ht) hs hs2) fun σ H R k => ?_
  refine (Go.bindE k).mono fun x H1 ⟨a, k1⟩ => (Go.bindE k1).mono fun y H2 ⟨c, k2⟩ => ?_
  obtain ⟨ds, e1, b, Z, ρ, vs, as, hb, _, S, k3⟩ := go_ofO k2
  split at e1
  · rename_i i j
    split at e1
    · rename_i hz
      cases e1
      have t := Sta.top (vs := x :: vs) (as := _ :: as) S
      have t2 := Sta.top2 (vs := vs) (as := as) S
      cases t
      cases t2
      exact ⟨_, _, rfl, hz, k3 _ _ [] [] _ rfl (Sta.pop (vs := vs) (as := as) (Sta.pop (vs := _ :: vs) (as := _ :: as) S)) isIt_rng⟩
    · cases e1
  · cases e1
end

def gNilD : List D → M Unit := fun ds => match ds with
  | [] => M.pure ()
  | _ => fun _ => .bad
def gConsD (g : D → M Unit) (gs : List D → M Unit) : List D → M Unit := fun ds => match ds with
  | d :: ds => (g d).bind fun _ => gs ds
  | [] => fun _ => .bad
def gTupD (n : Nat) (gs : List D → M Unit) : D → M Unit := fun d => match d with
  | .tup ds => if ds.length = n then gs ds else fun _ => .bad
  | _ => fun _ => .bad
def tGs (C : SC) (sl : List Nat) (g : List D → M Unit) : TGs := fun ws σ H Q => ∃ b Z ρ vs as ds, b.pn = C.pn ∧ ws.length = ds.length ∧ Sta C.K C.mg b Z H σ ρ (ws ++ vs) (ds.map .v ++ as) ∧
  (g ds ρ).sat (fun _ ρ' => ∀ Z' H' σ', Sta C.K C.mg b Z' H' σ' ρ' vs as → wipe σ' sl = wipe σ sl → Q σ' H') (XPost C b vs as)
section
variable {C : SC} {X : Cx} {e : Expr} {es : List Expr} {g : D → M Unit} {gs : List D → M Unit} {sl : List Nat} {pos : Pos} {n k : Nat}
theorem PGs.w {ts : List Expr} {t t' : TGs} (h : PGs X ts t) (k : ∀ v σ H Q, t' v σ H Q → t v σ H Q) : PGs X ts t' := ⟨fun pins s σ H vs us Q I r hw => h.run pins s σ H vs us Q I r (k vs σ H Q hw)⟩
theorem dgs_nil : PGs X [] (tGs C sl gNilD) := by
  refine PGs.w pgs_nil fun ws σ H Q ⟨b, Z, ρ, vs, as, ds, hb, hl, S, k⟩ => ?_
  unfold gNilD at k
  split at k
  · have e : ws = [] := List.eq_nil_of_length_eq_zero (by simpa using hl)
    subst e
    exact ⟨rfl, k _ _ _ S rfl⟩
  · exact k.elim
theorem dgs_cons (h1 : PG X e (tG C sl g)) (h2 : PGs X es (tGs C sl gs)) (hs : (assignEach (e :: es) X.env).map (·.2) = assign e X.env :: (assignEach es X.env).map (·.2) := by rfl) : PGs X (e :: es) (tGs C sl (gConsD g gs)) := by
  refine PGs.w (pgs_cons h1 h2 hs) fun ws σ H Q ⟨b, Z, ρ, vs, as, ds, hb, hl, S, k⟩ => ?_
  unfold gConsD at k
  split at k
  · rename_i d ds
    match ws, hl with
    | w :: ws, hl =>
      have hl' : ws.length = ds.length := by simpa using hl
      refine ⟨w, ws, rfl, b, Z, ρ, ws ++ vs, ds.map .v ++ as, d, hb, by simpa using S, R.sat_mono (R.sat_bind k) (fun _ ρ1 q Z1 H1 σ1 S1 w1 => ?_) fun _ _ q => q.pops (by simpa using hl')⟩
      exact ⟨b, Z1, ρ1, vs, as, ds, hb, hl', S1, R.sat_mono q (fun _ ρ2 q2 Z2 H2 σ2 S2 w2 => q2 Z2 H2 σ2 S2 (w2.trans w1)) fun _ _ q => q⟩
  · exact k.elim
theorem dg_tup (hK : X.K = C.K) (hc : X.calm = true) (h : PGs X es (tGs C sl gs)) (hn : (assignEach es X.env).length = n := by rfl) (hst : (assignEach es X.env).findIdx? (·.1) = none := by rfl) : PG X (.Tuple es k pos) (tG C sl (gTupD n gs)) := by
  refine PG.w (pg_tup hc h hn hst) fun v σ H Q ⟨b, Z, ρ, vs, as, d, hb, S, k⟩ => ?_
  unfold gTupD at k
  split at k
  · split at k
    · rename_i hz
      have t := Sta.top S
      rw [hK]
      cases t with
      | @tup q xs ds h1 h2 =>
        exact ⟨q, xs, rfl, sameT S.zh h1, by rw [h2.length]; exact hz, b, Z, ρ, vs, as, _, hb, h2.length, (Sta.pop S).pushes h2, k⟩
    · exact k.elim
  · exact k.elim
end
/-- target = value -/
def dAsg (f : M A) (g : D → M Unit) : M Flow := f.bind fun a => (g a.frz).bind fun _ => M.pure .nx
section
variable {C : SC} {X : Cx} {tg e : Expr} {f : M A} {g : D → M Unit} {sl : List Nat} {pos : Pos}
theorem ds_asg (he : PE X e (tE C f)) (hg : PG X tg (tG C sl g)) (hs : swapsWithSole [tg] e pos.line X.env = pure false := by rfl) (hw : swappedStores [tg] e X.env = pure none := by rfl) (h1 : (assignEach [tg] X.env).map (·.2) = [assign tg X.env] := by rfl) :
    PS X (.Assign [tg] e pos) (tS C (dAsg f g)) := by
  refine PS.w (ps_asg he hg hs hw h1) fun D σ H k => ?_
  refine (Go.bindE k).mono fun x H1 ⟨a, b, Z, ρ, vs, as, hb, _, S, k1⟩ => ?_
  obtain ⟨Z', _, S'⟩ := Sta.freeze (vs := vs) (as := as) S
  exact ⟨b, Z', ρ, vs, as, _, hb, S', R.sat_mono (R.sat_bind k1) (fun _ ρ' q Z' H' σ' S' _ => q Z' H' σ' S') fun _ _ q => q⟩
end
/-- a, b = x, y with plain local names -/
def dPar (o1 o2 : Bool) (i j : Nat) (f g : M A) : M Flow := f.bind fun a => g.bind fun c ρ => if i < ρ.length ∧ j < ρ.length ∧ i ≠ j then .ok .nx ((ρ.set i (some (frzB o1 a))).set j (some (frzB o2 c))) else .bad
section
variable {C : SC} {X : Cx} {a b : Expr} {f g : M A} {i j : Nat} {x y : Str} {px py pt pos : Pos} {kt k2 : Nat} {pt2 : Pos}
theorem Sta.frzTop {K : PySem.W.Frag} {mg : Str → Option Value} {b : Base} {Z H : Hp} {σ : St} {ρ : DEnv} {vs : List V} {as : List A} {x : V} {a : A} (o : Bool) (S : Sta K mg b Z H σ ρ (x :: vs) (a :: as)) : ∃ Z', Sta K mg b Z' H σ ρ (x :: vs) (frzB o a :: as) := by
  cases o with
  | true => exact ⟨Z, S⟩
  | false => obtain ⟨Z', _, S'⟩ := S.freeze; exact ⟨Z', S'⟩
theorem ds_par (o1 o2 : Bool) (hc : X.calm = true) (hN : X.N.Nodup) (hi : X.N[i]? = some x) (hj : X.N[j]? = some y) (hni : i ∉ C.pn) (hnj : j ∉ C.pn) (hx : X.env.scope.names.lookup x = some .local) (hy : X.env.scope.names.lookup y = some .local)
    (ha : PE X a (tE C f)) (hb : PE X b (tE C g)) (hij : i ≠ j) (hw : swappedStores [.Tuple [.Name x px, .Name y py] kt pt] (.Tuple [a, b] k2 pt2) X.env = pure (some [x, y]))
    (hs : swapsWithSole [.Tuple [.Name x px, .Name y py] kt pt] (.Tuple [a, b] k2 pt2) pos.line X.env = pure false := by rfl) (h1 : starEach (a :: [b]) X.env = (false, eval a X.env) :: starEach [b] X.env := by rfl) (h2 : starEach (b :: []) X.env = (false, eval b X.env) :: starEach [] X.env := by rfl) :
    PS X (.Assign [.Tuple [.Name x px, .Name y py] kt pt] (.Tuple [a, b] k2 pt2) pos) (tS C (dPar o1 o2 i j f g)) := by
  refine PS.w (ps_par hc hN hi hj hij hx hy (pa_cons ha (pa_cons hb pa_nil h2) h1) hw hs) fun D σ H k => ?_
  refine (Go.bindE k).mono fun u H1 ⟨c, k1⟩ => (Go.bindE k1).mono fun w H2 ⟨d, b, Z, ρ, vs, as, hb, _, S, k2⟩ => ?_
  dsimp only at k2
  split at k2
  · rename_i hz
    refine ⟨u, w, rfl, ?_⟩
    obtain ⟨Z1, S1⟩ := Sta.frzTop (vs := u :: vs) (as := c :: as) o2 S
    have S2 := (S1.rot (ws := [w]) (l := [frzB o2 d]) rfl)
    obtain ⟨Z2, S3⟩ := Sta.frzTop o1 S2
    have S4 := (S3.store (i := i) hz.1 (by rw [hb]; exact hni))
    exact k2 _ _ _ (S4.store (i := j) (by rw [List.length_set]; exact hz.2.1) (by rw [hb]; exact hnj))
  · exact k2.elim
end
end DD

namespace DD
open PySem PySem.Spec L2
open PyProof.Rows hiding St

def wipeE (ρ : DEnv) : List Nat → DEnv
  | [] => ρ
  | i :: sl => (wipeE ρ sl).set i none
def wipeF : DEnv → List Nat → DEnv
  | ρ, [] => ρ
  | ρ, i :: sl => wipeF (ρ.set i none) sl
def parkL (ρ : DEnv) : List Nat → List (Nat × D)
  | [] => []
  | i :: sl => match ρ[i]? with
    | some (some (.v d)) => (i, d) :: parkL ρ sl
    | _ => parkL ρ sl
def putL : List (Nat × D) → DEnv → DEnv
  | [], ρ => ρ
  | (i, d) :: l, ρ => putL l (ρ.set i (some (.v d)))
def wipeM (sl : List Nat) : M Unit := fun ρ => .ok () (wipeE ρ sl)
def compL (sl : List Nat) (g : D → M Unit) (p : M Bool) (elt : M A) : List D → M (List A)
  | [] => M.pure []
  | d :: ds => (g d).bind fun _ => p.bind fun k => if k = true then elt.bind fun a => (wipeM sl).bind fun _ => (compL sl g p elt ds).bind fun l => M.pure (a :: l)
      else (wipeM sl).bind fun _ => compL sl g p elt ds
def dComp (sl : List Nat) (src : M (List D)) (g : D → M Unit) (p : M Bool) (elt : M A) : M A := src.bind fun ds ρ =>
  if ds.length ≤ sizeLine then
    match compL sl g p elt ds (wipeE ρ sl) with
    | .ok l ρ' => .ok (.m l) (putL (parkL ρ sl) (wipeF ρ' sl))
    | _ => .bad
  else .bad

section
variable {K : PySem.W.Frag} {mg : Str → Option Value} {b : Base} {Z H : Hp} {σ : St} {ρ : DEnv} {vs ws xs : List V} {as l pa : List A} {x y : V} {a c : A} {d : D} {i : Nat} {p : Addr}
theorem Sta.wipes (S : Sta K mg b Z H σ ρ vs as) : ∀ {sl : List Nat}, (∀ i ∈ sl, i ∉ b.pn) → Sta K mg b Z H (wipe σ sl) (wipeE ρ sl) vs as
  | [], _ => S
  | i :: sl, h => (Sta.wipes S fun j hj => h j (List.mem_cons_of_mem _ hj)).wipe1 i none (h i List.mem_cons_self)
theorem wipe_get {σ : St} {i : Nat} : ∀ {sl : List Nat}, i ∉ sl → (wipe σ sl)[i]? = σ[i]?
  | [], _ => rfl
  | j :: sl, h => by
    rw [List.mem_cons, not_or] at h
    unfold wipe
    rw [List.getElem?_set_ne (Ne.symm h.1), wipe_get h.2]
theorem wipe_none {σ : St} {j : Nat} : ∀ {sl : List Nat}, j ∈ sl → j < σ.length → (wipe σ sl)[j]? = some none
  | [], h, _ => by cases h
  | k :: sl, h, hl => by
    show ((wipe σ sl).set k none)[j]? = some none
    by_cases e : j = k
    · subst e
      rw [List.getElem?_set_self (by rw [wipe_length]; exact hl)]
    · rw [List.getElem?_set_ne (Ne.symm e)]
      rcases List.mem_cons.mp h with z | z
      · exact absurd z e
      · exact wipe_none z hl
theorem wipe_wipe {σ : St} {sl : List Nat} : ∀ {sl' : List Nat}, (∀ i ∈ sl', i ∈ sl) → wipe (wipe σ sl) sl' = wipe σ sl
  | [], _ => rfl
  | j :: sl', h => by
    show (wipe (wipe σ sl) sl').set j none = wipe σ sl
    rw [wipe_wipe fun i hi => h i (List.mem_cons_of_mem _ hi)]
    by_cases hj : j < σ.length
    · exact set_same (wipe_none (h j List.mem_cons_self) hj)
    · exact List.set_eq_of_length_le (by rw [wipe_length]; omega)
theorem bind_inv {α β : Type} {f : M α} {g : α → M β} {ρ ρ' : DEnv} {y : β} (h : f.bind g ρ = .ok y ρ') : ∃ a ρ1, f ρ = .ok a ρ1 ∧ g a ρ1 = .ok y ρ' := by
  unfold M.bind at h
  cases e : f ρ with
  | bad => rw [e] at h; cases h
  | exc _ _ => rw [e] at h; cases h
  | ok a ρ1 => rw [e] at h; exact ⟨a, ρ1, rfl, h⟩
theorem Sta.unwipe : ∀ {sl : List Nat} {ρ : DEnv}, sl.Nodup → (∀ i ∈ sl, i ∉ b.pn) → Sta K mg b Z H (wipe σ sl) ρ vs as → Sta K mg b Z H σ (wipeF ρ sl) vs as
  | [], _, _, _, S => S
  | i :: sl, ρ, nd, h, S => by
    have S1 := Sta.wipe1 S i ((wipe σ sl)[i]?.getD none) (h i List.mem_cons_self)
    have e : (wipe σ (i :: sl)).set i ((wipe σ sl)[i]?.getD none) = wipe σ sl := by
      show ((wipe σ sl).set i none).set i _ = _
      rw [List.set_set]
      by_cases hi : i < (wipe σ sl).length
      · exact set_same (by rw [List.getElem?_eq_getElem hi]; rfl)
      · rw [List.set_eq_of_length_le (by omega)]
    rw [e] at S1
    exact Sta.unwipe (sl := sl) (ρ := ρ.set i none) (List.nodup_cons.mp nd).2 (fun j hj => h j (List.mem_cons_of_mem _ hj)) S1
theorem Sta.park (S : Sta K mg b Z H σ ρ vs as) : ∀ sl : List Nat, ∃ xs, RepDs K mg Z xs ((parkL ρ sl).map (·.2)) ∧ xs.length = (parkL ρ sl).length ∧ ∀ (k : Nat) (q : Nat × D), (parkL ρ sl)[k]? = some q → q.1 ∈ sl ∧ ∃ x, xs[k]? = some x ∧ σ[q.1]? = some (some x)
  | [] => ⟨[], .nil, rfl, fun k q e => by simp [parkL] at e⟩
  | i :: sl => by
    obtain ⟨xs, r, hl, h⟩ := Sta.park S sl
    unfold parkL
    split
    · rename_i d hd
      obtain ⟨x, e, rx⟩ := S.slot hd
      refine ⟨x :: xs, .cons rx r, by simp [hl], fun k q ek => ?_⟩
      cases k with
      | zero =>
        simp at ek
        subst ek
        exact ⟨List.mem_cons_self, x, rfl, e⟩
      | succ k =>
        obtain ⟨h1, y, h2, h3⟩ := h k q (by simpa using ek)
        exact ⟨List.mem_cons_of_mem _ h1, y, by simpa using h2, h3⟩
    · exact ⟨xs, r, hl, fun k q ek => let ⟨h1, h2⟩ := h k q ek; ⟨List.mem_cons_of_mem _ h1, h2⟩⟩
theorem Sta.unpark : ∀ {pk : List (Nat × D)} {xs : List V} {ρ : DEnv}, Sta K mg b Z H σ ρ (xs ++ vs) (pk.map (fun q => A.v q.2) ++ as) → xs.length = pk.length → (∀ (k : Nat) (q : Nat × D), pk[k]? = some q → q.1 ∉ b.pn ∧ ∃ x, xs[k]? = some x ∧ σ[q.1]? = some (some x)) →
    Sta K mg b Z H σ (putL pk ρ) vs as
  | [], [], _, S, _, _ => S
  | [], _ :: _, _, _, e, _ => by simp at e
  | _ :: _, [], _, _, e, _ => by simp at e
  | q :: pk, x :: xs, ρ, S, e, h => by
    obtain ⟨h1, y, h2, h3⟩ := h 0 q rfl
    simp at h2
    subst h2
    have S1 := Sta.store (i := q.1) (vs := xs ++ vs) (as := pk.map (fun q => A.v q.2) ++ as) S (by rw [← S.len]; exact (List.getElem?_eq_some_iff.mp h3).1) h1
    rw [set_same h3] at S1
    exact Sta.unpark (pk := pk) (xs := xs) (ρ := ρ.set q.1 (some (.v q.2))) S1 (by simpa using e) fun k q' ek => h (k + 1) q' (by simpa using ek)
/-- a pending value goes behind a pending list -/
theorem Sta.appPend (S : Sta K mg b Z H σ ρ (x :: y :: vs) (.m l :: a :: as)) : ∃ p xs, x = .ref p ∧ H p = some (.lst xs) ∧ xs.length = l.length ∧ Sta K mg b Z (upd H p (.lst (xs ++ [y]))) σ ρ (x :: vs) (.m (l ++ [a]) :: as) := by
  obtain ⟨f, g, h1, h2, h3, h4, h5⟩ := S.rep
  cases h2 with
  | @cons _ _ _ _ fl g0 r1 r0 =>
    cases r0 with
    | @cons _ _ _ _ fa g1 r2 r3 =>
      cases r1 with
      | @m p xs _ fl hp rl =>
        have cp : ∀ q, f.count q + ((fl.count q + if p = q then 1 else 0) + (fa.count q + g1.count q)) ≤ 1 := fun q => by
          have := h3 q
          rw [List.count_append, List.count_append, List.count_cons] at this
          simp only [beq_iff_eq] at this
          omega
        have zp : Z p = none := h4 p (.inr (List.mem_append_left _ List.mem_cons_self))
        have np : ∀ {q : Addr}, (0 < f.count q ∨ 0 < fl.count q ∨ 0 < fa.count q ∨ 0 < g1.count q) → q ≠ p := fun {q} hq e => by
          have := cp q
          rw [if_pos e.symm] at this
          omega
        have bp : b.H p = none := h5 p (List.mem_append_left _ List.mem_cons_self)
        refine ⟨p, xs, rfl, hp, rl.length, S.zz, fun q u eq => ?_, S.kz, fun q u eq hq => ?_, fun q hq => ?_, S.pin, S.lw, f, (p :: (fl ++ (fa ++ []))) ++ g1, h1.mono (Same.refl Z) (fun q hq => upd_ne (np (.inl (mem_count hq)))) (fun _ _ _ z => z), ?_, fun q => ?_, fun q hq => ?_, fun q hq => ?_⟩
        · rw [upd_ne (fun e => by rw [e, zp] at eq; cases eq)]; exact S.zh _ _ eq
        · rw [upd_ne (fun e => by rw [e, bp] at eq; cases eq)]; exact S.kh _ _ eq hq
        · by_cases e : q = p
          · rw [e, upd_same]; simp
          · rw [upd_ne e]; exact S.kd q hq
        · refine .cons (.m upd_same ?_) (RepAs.mono (Same.refl Z) _ _ _ (fun q hq => upd_ne (np (.inr (.inr (.inr (mem_count hq)))))) r3)
          refine (RepAs.mono (Same.refl Z) _ _ _ (fun q hq => upd_ne (np (.inr (.inl (mem_count hq))))) rl).append (.cons (RepA.mono (Same.refl Z) _ _ _ (fun q hq => upd_ne (np (.inr (.inr (.inl (mem_count hq)))))) r2) .nil)
        · have := cp q
          rw [List.append_nil, List.count_append, List.count_cons, List.count_append]
          simp only [beq_iff_eq]
          omega
        · refine h4 q (hq.imp id fun z => ?_)
          rw [List.append_nil] at z
          rcases List.mem_append.mp z with z | z
          · rcases List.mem_cons.mp z with z | z
            · exact List.mem_append_left _ (z ▸ List.mem_cons_self)
            · rcases List.mem_append.mp z with z | z
              · exact List.mem_append_left _ (List.mem_cons_of_mem _ z)
              · exact List.mem_append_right _ (List.mem_append_left _ z)
          · exact List.mem_append_right _ (List.mem_append_right _ z)
        · refine h5 q ?_
          rw [List.append_nil] at hq
          rcases List.mem_append.mp hq with z | z
          · rcases List.mem_cons.mp z with z | z
            · exact List.mem_append_left _ (z ▸ List.mem_cons_self)
            · rcases List.mem_append.mp z with z | z
              · exact List.mem_append_left _ (List.mem_cons_of_mem _ z)
              · exact List.mem_append_right _ (List.mem_append_left _ z)
          · exact List.mem_append_right _ (List.mem_append_right _ z)
/-- .. over others that lie between -/
theorem Sta.appPend2 (S : Sta K mg b Z H σ ρ (y :: (ws ++ .ref p :: vs)) (a :: (pa ++ .m l :: as))) (hl : ws.length = pa.length) :
    ∃ xs, H p = some (.lst xs) ∧ xs.length = l.length ∧ Sta K mg b Z (upd H p (.lst (xs ++ [y]))) σ ρ (ws ++ .ref p :: vs) (pa ++ .m (l ++ [a]) :: as) := by
  have S1 := Sta.rot (ws := y :: ws) (l := a :: pa) S (by simp [hl])
  obtain ⟨p', xs, e, hp, hx, S2⟩ := Sta.appPend S1
  cases e
  exact ⟨xs, hp, hx, Sta.unrot S2 hl⟩
end

section
variable {X : Cx} {C : SC} {elt tg iter c : Expr} {ifs : List Expr} {scope : Scope} {own : List (Str × Nat)} {pos : Pos} {src : M (List D)} {g : D → M Unit} {p : M Bool} {f : M A}
theorem PTs.w {t t' : TT} (h : PTs X ifs t) (k : ∀ σ H Q, t' σ H Q → t σ H Q) : PTs X ifs t' := ⟨fun pins s σ H Q I hw => h.run pins s σ H Q I (k σ H Q hw)⟩
theorem dts_nil : PTs X [] (tT C (M.pure true)) := PTs.w pts_nil fun σ H Q k => go_tpure k
theorem dts_one (h : PT X c (tT C p)) : PTs X [c] (tT C p) := pts_one h
/-- the context within a comprehension: nothing raises -/
def SC.nox (C : SC) : SC := { C with W := fun _ _ _ _ => False }
theorem go_comp {σ : St} {H : Hp} {Q : VK} (nd : (own.map (·.2)).Nodup) (np : ∀ i ∈ own.map (·.2), i ∉ C.pn) (k : tE C (dComp (own.map (·.2)) src g p f) σ H Q) :
    tLc (tI C src) (tG C.nox (own.map (·.2)) g) (tT C.nox p) (tE C.nox f) (own.map (·.2)) σ H Q := by
  generalize hsl : own.map (·.2) = sl at *
  obtain ⟨b, Z, ρ, vs, as, hb, hl, S, k⟩ := k
  refine ⟨b, Z, ρ, vs, as, hb, rfl, S, R.sat_mono (R.sat_bind k) (fun ds ρ1 q Z1 H1 ws pa J hl S1 hJ D hD => ?_) fun _ _ q => q⟩
  have np' : ∀ i ∈ sl, i ∉ b.pn := fun i hi => by rw [hb]; exact np i hi
  split at q
  · rename_i hz
    cases ec : compL sl g p f ds (wipeE ρ1 sl) with
    | bad => rw [ec] at q; exact q.elim
    | exc e ρ2 => rw [ec] at q; exact q.elim
    | ok l0 ρ2 =>
      rw [ec] at q
      -- the new list, the parked values, the slots wiped
      have S2 : Sta C.K C.mg b Z1 (upd H1 D (.lst [])) σ ρ1 (.ref D :: (ws ++ vs)) (.m [] :: (pa ++ as)) := Sta.newM (ws := []) (l := []) S1 rfl hD
      obtain ⟨xs, rp, lp, hp⟩ := S2.park sl
      have S2' := S2.unrot hl
      have S3 : Sta C.K C.mg b Z1 (upd H1 D (.lst [])) σ ρ1 (xs ++ (ws ++ .ref D :: vs)) ((parkL ρ1 sl).map (fun q => A.v q.2) ++ (pa ++ .m [] :: as)) := by
        have := S2'.pushes rp
        rwa [List.map_map] at this
      -- parked below all
      have S4 : ∀ {ys : List V} {bs : List A} {vs' : List V} {as' : List A} {H' Z' : Hp} {σ' : St} {ρ' : DEnv}, ys.length = bs.length → ∀ {xs' : List V} {ps : List A}, xs'.length = ps.length → Sta C.K C.mg b Z' H' σ' ρ' (xs' ++ (ys ++ vs')) (ps ++ (bs ++ as')) → Sta C.K C.mg b Z' H' σ' ρ' (ys ++ (xs' ++ vs')) (bs ++ (ps ++ as')) := by
        intro ys bs vs' as' H' Z' σ' ρ' hy
        intro xs'
        induction xs' generalizing vs' as' with
        | nil =>
          intro ps hps S
          have : ps = [] := List.eq_nil_of_length_eq_zero (by simpa using hps.symm)
          subst this
          exact S
        | cons x xs' ih =>
          intro ps hps S
          match ps, hps with
          | c :: ps, hps =>
            have hps' : xs'.length = ps.length := by simpa using hps
            -- x :: (xs' ++ (ys ++ vs')) : bring x below ys: first put xs' below
            have T1 : Sta C.K C.mg b Z' H' σ' ρ' (xs' ++ x :: (ys ++ vs')) (ps ++ c :: (bs ++ as')) := Sta.unrot (ws := xs') (l := ps) S hps'
            have T2 : Sta C.K C.mg b Z' H' σ' ρ' ((xs' ++ ys) ++ x :: vs') ((ps ++ bs) ++ c :: as') := by
              have e1 : ∀ {zs : List V} {cs : List A}, zs.length = cs.length → Sta C.K C.mg b Z' H' σ' ρ' (zs ++ x :: (ys ++ vs')) (cs ++ c :: (bs ++ as')) → Sta C.K C.mg b Z' H' σ' ρ' ((zs ++ ys) ++ x :: vs') ((cs ++ bs) ++ c :: as') := by
                intro zs cs hz T
                have U := T.rot hz
                rw [← List.append_assoc, ← List.append_assoc] at U
                exact Sta.unrot (ws := zs ++ ys) (l := cs ++ bs) U (by simp [hz, hy])
              exact e1 hps' T1
            have T3 := Sta.rot (ws := xs' ++ ys) (l := ps ++ bs) T2 (by simp [hps', hy])
            -- x :: ((xs' ++ ys) ++ vs')
            have T4 := T3.pop
            rw [List.append_assoc, List.append_assoc] at T4
            have T2' : Sta C.K C.mg b Z' H' σ' ρ' (xs' ++ (ys ++ x :: vs')) (ps ++ (bs ++ c :: as')) := by
              rw [List.append_assoc, List.append_assoc] at T2; exact T2
            have T5 := ih (vs' := x :: vs') (as' := c :: as') hps' T2'
            -- ys ++ (xs' ++ x :: vs')
            have T6 : Sta C.K C.mg b Z' H' σ' ρ' ((ys ++ xs') ++ x :: vs') ((bs ++ ps) ++ c :: as') := by
              rw [List.append_assoc, List.append_assoc]; exact T5
            have T7 := Sta.rot (ws := ys ++ xs') (l := bs ++ ps) T6 (by simp [hps', hy])
            rw [List.append_assoc, List.append_assoc] at T7
            exact Sta.unrot (ws := ys) (l := bs) T7 hy
      have S5 : Sta C.K C.mg b Z1 (upd H1 D (.lst [])) (wipe σ sl) (wipeE ρ1 sl) (ws ++ .ref D :: (xs ++ vs)) (pa ++ .m [] :: ((parkL ρ1 sl).map (fun q => A.v q.2) ++ as)) := by
        have T : Sta C.K C.mg b Z1 (upd H1 D (.lst [])) σ ρ1 (xs ++ ((ws ++ [.ref D]) ++ vs)) ((parkL ρ1 sl).map (fun q => A.v q.2) ++ ((pa ++ [.m []]) ++ as)) := by simpa using S3
        have T2 := S4 (ys := ws ++ [.ref D]) (bs := pa ++ [.m []]) (by simp [hl]) (by simp [lp]) T
        have T3 := T2.wipes np'
        simpa using T3
      refine ⟨fun i m H => ∃ Z ρ acc, Sta C.K C.mg b Z H (wipe σ sl) ρ (ws ++ .ref D :: (xs ++ vs)) (pa ++ .m acc :: ((parkL ρ1 sl).map (fun q => A.v q.2) ++ as)) ∧ acc.length ≤ i ∧ i + m = ds.length ∧
        ∃ l ρ', compL sl g p f (ds.drop i) ρ = .ok l ρ' ∧ finE C σ Q b vs as (.m (acc ++ l)) (putL (parkL ρ1 sl) (wipeF ρ' sl)), ⟨ds.length, Z1, _, [], S5, Nat.le_refl _, by omega, l0, ρ2, by simpa using ec, q⟩, ?_⟩
      rintro i m H2 ⟨Z2, ρ3, acc, T, la, em, l, ρ4, el, q1⟩
      obtain ⟨turn, stop⟩ := hJ b Z2 H2 (wipe σ sl) ρ3 _ _ T
      by_cases hi : i < ds.length
      · obtain ⟨go, yld⟩ := turn i ds[i] (List.getElem?_eq_getElem hi)
        rw [List.drop_eq_getElem_cons hi] at el
        unfold compL at el
        refine .inr ⟨go, fun H3 => ∃ Z ρ acc, Sta C.K C.mg b Z H3 (wipe σ sl) ρ (ws ++ .ref D :: (xs ++ vs)) (pa ++ .m acc :: ((parkL ρ1 sl).map (fun q => A.v q.2) ++ as)) ∧ acc.length ≤ i + 1 ∧
          ∃ l ρ', compL sl g p f (ds.drop (i + 1)) ρ = .ok l ρ' ∧ finE C σ Q b vs as (.m (acc ++ l)) (putL (parkL ρ1 sl) (wipeF ρ' sl)), fun H3 ⟨Z3, ρ5, acc', T3, la', h⟩ => ⟨m - 1, by omega, Z3, ρ5, acc', T3, la', by omega, h⟩, fun x H3 hy => ?_⟩
        obtain ⟨Z3, T3⟩ := yld x H3 hy
        refine ⟨b, Z3, ρ3, _, _, ds[i], hb, T3, ?_⟩
        obtain ⟨u, ρ5, e1, el⟩ := bind_inv el
        obtain ⟨kk, ρ6, e2, el⟩ := bind_inv el
        rw [e1]
        intro Z4 H4 σ4 T4 w4
        have w4' : wipe σ4 sl = wipe σ sl := w4.trans (wipe_wipe fun _ h => h)
        refine ⟨w4', ⟨b, Z4, ρ5, _, _, hb, rfl, T4, ?_⟩⟩
        rw [e2]
        intro Z5 H5 T5
        cases kk with
        | true =>
          rw [if_pos rfl]
          rw [if_pos rfl] at el
          obtain ⟨a, ρ7, e3, elB⟩ := bind_inv el
          obtain ⟨u2, ρ9, e5, elC⟩ := bind_inv elB
          obtain ⟨l', ρ8, e4, elD⟩ := bind_inv elC
          clear el elB elC
          have e5 : R.ok () (wipeE ρ7 sl) = R.ok u2 ρ9 := e5
          injection e5 with _ e5
          subst e5
          have elD : R.ok (a :: l') ρ8 = R.ok l ρ4 := elD
          injection elD with el1 el2
          subst el1 el2
          refine ⟨b, Z5, ρ6, _, _, hb, rfl, T5, ?_⟩
          rw [e3]
          intro Z6 H6 y T6
          obtain ⟨av, hD6, lav, T7⟩ := Sta.appPend2 T6 hl
          refine ⟨av, hD6, by rw [lav]; omega, Z6, wipeE ρ7 sl, acc ++ [a], ?_, by simp; omega, l', _, e4, by simpa using q1⟩
          have := T7.wipes np'
          rw [w4'] at this
          exact this
        | false =>
          rw [if_neg (by decide)]
          rw [if_neg (by decide)] at el
          obtain ⟨u2, ρ9, e5, el⟩ := bind_inv el
          have e5 : R.ok () (wipeE ρ6 sl) = R.ok u2 ρ9 := e5
          injection e5 with _ e5
          subst e5
          refine ⟨Z5, wipeE ρ6 sl, acc, ?_, by omega, l, ρ4, el, q1⟩
          have := T5.wipes np'
          rw [w4'] at this
          exact this
      · have e : i = ds.length := by omega
        subst e
        rw [List.drop_length] at el
        simp only [compL, M.pure, R.ok.injEq] at el
        obtain ⟨el1, el2⟩ := el
        subst el1 el2
        refine .inl ⟨stop, ?_⟩
        have U := (T.pops hl).unwipe nd np'
        have U2 := Sta.unrot (ws := xs) (l := (parkL ρ1 sl).map (fun q => A.v q.2)) U (by simp [lp])
        have U3 := Sta.unpark U2 lp fun kk q ek => let ⟨h1, h2⟩ := hp kk q ek; ⟨np' _ h1, h2⟩
        simpa using q1 _ _ _ (by simpa using U3)
  · exact q.elim
theorem de_comp (nd : (own.map (·.2)).Nodup) (np : ∀ i ∈ own.map (·.2), i ∉ C.pn) (hc : X.calm = true) (hN : X.N.Nodup) (hi : PI X tg iter (tI C src)) (ok : BlkOk X.N X.env.scope scope own)
    (hg : ∀ (s : Shared) (H : Hp) (D : Addr) (cl : List (Str × Addr)) (fp : List Addr), PG (X.blk s H scope (compEnvC scope cl D X.env) fp) tg (tG C.nox (own.map (·.2)) g)) (ht : ∀ (s : Shared) (H : Hp) (D : Addr) (cl : List (Str × Addr)) (fp : List Addr), PTs (X.blk s H scope (compEnvC scope cl D X.env) fp) ifs (tT C.nox p))
    (he : ∀ (s : Shared) (H : Hp) (D : Addr) (cl : List (Str × Addr)) (fp : List Addr), PE (X.blk s H scope (compEnvC scope cl D X.env) fp) elt (tE C.nox f)) (hs : ∀ x, foldedSetIterable iter X.env x = pure x := by intro _; rfl) :
    PE X (.ListComp elt [⟨tg, iter, ifs, 0⟩] scope pos) (tE C (dComp (own.map (·.2)) src g p f)) :=
  PE.w (pe_lc hc hN hi ok hg ht he hs) fun σ H Q k => go_comp nd np k
/-- name = [..] on one line -/
theorem ds_setComp {i : Nat} {y : Str} {py spos : Pos} (o : Bool) (hni : i ∉ C.pn) (nd : (own.map (·.2)).Nodup) (np : ∀ i ∈ own.map (·.2), i ∉ C.pn) (hc : X.calm = true) (hN : X.N.Nodup) (hy : X.N[i]? = some y) (hyl : X.env.scope.names.lookup y = some .local)
    (hsw : swapsWith (.ListComp elt [⟨tg, iter, ifs, 0⟩] scope pos) (some (.Name y py)) spos.line X.env = pure true) (hi : PI X tg iter (tI C src)) (ok : BlkOk X.N X.env.scope scope own)
    (hg : ∀ (s : Shared) (H : Hp) (D : Addr) (cl : List (Str × Addr)) (fp : List Addr), PG (X.blk s H scope (compEnvC scope cl D X.env) fp) tg (tG C.nox (own.map (·.2)) g)) (ht : ∀ (s : Shared) (H : Hp) (D : Addr) (cl : List (Str × Addr)) (fp : List Addr), PTs (X.blk s H scope (compEnvC scope cl D X.env) fp) ifs (tT C.nox p))
    (he : ∀ (s : Shared) (H : Hp) (D : Addr) (cl : List (Str × Addr)) (fp : List Addr), PE (X.blk s H scope (compEnvC scope cl D X.env) fp) elt (tE C.nox f)) (hs : ∀ x, foldedSetIterable iter X.env x = pure x := by intro _; rfl) :
    PS X (.Assign [.Name y py] (.ListComp elt [⟨tg, iter, ifs, 0⟩] scope pos) spos) (tS C (dSet o i (dComp (own.map (·.2)) src g p f))) := by
  refine PS.w (ps_setLc hc hN hy hyl hsw hi ok hg ht he hs) fun D σ H k => ?_
  exact go_comp nd np ((Go.bindE k).mono fun y H1 ⟨u, k1⟩ => go_store hni k1)
end

def dAppend (i : Nat) (o : Bool) (f : M A) : M A := fun ρ => match ρ[i]? with
  | some (some (.m _)) => (f.bind fun a ρ => match ρ[i]? with
    | some (some (.m l)) => if l.length < sizeLine then .ok (.v .non) (ρ.set i (some (.m (l ++ [frzB o a])))) else .bad
    | _ => .bad) ρ
  | _ => .bad
def dExtend (i : Nat) (f : M A) : M A := fun ρ => match ρ[i]? with
  | some (some (.m _)) => (f.bind fun a ρ => match ρ[i]?, a.frz with
    | some (some (.m l)), .lst ds => if l.length + ds.length ≤ sizeLine then .ok (.v .non) (ρ.set i (some (.m (l ++ ds.map .v)))) else .bad
    | _, _ => .bad) ρ
  | _ => .bad
def dPopAt (i : Nat) (f : M A) : M A := fun ρ => match ρ[i]? with
  | some (some (.m _)) => (f.bind fun a ρ => match ρ[i]?, a with
    | some (some (.m l)), .v (.int n) => if -(2 ^ 63) ≤ n ∧ n < 2 ^ 63 then (match seqIndex? n l.length with
      | some k => (match l[k]? with
        | some (.v d) => .ok (.v d) (ρ.set i (some (.m (l.eraseIdx k))))
        | _ => .bad)
      | none => .bad) else .bad
    | _, _ => .bad) ρ
  | _ => .bad
def dSetItem (i : Nat) (o : Bool) (f g : M A) : M Flow := f.bind fun a ρ => match ρ[i]? with
  | some (some (.m _)) => (g.bind fun c ρ => match ρ[i]?, c with
    | some (some (.m l)), .v (.int n) => (match ixN l.length n with
      | some k => .ok .nx (ρ.set i (some (.m (l.set k (frzB o a)))))
      | none => .bad)
    | _, _ => .bad) ρ
  | _ => .bad
section
variable {X : Cx} {C : SC} {e e2 : Expr} {f g : M A} {i : Nat} {x : Str} {p apos cpos pos pos' : Pos}
theorem go_slot {α : Type} {fin : Fin α} {ps : List V} {pa : List A} {σ : St} {H : Hp} {h : M α} (k : Go C fin ps pa (fun ρ => match ρ[i]? with
    | some (some (.m _)) => h ρ
    | _ => .bad) σ H) : (∃ q xs, σ[i]? = some (some (.ref q)) ∧ H q = some (.lst xs)) ∧ Go C fin ps pa h σ H := by
  obtain ⟨b, Z, ρ, vs, as, hb, hl, S, k⟩ := k
  dsimp only at k
  split at k
  · rename_i l hl2
    obtain ⟨q, xs, fl, e1, hp, _, _⟩ := S.readL hl2
    exact ⟨⟨q, xs, e1, hp⟩, b, Z, ρ, vs, as, hb, hl, S, k⟩
  · exact k.elim
theorem de_append (o : Bool) (hN : X.N[i]? = some x) (hv : Vis X.env.scope x) (ha : PE X e (tE C f)) (hd : (x == ("__debug__" : Str)) = false := by decide) (hcd : (x == ("__classdict__" : Str)) = false := by decide)
    (hbase : attributeBase (.Name x p) "append" X.env (eval (.Name x p) X.env) = eval (.Name x p) X.env := by rfl)
    (hfew : ((backTo cpos (starEach (e :: []) X.env)).all (fun x => !x.1) && (backToKw cpos (keywordEach [] X.env)).all (fun x => x.1.isSome)
      && decide ((e :: ([] : List Expr)).length + ([] : List Keyword).length + (if ([] : List Keyword).isEmpty then 0 else 1) < 30)) = true := by rfl)
    (hline : (apos.endLine == cpos.line) = true := by rfl) (hs : starEach (e :: []) X.env = (false, eval e X.env) :: starEach [] X.env := by rfl) (hplain : (backTo cpos (starEach [] X.env)).any (·.1) = false := by rfl) :
    PE X (.Call (.Attribute (.Name x p) "append" apos) [e] [] cpos) (tE C (dAppend i o f)) := by
  refine PE.w (pe_bm PySem.F.plainAttrs_list PySem.F.slot_list_append PySem.F.type_list_append mt_append (pe_var hN hv hd hcd) (pa_cons ha pa_nil hs) hbase hfew hline hs hplain) fun σ H Q k => ?_
  obtain ⟨⟨q, xs, e1, hp⟩, k⟩ := go_slot k
  refine ⟨.ref q, e1, .inl ⟨rfl, xs, SqL.of hp⟩, ?_⟩
  refine (Go.bindE k).mono fun y H1 h1 => ?_
  obtain ⟨a, b, Z, ρ, vs, as, hb, -, S, k1⟩ := h1
  dsimp only at k1
  split at k1
  · rename_i l hl
    split at k1
    · rename_i hz
      obtain ⟨Z', S'⟩ := Sta.frzTop (vs := vs) (as := as) o S
      obtain ⟨q', xs', e2, hp', lx, S2⟩ := S'.append hl
      rw [e1] at e2
      cases e2
      exact ⟨q, xs', y, rfl, rfl, hp', by rw [lx]; exact hz, k1 _ _ _ (S2.push .non)⟩
    · exact k1.elim
  · exact k1.elim
theorem Sta.extend {K : PySem.W.Frag} {mg : Str → Option Value} {b : Base} {Z H : Hp} {σ : St} {ρ : DEnv} {vs : List V} {as l : List A} {y : V} {ds : List D} (S : Sta K mg b Z H σ ρ (y :: vs) (.v (.lst ds) :: as)) (e : ρ[i]? = some (some (.m l))) :
    ∃ q xs r zs, σ[i]? = some (some (.ref q)) ∧ H q = some (.lst xs) ∧ xs.length = l.length ∧ y = .ref r ∧ H r = some (.lst zs) ∧ zs.length = ds.length ∧ Sta K mg b Z (upd H q (.lst (xs ++ zs))) σ (ρ.set i (some (.m (l ++ ds.map .v)))) vs as := by
  have t := S.top
  cases t with
  | @lst r zs _ h1 h2 =>
    have hr := S.zh _ _ h1
    obtain ⟨q, xs, fl, g1, e1, hp, hl, r1, r2, _, _, k⟩ := Sta.mutL (ws := [.ref r]) (pa := [.v (.lst ds)]) S rfl e
    refine ⟨q, xs, r, zs, e1, hp, hl, rfl, hr, h2.length, k (ws' := []) (pa' := []) (r1.append h2.toA) .nil (fun y => by simp) (fun q hq => by cases hq)⟩
theorem de_extend (hN : X.N[i]? = some x) (hv : Vis X.env.scope x) (ha : PE X e (tE C f)) (hd : (x == ("__debug__" : Str)) = false := by decide) (hcd : (x == ("__classdict__" : Str)) = false := by decide)
    (hbase : attributeBase (.Name x p) "extend" X.env (eval (.Name x p) X.env) = eval (.Name x p) X.env := by rfl)
    (hfew : ((backTo cpos (starEach (e :: []) X.env)).all (fun x => !x.1) && (backToKw cpos (keywordEach [] X.env)).all (fun x => x.1.isSome)
      && decide ((e :: ([] : List Expr)).length + ([] : List Keyword).length + (if ([] : List Keyword).isEmpty then 0 else 1) < 30)) = true := by rfl)
    (hline : (apos.endLine == cpos.line) = true := by rfl) (hs : starEach (e :: []) X.env = (false, eval e X.env) :: starEach [] X.env := by rfl) (hplain : (backTo cpos (starEach [] X.env)).any (·.1) = false := by rfl) :
    PE X (.Call (.Attribute (.Name x p) "extend" apos) [e] [] cpos) (tE C (dExtend i f)) := by
  refine PE.w (pe_bm PySem.F.plainAttrs_list PySem.F.slot_list_extend PySem.F.type_list_extend mt_extend (pe_var hN hv hd hcd) (pa_cons ha pa_nil hs) hbase hfew hline hs hplain) fun σ H Q k => ?_
  obtain ⟨⟨q, xs, e1, hp⟩, k⟩ := go_slot k
  refine ⟨.ref q, e1, .inl ⟨rfl, xs, SqL.of hp⟩, ?_⟩
  refine (Go.bindE k).mono fun y H1 h1 => ?_
  obtain ⟨a, b, Z, ρ, vs, as, hb, -, S, k1⟩ := h1
  dsimp only at k1
  obtain ⟨Z', _, S'⟩ := Sta.freeze (vs := vs) (as := as) S
  generalize a.frz = d at k1 S'
  split at k1
  · rename_i l ds hl
    split at k1
    · rename_i hz
      obtain ⟨q', xs', r, zs, e2, hp', lx, ey, hr, lz, S2⟩ := S'.extend hl
      rw [e1] at e2
      cases e2
      subst ey
      exact ⟨q, r, xs', zs, rfl, rfl, hp', hr, by rw [lx, lz]; exact hz, k1 _ _ _ (S2.push .non)⟩
    · exact k1.elim
  · exact k1.elim
theorem de_popAt (hN : X.N[i]? = some x) (hv : Vis X.env.scope x) (ha : PE X e (tE C f)) (hd : (x == ("__debug__" : Str)) = false := by decide) (hcd : (x == ("__classdict__" : Str)) = false := by decide)
    (hbase : attributeBase (.Name x p) "pop" X.env (eval (.Name x p) X.env) = eval (.Name x p) X.env := by rfl)
    (hfew : ((backTo cpos (starEach (e :: []) X.env)).all (fun x => !x.1) && (backToKw cpos (keywordEach [] X.env)).all (fun x => x.1.isSome)
      && decide ((e :: ([] : List Expr)).length + ([] : List Keyword).length + (if ([] : List Keyword).isEmpty then 0 else 1) < 30)) = true := by rfl)
    (hline : (apos.endLine == cpos.line) = true := by rfl) (hs : starEach (e :: []) X.env = (false, eval e X.env) :: starEach [] X.env := by rfl) (hplain : (backTo cpos (starEach [] X.env)).any (·.1) = false := by rfl) :
    PE X (.Call (.Attribute (.Name x p) "pop" apos) [e] [] cpos) (tE C (dPopAt i f)) := by
  refine PE.w (pe_bm PySem.F.plainAttrs_list PySem.F.slot_list_pop PySem.F.type_list_pop mt_popAt (pe_var hN hv hd hcd) (pa_cons ha pa_nil hs) hbase hfew hline hs hplain) fun σ H Q k => ?_
  obtain ⟨⟨q, xs, e1, hp⟩, k⟩ := go_slot k
  refine ⟨.ref q, e1, .inl ⟨rfl, xs, SqL.of hp⟩, ?_⟩
  refine (Go.bindE k).mono fun y H1 h1 => ?_
  obtain ⟨a, b, Z, ρ, vs, as, hb, -, S, k1⟩ := h1
  dsimp only at k1
  split at k1
  · rename_i l n hl
    split at k1
    · rename_i hz
      split at k1
      · rename_i kk hk
        split at k1
        · rename_i d hd2
          have t := Sta.top (vs := vs) (as := as) S
          cases t
          obtain ⟨q', xs', w, e2, hp', lx, hx, S2⟩ := (Sta.pop (vs := vs) (as := as) S).popat hl hd2
          rw [e1] at e2
          cases e2
          exact ⟨q, xs', _, kk, w, rfl, rfl, hp', hz.1, hz.2, by rw [lx]; exact hk, hx, k1 _ _ _ S2⟩
        · exact k1.elim
      · exact k1.elim
    · exact k1.elim
  · exact k1.elim
theorem ds_setitem (o : Bool) (hN : X.N[i]? = some x) (hv : Vis X.env.scope x) (he : PE X e (tE C f)) (hi : PE X e2 (tE C g)) (hd : (x == ("__debug__" : Str)) = false := by decide) (hcd : (x == ("__classdict__" : Str)) = false := by decide)
    (hsv : ∀ v, assign (.Subscript (.Name x p) e2 pos') X.env v = (do
      let ov ← holding [v] (eval (.Name x p) X.env)
      let iv ← holding [v, ov] (eval e2 X.env)
      standAt pos'
      holding [v, ov, iv] (setItem ov iv v)
      release [v, ov, iv] []) := by intro _; rfl)
    (hs : swapsWithSole [.Subscript (.Name x p) e2 pos'] e pos.line X.env = pure false := by rfl) (hw : swappedStores [.Subscript (.Name x p) e2 pos'] e X.env = pure none := by rfl)
    (h1 : (assignEach [.Subscript (.Name x p) e2 pos'] X.env).map (·.2) = [assign (.Subscript (.Name x p) e2 pos') X.env] := by rfl) : PS X (.Assign [.Subscript (.Name x p) e2 pos'] e pos) (tS C (dSetItem i o f g)) := by
  refine PS.w (ps_asg he (pg_sub (pe_var hN hv hd hcd) hi set_list hsv) hs hw h1) fun D σ H k => ?_
  refine (Go.bindE k).mono fun y H1 ⟨a, k1⟩ => ?_
  obtain ⟨⟨q, xs, e1, hp⟩, k1⟩ := go_slot k1
  refine ⟨.ref q, e1, (Go.bindE k1).mono fun z H2 h2 => ?_⟩
  obtain ⟨c, b, Z, ρ, vs, as, hb, -, S, k2⟩ := h2
  dsimp only at k2
  split at k2
  · rename_i l n hl
    split at k2
    · rename_i kk hk
      have t := Sta.top (vs := y :: vs) (as := a :: as) S
      cases t
      obtain ⟨Z', S'⟩ := Sta.frzTop o (Sta.pop (vs := y :: vs) (as := a :: as) S)
      have hkk : kk < l.length := (ixN_seq hk).2.1
      obtain ⟨q', xs', e3, hp', lx, S2⟩ := S'.setitem hl hkk
      rw [e1] at e3
      cases e3
      exact ⟨q, xs', n, kk, rfl, rfl, hp', by rw [lx]; exact hk, k2 _ _ _ S2⟩
    · exact k2.elim
  · exact k2.elim
/-- x[e], x a list of one's own: an item that is frozen data -/
def dIxOwn (i : Nat) (f : M A) : M A := fun ρ => match ρ[i]? with
  | some (some (.m _)) => (f.bind fun a ρ => match ρ[i]?, a with
    | some (some (.m l)), .v (.int n) => (match atI l n with
      | some (.v d) => .ok (.v d) ρ
      | _ => .bad)
    | _, _ => .bad) ρ
  | _ => .bad
theorem de_ixOwn (hK : X.K = C.K) (hN : X.N[i]? = some x) (hv : Vis X.env.scope x) (ha : PE X e (tE C f)) (hpl : PlainIx e) (hd : (x == ("__debug__" : Str)) = false := by decide) (hcd : (x == ("__classdict__" : Str)) = false := by decide) :
    PE X (.Subscript (.Name x p) e pos) (tE C (dIxOwn i f)) := by
  refine PE.w (pe_ix ix_seq (pe_var hN hv hd hcd) ha hpl) fun σ H Q k => ?_
  obtain ⟨⟨q, xs, e1, hp⟩, k⟩ := go_slot k
  refine ⟨.ref q, e1, (Go.bindE k).mono fun y H1 h1 => ?_⟩
  obtain ⟨a, b, Z, ρ, vs, as, hb, -, S, k1⟩ := h1
  dsimp only at k1
  split at k1
  · rename_i l n hl
    split at k1
    · rename_i d hat
      have t := Sta.top (vs := vs) (as := as) S
      cases t
      obtain ⟨q', xs', fl, e2, hp', lx, r⟩ := Sta.readL S hl
      rw [e1] at e2
      cases e2
      unfold atI at hat
      cases ek : ixN l.length n with
      | none => rw [ek] at hat; cases hat
      | some kk =>
        rw [ek] at hat
        obtain ⟨w, fa, hw, ra, _⟩ := r.at (i := kk) hat
        cases ra with
        | v rd =>
          refine .inl ⟨q, xs', n, w, rfl, rfl, SqL.of hp', ?_, k1 _ _ _ ((Sta.pop (vs := vs) (as := as) S).push rd)⟩
          unfold atI
          rw [lx, ek]
          exact hw
    · exact k1.elim
  · exact k1.elim
/-- len(x), x a list of one's own -/
def dLenOwn (i : Nat) : M A := fun ρ => match ρ[i]? with
  | some (some (.m l)) => .ok (.v (.int l.length)) ρ
  | _ => .bad
theorem de_lenOwn {p0 : Pos} (hg : Gl X "len") (hm : X.mg "len" = none) (hK : X.K = C.K) (hN : X.N[i]? = some x) (hv : Vis X.env.scope x) (hd : (x == ("__debug__" : Str)) = false := by decide) (hcd : (x == ("__classdict__" : Str)) = false := by decide)
    (he : starEach (.Name x p :: []) X.env = (false, eval (.Name x p) X.env) :: starEach [] X.env := by rfl) (hpl : (backTo pos (starEach [] X.env)).any (·.1) = false := by rfl) : PE X (.Call (.Name "len" p0) [.Name x p] [] pos) (tE C (dLenOwn i)) := by
  refine PE.w (pe_callB cl_len hg hm PySem.boot_len (pa_cons (pe_var hN hv hd hcd) pa_nil he) (by decide) (by decide) he hpl) fun σ H Q ⟨b, Z, ρ, vs, as, hb, _, S, k⟩ => ?_
  unfold dLenOwn at k
  split at k
  · rename_i l hl
    obtain ⟨q, xs, fl, e1, hp, lx, r⟩ := Sta.readL S hl
    exact ⟨.ref q, e1, .inl ⟨q, xs, rfl, .inl (SqL.of hp), by rw [lx]; exact k _ _ _ (S.push (.int _))⟩⟩
  · exact k.elim
/-- a module's constant -/
theorem de_glob {d : D} {v : V} {u : Value} (hg : Gl X x) (hm : X.mg x = some u) (r : RelV v u) (rd : ∀ Z, RepD C.K C.mg Z v d) (hd : (x == ("__debug__" : Str)) = false := by decide) : PE X (.Name x pos) (tE C (dC d)) :=
  PE.w (pe_glob hg hm r hd) fun σ H Q k => go_pure k rd
end
end DD

namespace DD
open PySem PySem.Spec L2
open PyProof.Rows hiding St

def intA : A → Option Int
  | .v (.int i) => some i
  | _ => none
theorem intA_of {a : A} {i : Int} (h : intA a = some i) : a = .v (.int i) := by
  unfold intA at h
  split at h
  · cases h; rfl
  · cases h
def two2 (a c : A) : Option (Int × Int) := (intA a).bind fun i => (intA c).map fun j => (i, j)
theorem two2_of {a c : A} {z : Int × Int} (h : two2 a c = some z) : a = .v (.int z.1) ∧ c = .v (.int z.2) := by
  unfold two2 at h
  cases e1 : intA a with
  | none => rw [e1] at h; cases h
  | some i =>
    cases e2 : intA c with
    | none => rw [e1, e2] at h; cases h
    | some j =>
      rw [e1, e2] at h
      cases h
      exact ⟨intA_of e1, intA_of e2⟩
/-- a op b op' c of ints -/
def dChain (p q : Int → Int → Bool) (f g h : M A) : M A := f.bind fun a => g.bind fun c => (ofO (two2 a c)).bind fun z => if p z.1 z.2 = true then h.bind fun d => ofO ((intA d).map fun k => .v (.bl (q z.2 k))) else M.pure (.v (.bl false))
section
variable {X : Cx} {C : SC} {a b c : Expr} {f g h : M A} {pos : Pos} {op op' : CmpOp} {p q : Int → Int → Bool}
theorem go_chain {σ : St} {H : Hp} {Q : VK} (k : tE C (dChain p q f g h) σ H Q) : tChain (rI0 fun i j => .bl (p i j)) (rI0 fun i j => .bl (q i j)) (tE C f) (tE C g) (tE C h) σ H Q := by
  refine (Go.bindE k).mono fun x H1 ⟨u, k1⟩ => (Go.bindE k1).mono fun y H2 ⟨w, b, Z, ρ, vs, as, hb, hl, S, k2⟩ => ?_
  have k2a := R.sat_bind k2
  clear k2
  cases e : two2 u w with
  | none => rw [e] at k2a; exact k2a.elim
  | some z =>
    rw [e] at k2a
    have k2b : ((if p z.1 z.2 = true then h.bind fun d => ofO ((intA d).map fun k => A.v (.bl (q z.2 k))) else M.pure (.v (.bl false))) ρ).sat (finE C σ Q b vs as) (XPost C b vs as) := k2a
    clear k2a
    obtain ⟨e1, e2⟩ := two2_of e
    subst e1 e2
    have t1 := Sta.top (vs := x :: vs) (as := _ :: as) S
    have t2 := Sta.top2 (vs := vs) (as := as) S
    cases t1
    cases t2
    refine ⟨_, _, rfl, rfl, _, rfl, ?_⟩
    have S0 := Sta.pop (vs := vs) (as := as) (Sta.pop (vs := _ :: vs) (as := _ :: as) S)
    by_cases hp : p z.1 z.2 = true
    · rw [if_pos hp] at k2b ⊢
      have k3 : tE C h σ H2 fun x H' => ∃ d, Go C (finE C σ Q) [x] [d] (ofO ((intA d).map fun k => A.v (.bl (q z.2 k)))) σ H' := Go.bindE (ps := []) (pa := []) ⟨b, Z, ρ, vs, as, hb, rfl, S0, k2b⟩
      refine k3.mono fun w' H3 ⟨d, k4⟩ => ?_
      obtain ⟨res, e, b', Z', ρ', vs', as', hb', _, S', k5⟩ := go_ofO k4
      cases ed : intA d with
      | none => rw [ed] at e; cases e
      | some n =>
        rw [ed] at e
        cases e
        have := intA_of ed
        subst this
        have t := Sta.top (vs := vs') (as := as') S'
        cases t
        exact ⟨_, _, rfl, rfl, k5 _ _ _ ((Sta.pop (vs := vs') (as := as') S').push (.bl _))⟩
    · rw [if_neg hp] at k2b ⊢
      exact k2b _ _ _ (S0.push (.bl _))
theorem de_chain (ho : OpR X (compareOp op) (rI0 fun i j => .bl (p i j))) (ho' : OpR X (compareOp op') (rI0 fun i j => .bl (q i j))) (ha : PE X a (tE C f)) (hb : PE X b (tE C g)) (hc : PE X c (tE C h)) (hm : lastMarks [op, op'] [b, c] = false := by with_unfolding_all rfl) :
    PE X (.Compare a [op, op'] [b, c] pos) (tE C (dChain p q f g h)) := PE.w (pe_chain ho ho' ha hb hc hm) fun σ H Q k => go_chain k
theorem dt_chain (ho : OpR X (compareOp op) (rI0 fun i j => .bl (p i j))) (ho' : OpR X (compareOp op') (rI0 fun i j => .bl (q i j))) (ha : PE X a (tE C f)) (hb : PE X b (tE C g)) (hc : PE X c (tE C h)) (hm : lastMarks [op, op'] [b, c] = false := by with_unfolding_all rfl) :
    PT X (.Compare a [op, op'] [b, c] pos) (tT C (dTest (dChain p q f g h))) := PT.w (pt_chain ho ho' ha hb hc hm) fun σ H Q k => go_chain (go_test k)
end

section
variable {X : Cx} {C : SC}
theorem xv (i : Nat) {x : Str} {pos : Pos} (hN : X.N[i]? = some x := by rfl) (hv : Vis X.env.scope x := by first | exact Or.inl rfl | exact Or.inr (Or.inl rfl) | exact Or.inr (Or.inr rfl)) (hd : (x == ("__debug__" : Str)) = false := by decide)
    (hcd : (x == ("__classdict__" : Str)) = false := by decide) : PE X (.Name x pos) (tE C (dVar i)) := de_var hN hv hd hcd
end
/-- a def that may be called: from its place behind the top -/
theorem cal_mk {P : Program} {w : World} {K : PySem.W.Frag} {mg : Str → Option Value} {base : Heap} {k : Nat} {x : Str} {F : Fn} {f : Addr} {fd : FuncData} {ps : List Str} (G : FnOk P w K mg base CX0 k f fd ps (fun vs H Q _ => spD K mg F vs H Q fun _ _ _ => False))
    (m : mg x = some (.ref f)) (kp : PySem.W.keepIn K (.ref f) = true) (b : Binds K fd ps []) : CalD P w K mg base k x F [] := ⟨f, fd, ps, [], [], G, m, kp, b, .nil, fun _ => .nil⟩
/-- what stands of a def behind the top -/
structure Has (K : PySem.W.Frag) (mg : Str → Option Value) (x : Str) (st : Stmt) (f : Addr) (fd : FuncData) (ps : List Str) : Prop where
  fn : Fun K x x st f fd
  m : mg x = some (.ref f)
  b : Binds K fd ps []
theorem cal_of {P : Program} {w : World} {K : PySem.W.Frag} {mg : Str → Option Value} {base : Heap} {k n N : Nat} {x : Str} {st : Stmt} {f : Addr} {fd : FuncData} {Ns ps : List Str} {pn : List Nat} {body : M Flow} {F : Fn} (h : Has K mg x st f fd ps) (S : FnScope Ns ps (defScope st))
    (hF : F = dFn n N pn body) (hn : ps.length = n) (hN : Ns.length = N)
    (hb : ∀ (cdv : Value) (A : Around) (outer : List PySem.Env) (s : Shared) (H : Hp) (E : XK), Room k (A.deeper (envOfC x (defScope st) s.heap.objs.size f cdv)) →
      PSs (cxOf CX0 P w K mg base Ns x (defScope st) f cdv A outer s H E).nox (defBody st) (tS ⟨K, mg, fun _ _ _ _ => False, pn⟩ body)) : CalD P w K mg base (k + 1) x F [] := by
  subst hF hn hN
  exact cal_mk (fn_ok h.fn S (fun _ _ => rfl) hb) h.m h.fn.kp h.b
theorem CalD.mono {P : Program} {w : World} {K : PySem.W.Frag} {mg : Str → Option Value} {base : Heap} {j k : Nat} {x : Str} {F : Fn} {ds : List D} (c : CalD P w K mg base j x F ds) (h : j ≤ k) : CalD P w K mg base k x F ds :=
  let ⟨f, fd, ps, us, ys, G, r⟩ := c.ex
  ⟨f, fd, ps, us, ys, G.mono h, r⟩
end DD

namespace DD
open PySem PySem.Spec L2
open PyProof.Rows hiding St

/-- what stands of a def behind the top -/
structure Def (K : PySem.W.Frag) (mg : Str → Option Value) (x : Str) (st : Stmt) (ps : List Str) (f : Addr) (fd : FuncData) : Prop where
  fn : Fun K x x st f fd
  m : mg x = some (.ref f)
  b : ∀ us : List Value, us.length = ps.length → bindArgs fd ⟨us, []⟩ = pure (ps.zip us)
def Def0 (K : PySem.W.Frag) (mg : Str → Option Value) (x : Str) (st : Stmt) (ps : List Str) : Prop := ∃ f fd, Def K mg x st ps f fd
theorem def_ex {K : PySem.W.Frag} {h : Heap} {mg : Str → Option Value} {x : Str} {st : Stmt} {f : Addr} {oc : Value} {od an : Option Addr} {osl : Array (Option Value)} {kV dc pm cd ct : Value} {ps : List Str} (X : K.In h) (G : h.Ns mainGlobals mg)
    (a : PySem.W.nsIn K mainGlobals x = some (some (.ref f))) (l : K.lookup f = some ⟨oc, od, .func (PySem.W.fnOf x x (defArgs st) (defBody st) (defScope st) .none kV dc pm an cd ct), osl⟩) (c : PySem.W.codeIn K cd x = true) (k : PySem.W.keepIn K (.ref f) = true)
    (b : ∀ (kV doc pm : Value) (an : Option Addr) (cdv ct : Value) (us : List Value), us.length = ps.length → bindArgs (PySem.W.fnOf x x (defArgs st) (defBody st) (defScope st) .none kV doc pm an cdv ct) ⟨us, []⟩ = pure (ps.zip us)) : Def0 K mg x st ps :=
  ⟨f, _, fun_mk l c k, PySem.W.mg_of X G a, b _ _ _ _ _ _⟩
theorem fn_def {P : Program} {w : World} {K : PySem.W.Frag} {mg : Str → Option Value} {base : Heap} {k n N : Nat} {x : Str} {st : Stmt} {f : Addr} {fd : FuncData} {Ns ps : List Str} {pn : List Nat} {body : M Flow} {F : Fn} (h : Def K mg x st ps f fd) (S : FnScope Ns ps (defScope st))
    (hF : F = dFn n N pn body) (hn : ps.length = n) (hN : Ns.length = N)
    (hb : ∀ (cdv : Value) (A : Around) (outer : List PySem.Env) (s : Shared) (H : Hp) (E : XK), Room k (A.deeper (envOfC x (defScope st) s.heap.objs.size f cdv)) →
      PSs (cxOf CX0 P w K mg base Ns x (defScope st) f cdv A outer s H E).nox (defBody st) (tS ⟨K, mg, fun _ _ _ _ => False, pn⟩ body)) : FnOk P w K mg base CX0 (k + 1) f fd ps (fun vs H Q _ => spD K mg F vs H Q fun _ _ _ => False) := by
  subst hF hn hN
  exact fn_ok h.fn S (fun _ _ => rfl) hb
theorem cal_def {P : Program} {w : World} {K : PySem.W.Frag} {mg : Str → Option Value} {base : Heap} {k n N : Nat} {x : Str} {st : Stmt} {Ns ps : List Str} {pn : List Nat} {body : M Flow} {F : Fn} (h0 : Def0 K mg x st ps) (S : FnScope Ns ps (defScope st))
    (hF : F = dFn n N pn body) (hn : ps.length = n) (hN : Ns.length = N)
    (hb : ∀ (f : Addr) (cdv : Value) (A : Around) (outer : List PySem.Env) (s : Shared) (H : Hp) (E : XK), Room k (A.deeper (envOfC x (defScope st) s.heap.objs.size f cdv)) →
      PSs (cxOf CX0 P w K mg base Ns x (defScope st) f cdv A outer s H E).nox (defBody st) (tS ⟨K, mg, fun _ _ _ _ => False, pn⟩ body)) : CalD P w K mg base (k + 1) x F [] := by
  obtain ⟨f, fd, h⟩ := h0
  exact cal_mk (fn_def h S hF hn hN (hb f)) h.m h.fn.kp (.all h.b)

/-- a name of the top that stands for constant data -/
structure Glob (K : PySem.W.Frag) (mg : Str → Option Value) (x : Str) (d : D) : Prop where
  ex : ∃ v u, mg x = some u ∧ RelV v u ∧ ∀ Z, RepD K mg Z v d
theorem de_globC {X : Cx} {C : SC} {x : Str} {pos : Pos} {d : D} (g : Glob X.K X.mg x d) (hg : Gl X x) (hK : X.K = C.K) (hM : X.mg = C.mg) (hd : (x == ("__debug__" : Str)) = false := by decide) : PE X (.Name x pos) (tE C (dC d)) := by
  obtain ⟨v, u, m, r, rd⟩ := g.ex
  rw [hK, hM] at rd
  exact de_glob hg m r rd hd
theorem glob_tup {K : PySem.W.Frag} {h : Heap} {mg : Str → Option Value} {x : Str} {a : Addr} {o : Obj} {its : Array Value} {n : Nat} {vs : List V} {ds : List D} (X : K.In h) (G : h.Ns mainGlobals mg) (e : PySem.W.nsIn K mainGlobals x = some (some (.ref a))) (l : K.lookup a = some o)
    (c : o.cls = .type "tuple") (d : o.data = .seq its n) (z : its.size ≤ sizeLine) (v : Vals vs its.toList) (r : ∀ Z, RepDs K mg Z vs ds) : Glob K mg x (.tup ds) :=
  ⟨.ref a, .ref a, PySem.W.mg_of X G e, rfl, fun Z => .tup (.inr ⟨o, its, n, l, c, d, z, v⟩) (r Z)⟩
theorem glob_int {K : PySem.W.Frag} {h : Heap} {mg : Str → Option Value} {x : Str} {i : Int} {t : Nat} (X : K.In h) (G : h.Ns mainGlobals mg) (e : PySem.W.nsIn K mainGlobals x = some (some (.int i t))) : Glob K mg x (.int i) :=
  ⟨.int i, .int i t, PySem.W.mg_of X G e, ⟨t, rfl⟩, fun Z => .int i⟩

/-- the law's own head: it is given the script, and it returns True -/
def spScript (K : PySem.W.Frag) (n : Nat) : Sp := fun vs H Q _ => ∃ (a : Addr) (ns : List Int), vs = [.ref a] ∧ ns.length ≤ n ∧ (∀ z ∈ ns, Builtin.Int.intBits z ≤ 1048576) ∧ SqL K H a (ns.map V.int) ∧ ∀ v H', v = .bl true → Q v H'
theorem repDs_ints {K : PySem.W.Frag} {mg : Str → Option Value} {Z : Hp} : ∀ ns : List Int, RepDs K mg Z (ns.map V.int) (ns.map D.int)
  | [] => .nil
  | _ :: ns => .cons (.int _) (repDs_ints ns)
def script (ns : List Int) : A := .v (.fz (ns.map .int))
theorem law_sp {K : PySem.W.Frag} {mg : Str → Option Value} {F : Fn} {n : Nat} (h : ∀ ns : List Int, ns.length ≤ n → (∀ z ∈ ns, Builtin.Int.intBits z ≤ 1048576) → ∃ l, F [script ns] = .ok (.v (.bl true)) l) (vs : List V) (H : Hp) (Q : VK) (E : XK) (p : spScript K n vs H Q E) :
    spD K mg F vs H Q fun _ _ _ => False := by
  obtain ⟨a, ns, rfl, hl, hb, hS, q⟩ := p
  obtain ⟨l, e⟩ := h ns hl hb
  refine ⟨H, [script ns], [[]], Same.refl H, .cons (.v (.fz hS (repDs_ints ns))) .nil, fun y => by simp, fun a ha => by simp at ha, ?_⟩
  rw [e]
  intro Z' H' v fr fs' _ r _ _ _ _ _
  cases r with
  | v r => cases r; exact q _ _ rfl
theorem law_end {l : PySem.W.OpenLaw} {w : World} {K : PySem.W.Frag} {mg : Str → Option Value} {fa f : Addr} {fd : FuncData} {x y : Str} {st : Stmt} {k n : Nat} {F : Fn} (hfa : mg x = some (.ref fa)) (d : Def K mg x st [y] f fd)
    (hF : ∀ base : Heap, FnOk l.prog w K mg base CX0 k f fd [y] (fun vs H Q _ => spD K mg F vs H Q fun _ _ _ => False))
    (h : ∀ ns : List Int, ns.length ≤ n → (∀ z ∈ ns, Builtin.Int.intBits z ≤ 1048576) → ∃ l, F [script ns] = .ok (.v (.bl true)) l) :
    ∃ fd : FuncData, (∀ (s : Shared) (v : Value), BindsTo s fd ⟨[v], []⟩ [(y, v)]) ∧ ∀ base : Heap, K.In base → base.Ns mainGlobals mg → FnOk l.prog w K mg base CX0 k fa fd [y] (spScript K n) := by
  have e := hfa.symm.trans d.m
  cases e
  exact ⟨fd, fun s v => .of_eq (d.b [v] rfl), fun base _ _ => (hF base).imp fun vs H Q E p => law_sp h vs H Q E p⟩
end DD

namespace DD
open PySem PySem.Spec L2
open PyProof.Rows hiding St

@[irreducible] def Wp {α : Type} (r : R α) (Q : α → DEnv → Prop) (E : Ex → DEnv → Prop) : Prop := r.sat Q E
def Wo {α : Type} (o : Option α) (P : α → Prop) : Prop := ∃ a, o = some a ∧ P a
def Wb (a : A) (P : Bool → Prop) : Prop := ∃ k, a = .v (.bl k) ∧ P k
def Wk (k : Bool) (P Q : Prop) : Prop := (k = true → P) ∧ (k = false → Q)
def Wf (fl : Flow) (N O : Prop) : Prop := match fl with
  | .nx => N
  | _ => O
def Wlp (fl : Flow) (C B T : Prop) : Prop := match fl with
  | .nx => C
  | .ct => C
  | .bk => B
  | .ret _ => T
def Wr (fl : Flow) (P : A → Prop) : Prop := match fl with
  | .nx => P (.v .non)
  | .ret a => P a
  | _ => False
def FR.sat (r : FR) (Q : A → List A → Prop) (E : Ex → List A → Prop) : Prop := match r with
  | .ok a l => Q a l
  | .exc e l => E e l
  | .bad => False
@[irreducible] def Wc (r : FR) (Q : A → List A → Prop) (E : Ex → List A → Prop) : Prop := r.sat Q E
def Wix (o : Option (Option A)) (a : A) (P : D → Prop) : Prop := ∃ l n d, o = some (some (.m l)) ∧ a = .v (.int n) ∧ atI l n = some (.v d) ∧ P d
def Wap (o : Option (Option A)) (P : List A → Prop) : Prop := ∃ l, o = some (some (.m l)) ∧ l.length < sizeLine ∧ P l
def Wxt (o : Option (Option A)) (a : A) (P : List A → Prop) : Prop := ∃ l ds, o = some (some (.m l)) ∧ a.frz = .lst ds ∧ l.length + ds.length ≤ sizeLine ∧ P (l ++ ds.map .v)
def Wmm (o : Option (Option A)) (P : Prop) : Prop := ∃ l, o = some (some (.m l)) ∧ P
def Wst (o : Option (Option A)) (a : A) (c : A) (P : List A → Prop) : Prop := ∃ l n k, o = some (some (.m l)) ∧ c = .v (.int n) ∧ ixN l.length n = some k ∧ P (l.set k a)
def Win (a : A) (P : Int → Prop) : Prop := ∃ n, a = .v (.int n) ∧ P n
theorem win {n : Int} {P : Int → Prop} (h : P n) : Win (.v (.int n)) P := ⟨n, rfl, h⟩
theorem wix {o : Option (Option A)} {l : List A} {n : Int} {d : D} {P : D → Prop} (e : o = some (some (.m l))) (e2 : atI l n = some (.v d)) (h : P d) : Wix o (.v (.int n)) P := ⟨l, n, d, e, rfl, e2, h⟩
theorem wap {o : Option (Option A)} {l : List A} {P : List A → Prop} (e : o = some (some (.m l))) (z : l.length < sizeLine) (h : P l) : Wap o P := ⟨l, e, z, h⟩
theorem wxt {o : Option (Option A)} {a : A} {l : List A} {ds : List D} {P : List A → Prop} (e : o = some (some (.m l))) (e2 : a.frz = .lst ds) (z : l.length + ds.length ≤ sizeLine) (h : P (l ++ ds.map .v)) : Wxt o a P := ⟨l, ds, e, e2, z, h⟩
theorem wmm {o : Option (Option A)} {l : List A} {P : Prop} (e : o = some (some (.m l))) (h : P) : Wmm o P := ⟨l, e, h⟩
theorem wst {o : Option (Option A)} {a : A} {n : Int} {k : Nat} {l : List A} {P : List A → Prop} (e : o = some (some (.m l))) (z : ixN l.length n = some k) (h : P (l.set k a)) : Wst o a (.v (.int n)) P := ⟨l, n, k, e, rfl, z, h⟩
theorem Wp.mk {α : Type} {r : R α} {Q : α → DEnv → Prop} {E : Ex → DEnv → Prop} (h : r.sat Q E) : Wp r Q E := by unfold Wp; exact h
theorem Wp.out {α : Type} {r : R α} {Q : α → DEnv → Prop} {E : Ex → DEnv → Prop} (h : Wp r Q E) : r.sat Q E := by unfold Wp at h; exact h
theorem Wc.out {r : FR} {Q : A → List A → Prop} {E : Ex → List A → Prop} (h : Wc r Q E) : r.sat Q E := by unfold Wc at h; exact h
theorem Wc.ok {a : A} {l : List A} {Q : A → List A → Prop} {E : Ex → List A → Prop} (h : Q a l) : Wc (.ok a l) Q E := by unfold Wc; exact h
theorem Wc.exc {a : Ex} {l : List A} {Q : A → List A → Prop} {E : Ex → List A → Prop} (h : E a l) : Wc (.exc a l) Q E := by unfold Wc; exact h
section
variable {α β : Type} {ρ : DEnv} {E : Ex → DEnv → Prop}
theorem wp_bind {f : M α} {g : α → M β} {Q : β → DEnv → Prop} (h : Wp (f ρ) (fun a ρ1 => Wp (g a ρ1) Q E) E) : Wp ((M.bind f g) ρ) Q E := by
  unfold M.bind
  unfold Wp at *
  cases e : f ρ with
  | ok a ρ1 => rw [e] at h; exact h
  | exc x ρ1 => rw [e] at h; exact h
  | bad => rw [e] at h; exact h
theorem wp_mono {r : R α} {Q Q' : α → DEnv → Prop} {E' : Ex → DEnv → Prop} (h : Wp r Q E) (k : ∀ a ρ, Q a ρ → Q' a ρ) (x : ∀ e ρ, E e ρ → E' e ρ) : Wp r Q' E' := by with_unfolding_all exact (R.sat_mono h k x)
theorem wp_ofO {o : Option α} {Q : α → DEnv → Prop} (h : Wo o fun a => Q a ρ) : Wp (ofO o ρ) Q E := by
  with_unfolding_all
    obtain ⟨a, e, h⟩ := h
    subst e
    exact h
theorem wp_pure {a : α} {Q : α → DEnv → Prop} (h : Q a ρ) : Wp (M.pure a ρ) Q E := by with_unfolding_all exact (h)
theorem w_var {i : Nat} {d : D} {Q : A → DEnv → Prop} (e : ρ[i]? = some (some (.v d))) (h : Q (.v d) ρ) : Wp (dVar i ρ) Q E := by
  with_unfolding_all
    unfold dVar
    rw [e]
    exact h
theorem w_c {d : D} {Q : A → DEnv → Prop} (h : Q (.v d) ρ) : Wp (dC d ρ) Q E := by with_unfolding_all exact (h)
variable {f g h f1 : M A} {fs : M (List A)} {c c1 : M Bool} {F G : M Flow} {Q : A → DEnv → Prop} {QB : Bool → DEnv → Prop} {QL : List A → DEnv → Prop} {QF : Flow → DEnv → Prop} {QD : List D → DEnv → Prop} {QV : List AV → DEnv → Prop}
theorem w_op2 {op : A → A → Option A} (k : Wp (f ρ) (fun a ρ1 => Wp (g ρ1) (fun c ρ2 => Wo (op a c) fun r => Q r ρ2) E) E) : Wp (dOp2 op f g ρ) Q E := by with_unfolding_all exact (wp_bind (wp_mono k (fun _ _ k => wp_bind (wp_mono k (fun _ _ k => wp_ofO k) fun _ _ z => z)) fun _ _ z => z))
theorem w_op1 {op : A → Option A} (k : Wp (f ρ) (fun a ρ1 => Wo (op a) fun r => Q r ρ1) E) : Wp (dOp1 op f ρ) Q E := by with_unfolding_all exact (wp_bind (wp_mono k (fun _ _ k => wp_ofO k) fun _ _ z => z))
theorem w_test (k : Wp (f ρ) (fun a ρ1 => Wb a fun b => QB b ρ1) E) : Wp (dTest f ρ) QB E := by with_unfolding_all exact (wp_bind (wp_mono k (fun _ _ ⟨b, e, k⟩ => by subst e; exact k) fun _ _ z => z))
theorem wb {k : Bool} {P : Bool → Prop} (h : P k) : Wb (.v (.bl k)) P := ⟨k, rfl, h⟩
theorem w_nil (k : QL [] ρ) : Wp (dNil ρ) QL E := by with_unfolding_all exact (k)
theorem w_cons (k : Wp (f ρ) (fun a ρ1 => Wp (fs ρ1) (fun l ρ2 => QL (a :: l) ρ2) E) E) : Wp (dCons f fs ρ) QL E := by with_unfolding_all exact (wp_bind (wp_mono k (fun _ _ k => wp_bind (wp_mono k (fun _ _ k => k) fun _ _ z => z)) fun _ _ z => z))
theorem w_tup (k : Wp (fs ρ) (fun l ρ1 => l.length ≤ sizeLine ∧ Q (.v (.tup (frzs l))) ρ1) E) : Wp (dTup fs ρ) Q E := by with_unfolding_all exact (wp_bind (wp_mono k (fun _ _ k => by rw [if_pos k.1]; exact k.2) fun _ _ z => z))
theorem w_lst (k : Wp (fs ρ) (fun l ρ1 => l.length ≤ sizeLine ∧ Q (.m l) ρ1) E) : Wp (dLst fs ρ) Q E := by with_unfolding_all exact (wp_bind (wp_mono k (fun _ _ k => by rw [if_pos k.1]; exact k.2) fun _ _ z => z))
theorem wk_ite {k : Bool} {f g : M α} {Q : α → DEnv → Prop} (h : Wk k (Wp (f ρ) Q E) (Wp (g ρ) Q E)) : Wp ((if k = true then f else g) ρ) Q E := by
  cases k with
  | true => exact h.1 rfl
  | false => exact h.2 rfl
theorem w_if (k : Wp (c ρ) (fun b ρ1 => Wk b (Wp (f ρ1) Q E) (Wp (g ρ1) Q E)) E) : Wp (dIf c f g ρ) Q E := by with_unfolding_all exact (wp_bind (wp_mono k (fun _ _ k2 => wk_ite k2) fun _ _ z => z))
theorem w_andT (k : Wp (c ρ) (fun b ρ1 => Wk b (Wp (c1 ρ1) QB E) (QB false ρ1)) E) : Wp (dAndT c c1 ρ) QB E := by with_unfolding_all exact (wp_bind (wp_mono k (fun b ρ1 k2 => wk_ite (f := c1) (g := M.pure false) k2) fun _ _ z => z))
theorem w_orT (k : Wp (c ρ) (fun b ρ1 => Wk b (QB true ρ1) (Wp (c1 ρ1) QB E)) E) : Wp (dOrT c c1 ρ) QB E := by with_unfolding_all exact (wp_bind (wp_mono k (fun b ρ1 k2 => wk_ite (f := M.pure true) (g := c1) k2) fun _ _ z => z))
theorem w_notT (k : Wp (c ρ) (fun b ρ1 => QB (!b) ρ1) E) : Wp (dNotT c ρ) QB E := by with_unfolding_all exact (wp_bind k)
theorem w_andV (k : Wp (f ρ) (fun a ρ1 => Wb a fun b => Wk b (Wp (g ρ1) Q E) (Q (.v (.bl false)) ρ1)) E) : Wp (dAndV f g ρ) Q E := by with_unfolding_all exact (wp_bind (w_test (wp_mono k (fun _ _ ⟨b, e, k2⟩ => ⟨b, e, wk_ite (f := g) (g := M.pure _) k2⟩) fun _ _ z => z)))
theorem w_orV (k : Wp (f ρ) (fun a ρ1 => Wb a fun b => Wk b (Q (.v (.bl true)) ρ1) (Wp (g ρ1) Q E)) E) : Wp (dOrV f g ρ) Q E := by with_unfolding_all exact (wp_bind (w_test (wp_mono k (fun _ _ ⟨b, e, k2⟩ => ⟨b, e, wk_ite (f := M.pure _) (g := g) k2⟩) fun _ _ z => z)))
theorem w_notV (k : Wp (f ρ) (fun a ρ1 => Wb a fun b => Q (.v (.bl (!b))) ρ1) E) : Wp (dNotV f ρ) Q E := by with_unfolding_all exact (wp_bind (w_test (wp_mono k (fun _ _ k => k) fun _ _ z => z)))
theorem wk_t {P Q : Prop} (h : P) : Wk true P Q := ⟨fun _ => h, fun e => nomatch e⟩
theorem wk_f {P Q : Prop} (h : Q) : Wk false P Q := ⟨fun e => (nomatch e), fun _ => h⟩
theorem wk_d {p : Prop} [Decidable p] {P Q : Prop} (h : p → P) (g : ¬p → Q) : Wk (decide p) P Q := ⟨fun e => h (of_decide_eq_true e), fun e => g (of_decide_eq_false e)⟩
theorem wk_n {k : Bool} {P Q : Prop} (h : Wk k Q P) : Wk (!k) P Q := by
  cases k with
  | true => exact ⟨fun e => (nomatch e), fun _ => h.1 rfl⟩
  | false => exact ⟨fun _ => h.2 rfl, fun e => nomatch e⟩
theorem wk_b {k : Bool} {P Q : Prop} (h : k = true → P) (g : k = false → Q) : Wk k P Q := ⟨h, g⟩
theorem w_set {own : Bool} {i : Nat} (k : Wp (f ρ) (fun a ρ1 => i < ρ1.length ∧ QF .nx (ρ1.set i (some (frzB own a)))) E) : Wp (dSet own i f ρ) QF E := by with_unfolding_all exact (wp_bind (wp_mono k (fun _ _ k => by rw [if_pos k.1]; exact k.2) fun _ _ z => z))
theorem w_expr (k : Wp (f ρ) (fun _ ρ1 => QF .nx ρ1) E) : Wp (dExpr f ρ) QF E := by with_unfolding_all exact (wp_bind k)
theorem w_ret (k : Wp (f ρ) (fun a ρ1 => QF (.ret a) ρ1) E) : Wp (dRet f ρ) QF E := by with_unfolding_all exact (wp_bind k)
theorem w_retN (k : QF (.ret (.v .non)) ρ) : Wp (dRetN ρ) QF E := by with_unfolding_all exact (k)
theorem w_skip (k : QF .nx ρ) : Wp (dSkip ρ) QF E := by with_unfolding_all exact (k)
theorem w_break (k : QF .bk ρ) : Wp (dBreak ρ) QF E := by with_unfolding_all exact (k)
theorem w_cont (k : QF .ct ρ) : Wp (dCont ρ) QF E := by with_unfolding_all exact (k)
theorem w_seq (k : Wp (F ρ) (fun fl ρ1 => Wf fl (Wp (G ρ1) QF E) (QF fl ρ1)) E) : Wp (dSeq F G ρ) QF E := by with_unfolding_all exact (wp_bind (wp_mono k (fun fl _ k => by cases fl <;> exact k) fun _ _ z => z))
theorem wf_nx {N O : Prop} (h : N) : Wf .nx N O := h
theorem wf_ret {a : A} {N O : Prop} (h : O) : Wf (.ret a) N O := h
theorem wf_bk {N O : Prop} (h : O) : Wf .bk N O := h
theorem wf_ct {N O : Prop} (h : O) : Wf .ct N O := h
theorem wl_nx {C B T : Prop} (h : C) : Wlp .nx C B T := h
theorem wl_ct {C B T : Prop} (h : C) : Wlp .ct C B T := h
theorem wl_bk {C B T : Prop} (h : B) : Wlp .bk C B T := h
theorem wl_ret {a : A} {C B T : Prop} (h : T) : Wlp (.ret a) C B T := h
theorem wr_nx {P : A → Prop} (h : P (.v .non)) : Wr .nx P := h
theorem wr_ret {a : A} {P : A → Prop} (h : P a) : Wr (.ret a) P := h
theorem w_ifS (k : Wp (c ρ) (fun b ρ1 => Wk b (Wp (F ρ1) QF E) (Wp (G ρ1) QF E)) E) : Wp (dIfS c F G ρ) QF E := by with_unfolding_all exact (wp_bind (wp_mono k (fun _ _ k => wk_ite k) fun _ _ z => z))
theorem w_move {i : Nat} {a : A} (e : ρ[i]? = some (some a)) (h : Q a (ρ.set i none)) : Wp (dMove i ρ) Q E := by
  with_unfolding_all
    unfold dMove
    rw [e]
    exact h
theorem w_frz {i : Nat} {a : A} {F : M α} {Q : α → DEnv → Prop} (e : ρ[i]? = some (some a)) (k : Wp (F (ρ.set i (some (.v a.frz)))) Q E) : Wp (dFrz i F ρ) Q E := by
  with_unfolding_all
    unfold dFrz frzSlot
    rw [e]
    exact k
theorem w_for {src : M (List D)} {gg : D → M Unit} (k : Wp (src ρ) (fun ds ρ1 => Wp (forL gg F ds ρ1) QF E) E) : Wp (dFor src gg F ρ) QF E := by with_unfolding_all exact (wp_bind k)
theorem w_forL {gg : D → M Unit} (I : List D → DEnv → Prop) : ∀ {ds : List D} {ρ : DEnv}, I ds ρ →
    (∀ d ds ρ, I (d :: ds) ρ → Wp (gg d ρ) (fun _ ρ1 => Wp (F ρ1) (fun fl ρ2 => Wlp fl (I ds ρ2) (QF .nx ρ2) (QF fl ρ2)) E) E) → (∀ ρ, I [] ρ → QF .nx ρ) → Wp (forL gg F ds ρ) QF E
  | [], ρ, h, _, fin => by with_unfolding_all exact fin ρ h
  | d :: ds, ρ, h, step, fin => by with_unfolding_all exact wp_bind (wp_mono (step d ds ρ h) (fun _ _ k => wp_bind (wp_mono k (fun fl ρ2 k => by
      cases fl with
      | nx => exact w_forL I k step fin
      | ct => exact w_forL I k step fin
      | bk => exact k
      | ret a => exact k) fun _ _ z => z)) fun _ _ z => z)
theorem w_for_nil {gg : D → M Unit} (k : QF .nx ρ) : Wp (forL gg F [] ρ) QF E := by with_unfolding_all exact (k)
theorem w_for_cons {gg : D → M Unit} {d : D} {ds : List D} (k : Wp (gg d ρ) (fun _ ρ1 => Wp (F ρ1) (fun fl ρ2 => Wlp fl (Wp (forL gg F ds ρ2) QF E) (QF .nx ρ2) (QF fl ρ2)) E) E) : Wp (forL gg F (d :: ds) ρ) QF E := by with_unfolding_all exact (wp_bind (wp_mono k (fun _ _ k => wp_bind (wp_mono k (fun fl ρ2 k => by cases fl <;> exact k) fun _ _ z => z)) fun _ _ z => z))
theorem w_gset {i : Nat} {d : D} {Q : Unit → DEnv → Prop} (hi : i < ρ.length) (k : Q () (ρ.set i (some (.v d)))) : Wp (gSet i d ρ) Q E := by
  with_unfolding_all
    unfold gSet
    rw [if_pos hi]
    exact k
theorem w_while (I : Nat → DEnv → Prop) {n : Nat} (h : I n ρ) (step : ∀ n ρ, I n ρ → Wp (c ρ) (fun k ρ1 => Wk k (Wp (F ρ1) (fun fl ρ2 => Wlp fl (∃ m, m < n ∧ I m ρ2) (QF .nx ρ2) (QF fl ρ2)) E) (QF .nx ρ1)) E) : Wp (dWhile c F ρ) QF E := by
  with_unfolding_all
    have key : ∀ n ρ, I n ρ → Wp (whileN c F (n + 1) ρ) QF E := by
      intro n
      induction n using Nat.strongRecOn with
      | ind n ih =>
        intro ρ hi
        unfold whileN
        refine wp_bind (wp_mono (step n ρ hi) (fun k ρ1 k1 => wk_ite ⟨fun e => ?_, fun e => k1.2 e⟩) fun _ _ z => z)
        refine wp_bind (wp_mono (k1.1 e) (fun fl ρ2 k2 => ?_) fun _ _ z => z)
        have up : ∀ m, m < n → I m ρ2 → Wp (whileN c F n ρ2) QF E := fun m hm hI => by
          have h1 := ih m hm ρ2 hI
          have : ∀ j, Wp (whileN c F (m + 1 + j) ρ2) QF E := by
            intro j
            induction j with
            | zero => exact h1
            | succ j ihj => 
              have hb : whileN c F (m + 1 + j) ρ2 ≠ .bad := fun z => by rw [z] at ihj; exact ihj
              rw [← Nat.add_assoc, whileN_mono hb]
              exact ihj
          have h3 := this (n - (m + 1))
          rwa [Nat.add_sub_cancel' hm] at h3
        cases fl with
        | nx => obtain ⟨m, hm, hI⟩ := k2; exact up m hm hI
        | ct => obtain ⟨m, hm, hI⟩ := k2; exact up m hm hI
        | bk => exact k2
        | ret a => exact k2
    have k := key n ρ h
    have hb : whileN c F (n + 1) ρ ≠ .bad := fun z => by rw [z] at k; exact k
    rw [dWhile_eq hb]
    exact k
theorem w_par {o1 o2 : Bool} {i j : Nat} (k : Wp (f ρ) (fun a ρ1 => Wp (g ρ1) (fun c ρ2 => (i < ρ2.length ∧ j < ρ2.length ∧ i ≠ j) ∧ QF .nx ((ρ2.set i (some (frzB o1 a))).set j (some (frzB o2 c)))) E) E) : Wp (dPar o1 o2 i j f g ρ) QF E := by with_unfolding_all exact (wp_bind (wp_mono k (fun _ _ k => wp_bind (wp_mono k (fun _ _ k => by rw [if_pos k.1]; exact k.2) fun _ _ z => z)) fun _ _ z => z))
theorem w_asg {gg : D → M Unit} (k : Wp (f ρ) (fun a ρ1 => Wp (gg a.frz ρ1) (fun _ ρ2 => QF .nx ρ2) E) E) : Wp (dAsg f gg ρ) QF E := by with_unfolding_all exact (wp_bind (wp_mono k (fun _ _ k => wp_bind k) fun _ _ z => z))
theorem w_gtup {n : Nat} {gs : List D → M Unit} {ds : List D} {Q : Unit → DEnv → Prop} (e : ds.length = n) (k : Wp (gs ds ρ) Q E) : Wp (gTupD n gs (.tup ds) ρ) Q E := by
  with_unfolding_all
    unfold gTupD
    dsimp only
    rw [if_pos e]
    exact k
theorem w_gcons {gg : D → M Unit} {gs : List D → M Unit} {d : D} {ds : List D} {Q : Unit → DEnv → Prop} (k : Wp (gg d ρ) (fun _ ρ1 => Wp (gs ds ρ1) Q E) E) : Wp (gConsD gg gs (d :: ds) ρ) Q E := by with_unfolding_all exact (wp_bind k)
theorem w_gnil {Q : Unit → DEnv → Prop} (k : Q () ρ) : Wp (gNilD [] ρ) Q E := by with_unfolding_all exact (k)
theorem w_items (k : Wp (f ρ) (fun a ρ1 => Wo (seqD a.frz) fun ds => QD ds ρ1) E) : Wp (dItems f ρ) QD E := by with_unfolding_all exact (wp_bind (wp_mono k (fun _ _ k => wp_ofO k) fun _ _ z => z))
def rngOk (j : Int) : Prop := -(2 ^ 62) ≤ j ∧ j < 2 ^ 62
theorem w_rng1 (k : Wp (f ρ) (fun a ρ1 => Win a fun j => rngOk j ∧ QD ((List.range j.toNat).map fun i : Nat => .int i) ρ1) E) : Wp (dRng1 f ρ) QD E := by with_unfolding_all exact (wp_bind (wp_mono k (fun _ _ ⟨j, e, h, k⟩ => by subst e; exact wp_ofO ⟨_, if_pos h, k⟩) fun _ _ z => z))
theorem w_rng2 (k : Wp (f ρ) (fun a ρ1 => Wp (g ρ1) (fun c ρ2 => Win a fun i => Win c fun j => (rngOk i ∧ rngOk j) ∧ QD ((List.range (j - i).toNat).map fun n : Nat => .int (i + n)) ρ2) E) E) : Wp (dRng2 f g ρ) QD E := by with_unfolding_all exact (wp_bind (wp_mono k (fun _ _ k => wp_bind (wp_mono k (fun _ _ ⟨i, e1, j, e2, ⟨h1, h2⟩, k2⟩ => by subst e1 e2; exact wp_ofO ⟨_, if_pos ⟨h1.1, h1.2, h2.1, h2.2⟩, k2⟩) fun _ _ z => z)) fun _ _ z => z))
theorem w_blt {op : List A → Option A} (k : Wp (fs ρ) (fun l ρ1 => Wo (op l) fun r => Q r ρ1) E) : Wp (dBlt op fs ρ) Q E := by with_unfolding_all exact (wp_bind (wp_mono k (fun _ _ k => wp_ofO k) fun _ _ z => z))
theorem w_isi {T : String} (k : Wp (f ρ) (fun a ρ1 => Wo (opIs T [a]) fun r => Q r ρ1) E) : Wp (dIsi T f ρ) Q E := by with_unfolding_all exact (wp_bind (wp_mono k (fun _ _ k => wp_ofO k) fun _ _ z => z))
variable {vs : M (List AV)}
theorem w_vnil (k : QV [] ρ) : Wp (vNil ρ) QV E := by with_unfolding_all exact (k)
theorem w_vval {own : Bool} (k : Wp (f ρ) (fun a ρ1 => Wp (vs ρ1) (fun l ρ2 => QV (.val (frzB own a) :: l) ρ2) E) E) : Wp (vVal own f vs ρ) QV E := by with_unfolding_all exact (wp_bind (wp_mono k (fun _ _ k => wp_bind (wp_mono k (fun _ _ k => k) fun _ _ z => z)) fun _ _ z => z))
theorem w_vref {i : Nat} {a : A} (e : ρ[i]? = some (some a)) (k : Wp (vs ρ) (fun l ρ2 => QV (.ref i :: l) ρ2) E) : Wp (vRef i vs ρ) QV E := by
  with_unfolding_all
    unfold vRef
    rw [e]
    exact wp_bind k
theorem w_call {Fu : Fn} {ds : List D} (k : Wp (vs ρ) (fun l ρ1 => Wo (gath l ρ1) fun q => Wc (Fu (q.1 ++ ds.map .v)) (fun r l' => Q r (back l l' q.2)) (fun e l' => E e (back l l' q.2))) E) : Wp (dCall Fu vs ds ρ) Q E := by
  refine wp_bind (wp_mono k (fun l ρ1 ⟨q, e, k⟩ => ?_) fun _ _ z => z)
  rw [e]
  dsimp only
  dsimp only at k
  unfold Wc at k
  cases e2 : Fu (q.1 ++ ds.map .v) with
  | ok a l => rw [e2] at k; exact Wp.mk k
  | exc a l => rw [e2] at k; exact Wp.mk k
  | bad => rw [e2] at k; exact k.elim
theorem wc_fn {n N : Nat} {pn : List Nat} {body : M Flow} {as : List A} {QC : A → List A → Prop} {EC : Ex → List A → Prop} (h1 : as.length = n) (h2 : okArgs pn 0 as = true)
    (k : Wp (body (as.map some ++ List.replicate (N - n) none)) (fun fl ρ => Wr fl fun a => Wo (lentL pn 0 as ρ) fun l => QC a l) fun e ρ => Wo (lentL pn 0 as ρ) fun l => EC e l) : Wc (dFn n N pn body as) QC EC := by
  with_unfolding_all
    unfold dFn
    rw [if_pos ⟨h1, h2⟩]
    unfold Wp R.sat at k
    split at k <;> rename_i e2
    · rw [e2]
      rename_i fl ρ1
      dsimp only
      cases fl with
      | nx => obtain ⟨l, e, k⟩ := k; rw [e]; exact k
      | ret a => obtain ⟨l, e, k⟩ := k; rw [e]; exact k
      | bk => exact k.elim
      | ct => exact k.elim
    · rw [e2]
      obtain ⟨l, e, k⟩ := k
      dsimp only
      rw [e]
      exact k
    · exact k.elim
theorem wc_mono {r : FR} {QC QC' : A → List A → Prop} {EC EC' : Ex → List A → Prop} (h : Wc r QC EC) (k : ∀ a l, QC a l → QC' a l) (x : ∀ e l, EC e l → EC' e l) : Wc r QC' EC' := by
  cases r with
  | ok a l => exact Wc.ok (k _ _ h.out)
  | exc e l => exact Wc.exc (x _ _ h.out)
  | bad => exact h.out.elim
theorem wc_eq {r : FR} {a : A} {l : List A} {QC : A → List A → Prop} {EC : Ex → List A → Prop} (e : r = .ok a l) (k : QC a l) : Wc r QC EC := by rw [e]; exact Wc.ok k
theorem ex_wc {r : FR} {QC : A → List A → Prop} (h : Wc r QC fun _ _ => False) : ∃ a l, r = .ok a l ∧ QC a l := by
  cases r with
  | ok b k => exact ⟨b, k, rfl, h.out⟩
  | exc e l => exact h.out.elim
  | bad => exact h.out.elim
theorem w_no {Q : Option Int → DEnv → Prop} (k : Q none ρ) : Wp (pNo ρ) Q E := by with_unfolding_all exact (k)
theorem w_so {Q : Option Int → DEnv → Prop} (k : Wp (f ρ) (fun a ρ1 => Win a fun i => Q (some i) ρ1) E) : Wp (pSo f ρ) Q E := by with_unfolding_all exact (wp_bind (wp_mono k (fun _ _ ⟨i, e, k⟩ => by subst e; exact k) fun _ _ z => z))
theorem w_sl {lo hi : M (Option Int)} (k : Wp (f ρ) (fun a ρ1 => Wp (lo ρ1) (fun l ρ2 => Wp (hi ρ2) (fun h ρ3 => Wo (opSl a l h) fun r => Q r ρ3) E) E) E) : Wp (dSl f lo hi ρ) Q E := by with_unfolding_all exact (wp_bind (wp_mono k (fun _ _ k => wp_bind (wp_mono k (fun _ _ k => wp_bind (wp_mono k (fun _ _ k => wp_ofO k) fun _ _ z => z)) fun _ _ z => z)) fun _ _ z => z))
theorem w_rev (k : Wp (f ρ) (fun a ρ1 => Wo (lstD a.frz) fun ds => Q (.m (ds.reverse.map .v)) ρ1) E) : Wp (dRev f ρ) Q E := by with_unfolding_all exact (wp_bind (wp_mono k (fun _ _ ⟨ds, e, k⟩ => by rw [e]; exact k) fun _ _ z => z))
theorem w_append {i : Nat} {o : Bool} {l0 : List A} (e0 : ρ[i]? = some (some (.m l0))) (k : Wp (f ρ) (fun a ρ1 => Wap ρ1[i]? fun l => Q (.v .non) (ρ1.set i (some (.m (l ++ [frzB o a]))))) E) : Wp (dAppend i o f ρ) Q E := by
  with_unfolding_all
    unfold dAppend
    rw [e0]
    exact wp_bind (wp_mono k (fun _ _ ⟨l, e, h, k⟩ => by rw [e]; dsimp only; rw [if_pos h]; exact k) fun _ _ z => z)
theorem w_extend {i : Nat} {l0 : List A} (e0 : ρ[i]? = some (some (.m l0))) (k : Wp (f ρ) (fun a ρ1 => Wxt ρ1[i]? a fun l => Q (.v .non) (ρ1.set i (some (.m l)))) E) : Wp (dExtend i f ρ) Q E := by
  with_unfolding_all
    unfold dExtend
    rw [e0]
    exact wp_bind (wp_mono k (fun _ _ ⟨l, ds, e, e2, h, k⟩ => by rw [e, e2]; dsimp only; rw [if_pos h]; exact k) fun _ _ z => z)
theorem w_setitem {i : Nat} {o : Bool} (k : Wp (f ρ) (fun a ρ1 => Wmm ρ1[i]? (Wp (g ρ1) (fun c ρ2 => Wst ρ2[i]? (frzB o a) c fun l => QF .nx (ρ2.set i (some (.m l)))) E)) E) : Wp (dSetItem i o f g ρ) QF E := by
  with_unfolding_all
    refine wp_bind (wp_mono k (fun _ _ ⟨l0, e0, k⟩ => ?_) fun _ _ z => z)
    rw [e0]
    exact wp_bind (wp_mono k (fun _ _ ⟨l, n, j, e, e2, h, k⟩ => by subst e2; rw [e]; dsimp only; rw [h]; exact k) fun _ _ z => z)
theorem w_ixOwn {i : Nat} {l0 : List A} (e0 : ρ[i]? = some (some (.m l0))) (k : Wp (f ρ) (fun a ρ1 => Wix ρ1[i]? a fun d => Q (.v d) ρ1) E) : Wp (dIxOwn i f ρ) Q E := by
  with_unfolding_all
    unfold dIxOwn
    rw [e0]
    exact wp_bind (wp_mono k (fun _ _ ⟨l, n, d, e, e2, h, k⟩ => by subst e2; rw [e]; dsimp only; rw [h]; exact k) fun _ _ z => z)
theorem w_lenOwn {i : Nat} {l : List A} (e : ρ[i]? = some (some (.m l))) (k : Q (.v (.int l.length)) ρ) : Wp (dLenOwn i ρ) Q E := by
  with_unfolding_all
    unfold dLenOwn
    rw [e]
    exact k
theorem w_wipe {ρ : DEnv} {E : Ex → DEnv → Prop} {sl : List Nat} {Q : Unit → DEnv → Prop} (h : Q () (wipeE ρ sl)) : Wp (wipeM sl ρ) Q E := Wp.mk h
theorem w_compL {sl : List Nat} {gg : D → M Unit} {p : M Bool} {elt : M A} (I : List A → List D → DEnv → Prop) : ∀ {ds : List D} {ρ : DEnv} {l : List A} {QL : List A → DEnv → Prop}, I l ds ρ →
    (∀ l d ds ρ, I l (d :: ds) ρ → Wp (gg d ρ) (fun _ ρ1 => Wp (p ρ1) (fun k ρ2 => Wk k (Wp (elt ρ2) (fun a ρ3 => I (l ++ [a]) ds (wipeE ρ3 sl)) E) (I l ds (wipeE ρ2 sl))) E) E) →
    (∀ l' ρ, I (l ++ l') [] ρ → QL l' ρ) → Wp (compL sl gg p elt ds ρ) QL E
  | [], ρ, l, QL, h, _, fin => Wp.mk (fin [] ρ (by rwa [List.append_nil]))
  | d :: ds, ρ, l, QL, h, step, fin => by
    unfold compL
    refine wp_bind (wp_mono (step l d ds ρ h) (fun _ _ k => wp_bind (wp_mono k (fun k ρ2 k1 => wk_ite ⟨fun e => ?_, fun e => ?_⟩) fun _ _ z => z)) fun _ _ z => z)
    · refine wp_bind (wp_mono (k1.1 e) (fun a ρ3 k2 => ?_) fun _ _ z => z)
      refine wp_bind (f := wipeM sl) (w_wipe ?_)
      refine wp_bind ?_
      refine wp_mono (w_compL I (QL := fun l' ρ4 => QL (a :: l') ρ4) k2 step fun l' ρ' q => fin (a :: l') ρ' (by rwa [List.append_assoc] at q)) (fun _ _ q => wp_pure q) fun _ _ z => z
    · refine wp_bind (f := wipeM sl) (w_wipe ?_)
      exact w_compL I (k1.2 e) step fin
theorem w_comp {sl : List Nat} {src : M (List D)} {gg : D → M Unit} {p : M Bool} {elt : M A} (k : Wp (src ρ) (fun ds ρ1 => ds.length ≤ sizeLine ∧ Wp (compL sl gg p elt ds (wipeE ρ1 sl)) (fun l ρ2 => Q (.m l) (putL (parkL ρ1 sl) (wipeF ρ2 sl))) fun _ _ => False) E) : Wp (dComp sl src gg p elt ρ) Q E := by
  with_unfolding_all
    refine wp_bind (wp_mono k (fun ds ρ1 ⟨h, k⟩ => ?_) fun _ _ z => z)
    rw [if_pos h]
    unfold Wp R.sat at k
    split at k <;> rename_i e2
    · rw [e2]; exact k
    · exact k.elim
    · exact k.elim
theorem w_chain {p q : Int → Int → Bool} (k : Wp (f ρ) (fun a ρ1 => Wp (g ρ1) (fun c ρ2 => Win a fun i => Win c fun j => Wk (p i j) (Wp (h ρ2) (fun d ρ3 => Win d fun m => Q (.v (.bl (q j m))) ρ3) E) (Q (.v (.bl false)) ρ2)) E) E) : Wp (dChain p q f g h ρ) Q E := by
  with_unfolding_all
    refine wp_bind (wp_mono k (fun a ρ1 k0 => wp_bind (wp_mono k0 (fun c ρ2 ⟨i, e1, j, e2, k2⟩ => ?_) fun _ _ z => z)) fun _ _ z => z)
    subst e1 e2
    refine wp_bind (wp_ofO (o := some (i, j)) ⟨_, rfl, ?_⟩)
    refine wk_ite (g := M.pure _) ⟨fun e => ?_, fun e => k2.2 e⟩
    exact wp_bind (wp_mono (k2.1 e) (fun d ρ3 ⟨m, e3, k3⟩ => by subst e3; exact k3) fun _ _ z => z)
end
section
variable {P : A → Prop} {i j : Int}
theorem wo_some {α : Type} {P : α → Prop} {a : α} (h : P a) : Wo (some a) P := ⟨a, rfl, h⟩
theorem wo_eq {α : Type} {P : α → Prop} {o : Option α} {a : α} (e : o = some a) (h : P a) : Wo o P := ⟨a, e, h⟩
theorem wo_add (h : P (.v (.int (i + j)))) : Wo (opAdd (.v (.int i)) (.v (.int j))) P := ⟨_, rfl, h⟩
theorem wo_sub (h : P (.v (.int (i - j)))) : Wo (opSub (.v (.int i)) (.v (.int j))) P := ⟨_, rfl, h⟩
theorem wo_mul (c : MulC i j) (h : P (.v (.int (i * j)))) : Wo (opMul (.v (.int i)) (.v (.int j))) P := ⟨_, if_pos c, h⟩
theorem wo_div (c : DivC i j) (h : P (.v (.int (i.fdiv j)))) : Wo (opDiv (.v (.int i)) (.v (.int j))) P := ⟨.v (.int (i.fdiv j)), by unfold opDiv ii; dsimp only; rw [if_pos c]; rfl, h⟩
theorem wo_mod (c : j ≠ 0) (h : P (.v (.int (i.fmod j)))) : Wo (opMod (.v (.int i)) (.v (.int j))) P := ⟨.v (.int (i.fmod j)), by unfold opMod ii; dsimp only; rw [if_pos c]; rfl, h⟩
theorem wo_pow (c : CPow i j) (h : P (.v (.int (i ^ j.toNat)))) : Wo (opPow (.v (.int i)) (.v (.int j))) P := ⟨.v (.int (i ^ j.toNat)), by unfold opPow ii; dsimp only; rw [if_pos c]; rfl, h⟩
theorem wo_neg (h : P (.v (.int (-i)))) : Wo (opNeg (.v (.int i))) P := ⟨_, rfl, h⟩
theorem wo_lt (h : P (.v (.bl (decide (i < j))))) : Wo (opLt (.v (.int i)) (.v (.int j))) P := ⟨_, rfl, h⟩
theorem wo_le (h : P (.v (.bl (decide (i ≤ j))))) : Wo (opLe (.v (.int i)) (.v (.int j))) P := ⟨_, rfl, h⟩
theorem wo_gt (h : P (.v (.bl (decide (j < i))))) : Wo (opGt (.v (.int i)) (.v (.int j))) P := ⟨_, rfl, h⟩
theorem wo_ge (h : P (.v (.bl (decide (j ≤ i))))) : Wo (opGe (.v (.int i)) (.v (.int j))) P := ⟨_, rfl, h⟩
theorem eqv_int : PyData.eqv (.int i) (.int j) = decide (i = j) := by
  have : PyData.eqv (.int i) (.int j) = (i == j) := by simp [PyData.eqv]
  rw [this]
  by_cases h : i = j <;> simp [h]
theorem wo_eqI (h : P (.v (.bl (decide (i = j))))) : Wo (opEq (.v (.int i)) (.v (.int j))) P := ⟨_, rfl, by
  show P (.v (.bl (PyData.eqv (.int i) (.int j)))); rw [eqv_int]; exact h⟩
theorem wo_neI (h : P (.v (.bl (!decide (i = j))))) : Wo (opNe (.v (.int i)) (.v (.int j))) P := ⟨_, rfl, by
  show P (.v (.bl (!PyData.eqv (.int i) (.int j)))); rw [eqv_int]; exact h⟩
theorem wo_notB {a b : Bool} (h : P (.v (.bl (!decide (a = b))))) : Wo (opNotB (.v (.bl a)) (.v (.bl b))) P := ⟨_, rfl, h⟩
theorem wo_isB {a b : Bool} (h : P (.v (.bl (decide (a = b))))) : Wo (opIsB (.v (.bl a)) (.v (.bl b))) P := ⟨_, rfl, h⟩
theorem wo_abs (h : P (.v (.int i.natAbs))) : Wo (opAbs [.v (.int i)]) P := ⟨_, rfl, by
  have e : (if i < 0 then -i else i) = (i.natAbs : Int) := by split <;> omega
  rw [e]; exact h⟩
theorem wo_lenT {l : List D} (h : P (.v (.int l.length))) : Wo (opLen [.v (.tup l)]) P := ⟨_, rfl, h⟩
theorem wo_lenL {l : List D} (h : P (.v (.int l.length))) : Wo (opLen [.v (.lst l)]) P := ⟨_, rfl, h⟩
theorem wo_lenF {l : List D} (h : P (.v (.int l.length))) : Wo (opLen [.v (.fz l)]) P := ⟨_, rfl, h⟩
theorem wo_lenM {l : List A} (h : P (.v (.int l.length))) : Wo (opLen [.m l]) P := ⟨_, rfl, h⟩
end
def Bd (n : Nat) (i : Int) : Prop := i.natAbs < 2 ^ n
theorem Bd.log {n : Nat} {i : Int} (h : Bd n i) : i.natAbs.log2 ≤ n := by
  by_cases z : i.natAbs = 0
  · rw [z]; exact Nat.zero_le _
  · exact Nat.le_of_lt ((Nat.log2_lt z).mpr h)
theorem Bd.mulC {n m : Nat} {i j : Int} (h : Bd n i) (g : Bd m j) (q : n + m < 134217000) : MulC i j := Nat.lt_of_le_of_lt (Nat.add_le_add h.log g.log) q
theorem Bd.mono {n m : Nat} {i : Int} (h : Bd n i) (q : n ≤ m) : Bd m i := Nat.lt_of_lt_of_le h (Nat.pow_le_pow_right (by decide) q)
theorem Bd.mul {n m : Nat} {i j : Int} (h : Bd n i) (g : Bd m j) : Bd (n + m) (i * j) := by
  unfold Bd at *
  rw [Int.natAbs_mul, Nat.pow_add]
  exact Nat.mul_lt_mul_of_lt_of_lt h g
theorem Bd.add {n : Nat} {i j : Int} (h : Bd n i) (g : Bd n j) : Bd (n + 1) (i + j) := by
  unfold Bd at *
  rw [Nat.pow_succ]
  omega
theorem Bd.sub {n : Nat} {i j : Int} (h : Bd n i) (g : Bd n j) : Bd (n + 1) (i - j) := by
  unfold Bd at *
  rw [Nat.pow_succ]
  omega
theorem Bd.neg {n : Nat} {i : Int} (h : Bd n i) : Bd n (-i) := by
  unfold Bd at *
  rwa [Int.natAbs_neg]
theorem Bd.le {n : Nat} {i j : Int} (h : Bd n i) (g : j.natAbs ≤ i.natAbs) : Bd n j := Nat.lt_of_le_of_lt g h
theorem bd64 {i : Int} (h : -18446744073709551616 < i) (g : i < 18446744073709551616) : Bd 64 i := by
  unfold Bd
  have : (2:Nat) ^ 64 = 18446744073709551616 := by decide
  omega
theorem mulc64 {i j : Int} (h1 : -18446744073709551616 < i) (h2 : i < 18446744073709551616) (h3 : -18446744073709551616 < j) (h4 : j < 18446744073709551616) : MulC i j := (bd64 h1 h2).mulC (bd64 h3 h4) (by decide)
theorem divc64 {i j : Int} (h0 : j ≠ 0) (h3 : -18446744073709551616 < j) (h4 : j < 18446744073709551616) : DivC i j := ⟨h0, .inl (Nat.lt_of_le_of_lt (bd64 h3 h4).log (by decide))⟩
theorem Bd.divC {n : Nat} {i j : Int} (h0 : j ≠ 0) (h : Bd n j) (q : n < 9000) : DivC i j := ⟨h0, .inl (Nat.lt_of_le_of_lt h.log q)⟩
theorem cpow64 {i j : Int} (h0 : 0 ≤ j) (h1 : j ≤ 1000000) (h2 : -18446744073709551616 < i) (h3 : i < 18446744073709551616) : CPow i j := ⟨h0, h1, by
  have : (2:Nat) ^ 64 = 18446744073709551616 := by decide
  omega⟩
theorem fmod_range {i j : Int} (h : 0 < j) : 0 ≤ i.fmod j ∧ i.fmod j < j := ⟨Int.fmod_nonneg_of_pos _ h, Int.fmod_lt_of_pos _ h⟩
theorem fdiv_range {i j : Int} (h0 : 0 ≤ i) (h : 0 < j) : 0 ≤ i.fdiv j ∧ i.fdiv j ≤ i := by
  rw [Int.fdiv_eq_ediv_of_nonneg _ (Int.le_of_lt h)]
  exact ⟨Int.ediv_nonneg h0 (Int.le_of_lt h), Int.ediv_le_self _ h0⟩
theorem ix_at {a : A} {ds : List D} {n : Int} {d : D} {P : A → Prop} (e : seqD a.frz = some ds) (h : atI ds n = some d) (k : P (.v d)) : Wo (opIx a (.v (.int n))) P := by
  refine ⟨.v d, ?_, k⟩
  unfold opIx
  dsimp only
  split
  · rename_i z ez; rw [ez] at e; cases e
  · rw [e]; dsimp only; rw [h]
end DD

namespace DD
open PySem PySem.Spec L2
open PyProof.Rows hiding St
section
variable {α : Type} {ρ : DEnv} {E : Ex → DEnv → Prop} {f g : M A} {vs : M (List AV)} {QF : Flow → DEnv → Prop} {QV : List AV → DEnv → Prop} {Q : A → DEnv → Prop}
theorem w_setF {i : Nat} (k : Wp (f ρ) (fun a ρ1 => i < ρ1.length ∧ QF .nx (ρ1.set i (some (.v a.frz)))) E) : Wp (dSet false i f ρ) QF E := w_set k
theorem w_setT {i : Nat} (k : Wp (f ρ) (fun a ρ1 => i < ρ1.length ∧ QF .nx (ρ1.set i (some a))) E) : Wp (dSet true i f ρ) QF E := w_set k
theorem w_parF {i j : Nat} (k : Wp (f ρ) (fun a ρ1 => Wp (g ρ1) (fun c ρ2 => (i < ρ2.length ∧ j < ρ2.length ∧ i ≠ j) ∧ QF .nx ((ρ2.set i (some (.v a.frz))).set j (some (.v c.frz)))) E) E) : Wp (dPar false false i j f g ρ) QF E := w_par k
theorem w_vvalF (k : Wp (f ρ) (fun a ρ1 => Wp (vs ρ1) (fun l ρ2 => QV (.val (.v a.frz) :: l) ρ2) E) E) : Wp (vVal false f vs ρ) QV E := w_vval k
theorem w_vvalT (k : Wp (f ρ) (fun a ρ1 => Wp (vs ρ1) (fun l ρ2 => QV (.val a :: l) ρ2) E) E) : Wp (vVal true f vs ρ) QV E := w_vval k
theorem w_appendF {i : Nat} {l0 : List A} (e0 : ρ[i]? = some (some (.m l0))) (k : Wp (f ρ) (fun a ρ1 => Wap ρ1[i]? fun l => Q (.v .non) (ρ1.set i (some (.m (l ++ [.v a.frz]))))) E) : Wp (dAppend i false f ρ) Q E := w_append e0 k
theorem w_setitemF {i : Nat} (k : Wp (f ρ) (fun a ρ1 => Wmm ρ1[i]? (Wp (g ρ1) (fun c ρ2 => Wst ρ2[i]? (.v a.frz) c fun l => QF .nx (ρ2.set i (some (.m l)))) E)) E) : Wp (dSetItem i false f g ρ) QF E := w_setitem k
theorem lt_lit {i n : Nat} (h : decide (i < n) = true) : i < n := of_decide_eq_true h
theorem sz_of {n : Nat} (h : n ≤ 1000000) : n ≤ sizeLine := Nat.le_trans h (by decide)
theorem szl_of {n : Nat} (h : n ≤ 1000000) : n < sizeLine := Nat.lt_of_le_of_lt h (by decide)
theorem sz_lit {n : Nat} (h : decide (n ≤ sizeLine) = true) : n ≤ sizeLine := of_decide_eq_true h
end
theorem ixN_nat {n : Nat} {i : Int} (h0 : 0 ≤ i) (h : i < n) : ixN n i = some i.toNat := by
  unfold ixN
  simp only [h0, h, and_self, if_true]
theorem atI_get {α : Type} {l : List α} {i : Int} (h0 : 0 ≤ i) (h : i < l.length) : atI l i = l[i.toNat]? := by
  unfold atI
  rw [ixN_nat h0 h]
  rfl
theorem w_seqJ {ρ : DEnv} {E : Ex → DEnv → Prop} {F G : M Flow} {QF : Flow → DEnv → Prop} (P : DEnv → Prop) (h : Wp (F ρ) (fun fl ρ1 => Wf fl (P ρ1) (QF fl ρ1)) E) (k : ∀ ρ1, P ρ1 → Wp (G ρ1) QF E) : Wp (dSeq F G ρ) QF E :=
  w_seq (wp_mono h (fun fl ρ1 h1 => by cases fl <;> first | exact k _ h1 | exact h1) fun _ _ z => z)
theorem atI_ex {α : Type} {l : List α} {i : Int} (h0 : 0 ≤ i) (h : i < l.length) : ∃ d ∈ l, atI l i = some d := by
  rw [atI_get h0 h]
  have hi : i.toNat < l.length := by omega
  exact ⟨l[i.toNat], List.getElem_mem hi, List.getElem?_eq_getElem hi⟩
theorem wo_ix {a : A} {ds : List D} {n : Int} {P : A → Prop} (e : seqD a.frz = some ds) (h0 : 0 ≤ n) (h : n < ds.length) (k : ∀ d ∈ ds, P (.v d)) : Wo (opIx a (.v (.int n))) P := by
  obtain ⟨d, hd, e2⟩ := atI_ex h0 h
  exact ix_at e e2 (k d hd)
theorem wo_ixI {a : A} {ds : List D} {n : Int} {P : A → Prop} (R : Int → Prop) (e : seqD a.frz = some ds) (h0 : 0 ≤ n) (h : n < ds.length) (hr : ∀ d ∈ ds, ∃ i, d = .int i ∧ R i) (k : ∀ i, R i → P (.v (.int i))) : Wo (opIx a (.v (.int n))) P :=
  wo_ix e h0 h fun d hd => by
    obtain ⟨i, rfl, h⟩ := hr d hd
    exact k i h
section
variable {ρ : DEnv} {E : Ex → DEnv → Prop} {sl : List Nat} {gg : D → M Unit} {p : M Bool} {elt : M A} {QL : List A → DEnv → Prop}
theorem w_compnil (k : QL [] ρ) : Wp (compL sl gg p elt [] ρ) QL E := wp_pure k
theorem w_compcons {d : D} {ds : List D} (k : Wp (gg d ρ) (fun _ ρ1 => Wp (p ρ1) (fun b ρ2 => Wk b (Wp (elt ρ2) (fun a ρ3 => Wp (compL sl gg p elt ds (wipeE ρ3 sl)) (fun l ρ4 => QL (a :: l) ρ4) E) E) (Wp (compL sl gg p elt ds (wipeE ρ2 sl)) QL E)) E) E) : Wp (compL sl gg p elt (d :: ds) ρ) QL E := by
  unfold compL
  refine wp_bind (wp_mono k (fun _ ρ1 k1 => wp_bind (wp_mono k1 (fun b ρ2 k2 => wk_ite ⟨fun e => ?_, fun e => ?_⟩) fun _ _ z => z)) fun _ _ z => z)
  · refine wp_bind (wp_mono (k2.1 e) (fun a ρ3 k3 => ?_) fun _ _ z => z)
    exact wp_bind (f := wipeM sl) (w_wipe (wp_bind (wp_mono k3 (fun _ _ q => wp_pure q) fun _ _ z => z)))
  · exact wp_bind (f := wipeM sl) (w_wipe (k2.2 e))
end
theorem frzs_ints {l : List A} {R : Int → Prop} (hr : ∀ a ∈ l, ∃ i, a = A.v (.int i) ∧ R i) : ∀ d ∈ frzs l, ∃ i, d = D.int i ∧ R i := by
  rw [frzs_eq]
  intro d hd
  obtain ⟨a, ha, rfl⟩ := List.mem_map.mp hd
  obtain ⟨i, rfl, h⟩ := hr a ha
  exact ⟨i, rfl, h⟩
theorem wo_ixM {l : List A} {n : Int} {P : A → Prop} (R : Int → Prop) (h0 : 0 ≤ n) (h : n < l.length) (hr : ∀ a ∈ l, ∃ i, a = A.v (.int i) ∧ R i) (k : ∀ i, R i → P (.v (.int i))) : Wo (opIx (.m l) (.v (.int n))) P :=
  wo_ixI (a := .m l) R rfl h0 (by rw [frzs_eq, List.length_map]; exact h) (frzs_ints hr) k
theorem Bd.one {n : Nat} (h : 0 < n) : Bd n 1 := Nat.one_lt_two_pow (by omega)
theorem Bd.zero {n : Nat} : Bd n 0 := Nat.two_pow_pos n
theorem bd20 {i : Int} (h : -1048576 < i) (g : i < 1048576) : Bd 20 i := by
  unfold Bd
  have : (2:Nat) ^ 20 = 1048576 := by decide
  omega
theorem sgn_bd {s : Int} (h : s = 1 ∨ s = -1) : Bd 1 s := by
  unfold Bd; rcases h with rfl | rfl <;> decide
theorem wo_ixA {l : List A} {n : Int} {P : A → Prop} (R : D → Prop) (h0 : 0 ≤ n) (h : n < l.length) (hr : ∀ a ∈ l, R a.frz) (k : ∀ d, R d → P (.v d)) : Wo (opIx (.m l) (.v (.int n))) P :=
  wo_ix (a := .m l) rfl h0 (by rw [frzs_eq, List.length_map]; exact h) fun d hd => by
    rw [frzs_eq] at hd
    obtain ⟨a, ha, rfl⟩ := List.mem_map.mp hd
    exact k _ (hr a ha)
theorem wo_str {i : Int} {P : A → Prop} (h : i.natAbs.log2 < 1920) (k : P (.v (.str (toString i)))) : Wo (opStr [.v (.int i)]) P := ⟨_, by unfold opStr; dsimp only; rw [if_pos h], k⟩
def kindOk : D → Bool
  | .ins _ _ _ => false
  | _ => true
theorem kind_of {d : D} (h : kindOk d = true) : kindD d ≠ "" := by cases d <;> simp [kindOk, kindD] at h ⊢
def iInt : D → Bool
  | .int _ => true
  | .bl _ => true
  | _ => false
def iBool : D → Bool
  | .bl _ => true
  | _ => false
def iTup : D → Bool
  | .tup _ => true
  | _ => false
def iLst : D → Bool
  | .lst _ => true
  | .fz _ => true
  | _ => false
def iStr : D → Bool
  | .str _ => true
  | _ => false
section
variable {d : D} {P : A → Prop}
theorem wo_isInt (h : kindD d ≠ "") (k : P (.v (.bl (iInt d)))) : Wo (opIs "int" [.v d]) P := by
  cases d <;> first | exact absurd rfl h | exact wo_eq rfl k
theorem wo_isBool (h : kindD d ≠ "") (k : P (.v (.bl (iBool d)))) : Wo (opIs "bool" [.v d]) P := by
  cases d <;> first | exact absurd rfl h | exact wo_eq rfl k
theorem wo_isTup (h : kindD d ≠ "") (k : P (.v (.bl (iTup d)))) : Wo (opIs "tuple" [.v d]) P := by
  cases d <;> first | exact absurd rfl h | exact wo_eq rfl k
theorem wo_isLst (h : kindD d ≠ "") (k : P (.v (.bl (iLst d)))) : Wo (opIs "list" [.v d]) P := by
  cases d <;> first | exact absurd rfl h | exact wo_eq rfl k
theorem wo_isStr (h : kindD d ≠ "") (k : P (.v (.bl (iStr d)))) : Wo (opIs "str" [.v d]) P := by
  cases d <;> first | exact absurd rfl h | exact wo_eq rfl k
end
def isI : D → Bool
  | .int _ => true
  | _ => false
theorem iBool_bl {b : Bool} : iBool (.bl b) = true := rfl
theorem iBool_int {i : Int} : iBool (.int i) = false := rfl
theorem iInt_bl {b : Bool} : iInt (.bl b) = true := rfl
theorem iInt_int {i : Int} : iInt (.int i) = true := rfl
theorem isI_int {i : Int} : isI (.int i) = true := rfl
theorem isI_bl {b : Bool} : isI (.bl b) = false := rfl
theorem iTup_tup {l : List D} : iTup (.tup l) = true := rfl
theorem iTup_lst {l : List D} : iTup (.lst l) = false := rfl
theorem iTup_int {i : Int} : iTup (.int i) = false := rfl
theorem isI_eq {d : D} (h : iInt d = true) : (!iBool d) = isI d := by cases d <;> first | rfl | cases h
theorem isI_f {d : D} (h : iInt d = false) : false = isI d := by cases d <;> first | rfl | cases h
end DD

namespace DD
open PySem PySem.Spec L2
open PyProof.Rows hiding St

def fmtA (a : A) : Option Str := match a with
  | .v (.str y) => if y.length ≤ sizeLine then some y else none
  | .v (.int i) => if i.natAbs.log2 < 1920 then some (toString i) else none
  | _ => none
def dFmt (f : M A) : M A := f.bind fun a => ofO ((fmtA a).map fun y => .v (.str y))
def dJs : List (M A) → Str → M A
  | [], acc => M.pure (.v (.str acc))
  | f :: fs, acc => f.bind fun a ρ => match a with
    | .v (.str y) => if (acc ++ y).length ≤ sizeLine then dJs fs (acc ++ y) ρ else .bad
    | _ => .bad
section
variable {X : Cx} {C : SC} {e : Expr} {f : M A} {pos : Pos}
theorem de_fmt (he : PE X e (tE C f)) : PE X (.FormattedValue e (-1) none pos) (tE C (dFmt f)) := by
  refine PE.w (pe_fmt he) fun σ H Q k => ?_
  refine (Go.bindE k).mono fun x H1 ⟨a, k1⟩ => ?_
  obtain ⟨res, e1, b, Z, ρ, vs, as, hb, _, S, k2⟩ := go_ofO k1
  unfold fmtA at e1
  split at e1
  · split at e1
    · rename_i y hz
      cases e1
      have t := Sta.top (vs := vs) (as := as) S
      cases t
      exact .inl ⟨_, rfl, hz, k2 _ _ _ ((Sta.pop (vs := vs) (as := as) S).push (.str _))⟩
    · cases e1
  · split at e1
    · rename_i i hz
      cases e1
      have t := Sta.top (vs := vs) (as := as) S
      cases t
      exact .inr ⟨_, rfl, hz, k2 _ _ _ ((Sta.pop (vs := vs) (as := as) S).push (.str _))⟩
    · cases e1
  · cases e1
inductive PJD (X : Cx) (C : SC) : List Expr → List (M A) → Prop where
  | nil : PJD X C [] []
  | cons {e : Expr} {f : M A} {es : List Expr} {fs : List (M A)} (h : PE X e (tE C f)) (r : PJD X C es fs) : PJD X C (e :: es) (f :: fs)
theorem PJD.pj {es : List Expr} {fs : List (M A)} (h : PJD X C es fs) : PJ X es (fs.map (tE C)) := by
  induction h with
  | nil => exact .nil
  | cons h r ih => exact .cons h ih
theorem go_js {σ : St} {Q : VK} : ∀ {fs : List (M A)} {acc : Str} {H : Hp}, Go C (finE C σ Q) [] [] (dJs fs acc) σ H → tJs (fs.map (tE C)) acc σ H fun out H1 => Q (.str out) H1
  | [], acc, H, k => by
    obtain ⟨b, Z, ρ, vs, as, hb, S, k⟩ := go_mpure k
    exact k _ _ _ (S.push (.str _))
  | f :: fs, acc, H, k => by
    show tE C f σ H _
    refine (Go.bindE k).mono fun x H1 ⟨a, b, Z, ρ, vs, as, hb, _, S, k1⟩ => ?_
    dsimp only at k1
    split at k1
    · rename_i y
      split at k1
      · rename_i hz
        have t := Sta.top (vs := vs) (as := as) S
        cases t
        exact ⟨_, rfl, hz, go_js ⟨b, Z, ρ, vs, as, hb, rfl, Sta.pop (vs := vs) (as := as) S, k1⟩⟩
      · exact k1.elim
    · exact k1.elim
theorem de_joined {v1 v2 : Expr} {rest : List Expr} {fs : List (M A)} (h : PJD X C (v1 :: v2 :: rest) fs) : PE X (.JoinedStr (v1 :: v2 :: rest) pos) (tE C (dJs fs Str.empty)) :=
  PE.w (pe_joined h.pj) fun σ H Q k => go_js k
end

def strsD : List D → Option (List Str)
  | [] => some []
  | .str y :: l => (strsD l).map (y :: ·)
  | _ => none
theorem strsD_rep {K : PySem.W.Frag} {mg : Str → Option Value} {Z : Hp} : ∀ {xs : List V} {ds : List D} {ys : List Str}, RepDs K mg Z xs ds → strsD ds = some ys → xs = ys.map V.str
  | _, [], ys, h, e => by cases h; cases e; rfl
  | _, d :: ds, ys, h, e => by
    cases h with
    | @cons x xs _ _ h1 h2 =>
      cases h1 with
      | str y =>
        unfold strsD at e
        cases e2 : strsD ds with
        | none => rw [e2] at e; cases e
        | some zs =>
          rw [e2] at e
          cases e
          rw [strsD_rep h2 e2]
          rfl
      | _ => cases e
def opJoin (s : Str) (a : A) : Option A := match (seqD a.frz).bind strsD with
  | some ys => if (ys.map (·.length)).sum + ys.length * s.length ≤ 16777216 then some (.v (.str (Txt.join s ys))) else none
  | none => none
def dJoin (s : Str) (f : M A) : M A := f.bind fun a => ofO (opJoin s a)
section
variable {X : Cx} {C : SC} {e : Expr} {f : M A} {pos apos p0 : Pos} {s : Str} {j : Option Str}
theorem de_join {j} (hK : X.K = C.K) (he : PE X e (tE C f)) (hs : starEach [e] X.env = [(false, eval e X.env)] := by rfl) (hbase : attributeBase (.Constant (.str s) j p0) "join" X.env (eval (.Constant (.str s) j p0) X.env) = eval (.Constant (.str s) j p0) X.env := by rfl) (hline : (apos.endLine == pos.line) = true := by rfl) :
    PE X (.Call (.Attribute (.Constant (.str s) j p0) "join" apos) [e] [] pos) (tE C (dJoin s f)) := by
  refine PE.w (pe_join pe_str he hs hbase hline) fun σ H Q k => ?_
  refine ⟨⟨_, rfl⟩, (Go.bindE k).mono fun x H1 ⟨a, k1⟩ => ?_⟩
  obtain ⟨res, e1, b, Z, ρ, vs, as, hb, _, S, k2⟩ := go_ofO k1
  rw [hK]
  obtain ⟨Z', _, S'⟩ := Sta.freeze (vs := vs) (as := as) S
  unfold opJoin at e1
  split at e1
  · rename_i ys hy
    split at e1
    · rename_i hz
      cases e1
      cases hd : seqD a.frz with
      | none => rw [hd] at hy; cases hy
      | some ds =>
        rw [hd] at hy
        obtain ⟨p, xs, rfl, hs, r⟩ := (Sta.top S').seq S'.zh hd
        have ex := strsD_rep r hy
        subst ex
        exact ⟨s, p, ys, rfl, rfl, hs, hz, k2 _ _ _ ((Sta.pop S').push (.str _))⟩
    · cases e1
  · cases e1
end

def tupD : D → Option (List D)
  | .tup l => some l
  | _ => none
def zipD (l k : List D) : List D := (l.zip k).map fun q => .tup [q.1, q.2]
def zipO (a c : A) : Option (List D) := match lstD a.frz, lstD c.frz with
  | some l, some k => some (zipD l k)
  | _, _ => match tupD a.frz, tupD c.frz with
    | some l, some k => some (zipD l k)
    | _, _ => none
def dZip (f g : M A) : M (List D) := f.bind fun a => g.bind fun c => ofO (zipO a c)
def enumD (l : List D) : List D := l.zipIdx.map fun q => .tup [.int (q.2 : Nat), q.1]
def dEnum (f : M A) : M (List D) := f.bind fun a => ofO ((lstD a.frz).map enumD)
section
variable {C : SC} {X : Cx} {e e2 : Expr} {f g : M A} {pos p tpos : Pos} {elts : List Expr} {kk : Nat}
theorem zipD_get {l k : List D} {i : Nat} {d : D} (h : (zipD l k)[i]? = some d) : ∃ x y, l[i]? = some x ∧ k[i]? = some y ∧ d = .tup [x, y] := by
  unfold zipD at h
  rw [List.getElem?_map] at h
  cases e : (l.zip k)[i]? with
  | none => rw [e] at h; cases h
  | some q =>
    rw [e] at h
    cases h
    rw [List.getElem?_zip_eq_some] at e
    exact ⟨_, _, e.1, e.2, rfl⟩
theorem zipD_len {l k : List D} : (zipD l k).length = min l.length k.length := by
  unfold zipD
  rw [List.length_map, List.length_zip]
theorem isIt_zip {a c : Addr} {d d2 : D} {l k : List D} (hd : lstD d = some l) (hd2 : lstD d2 = some k) : IsIt C (Itz C.K a c) [.ref c, .ref a] [.v d2, .v d] (zipD l k) := by
  intro b Z H σ ρ vs as S
  obtain ⟨q, xs, e, hs, r⟩ := (Sta.top2 S).lsq S.zh hd
  cases e
  obtain ⟨q2, ys, e, hs2, r2⟩ := (Sta.top S).lsq S.zh hd2
  cases e
  refine ⟨fun i d hi => ?_, xs, ys, hs, hs2, ?_⟩
  · obtain ⟨u, w, hu, hw, rfl⟩ := zipD_get hi
    obtain ⟨x, hx, rx⟩ := r.get hu
    obtain ⟨y, hy, ry⟩ := r2.get hw
    refine ⟨⟨xs, ys, x, y, hs, hs2, hx, hy⟩, fun z H' ⟨T, x', y', e1, hT, e2, f1, f2⟩ => ?_⟩
    subst e1 e2
    have q1 := f1 xs hs
    have q2 := f2 ys hs2
    rw [hx] at q1
    rw [hy] at q2
    cases q1
    cases q2
    exact ⟨_, S.newF (o := .tup [x, y]) hT (.tup (SqT.of upd_same) (RepDs.mono (same_upd (S.zh.free hT)) _ _ (.cons rx (.cons ry .nil))))⟩
  · rw [zipD_len, r.length, r2.length]
    omega
theorem isIt_zipT {a c : Addr} {l k : List D} : IsIt C (RZ.ItzT C.K a c) [.ref c, .ref a] [.v (.tup k), .v (.tup l)] (zipD l k) := by
  intro b Z H σ ρ vs as S
  have t := Sta.top2 S
  have t2 := Sta.top S
  cases t with
  | @tup _ xs _ h1 r =>
    cases t2 with
    | @tup _ ys _ h2 r2 =>
      have hs := sameT S.zh h1
      have hs2 := sameT S.zh h2
      refine ⟨fun i d hi => ?_, xs, ys, hs, hs2, ?_⟩
      · obtain ⟨u, w, hu, hw, rfl⟩ := zipD_get hi
        obtain ⟨x, hx, rx⟩ := r.get hu
        obtain ⟨y, hy, ry⟩ := r2.get hw
        refine ⟨⟨xs, ys, x, y, hs, hs2, hx, hy⟩, fun z H' ⟨T, x', y', e1, hT, e2, f1, f2⟩ => ?_⟩
        subst e1 e2
        have q1 := f1 xs hs
        have q2 := f2 ys hs2
        rw [hx] at q1
        rw [hy] at q2
        cases q1
        cases q2
        exact ⟨_, S.newF (o := .tup [x, y]) hT (.tup (SqT.of upd_same) (RepDs.mono (same_upd (S.zh.free hT)) _ _ (.cons rx (.cons ry .nil))))⟩
      · rw [zipD_len, r.length, r2.length]
        omega
theorem di_zip (hK : X.K = C.K) (hg : Gl X "zip") (hm : X.mg "zip" = none) (ha : PE X e (tE C f)) (hb : PE X e2 (tE C g)) (hs : starEach [e, e2] X.env = (false, eval e X.env) :: starEach [e2] X.env := by rfl) (hpl : (backTo pos (starEach [e2] X.env)).any (·.1) = false := by rfl)
    (ht2 : starEach (e2 :: []) X.env = (false, eval e2 X.env) :: starEach [] X.env := by rfl) : PI X (.Tuple elts kk tpos) (.Call (.Name "zip" p) [e, e2] [] pos) (tI C (dZip f g)) := by
  refine PI.w (RZ.pi_zipA hg hm (pa_cons ha (pa_cons hb pa_nil ht2) hs) hs hpl) fun σ H R k => ?_
  refine (Go.bindE k).mono fun x H1 ⟨a, k1⟩ => (Go.bindE k1).mono fun y H2 ⟨c, k2⟩ => ?_
  obtain ⟨ds, e1, b, Z, ρ, vs, as, hb, _, S, k3⟩ := go_ofO k2
  rw [hK]
  obtain ⟨Z', S'⟩ := Sta.freeze2 (vs := vs) (as := as) S
  have t := Sta.top2 S'
  have t2 := Sta.top S'
  unfold zipO at e1
  split at e1
  · rename_i l k h1 h2
    cases e1
    obtain ⟨q, xs, rfl, hs, r⟩ := t.lsq S'.zh h1
    obtain ⟨q2, ys, rfl, hs2, r2⟩ := t2.lsq S'.zh h2
    exact ⟨q, q2, xs, ys, rfl, .inl ⟨hs, hs2, k3 _ _ [.ref q2, .ref q] [.v _, .v _] _ rfl S' (isIt_zip h1 h2)⟩⟩
  · split at e1
    · rename_i l k h1 h2
      cases e1
      generalize a.frz = d at h1 t S'
      generalize c.frz = d2 at h2 t2 S'
      cases t with
      | @tup q xs l' h3 r =>
        cases h1
        cases t2 with
        | @tup q2 ys k' h4 r2 =>
          cases h2
          exact ⟨q, q2, xs, ys, rfl, .inr ⟨sameT S'.zh h3, sameT S'.zh h4, k3 _ _ [.ref q2, .ref q] [.v (.tup _), .v (.tup _)] _ rfl S' isIt_zipT⟩⟩
        | _ => cases h2
      | _ => cases h1
    · cases e1
theorem enumD_get {l : List D} {i : Nat} {d : D} (h : (enumD l)[i]? = some d) : ∃ x, l[i]? = some x ∧ d = .tup [.int (i : Nat), x] := by
  unfold enumD at h
  rw [List.getElem?_map, List.getElem?_zipIdx] at h
  cases e : l[i]? with
  | none => rw [e] at h; cases h
  | some q =>
    rw [e] at h
    refine ⟨q, rfl, ?_⟩
    have h : some (D.tup [.int ((0 + i : Nat) : Int), q]) = some d := h
    rw [Nat.zero_add] at h
    cases h
    rfl
theorem isIt_enum {a : Addr} {d : D} {l : List D} (hd : lstD d = some l) : IsIt C (Ite C.K a) [.ref a] [.v d] (enumD l) := by
  intro b Z H σ ρ vs as S
  obtain ⟨q, xs, e, hs, r⟩ := (Sta.top S).lsq S.zh hd
  cases e
  refine ⟨fun i d hi => ?_, xs, hs, ?_⟩
  · obtain ⟨u, hu, rfl⟩ := enumD_get hi
    obtain ⟨x, hx, rx⟩ := r.get hu
    refine ⟨⟨xs, x, hs, hx⟩, fun z H' ⟨T, x', e1, hT, e2, f1⟩ => ?_⟩
    subst e1 e2
    have q1 := f1 xs hs
    rw [hx] at q1
    cases q1
    exact ⟨_, S.newF (o := .tup [.int (i : Nat), x]) hT (.tup (SqT.of upd_same) (RepDs.mono (same_upd (S.zh.free hT)) _ _ (.cons (.int _) (.cons rx .nil))))⟩
  · unfold enumD
    rw [List.length_map, List.length_zipIdx, r.length]
    exact Nat.le_refl _
theorem di_enum (hK : X.K = C.K) (hg : Gl X "enumerate") (hm : X.mg "enumerate" = none) (ha : PE X e (tE C f)) (hs : starEach [e] X.env = [(false, eval e X.env)] := by rfl) (hs' : starEach (e :: []) X.env = (false, eval e X.env) :: starEach [] X.env := by rfl) :
    PI X (.Tuple elts kk tpos) (.Call (.Name "enumerate" p) [e] [] pos) (tI C (dEnum f)) := by
  refine PI.w (pi_enum hg hm (pa_cons ha pa_nil hs') hs) fun σ H R k => ?_
  refine (Go.bindE k).mono fun x H1 ⟨a, k1⟩ => ?_
  obtain ⟨ds, e1, b, Z, ρ, vs, as, hb, _, S, k3⟩ := go_ofO k1
  rw [hK]
  obtain ⟨Z', _, S'⟩ := Sta.freeze (vs := vs) (as := as) S
  cases h1 : lstD a.frz with
  | none => rw [h1] at e1; cases e1
  | some l =>
    rw [h1] at e1
    cases e1
    obtain ⟨q, xs, rfl, hs, r⟩ := (Sta.top S').lsq S'.zh h1
    exact ⟨q, xs, rfl, hs, k3 _ _ [.ref q] [.v _] _ rfl S' (isIt_enum h1)⟩
end

def ipC (cd : Int → Int → Prop) (g : Int → Int → Int) : TIp := fun x y H Q => ∃ i j, x = .int i ∧ y = .int j ∧ cd i j ∧ Q (.int (g i j)) H
theorem ip_mulC {X : Cx} : PIp X .Mult (ipC MulC fun i j => i * j) := by
  intro pins s σ H x y v u Q I r1 r2 h
  obtain ⟨i, j, e1, e2, hc, q⟩ := h
  subst e1; subst e2
  obtain ⟨t, rfl⟩ := r1
  obtain ⟨t', rfl⟩ := r2
  exact PyProof.Rows.imul_int ⟨.int _, H, I.tok _, ⟨_, rfl⟩, q⟩ (mulOk hc)
theorem ip_addC {X : Cx} : PIp X .Add (ipC (fun _ _ => True) fun i j => i + j) := fun pins s σ H x y v u Q I r1 r2 h => by
  obtain ⟨i, j, e1, e2, _, q⟩ := h
  exact ip_add pins s σ H x y v u Q I r1 r2 ⟨i, j, e1, e2, q⟩
theorem ip_subC {X : Cx} : PIp X .Sub (ipC (fun _ _ => True) fun i j => i - j) := fun pins s σ H x y v u Q I r1 r2 h => by
  obtain ⟨i, j, e1, e2, _, q⟩ := h
  exact ip_sub pins s σ H x y v u Q I r1 r2 ⟨i, j, e1, e2, q⟩
open Classical in
noncomputable def dAug (cd : Int → Int → Prop) (g : Int → Int → Int) (i : Nat) (f : M A) : M Flow := fun ρ => match ρ[i]? with
  | some (some (.v (.int x))) => (f.bind fun a ρ1 => match a with
    | .v (.int y) => if cd x y ∧ i < ρ1.length then .ok .nx (ρ1.set i (some (.v (.int (g x y))))) else .bad
    | _ => .bad) ρ
  | _ => .bad
section
variable {C : SC} {X : Cx} {e : Expr} {f : M A} {i : Nat} {x : Str} {op : Operator} {pos pos' : Pos} {cd : Int → Int → Prop} {g : Int → Int → Int}
open Classical in
theorem ds_aug (ho : PIp X op (ipC cd g)) (hN : X.N.Nodup) (hi : X.N[i]? = some x) (hx : Loc X.env.scope x) (hn : i ∉ C.pn) (he : PE X e (tE C f)) (hf : X.fn x = true ∨ X.env.scope.names.lookup x = some .local := by first | exact .inl rfl | exact .inr rfl | assumption) :
    PS X (.AugAssign (.Name x pos') op e pos) (tS C (dAug cd g i f)) := by
  refine PS.w (ps_aug hN hi hx he ho hf) fun D σ H ⟨b, Z, ρ, vs, as, hb, hl, S, k⟩ => ?_
  unfold dAug at k
  split at k
  · rename_i n hn0
    obtain ⟨y, e, r⟩ := Sta.slot (vs := vs) (as := as) S hn0
    cases r
    refine ⟨_, e, ?_⟩
    have k' : Go C (finS C D) [] [] (f.bind fun a ρ1 => match a with
      | .v (.int y) => if cd n y ∧ i < ρ1.length then .ok .nx (ρ1.set i (some (.v (.int (g n y))))) else .bad
      | _ => .bad) σ H := ⟨b, Z, ρ, vs, as, hb, rfl, S, k⟩
    refine (Go.bindE k').mono fun y H1 ⟨a, b, Z, ρ1, vs, as, hb, _, S, k1⟩ => ?_
    dsimp only at k1
    split at k1
    · rename_i m
      split at k1
      · rename_i hz
        have t := Sta.top (vs := vs) (as := as) S
        cases t
        exact ⟨_, _, rfl, rfl, hz.1, k1 _ _ _ (((Sta.pop (vs := vs) (as := as) S).push (.int _)).store hz.2 (by rw [hb]; exact hn))⟩
      · exact k1.elim
    · exact k1.elim
  · exact k.elim
end

def frzE : DEnv → DEnv
  | [] => []
  | none :: ρ => none :: frzE ρ
  | some a :: ρ => some (.v a.frz) :: frzE ρ
def dBor (f : M A) : M A := fun ρ => match f (frzE ρ) with
  | .ok (.v d) _ => if d.flat = true then .ok (.v d) ρ else .bad
  | _ => .bad
def dBorT (f : M Bool) : M Bool := fun ρ => match f (frzE ρ) with
  | .ok d _ => .ok d ρ
  | _ => .bad
section
variable {K : PySem.W.Frag} {mg : Str → Option Value} {b : Base} {Z H : Hp} {σ : St} {ρ : DEnv} {vs : List V} {as : List A}
theorem SRep.frzE {P P' : Nat → Addr → Prop} (z : Same Z H) : ∀ {σ : St} {n : Nat} {ρ : DEnv} {f : List Addr}, SRep K mg P Z H n σ ρ f → SRep K mg P' H H n σ (DD.frzE ρ) []
  | [], _, _, _, h => by cases h; exact .nil
  | _ :: σ, _, _, _, h => by
    cases h with
    | no h => exact .no (SRep.frzE z h)
    | so h1 h2 h3 =>
      have q := SRep.so (P := P') (f := []) (g := []) (.v (RepA.freeze z _ _ _ (fun _ _ => rfl) h1)) (fun b hb => by cases hb) (SRep.frzE z h3)
      exact q
def Base.bor (H : Hp) (pn : List Nat) (σ : St) : Base := ⟨H, H, fun _ _ => False, pn, σ⟩
theorem Sta.bor (S : Sta K mg b Z H σ ρ vs as) (pn : List Nat) : Sta K mg (Base.bor H pn σ) H H σ (DD.frzE ρ) [] [] := by
  obtain ⟨f, g, h1, h2, h3, h4, h5⟩ := S.rep
  exact ⟨Same.refl _, Same.refl _, fun _ _ => rfl, fun _ _ e _ => e, fun _ h => h, fun _ _ => rfl, fun _ _ h => h.elim, [], [], SRep.frzE S.zh h1, .nil, fun _ => by simp, fun _ h => by simp at h, fun _ h => by cases h⟩
theorem Sta.unbor {pn : List Nat} {σ' : St} {Z' H' : Hp} {ρ' : DEnv} {ws : List V} {l : List A} (S : Sta K mg b Z H σ ρ vs as) (S' : Sta K mg (Base.bor H pn σ) Z' H' σ' ρ' ws l) : Sta K mg b Z H' σ ρ vs as := by
  have hh : Same H H' := fun q o e => S'.kh q o e fun _ h => h
  exact S.grow (Same.refl Z) (S.zh.trans hh) hh (fun _ _ => rfl) fun _ _ => rfl
theorem RepD.flatAny {Z Z' : Hp} {x : V} {d : D} (f : d.flat = true) (r : RepD K mg Z x d) : RepD K mg Z' x d := by
  cases r with
  | non => exact .non
  | bl b => exact .bl b
  | int b => exact .int b
  | str b => exact .str b
  | _ => cases f
variable {X : Cx} {C : SC} {e : Expr} {f : M A} {p : M Bool}
theorem de_bor (he : PE X e (tE C f)) : PE X e (tE C (dBor f)) := by
  refine PE.w he fun σ H Q ⟨b, Z, ρ, vs, as, hb, hl, S, k⟩ => ?_
  refine ⟨Base.bor H C.pn σ, H, DD.frzE ρ, [], [], rfl, rfl, S.bor _, ?_⟩
  unfold dBor at k
  revert k
  cases e0 : f (DD.frzE ρ) with
  | ok a ρ' =>
    intro k
    split at k
    · rename_i d ρ2 e1
      cases e1
      split at k
      · rename_i hf
        intro Z' H' v S'
        exact k _ _ _ (Sta.push (Sta.unbor (vs := vs) (as := as) S S') (RepD.flatAny hf S'.top))
      · exact k.elim
    · exact k.elim
  | exc e ρ' => intro k; exact k.elim
  | bad => intro k; exact k.elim
theorem dt_bor (he : PT X e (tT C p)) : PT X e (tT C (dBorT p)) := by
  refine PT.w he fun σ H Q ⟨b, Z, ρ, vs, as, hb, hl, S, k⟩ => ?_
  refine ⟨Base.bor H C.pn σ, H, DD.frzE ρ, [], [], rfl, rfl, S.bor _, ?_⟩
  unfold dBorT at k
  revert k
  cases e0 : p (DD.frzE ρ) with
  | ok a ρ' =>
    intro k Z' H' S'
    exact k _ _ (Sta.unbor (vs := vs) (as := as) S S')
  | exc e ρ' => intro k; exact k.elim
  | bad => intro k; exact k.elim
end

section
variable {ρ : DEnv} {E : Ex → DEnv → Prop} {f g : M A} {p : M Bool} {Q : A → DEnv → Prop} {QB : Bool → DEnv → Prop} {QD : List D → DEnv → Prop} {QF : Flow → DEnv → Prop}
theorem w_fmt (k : Wp (f ρ) (fun a ρ1 => Wo (fmtA a) fun y => Q (.v (.str y)) ρ1) E) : Wp (dFmt f ρ) Q E := wp_bind (wp_mono k (fun _ _ ⟨y, e, k⟩ => by rw [e]; exact wp_ofO ⟨_, rfl, k⟩) fun _ _ z => z)
def Wjs (a : A) (P : Str → Prop) : Prop := ∃ y, a = .v (.str y) ∧ P y
theorem wjs {y : Str} {P : Str → Prop} (h : P y) : Wjs (.v (.str y)) P := ⟨y, rfl, h⟩
theorem w_jsnil {acc : Str} (k : Q (.v (.str acc)) ρ) : Wp (dJs [] acc ρ) Q E := wp_pure k
theorem w_jscons {fs : List (M A)} {acc : Str} (k : Wp (f ρ) (fun a ρ1 => Wjs a fun y => (acc ++ y).length ≤ sizeLine ∧ Wp (dJs fs (acc ++ y) ρ1) Q E) E) : Wp (dJs (f :: fs) acc ρ) Q E :=
  wp_bind (wp_mono k (fun _ _ ⟨y, e, h, k⟩ => by subst e; dsimp only; rw [if_pos h]; exact k) fun _ _ z => z)
theorem w_join {s : Str} (k : Wp (f ρ) (fun a ρ1 => Wo (opJoin s a) fun r => Q r ρ1) E) : Wp (dJoin s f ρ) Q E := wp_bind (wp_mono k (fun _ _ k => wp_ofO k) fun _ _ z => z)
theorem w_zip (k : Wp (f ρ) (fun a ρ1 => Wp (g ρ1) (fun c ρ2 => Wo (zipO a c) fun ds => QD ds ρ2) E) E) : Wp (dZip f g ρ) QD E := wp_bind (wp_mono k (fun _ _ k => wp_bind (wp_mono k (fun _ _ k => wp_ofO k) fun _ _ z => z)) fun _ _ z => z)
theorem w_enum (k : Wp (f ρ) (fun a ρ1 => Wo (lstD a.frz) fun ds => QD (enumD ds) ρ1) E) : Wp (dEnum f ρ) QD E := wp_bind (wp_mono k (fun _ _ ⟨ds, e, k⟩ => by rw [e]; exact wp_ofO ⟨_, rfl, k⟩) fun _ _ z => z)
theorem w_aug {cd : Int → Int → Prop} {gg : Int → Int → Int} {i : Nat} {x : Int} (e : ρ[i]? = some (some (.v (.int x)))) (k : Wp (f ρ) (fun a ρ1 => Win a fun y => (cd x y ∧ i < ρ1.length) ∧ QF .nx (ρ1.set i (some (.v (.int (gg x y)))))) E) : Wp (dAug cd gg i f ρ) QF E := by
  unfold dAug
  rw [e]
  exact wp_bind (wp_mono k (fun _ _ ⟨y, e, h, k⟩ => by subst e; dsimp only; rw [if_pos h]; exact Wp.mk k) fun _ _ z => z)
def Wfl (a : A) (P : D → Prop) : Prop := ∃ d, a = .v d ∧ d.flat = true ∧ P d
theorem wfl_bl {b : Bool} {P : D → Prop} (h : P (.bl b)) : Wfl (.v (.bl b)) P := ⟨_, rfl, rfl, h⟩
theorem wfl_int {b : Int} {P : D → Prop} (h : P (.int b)) : Wfl (.v (.int b)) P := ⟨_, rfl, rfl, h⟩
theorem w_bor (k : Wp (f (frzE ρ)) (fun a _ => Wfl a fun d => Q (.v d) ρ) fun _ _ => False) : Wp (dBor f ρ) Q E := by
  unfold dBor
  revert k
  cases e0 : f (frzE ρ) with
  | ok a ρ' =>
    intro k
    obtain ⟨d, rfl, h, k⟩ := k.out
    dsimp only
    rw [if_pos h]
    exact Wp.mk k
  | exc e ρ' => intro k; exact k.out.elim
  | bad => intro k; exact k.out.elim
theorem w_borT (k : Wp (p (frzE ρ)) (fun a _ => QB a ρ) fun _ _ => False) : Wp (dBorT p ρ) QB E := by
  unfold dBorT
  revert k
  cases e0 : p (frzE ρ) with
  | ok a ρ' =>
    intro k
    exact Wp.mk k.out
  | exc e ρ' => intro k; exact k.out.elim
  | bad => intro k; exact k.out.elim
end
end DD

namespace DD
open PySem PySem.Spec L2
open PyProof.Rows hiding St
open TL

structure TOk (n : Nat) (x : Str) : Prop where
  len : x.length ≤ n
  ok : PyData.strOk x = true
theorem strOk_tl {x : Str} : PyData.strOk x = true ↔ ∀ c ∈ tl x, c < 0x110000 := by
  unfold PyData.strOk tl
  rw [Array.all_eq_true']
  constructor
  · intro h c hc
    have := h c (Array.mem_toList_iff.mp hc)
    simpa using this
  · intro h c hc
    simpa using h c (Array.mem_toList_iff.mpr hc)
theorem TOk.mono {n m : Nat} {x : Str} (h : TOk n x) (k : n ≤ m) : TOk m x := ⟨Nat.le_trans h.len k, h.ok⟩
theorem TOk.app {n m : Nat} {x y : Str} (h : TOk n x) (g : TOk m y) : TOk (n + m) (x ++ y) := by
  refine ⟨?_, ?_⟩
  · rw [len_tl, tl_append, List.length_append, ← len_tl, ← len_tl]
    exact Nat.add_le_add h.len g.len
  · rw [strOk_tl, tl_append]
    intro c hc
    rcases List.mem_append.mp hc with hc | hc
    · exact strOk_tl.mp h.ok c hc
    · exact strOk_tl.mp g.ok c hc
theorem TOk.ofS (s : String) : PyData.strOk (Str.ofString s) = true := by
  rw [strOk_tl, tl_ofString]
  intro c hc
  obtain ⟨ch, _, rfl⟩ := List.mem_map.mp hc
  have := ch.valid
  rcases this with h | ⟨_, h⟩
  · exact Nat.lt_trans h (by decide)
  · exact h
theorem TOk.int {i : Int} (h : i.natAbs.log2 < 1920) : TOk 1921 (Str.ofString (toString i)) := ⟨int_text_len_1921 h, TOk.ofS _⟩
theorem joinL_len {n k : Nat} {S : List Nat} (hS : S.length ≤ k) : ∀ {l : List (List Nat)}, (∀ x ∈ l, x.length ≤ n) → (joinL S l).length ≤ l.length * (n + k)
  | [], _ => Nat.zero_le _
  | [x], h => by
    have h1 := h x (by simp)
    simp only [joinL, List.length_cons, List.length_nil]
    omega
  | x :: y :: l, h => by
    have h1 := h x (by simp)
    have h2 := joinL_len hS (l := y :: l) fun z hz => h z (List.mem_cons_of_mem _ hz)
    simp only [joinL, List.length_cons, List.length_append] at h2 ⊢
    rw [Nat.add_mul (l.length + 1) 1 (n + k)]
    omega
theorem joinL_mem {S : List Nat} {c : Nat} : ∀ {l : List (List Nat)}, c ∈ joinL S l → c ∈ S ∨ ∃ x ∈ l, c ∈ x
  | [], h => by cases h
  | [x], h => .inr ⟨x, by simp, h⟩
  | x :: y :: l, h => by
    simp only [joinL, List.mem_append] at h
    rcases h with h | h | h
    · exact .inr ⟨x, by simp, h⟩
    · exact .inl h
    · rcases joinL_mem h with h | ⟨z, hz, h⟩
      · exact .inl h
      · exact .inr ⟨z, List.mem_cons_of_mem _ hz, h⟩
theorem TOk.join {n k : Nat} {s : Str} {ys : List Str} (hs : TOk k s) (h : ∀ y ∈ ys, TOk n y) : TOk (ys.length * (n + k)) (Txt.join s ys) := by
  rw [join_eq]
  refine ⟨?_, ?_⟩
  · rw [len_tl, tl_join]
    have := joinL_len (n := n) (k := k) (S := tl s) (by rw [← len_tl]; exact hs.len) (l := ys.map tl) fun x hx => by
      obtain ⟨y, hy, rfl⟩ := List.mem_map.mp hx
      rw [← len_tl]
      exact (h y hy).len
    simpa using this
  · rw [strOk_tl, tl_join]
    intro c hc
    rcases joinL_mem hc with hc | ⟨x, hx, hc⟩
    · exact strOk_tl.mp hs.ok c hc
    · obtain ⟨y, hy, rfl⟩ := List.mem_map.mp hx
      exact strOk_tl.mp (h y hy).ok c hc
theorem TOk.sum {n k : Nat} {s : Str} (hs : TOk k s) : ∀ {ys : List Str}, (∀ y ∈ ys, TOk n y) → (ys.map (·.length)).sum + ys.length * s.length ≤ ys.length * (n + k)
  | [], _ => by simp
  | y :: ys, h => by
    have h1 := (h y (by simp)).len
    have h2 := TOk.sum hs (ys := ys) fun z hz => h z (List.mem_cons_of_mem _ hz)
    have h3 := hs.len
    simp only [List.map_cons, List.sum_cons, List.length_cons]
    rw [Nat.add_mul, Nat.add_mul]
    omega

mutual
def okc : Nat → D → Bool
  | _, .non => true
  | _, .bl _ => true
  | _, .int _ => true
  | _, .str x => PyData.strOk x
  | k + 1, .tup l => okcs k l
  | k + 1, .lst l => okcs k l
  | k + 1, .fz l => okcs k l
  | _, _ => false
def okcs : Nat → List D → Bool
  | _, [] => true
  | k, d :: l => okc k d && okcs k l
end
mutual
theorem okc_plain : ∀ (d : D) (k : Nat), okc k d = true → d.plain = true ∧ d.py.canLay0 = true ∧ d.py.depth ≤ k
  | .non, k, _ => ⟨by simp [D.plain], by simp [D.py, PyData.canLay0], by simp [D.py, PyData.depth]⟩
  | .bl _, k, _ => ⟨by simp [D.plain], by simp [D.py, PyData.canLay0], by simp [D.py, PyData.depth]⟩
  | .int _, k, _ => ⟨by simp [D.plain], by simp [D.py, PyData.canLay0], by simp [D.py, PyData.depth]⟩
  | .str x, k, h => ⟨by simp [D.plain], by simpa [D.py, PyData.canLay0, okc] using h, by simp [D.py, PyData.depth]⟩
  | .tup l, k + 1, h => by
    obtain ⟨h1, h2, h3⟩ := okcs_plain l k (by simpa [okc] using h)
    exact ⟨by simpa [D.plain] using h1, by simpa [D.py, PyData.canLay0] using h2, by simpa [D.py, PyData.depth] using h3⟩
  | .lst l, k + 1, h => by
    obtain ⟨h1, h2, h3⟩ := okcs_plain l k (by simpa [okc] using h)
    exact ⟨by simpa [D.plain] using h1, by simpa [D.py, PyData.canLay0] using h2, by simpa [D.py, PyData.depth] using h3⟩
  | .fz l, k + 1, h => by
    obtain ⟨h1, h2, h3⟩ := okcs_plain l k (by simpa [okc] using h)
    exact ⟨by simpa [D.plain] using h1, by simpa [D.py, PyData.canLay0] using h2, by simpa [D.py, PyData.depth] using h3⟩
  | .tup _, 0, h => by simp [okc] at h
  | .lst _, 0, h => by simp [okc] at h
  | .fz _, 0, h => by simp [okc] at h
  | .ins _ _ _, k, h => by cases k <;> simp [okc] at h
theorem okcs_plain : ∀ (l : List D) (k : Nat), okcs k l = true → plains l = true ∧ PyData.canLayAll0 (pys l) = true ∧ PyData.depthAll (pys l) ≤ k
  | [], k, _ => ⟨by simp [plains], by simp [pys, PyData.canLayAll0], by simp [pys, PyData.depthAll]⟩
  | d :: l, k, h => by
    have h' : okc k d = true ∧ okcs k l = true := by simpa [okcs] using h
    obtain ⟨h1, h2, h3⟩ := okc_plain d k h'.1
    obtain ⟨g1, g2, g3⟩ := okcs_plain l k h'.2
    exact ⟨by simp [plains, h1, g1], by simp [pys, PyData.canLayAll0, h2, g2], by simp [pys, PyData.depthAll]; omega⟩
end
theorem okc_cmp {k : Nat} {d : D} (h : okc k d = true) (hk : k ≤ 64) : d.cmp = true := by
  obtain ⟨h1, h2, h3⟩ := okc_plain d k h
  have : SeqAt.shaped d.py = true := by
    unfold SeqAt.shaped
    rw [h2, decide_eq_true (Nat.le_trans h3 hk)]
    rfl
  simp [D.cmp, h1, this]
theorem okcs_all {k : Nat} : ∀ {l : List D}, (∀ d ∈ l, okc k d = true) → okcs k l = true
  | [], _ => by simp [okcs]
  | d :: l, h => by simp [okcs, h d (by simp), okcs_all (l := l) fun e he => h e (List.mem_cons_of_mem _ he)]
theorem okc_tup {k : Nat} {l : List D} (h : ∀ d ∈ l, okc k d = true) : okc (k + 1) (.tup l) = true := by unfold okc; exact okcs_all h
theorem okc_lst {k : Nat} {l : List D} (h : ∀ d ∈ l, okc k d = true) : okc (k + 1) (.lst l) = true := by unfold okc; exact okcs_all h
theorem okc_int {k : Nat} {i : Int} : okc k (.int i) = true := by cases k <;> simp [okc]
theorem okc_str {k n : Nat} {x : Str} (h : TOk n x) : okc k (.str x) = true := by cases k <;> simpa [okc] using h.ok
section
variable {P : A → Prop} {a c : A} {k j : Nat}
theorem wo_eqD (h : okc k a.frz = true) (g : okc j c.frz = true) (hk : k ≤ 64) (hj : j ≤ 64) (q : P (.v (.bl (PyData.eqv a.frz.py c.frz.py)))) : Wo (opEq a c) P := by
  refine wo_eq ?_ q
  unfold opEq opEqv
  rw [okc_cmp h hk, okc_cmp g hj]
  rfl
theorem wo_neD (h : okc k a.frz = true) (g : okc j c.frz = true) (hk : k ≤ 64) (hj : j ≤ 64) (q : P (.v (.bl (!PyData.eqv a.frz.py c.frz.py)))) : Wo (opNe a c) P := by
  refine wo_eq ?_ q
  unfold opNe opEqv
  rw [okc_cmp h hk, okc_cmp g hj]
  rfl
theorem eqv_self {d : D} (h : okc k d = true) : PyData.eqv d.py d.py = true := SeqAt.eqv_refl _ (okc_plain d k h).2.1
/-- both sides the same -/
theorem wo_eqS (e : c.frz = a.frz) (h : okc k a.frz = true) (hk : k ≤ 64) (q : P (.v (.bl true))) : Wo (opEq a c) P :=
  wo_eqD h (by rw [e]; exact h) hk hk (by rw [e, eqv_self h]; exact q)
theorem wo_neS (e : c.frz = a.frz) (h : okc k a.frz = true) (hk : k ≤ 64) (q : P (.v (.bl false))) : Wo (opNe a c) P :=
  wo_neD h (by rw [e]; exact h) hk hk (by rw [e, eqv_self h]; exact q)
/-- a list against the empty one -/
theorem wo_neNil {l : List D} (h : okc k (.lst l) = true) (hk : k ≤ 64) (q : P (.v (.bl (!l.isEmpty)))) : Wo (opNe (.v (.lst l)) (.m [])) P := by
  refine wo_neD (k := k) (j := k) h ?_ hk hk ?_
  · cases k with
    | zero => simp [okc] at h
    | succ k => simp [A.frz, frzs, okc, okcs]
  · have : PyData.eqv (A.v (.lst l)).frz.py (A.m []).frz.py = l.isEmpty := by
      cases l <;> simp [A.frz, frzs, D.py, pys, PyData.eqv, PyData.eqvAll]
    rw [this]
    exact q
theorem wo_eqNil {l : List D} (h : okc k (.lst l) = true) (hk : k ≤ 64) (q : P (.v (.bl l.isEmpty))) : Wo (opEq (.v (.lst l)) (.m [])) P := by
  refine wo_eqD (k := k) (j := k) h ?_ hk hk ?_
  · cases k with
    | zero => simp [okc] at h
    | succ k => simp [A.frz, frzs, okc, okcs]
  · have : PyData.eqv (A.v (.lst l)).frz.py (A.m []).frz.py = l.isEmpty := by
      cases l <;> simp [A.frz, frzs, D.py, pys, PyData.eqv, PyData.eqvAll]
    rw [this]
    exact q
end
/-- a list of values by their data -/
def AllV (P : D → Prop) (l : List A) : Prop := ∀ e ∈ l, ∃ d, e = .v d ∧ P d
theorem AllV.nil {P : D → Prop} : AllV P [] := fun e h => by cases h
theorem AllV.snoc {P : D → Prop} {l : List A} {d : D} (h : AllV P l) (g : P d) : AllV P (l ++ [.v d]) := fun e he => by
  rcases List.mem_append.mp he with he | he
  · exact h e he
  · simp at he; exact ⟨d, he, g⟩
theorem AllV.frz {P : D → Prop} {l : List A} (h : AllV P l) : ∀ d ∈ frzs l, P d := fun d hd => by
  rw [frzs_eq] at hd
  obtain ⟨e, he, rfl⟩ := List.mem_map.mp hd
  obtain ⟨d, rfl, g⟩ := h e he
  exact g
theorem AllV.mono {P P' : D → Prop} {l : List A} (h : AllV P l) (k : ∀ d, P d → P' d) : AllV P' l := fun e he => let ⟨d, q, g⟩ := h e he; ⟨d, q, k d g⟩
end DD

namespace DD
open PySem PySem.Spec L2
open PyProof.Rows hiding St
def gLstD (n : Nat) (gs : List D → M Unit) : D → M Unit := fun d => match lstD d with
  | some ds => if ds.length = n then gs ds else fun _ => .bad
  | none => fun _ => .bad
section
variable {C : SC} {X : Cx} {es : List Expr} {gs : List D → M Unit} {sl : List Nat} {pos : Pos} {n k : Nat}
theorem dg_lst (hK : X.K = C.K) (hc : X.calm = true) (h : PGs X es (tGs C sl gs)) (hn : (assignEach es X.env).length = n := by rfl) (hst : (assignEach es X.env).findIdx? (·.1) = none := by rfl) : PG X (.Tuple es k pos) (tG C sl (gLstD n gs)) := by
  refine PG.w (pg_unl hc h hn hst) fun v σ H Q ⟨b, Z, ρ, vs, as, d, hb, S, k⟩ => ?_
  unfold gLstD at k
  cases hd : lstD d with
  | none => rw [hd] at k; exact k.elim
  | some ds =>
    rw [hd] at k
    dsimp only at k
    by_cases hz : ds.length = n
    · rw [if_pos hz] at k
      rw [hK]
      obtain ⟨q, xs, rfl, hs, r⟩ := (Sta.top S).lsq S.zh hd
      exact ⟨q, xs, rfl, hs, by rw [r.length]; exact hz, b, Z, ρ, vs, as, _, hb, r.length, (Sta.pop S).pushes r, k⟩
    · rw [if_neg hz] at k; exact k.elim
end
mutual
inductive KD (K : PySem.W.Frag) : Value → D → Prop
  | int (i : Int) (t : Nat) : KD K (.int i t) (.int i)
  | tup {a : Addr} {o : Obj} {its : Array Value} {n : Nat} {ds : List D} (l : K.lookup a = some o) (c : o.cls = .type "tuple") (d : o.data = .seq its n) (z : its.size ≤ sizeLine) (r : KDs K its.toList ds) : KD K (.ref a) (.tup ds)
inductive KDs (K : PySem.W.Frag) : List Value → List D → Prop
  | nil : KDs K [] []
  | cons {u : Value} {us : List Value} {d : D} {ds : List D} (h : KD K u d) (r : KDs K us ds) : KDs K (u :: us) (d :: ds)
end
mutual
theorem KD.rep {K : PySem.W.Frag} {mg : Str → Option Value} : ∀ {u : Value} {d : D}, KD K u d → ∃ v, RelV v u ∧ ∀ Z, RepD K mg Z v d
  | _, _, .int i t => ⟨.int i, ⟨t, rfl⟩, fun _ => .int i⟩
  | _, _, .tup (a := a) (o := o) (its := its) (n := n) l c d z r =>
    let ⟨vs, h, k⟩ := KDs.rep (mg := mg) r
    ⟨.ref a, rfl, fun Z => .tup (.inr ⟨o, its, n, l, c, d, z, h⟩) (k Z)⟩
theorem KDs.rep {K : PySem.W.Frag} {mg : Str → Option Value} : ∀ {us : List Value} {ds : List D}, KDs K us ds → ∃ vs, Vals vs us ∧ ∀ Z, RepDs K mg Z vs ds
  | _, _, .nil => ⟨[], .nil, fun _ => .nil⟩
  | _, _, .cons h r =>
    let ⟨v, h1, k1⟩ := KD.rep (mg := mg) h
    let ⟨vs, h2, k2⟩ := KDs.rep (mg := mg) r
    ⟨v :: vs, .cons h1 h2, fun Z => .cons (k1 Z) (k2 Z)⟩
end
theorem glob_kd {K : PySem.W.Frag} {h : Heap} {mg : Str → Option Value} {x : Str} {a : Addr} {d : D} (X : K.In h) (G : h.Ns mainGlobals mg) (e : PySem.W.nsIn K mainGlobals x = some (some (.ref a))) (k : KD K (.ref a) d) : Glob K mg x d :=
  let ⟨v, h1, k1⟩ := k.rep (mg := mg)
  ⟨v, .ref a, PySem.W.mg_of X G e, h1, k1⟩
theorem w_glst {ρ : DEnv} {E : Ex → DEnv → Prop} {n : Nat} {gs : List D → M Unit} {d : D} {ds : List D} {Q : Unit → DEnv → Prop} (e : lstD d = some ds) (e2 : ds.length = n) (k : Wp (gs ds ρ) Q E) : Wp (gLstD n gs d ρ) Q E := by
  unfold gLstD
  rw [e]
  dsimp only
  rw [if_pos e2]
  exact k
end DD

namespace DD
open PySem PySem.Spec L2
open PyProof.Rows hiding St
def dN (p q : Int) : D := .tup [.int p, .int q]
def cmn (u d : Int) : Int := (Int.gcd u d : Int) * (if d < 0 then -1 else 1)
def canon (g u d : Int) : D := if 0 < g then dN (u.fmod g) 1 else dN (u.fdiv (cmn u d)) (d.fdiv (cmn u d))
def okd (g d : Int) : Prop := if 0 < g then d = 1 else d ≠ 0
def numB (g : Int) (d : D) : Bool := match d with
  | .tup [.int a, .int b] => if 0 < g then decide (0 ≤ a) && (decide (a < g) && decide (b = 1)) else decide (1 ≤ b) && decide (((Int.gcd a b : Nat) : Int) = 1)
  | _ => false
structure Num (g : Int) (R : Type) [Lean.Grind.CommRing R] where
  p : R → Int
  q : R → Int
  okp : ∀ r s, okd g (q r * q s)
  ok1 : ∀ r, okd g (q r)
  add : ∀ r s, canon g (p r * q s + p s * q r) (q r * q s) = dN (p (r + s)) (q (r + s))
  mul : ∀ r s, canon g (p r * p s) (q r * q s) = dN (p (r * s)) (q (r * s))
  neg : ∀ r, canon g (0 - p r) (q r) = dN (p (-r)) (q (-r))
  zero : dN (p 0) (q 0) = dN 0 1
  one : dN (p 1) (q 1) = dN 1 1
  mone : canon g (-1) 1 = dN (p (-1)) (q (-1))
  ex : ∀ u d, 0 < d → okd g d → ∃ r, canon g u d = dN (p r) (q r)
  good : ∀ r, numB g (dN (p r) (q r)) = true
section
variable {g : Int} {R : Type} [Lean.Grind.CommRing R] (N : Num g R)
def Num.nm (r : R) : D := dN (N.p r) (N.q r)
structure Num.B (n : Nat) (r : R) : Prop where
  p : Bd n (N.p r)
  q : Bd n (N.q r)
end
theorem dN_inj {a b c d : Int} (h : dN a b = dN c d) : a = c ∧ b = d := by
  unfold dN at h
  simp at h
  exact h
theorem cmn_ne {u d : Int} (h : d ≠ 0) : cmn u d ≠ 0 := by
  have hg : Int.gcd u d ≠ 0 := fun z => h (Int.gcd_eq_zero_iff.mp z).2
  unfold cmn
  split <;> omega
theorem canon_bd {g u d : Int} {n : Nat} (h4 : 4 ≤ n) (hg : g ≤ 13) (hu : Bd n u) (hd : Bd n d) : ∃ x y, canon g u d = dN x y ∧ Bd n x ∧ Bd n y := by
  unfold canon
  split
  · rename_i h
    have := fmod_range (i := u) h
    refine ⟨_, _, rfl, Bd.mono (n := 4) ?_ h4, Bd.one (by omega)⟩
    unfold Bd
    have : (2:Nat) ^ 4 = 16 := by decide
    omega
  · exact ⟨_, _, rfl, hu.le (Int.natAbs_fdiv_le_natAbs _ _), hd.le (Int.natAbs_fdiv_le_natAbs _ _)⟩
theorem Bd.addx {a b : Nat} {i j : Int} (h : Bd a i) (k : Bd b j) : Bd (max a b + 1) (i + j) := (h.mono (Nat.le_max_left _ _)).add (k.mono (Nat.le_max_right _ _))
section
variable {g : Int} {R : Type} [Lean.Grind.CommRing R] {N : Num g R} {a b : Nat} {r s : R}
theorem Num.B.mono (h : N.B a r) (k : a ≤ b) : N.B b r := ⟨h.p.mono k, h.q.mono k⟩
theorem Num.B.of {x y : Int} (e : dN x y = N.nm r) (h1 : Bd a x) (h2 : Bd a y) : N.B a r := by
  obtain ⟨e1, e2⟩ := dN_inj e
  exact ⟨e1 ▸ h1, e2 ▸ h2⟩
theorem Num.B.sums (h : N.B a r) (k : N.B b s) : Bd (a + b + 1) (N.p r * N.q s + N.p s * N.q r) := (h.p.mul k.q).add ((k.p.mul h.q).mono (by omega))
theorem Num.B.dens (h : N.B a r) (k : N.B b s) : Bd (a + b + 1) (N.q r * N.q s) := (h.q.mul k.q).mono (by omega)
theorem Num.B.add (h4 : 4 ≤ a) (hg : g ≤ 13) (h : N.B a r) (k : N.B b s) : N.B (a + b + 1) (r + s) := by
  obtain ⟨x, y, e, h1, h2⟩ := canon_bd (g := g) (n := a + b + 1) (by omega) hg (h.sums k) (h.dens k)
  exact Num.B.of (e.symm.trans (N.add r s)) h1 h2
theorem Num.B.mul (h4 : 4 ≤ a) (hg : g ≤ 13) (h : N.B a r) (k : N.B b s) : N.B (a + b) (r * s) := by
  obtain ⟨x, y, e, h1, h2⟩ := canon_bd (g := g) (n := a + b) (by omega) hg (h.p.mul k.p) (h.q.mul k.q)
  exact Num.B.of (e.symm.trans (N.mul r s)) h1 h2
theorem Num.B.neg (h4 : 4 ≤ a) (hg : g ≤ 13) (h : N.B a r) : N.B a (-r) := by
  obtain ⟨x, y, e, h1, h2⟩ := canon_bd (g := g) (n := a) (by omega) hg (u := 0 - N.p r) (by rw [Int.zero_sub]; exact h.p.neg) h.q
  exact Num.B.of (e.symm.trans (N.neg r)) h1 h2
theorem Num.B.zero (h4 : 1 ≤ a) : N.B a 0 := Num.B.of N.zero.symm Bd.zero (Bd.one h4)
theorem Num.B.one (h4 : 1 ≤ a) : N.B a 1 := Num.B.of N.one.symm (Bd.one h4) (Bd.one h4)
end

theorem canon_nat {u : Int} {d : Nat} (h : d ≠ 0) : canon 0 u d = dN (mkRat u d).num (mkRat u d).den := by
  unfold canon cmn
  rw [if_neg (by decide), if_neg (by omega), Int.mul_one, Rat.mkRat_def, dif_neg h, Rat.normalize_eq]
  have e : (Int.gcd u d : Int) = ((u.natAbs.gcd d : Nat) : Int) := by rw [Int.gcd, Int.natAbs_natCast]
  have e1 : u.fdiv (u.natAbs.gcd d : Nat) = u / (u.natAbs.gcd d : Nat) := Int.fdiv_eq_ediv_of_nonneg _ (by omega)
  have e2 : (d : Int).fdiv (u.natAbs.gcd d : Nat) = ((d / u.natAbs.gcd d : Nat) : Int) := by
    rw [Int.fdiv_eq_ediv_of_nonneg _ (by omega), Int.natCast_ediv]
  rw [e, e1, e2]
theorem rat_pos (r : Rat) : 0 < (r.den : Int) := by have := r.den_nz; omega
theorem rat_canon {u d : Int} (h : 0 < d) : canon 0 u d = dN (mkRat u d.toNat).num (mkRat u d.toNat).den := by
  have := canon_nat (u := u) (d := d.toNat) (by omega)
  rwa [Int.toNat_of_nonneg (by omega)] at this
def num0 : Num 0 Rat where
  p r := r.num
  q r := r.den
  okp r s := by
    unfold okd
    rw [if_neg (by decide)]
    have := Int.mul_pos (rat_pos r) (rat_pos s)
    omega
  ok1 r := by
    unfold okd
    rw [if_neg (by decide)]
    have := rat_pos r
    omega
  add r s := by
    rw [Rat.add_def', ← Int.natCast_mul, canon_nat (Nat.mul_ne_zero r.den_nz s.den_nz)]
  mul r s := by
    rw [Rat.mul_def', ← Int.natCast_mul, canon_nat (Nat.mul_ne_zero r.den_nz s.den_nz)]
  neg r := by
    rw [canon_nat r.den_nz, Int.zero_sub, ← Rat.neg_num]
    have e : mkRat (-r).num r.den = -r := by
      have := Rat.mkRat_self (-r)
      rwa [Rat.neg_den] at this
    rw [e]
  zero := rfl
  one := rfl
  mone := by
    have e : mkRat (-1) 1 = -1 := by decide +kernel
    have := canon_nat (u := -1) (d := 1) (by decide)
    rw [e] at this
    exact this
  ex u d h _ := ⟨_, rat_canon h⟩
  good r := by
    unfold numB dN
    dsimp only
    have h := rat_pos r
    have h2 := r.reduced
    rw [if_neg (by decide), decide_eq_true (by omega : 1 ≤ (r.den : Int)), Bool.true_and, decide_eq_true]
    rw [Int.gcd, Int.natAbs_natCast, h2]
    rfl

def numG (g : Int) (hg : 2 ≤ g) : Num g Int where
  p n := n.fmod g
  q _ := 1
  okp r s := by unfold okd; rw [if_pos (by omega)]; rfl
  ok1 r := by unfold okd; rw [if_pos (by omega)]
  add r s := by
    unfold canon
    rw [if_pos (by omega), Int.mul_one, Int.mul_one, ← Int.add_fmod]
  mul r s := by
    unfold canon
    rw [if_pos (by omega), ← Int.mul_fmod]
  neg r := by
    unfold canon
    rw [if_pos (by omega)]
    have e : (0 - r.fmod g).fmod g = (-r).fmod g := by
      rw [Int.fmod_eq_emod_of_nonneg _ (by omega), Int.fmod_eq_emod_of_nonneg _ (by omega), Int.fmod_eq_emod_of_nonneg _ (by omega), Int.emod_eq_emod_iff_emod_sub_eq_zero]
      have : 0 - r % g - -r = g * (r / g) := by have := Int.mul_ediv_add_emod r g; omega
      rw [this, Int.mul_emod_right]
    rw [e]
  zero := by rw [Int.zero_fmod]
  one := by rw [Int.fmod_eq_of_lt (by decide) (by omega)]
  mone := by unfold canon; rw [if_pos (by omega)]
  ex u d _ h := by
    unfold okd at h
    rw [if_pos (by omega)] at h
    subst h
    unfold canon
    rw [if_pos (by omega)]
    exact ⟨_, rfl⟩
  good r := by
    unfold numB dN
    have := fmod_range (i := r) (j := g) (by omega)
    dsimp only
    rw [if_pos (by omega), decide_eq_true this.1, decide_eq_true this.2]
    rfl
theorem num_of {g : Int} (h : g = 0 ∨ 2 ≤ g) : ∃ (R : Type) (_ : Lean.Grind.CommRing R), Nonempty (Num g R) := by
  rcases h with rfl | h
  · exact ⟨Rat, inferInstance, ⟨num0⟩⟩
  · exact ⟨Int, inferInstance, ⟨numG g h⟩⟩
end DD

set_option maxHeartbeats 1000000
namespace ZS
open PySem
open PySem.Sem (wp)
abbrev kwS : List (Str × Value) := [(Str.ofString "strict", .bool true)]
abbrev IsZipS (h : Heap) (z TI TO : Addr) (f0 : Value) : Prop :=
  h.get? z = some { cls := .type "zip", dict := none, data := .fields #[f0, .bool false, .bool true, .ref TI, .ref TO], slots := #[] }
section
variable {prog : Program} {w : World} {A : Around} {E : Value → Shared → Prop} {s : Shared}
theorem callType_meets_kw {T newId initId : String} {Bn Bi : Builtin} {args : List Value} {kw : List (Str × Value)} {S : Spec} {Q Q₁ : Value → Shared → Prop} (ft : TypeCalled T newId initId)
    (hct : checkTypeCall T ⟨args, kw⟩ = pure ()) (hcn : checkBuiltinCall newId ⟨.type T :: args, kw⟩ = pure ())
    (entryN : entryFor table newId = some Bn) (entryI : entryFor table initId = some Bi) (g : Meets (Bn ⟨.type T :: args, kw⟩) S)
    (h : S A.in1 (wants Q₁ E) s)
    (hnext : ∀ obj s₁, Q₁ obj s₁ → s₁.TypeIs obj T ∧ argsOk initId ⟨obj :: args, kw⟩ ∧ ∃ Si, Meets (Bi ⟨obj :: args, kw⟩) Si ∧ Si A.in1 (wants (fun r s₂ => r = .none ∧ Q obj s₂) E) s₁) :
    wpAny (model prog w) A (call (.type T) args kw) Q E s := by
  obtain ⟨c, tl, hmro⟩ := ft.mro
  have hmade := ft.made
  have hsub := ft.sub
  refine wpAny_call (codeAny_of_tree ?_)
  show wpAny _ _ (callAny (.type T) _) _ _ _
  refine wpAny_pure ⟨Code.quiet_builtin _ (by decide +kernel), codeAny_builtin F.entry_type_call ?_⟩
  rw [Around.under_plain (weight_type_call_type T args kw) (units_type_call_type T args kw)]
  have h1 := ft.notType
  have h2 := ft.canCreate
  repeat (any_goals (first | assumption | wp_step))
  refine codeAny_mono (codeAny_call_builtin ft.plain entryN (wpAny_of_eq hcn (g prog w A.in1 _ s h))) fun r s₁ hr => ?_
  cases r with
  | error e => exact hr
  | ok fl =>
    cases fl with
    | ret obj =>
      obtain ⟨hT, hok, Si, gi, hsi⟩ := hnext _ _ hr
      have hli := ft.init.lookup
      have hbi := ft.init.bind obj
      repeat (any_goals (first | assumption | wp_step))
      refine codeAny_mono (codeAny_call_builtin ft.init.plain entryI (ft.init.check _ _ _ _ _ _ _ _ hT hok (gi prog w A.in1 _ s₁ hsi))) fun r₂ s₂ hr₂ => ?_
      cases r₂ with
      | error e => exact hr₂
      | ok fl₂ =>
        cases fl₂ with
        | ret r =>
          obtain ⟨rfl, hq⟩ := hr₂
          repeat (any_goals (first | assumption | wp_step))
        | _ => exact hr₂.elim
    | _ => exact hr.elim
theorem object_init_meets_kw {T newId : String} {self a : Value} {rest : List Value} (hl : typeLookup (.type T) "__init__" = pure (some (.builtin "object.__init__")))
    (hm : Bind.madeBy (.type T) = pure (some newId)) (hne : (some newId != some "object.__new__") = true) :
    Meets (Builtin.«object.__init__» ⟨self :: a :: rest, kwS⟩) (fun _ R s => s.TypeIs self T ∧ R (.ok (.ret .none)) s) := by
  refine Meets.of_wp fun prog w A R s hs => ?_
  obtain ⟨hT, hq⟩ := hs
  repeat (any_goals (first | assumption | wp_step))
  exact ⟨_, rfl, hq⟩
theorem typeCall_zip_S (a b : Value) : checkTypeCall "zip" ⟨[a, b], kwS⟩ = pure () := by kernel_rfl
theorem newCall_zip_S (a b : Value) : checkBuiltinCall "zip.__new__" ⟨[.type "zip", a, b], kwS⟩ = pure () := by kernel_rfl
theorem args_object_init_S (a b c : Value) : argsOk "object.__init__" ⟨[a, b, c], kwS⟩ := by
  unfold argsOk; rw [signature?_of (id := "object.__init__") (n := ['_', '_', 't', 'i', 'n', 'i', '_', '_']) (o := ['t', 'c', 'e', 'j', 'b', 'o']) (by kernel_rfl) F.owner_object]; kernel_rfl
end
abbrev zH5 (h : Heap) (l1 l2 : Addr) : Heap := (RZ.zipTH4 h l1 l2).push { cls := .type "zip", data := .fields #[.none, .bool false, .bool true, .ref (RZ.zipTH2 h l1 l2).objs.size, .ref (RZ.zipTH3 h l1 l2).objs.size] }
theorem meets_zipS_new (l1 l2 : Addr) (xs ys : Array Value) :
    Meets (Builtin.«zip.__new__» ⟨[.type "zip", .ref l1, .ref l2], kwS⟩) (fun _ R s => s.heap.IsTuple l1 xs ∧ s.heap.IsTuple l2 ys ∧
      R (.ok (.ret (.ref (RZ.zipTH4 s.heap l1 l2).objs.size))) { s with heap := zH5 s.heap l1 l2 }) :=
  .of_wp fun prog w A R s h => by
    obtain ⟨hp, g, d, tk, os⟩ := s; obtain ⟨hl1, hl2, h⟩ := h
    have hsub := sub_zip
    have hL1 : Heap.IsTuple (Shared.heap ⟨hp, g, d, tk, os⟩) l1 xs := hl1
    have hL2 : Heap.IsTuple (Shared.heap ⟨hp.push { cls := .type "tuple_iterator", data := .fields #[.ref l1, .int 0 0] }, g, d, tk, os⟩) l2 ys := Heap.IsTuple.push hl2 _
    wp_walk using wpAny_pyIter_tuple hL1, wpAny_pyIter_tuple hL2
    exact ⟨_, rfl, h⟩
end ZS

set_option maxHeartbeats 1000000
namespace ZS
open PySem
open PySem.Sem (wp)
section
variable {prog : Program} {w : World} {A : Around} {E : Value → Shared → Prop} {s : Shared}
theorem orEnd_item {it l : Addr} {i : Nat} {items} {x : Value} {Q : Option Value → Shared → Prop} (hit : s.heap.IsTupleIter it l i)
    (hl : s.heap.IsTuple l items) (hx : items[i]? = some x)
    (hQ : ∀ h', h'.IsTupleIter it l (i + 1) → Heap.SameBut it s.heap h' → Q (some x) { s with heap := h' }) :
    wpAny (model prog w) A (Builtin.SmallTypes.nextOrEnd (.ref it)) Q E s := by
  unfold Builtin.SmallTypes.nextOrEnd
  exact wpAny_bind (wpAny_attempt (RZ.nextOf_tuple_item hit hl hx fun h' a b => wpAny_pure (hQ h' a b)))
theorem orEnd_end {it l : Addr} {i : Nat} {items} {Q : Option Value → Shared → Prop} (hh : A.handled = none)
    (hit : s.heap.IsTupleIter it l i) (hl : s.heap.IsTuple l items) (hx : items[i]? = none)
    (hQ : ∀ h', Heap.ExtBut it s.heap h' → Q none { s with heap := h' }) :
    wpAny (model prog w) A (Builtin.SmallTypes.nextOrEnd (.ref it)) Q E s := by
  unfold Builtin.SmallTypes.nextOrEnd
  refine wpAny_bind (wpAny_attempt (RZ.nextOf_tuple_end hh hit hl hx fun h' e hk he => ?_))
  obtain ⟨o, ho, hc⟩ := he
  refine wpAny_bind (wpAny_isInstance (T := "StopIteration") (b := true) ⟨o, ho, hc⟩ isSubtype_stop ?_)
  exact wpAny_pure (hQ _ hk)
theorem next_item {z TI TO i1 i2 l1 l2 : Addr} {k1 k2 : Nat} {xs ys : Array Value} {x y a b : Value} {Q : Value → Shared → Prop} (D : ZipApart z TI TO i1 i2 l1 l2)
    (hz : IsZipS s.heap z TI TO .none) (hTI : IsPair s.heap TI (.ref i1) (.ref i2)) (hTO : IsPair s.heap TO a b)
    (h1 : s.heap.IsTupleIter i1 l1 k1) (h2 : s.heap.IsTupleIter i2 l2 k2) (hl1 : s.heap.IsTuple l1 xs) (hl2 : s.heap.IsTuple l2 ys) (hx : xs[k1]? = some x) (hy : ys[k2]? = some y)
    (hQ : ∀ h', IsZipS h' z TI TO (rawInt s.heap.objs.size) → IsPair h' TO x y → h'.IsTupleIter i1 l1 (k1 + 1) → h'.IsTupleIter i2 l2 (k2 + 1) → IsPair h' s.heap.objs.size x y → h'.objs.size = s.heap.objs.size + 1 →
      (∀ c o, c ≠ z → c ≠ TO → c ≠ i1 → c ≠ i2 → s.heap.get? c = some o → h'.get? c = some o) → Q (.ref s.heap.objs.size) { s with heap := h' }) :
    wpAny (model prog w) A (Builtin.«zip.__next__» ⟨[.ref z], []⟩) (fun fin s' => ∃ v, fin = .done (.ret v) ∧ Q v s') E s := by
  show wpAny _ _ (field (.ref z) 2 >>= _) _ _ _
  refine wpAny_bind (wpAny_field hz rfl (x := .bool true) rfl ?_)
  show wpAny _ _ (field (.ref z) 3 >>= _) _ _ _
  refine wpAny_bind (wpAny_field hz rfl (x := .ref TI) rfl ?_)
  refine wpAny_bind (wpAny_seqItems hTI rfl ?_)
  show wpAny _ _ (Builtin.SmallTypes.ownedTupleIsFree (.ref z) >>= _) _ _ _
  refine wpAny_bind ?_
  unfold Builtin.SmallTypes.ownedTupleIsFree
  refine wpAny_bind (wpAny_field hz rfl (x := .none) rfl (wpAny_pure ?_))
  simp only [if_true]
  refine wpAny_bind (wpAny_rule ?_)
  refine wpAny_bind (wpAny_field hz rfl (x := .ref TO) rfl ?_)
  refine wpAny_bind (wpAny_setField_rec hz (by simp) fun h₁ hz₁ hs₁ => ?_)
  replace hz₁ : IsZipS h₁ z TI TO .ellipsis := hz₁
  refine wpAny_bind ?_
  simp only [List.zipIdx_cons, List.zipIdx_nil, List.forIn_cons, List.forIn_nil]

  refine wpAny_bind (wpAny_bind (wpAny_onRaise ?_))
  show wpAny _ _ (Builtin.SmallTypes.nextOrEnd (.ref i1)) _ _ _
  refine orEnd_item (h1.extBut hs₁.extBut D.i1z) (hl1.extBut hs₁.extBut D.l1z) hx fun h₂ h1₂ hs₂ => ?_
  have hTO₂ : IsPair h₂ TO a b := hs₂.extBut _ _ D.TOi1 (hs₁.extBut _ _ D.TOz hTO)
  refine wpAny_bind (wpAny_seqItems hTO₂ rfl ?_)
  refine wpAny_bind (wpAny_updateSeq_pair hTO₂ fun h₃ hTO₃ hs₃ => ?_)
  replace hTO₃ : IsPair h₃ TO x b := hTO₃
  refine wpAny_bind (wpAny_letGo (wpAny_pure ?_))

  refine wpAny_bind (wpAny_bind (wpAny_onRaise ?_))
  show wpAny _ _ (Builtin.SmallTypes.nextOrEnd (.ref i2)) _ _ _
  refine orEnd_item (((h2.extBut hs₁.extBut D.i2z).extBut hs₂.extBut D.i12.symm).extBut hs₃.extBut D.TOi2.symm)
    (((hl2.extBut hs₁.extBut D.l2z).extBut hs₂.extBut D.l2i1).extBut hs₃.extBut D.l2TO) hy fun h₄ h2₄ hs₄ => ?_
  have hTO₄ : IsPair h₄ TO x b := hs₄.extBut _ _ D.TOi2 hTO₃
  refine wpAny_bind (wpAny_seqItems hTO₄ rfl ?_)
  refine wpAny_bind (wpAny_updateSeq_pair hTO₄ fun h₅ hTO₅ hs₅ => ?_)
  replace hTO₅ : IsPair h₅ TO x y := hTO₅
  refine wpAny_bind (wpAny_letGo (wpAny_pure (wpAny_pure ?_)))

  refine wpAny_bind (wpAny_seqItems hTO₅ rfl ?_)
  refine wpAny_bind (wpAny_newTuple ?_)
  have hsz : h₅.objs.size = s.heap.objs.size := by rw [hs₅.1, hs₄.1, hs₃.1, hs₂.1, hs₁.1]
  have hz₅ : IsZipS h₅ z TI TO .ellipsis := hs₅.extBut _ _ D.TOz.symm (hs₄.extBut _ _ D.i2z.symm (hs₃.extBut _ _ D.TOz.symm (hs₂.extBut _ _ D.i1z.symm hz₁)))
  have hk₅ : ∀ c o, c ≠ z → c ≠ TO → c ≠ i1 → c ≠ i2 → s.heap.get? c = some o → h₅.get? c = some o := fun c o c1 c2 c3 c4 e =>
    hs₅.extBut _ _ c2 (hs₄.extBut _ _ c4 (hs₃.extBut _ _ c2 (hs₂.extBut _ _ c3 (hs₁.extBut _ _ c1 e))))
  have h1₅ : h₅.IsTupleIter i1 l1 (k1 + 1) := ((h1₂.extBut hs₃.extBut D.TOi1.symm).extBut hs₄.extBut D.i12).extBut hs₅.extBut D.TOi1.symm
  have h2₅ : h₅.IsTupleIter i2 l2 (k2 + 1) := h2₄.extBut hs₅.extBut D.TOi2.symm
  have hzlt : z < h₅.objs.size := Heap.lt_size hz₅
  have hTOlt : TO < h₅.objs.size := Heap.lt_size hTO₅
  have hi1lt : i1 < h₅.objs.size := by obtain ⟨_, e, _⟩ := h1₅; exact Heap.lt_size e
  have hi2lt : i2 < h₅.objs.size := by obtain ⟨_, e, _⟩ := h2₅; exact Heap.lt_size e
  show wpAny _ _ (Builtin.SmallTypes.ownedTupleHandOut (.ref z) (.ref h₅.objs.size) >>= _) _ _ _
  refine wpAny_bind ?_
  unfold Builtin.SmallTypes.ownedTupleHandOut
  have hz₆ : IsZipS (h₅.push { cls := .type "tuple", data := .seq #[x, y] }) z TI TO .ellipsis := Heap.get?_push_of_some _ hz₅
  refine wpAny_bind (wpAny_setField_rec hz₆ (by simp) fun h₇ hz₇ hs₇ => ?_)
  replace hz₇ : IsZipS h₇ z TI TO (rawInt h₅.objs.size) := hz₇
  refine wpAny_setField_rec hz₇ (by simp) fun h₈ hz₈ hs₈ => ?_
  replace hz₈ : IsZipS h₈ z TI TO (rawInt h₅.objs.size) := hz₈
  have up : ∀ c o, c ≠ z → h₅.get? c = some o → h₈.get? c = some o := fun c o c1 e => hs₈.extBut _ _ c1 (hs₇.extBut _ _ c1 (Heap.get?_push_of_some _ e))
  have hT₈ : IsPair h₈ h₅.objs.size x y := hs₈.extBut _ _ (Nat.ne_of_gt hzlt) (hs₇.extBut _ _ (Nat.ne_of_gt hzlt) (Heap.get?_push_size _ rfl))
  have hz8 : h₈.objs.size = h₅.objs.size + 1 := by rw [hs₈.1, hs₇.1, Heap.size_push]
  rw [hsz] at hz₈ hT₈ hz8
  refine wpAny_pure ⟨_, rfl, ?_⟩
  show Q (.ref h₅.objs.size) _
  rw [hsz]
  exact hQ h₈ hz₈ (up _ _ D.TOz hTO₅) (h1₅.at fun o e => up _ o D.i1z e) (h2₅.at fun o e => up _ o D.i2z e) hT₈ hz8 fun c o c1 c2 c3 c4 e => up c o c1 (hk₅ c o c1 c2 c3 c4 e)
theorem next_end {z TI TO i1 i2 l1 l2 : Addr} {k1 k2 : Nat} {xs ys : Array Value} {a b : Value} {Q : Fin → Shared → Prop} (hh : A.handled = none) (D : ZipApart z TI TO i1 i2 l1 l2)
    (hz : IsZipS s.heap z TI TO .none) (hTI : IsPair s.heap TI (.ref i1) (.ref i2)) (hTO : IsPair s.heap TO a b)
    (h1 : s.heap.IsTupleIter i1 l1 k1) (h2 : s.heap.IsTupleIter i2 l2 k2) (hl1 : s.heap.IsTuple l1 xs) (hl2 : s.heap.IsTuple l2 ys) (hx : xs[k1]? = none) (hy : ys[k2]? = none)
    (hE : ∀ h' e, (∀ c o, c ≠ z → c ≠ TO → c ≠ i1 → c ≠ i2 → s.heap.get? c = some o → h'.get? c = some o) → (∃ o, h'.get? e = some o ∧ o.cls = .type "StopIteration") → E (.ref e) { s with heap := h' }) :
    wpAny (model prog w) A (Builtin.«zip.__next__» ⟨[.ref z], []⟩) Q E s := by
  show wpAny _ _ (field (.ref z) 2 >>= _) _ _ _
  refine wpAny_bind (wpAny_field hz rfl (x := .bool true) rfl ?_)
  show wpAny _ _ (field (.ref z) 3 >>= _) _ _ _
  refine wpAny_bind (wpAny_field hz rfl (x := .ref TI) rfl ?_)
  refine wpAny_bind (wpAny_seqItems hTI rfl ?_)
  show wpAny _ _ (Builtin.SmallTypes.ownedTupleIsFree (.ref z) >>= _) _ _ _
  refine wpAny_bind ?_
  unfold Builtin.SmallTypes.ownedTupleIsFree
  refine wpAny_bind (wpAny_field hz rfl (x := .none) rfl (wpAny_pure ?_))
  simp only [if_true]
  refine wpAny_bind (wpAny_rule ?_)
  refine wpAny_bind (wpAny_field hz rfl (x := .ref TO) rfl ?_)
  refine wpAny_bind (wpAny_setField_rec hz (by simp) fun h₁ hz₁ hs₁ => ?_)
  replace hz₁ : IsZipS h₁ z TI TO .ellipsis := hz₁
  refine wpAny_bind ?_
  simp only [List.zipIdx_cons, List.zipIdx_nil, List.forIn_cons, List.forIn_nil]
  refine wpAny_bind (wpAny_bind (wpAny_onRaise ?_))
  show wpAny _ _ (Builtin.SmallTypes.nextOrEnd (.ref i1)) _ _ _
  refine orEnd_end hh (h1.extBut hs₁.extBut D.i1z) (hl1.extBut hs₁.extBut D.l1z) hx fun h₂ hs₂ => ?_
  have hz₂ : IsZipS h₂ z TI TO .ellipsis := hs₂ _ _ D.i1z.symm hz₁
  dsimp only
  refine wpAny_bind (wpAny_setField_rec hz₂ (by simp) fun h₃ _ hs₃ => ?_)
  refine wpAny_bind ?_
  refine wpAny_bind ?_
  simp only [List.drop_succ_cons, List.drop_zero, List.zipIdx_cons, List.zipIdx_nil, List.forIn_cons, List.forIn_nil]
  have e3 : ∀ c o, c ≠ z → c ≠ i1 → s.heap.get? c = some o → h₃.get? c = some o := fun c o c1 c3 x => hs₃.extBut _ _ c1 (hs₂ _ _ c3 (hs₁.extBut _ _ c1 x))
  refine wpAny_bind (wpAny_bind (orEnd_end hh (h2.at fun o x => e3 _ o D.i2z D.i12.symm x) (hl2.at fun o x => e3 _ o D.l2z D.l2i1 x) hy fun h₄ hs₄ => ?_))
  have e4 : ∀ c o, c ≠ z → c ≠ i1 → c ≠ i2 → s.heap.get? c = some o → h₄.get? c = some o := fun c o c1 c3 c4 x => hs₄ _ _ c4 (e3 c o c1 c3 x)
  refine wpAny_pure ?_
  refine wpAny_pure ?_
  refine wpAny_bind (wpAny_rule ?_)
  unfold Builtin.SmallTypes.stopIteration
  show wpAny _ _ (newExc (.type "StopIteration") [] >>= _) _ _ _
  refine wpAny_bind ?_
  simp only [newExc, newTuple]
  refine wpAny_bind (wpAny_newObj_type ?_ (by size_fits))
  refine wpAny_bind (m := firstArgMember _ _) (wpAny_of_eq (a := Value.none) (by first | rfl | (simp only [firstArgMember]; rfl)) ?_)
  refine wpAny_newObj_type ?_ (by size_fits)
  simp only [raiseNew]
  refine wpAny_bind (wpAny_handled ?_)
  first | rw [show A.in1.handled = none from hh] | rw [hh]
  refine wpAny_bind (wpAny_pure (wpAny_throw ?_))
  exact hE _ _ (fun c o c1 c2 c3 c4 x => Heap.get?_push_of_some _ (Heap.get?_push_of_some _ (e4 c o c1 c3 c4 x))) ⟨_, Heap.get?_push_size _ rfl, rfl⟩
theorem pyNext_item {z TI TO i1 i2 l1 l2 : Addr} {k1 k2 : Nat} {xs ys : Array Value} {x y a b : Value} {Q : Option Value → Shared → Prop} (D : ZipApart z TI TO i1 i2 l1 l2)
    (hz : IsZipS s.heap z TI TO .none) (hTI : IsPair s.heap TI (.ref i1) (.ref i2)) (hTO : IsPair s.heap TO a b)
    (h1 : s.heap.IsTupleIter i1 l1 k1) (h2 : s.heap.IsTupleIter i2 l2 k2) (hl1 : s.heap.IsTuple l1 xs) (hl2 : s.heap.IsTuple l2 ys) (hx : xs[k1]? = some x) (hy : ys[k2]? = some y)
    (hQ : ∀ h', IsZipS h' z TI TO (rawInt s.heap.objs.size) → IsPair h' TO x y → h'.IsTupleIter i1 l1 (k1 + 1) → h'.IsTupleIter i2 l2 (k2 + 1) → IsPair h' s.heap.objs.size x y → h'.objs.size = s.heap.objs.size + 1 →
      (∀ c o, c ≠ z → c ≠ TO → c ≠ i1 → c ≠ i2 → s.heap.get? c = some o → h'.get? c = some o) → Q (some (.ref s.heap.objs.size)) { s with heap := h' }) :
    wpAny (model prog w) A (pyNext (.ref z)) Q E s := by
  have hT : s.TypeIs (.ref z) "zip" := ⟨_, hz, rfl⟩
  unfold pyNext
  exact wpAny_bind (wpAny_attempt (wpAny_callSpecial?_slot (name := Str.ofString "__next__") hT F.slot_zip_next
    (wpAny_call_entry F.slot_zip_next hT F.entry_zip_next
      (next_item D hz hTI hTO h1 h2 hl1 hl2 hx hy fun h' a1 a2 a3 a4 a5 a6 a7 => wpAny_pure (hQ h' a1 a2 a3 a4 a5 a6 a7)) (F.args_zip_next_1 _))))
theorem pyNext_end {z TI TO i1 i2 l1 l2 : Addr} {k1 k2 : Nat} {xs ys : Array Value} {a b : Value} {Q : Option Value → Shared → Prop} (hh : A.handled = none) (D : ZipApart z TI TO i1 i2 l1 l2)
    (hz : IsZipS s.heap z TI TO .none) (hTI : IsPair s.heap TI (.ref i1) (.ref i2)) (hTO : IsPair s.heap TO a b)
    (h1 : s.heap.IsTupleIter i1 l1 k1) (h2 : s.heap.IsTupleIter i2 l2 k2) (hl1 : s.heap.IsTuple l1 xs) (hl2 : s.heap.IsTuple l2 ys) (hx : xs[k1]? = none) (hy : ys[k2]? = none)
    (hQ : ∀ h', (∀ c o, c ≠ z → c ≠ TO → c ≠ i1 → c ≠ i2 → s.heap.get? c = some o → h'.get? c = some o) → Q none { s with heap := h' }) : wpAny (model prog w) A (pyNext (.ref z)) Q E s := by
  have hT : s.TypeIs (.ref z) "zip" := ⟨_, hz, rfl⟩
  unfold pyNext
  refine wpAny_bind (wpAny_attempt (wpAny_callSpecial?_slot (name := Str.ofString "__next__") hT F.slot_zip_next
    (wpAny_call_entry F.slot_zip_next hT F.entry_zip_next (next_end hh D hz hTI hTO h1 h2 hl1 hl2 hx hy fun h' e hk he => ?_) (F.args_zip_next_1 _))))
  obtain ⟨o, ho, hc⟩ := he
  refine wpAny_bind (wpAny_isInstance (T := "StopIteration") (b := true) ⟨o, ho, hc⟩ isSubtype_stop ?_)
  exact wpAny_pure (hQ _ hk)
theorem letGo_zipS {elts : List Expr} {x1} {pos : Pos} {z TI TO T : Addr} {Q : Unit → Shared → Prop} (hz : IsZipS s.heap z TI TO (rawInt T))
    (hQ : ∀ h', IsZipS h' z TI TO .none → Heap.SameBut z s.heap h' → Q () { s with heap := h' }) :
    wpAny (model prog w) A (letOwnedTupleGo (.Tuple elts x1 pos) (.ref z) (.ref T)) Q E s := by
  unfold letOwnedTupleGo
  refine wpAny_bind (wpAny_load hz ?_)
  show wpAny _ _ (if (["enumerate", "zip", "dict_itemiterator", "dict_reverseitemiterator", "odict_iterator", "itertools.zip_longest", "itertools.pairwise"].contains "zip" &&
      (#[rawInt T, .bool false, .bool true, .ref TI, .ref TO] : Array Value)[0]? == some (rawInt T)) = true then _ else _) Q E s
  rw [if_pos (by simp)]
  refine wpAny_bind (wpAny_rule ?_)
  show wpAny _ _ (setField (.ref z) 0 .none) Q E s
  exact wpAny_setField_rec hz (by simp) fun h' hz' hs' => hQ h' hz' hs'
theorem pyIter_zipS {z TI TO : Addr} {f0 : Value} {Q : Value → Shared → Prop} (hz : IsZipS s.heap z TI TO f0) (h : Q (.ref z) s) : wpAny (model prog w) A (pyIter (.ref z)) Q E s := by
  have hT : s.TypeIs (.ref z) "zip" := ⟨_, hz, rfl⟩
  refine wpAny_pyIter_slot hT F.slot_zip_iter (wpAny_call_entry F.slot_zip_iter hT F.entry_zip_iter ?_ (F.args_zip_iter_1 _))
  show wpAny _ _ (ret (.ref z)) _ _ s
  exact wpAny_pure ⟨_, rfl, "zip", _, hT, F.slot_zip_next.lookup, h⟩
open RZ in
theorem call_zipS {l1 l2 : Addr} {xs ys : Array Value} {Q : Value → Shared → Prop} (hl1 : s.heap.IsTuple l1 xs) (hl2 : s.heap.IsTuple l2 ys)
    (h : ∀ h', IsZipS h' (s.heap.objs.size + 4) (s.heap.objs.size + 2) (s.heap.objs.size + 3) .none → IsPair h' (s.heap.objs.size + 2) (.ref s.heap.objs.size) (.ref (s.heap.objs.size + 1)) →
      IsPair h' (s.heap.objs.size + 3) .none .none → h'.IsTupleIter s.heap.objs.size l1 0 → h'.IsTupleIter (s.heap.objs.size + 1) l2 0 → h'.objs.size = s.heap.objs.size + 5 →
      (∀ c o, s.heap.get? c = some o → h'.get? c = some o) → Q (.ref (s.heap.objs.size + 4)) { s with heap := h' }) :
    wpAny (model prog w) A (call (.type "zip") [.ref l1, .ref l2] kwS) Q E s := by
  refine callType_meets_kw (Q₁ := fun obj s₁ => s₁.TypeIs obj "zip" ∧ Q obj s₁) F.called_zip (typeCall_zip_S _ _) (newCall_zip_S _ _) F.entry_zip_new F.entry_object_init (meets_zipS_new l1 l2 xs ys) ⟨hl1, hl2, ?_⟩ fun obj _ hq =>
    ⟨hq.1, args_object_init_S _ _ _, _, object_init_meets_kw F.called_zip.init.lookup F.called_zip.made (by decide), hq.1, rfl, hq.2⟩
  have z1 : (zipTH1 s.heap l1).objs.size = s.heap.objs.size + 1 := Heap.size_push ..
  have z2 : (zipTH2 s.heap l1 l2).objs.size = s.heap.objs.size + 2 := by rw [Heap.size_push, z1]
  have z3 : (zipTH3 s.heap l1 l2).objs.size = s.heap.objs.size + 3 := by rw [Heap.size_push, z2]
  have z4 : (zipTH4 s.heap l1 l2).objs.size = s.heap.objs.size + 4 := by rw [Heap.size_push, z3]
  have z5 : (zH5 s.heap l1 l2).objs.size = s.heap.objs.size + 5 := by rw [Heap.size_push, z4]
  have g5 : (zH5 s.heap l1 l2).get? (zipTH4 s.heap l1 l2).objs.size = some _ := Heap.get?_push_size _ rfl
  have g4 : (zH5 s.heap l1 l2).get? (zipTH3 s.heap l1 l2).objs.size = some _ := Heap.get?_push_of_some _ (Heap.get?_push_size _ rfl)
  have g3 : (zH5 s.heap l1 l2).get? (zipTH2 s.heap l1 l2).objs.size = some _ := Heap.get?_push_of_some _ (Heap.get?_push_of_some _ (Heap.get?_push_size _ rfl))
  have g2 : (zH5 s.heap l1 l2).get? (zipTH1 s.heap l1).objs.size = some _ := Heap.get?_push_of_some _ (Heap.get?_push_of_some _ (Heap.get?_push_of_some _ (Heap.get?_push_size _ rfl)))
  have g1 : (zH5 s.heap l1 l2).get? s.heap.objs.size = some _ := Heap.get?_push_of_some _ (Heap.get?_push_of_some _ (Heap.get?_push_of_some _ (Heap.get?_push_of_some _ (Heap.get?_push_size _ rfl))))
  show _ ∧ _
  rw [z2, z3, z4] at g5
  rw [z1, z2] at g3
  rw [z3] at g4
  rw [z1] at g2
  rw [z4]
  exact ⟨⟨_, g5, rfl⟩, h _ g5 g3 g4 ⟨_, g1, rfl, rfl⟩ ⟨_, g2, rfl, rfl⟩ z5 fun c o x =>
    Heap.get?_push_of_some _ (Heap.get?_push_of_some _ (Heap.get?_push_of_some _ (Heap.get?_push_of_some _ (Heap.get?_push_of_some _ x))))⟩
end
end ZS

namespace ZS
open PySem PySem.Spec PyProof.Rows L2
/-- the tuples at a and b, of one length, as they stand at each turn -/
def ItzS (K : PySem.W.Frag) (a b : Addr) : It :=
  ⟨fun i H => ∃ (xs ys : List V) (x y : V), SqT K H a xs ∧ SqT K H b ys ∧ xs[i]? = some x ∧ ys[i]? = some y,
    fun i H v H' => ∃ T x y, v = .ref T ∧ H T = none ∧ H' = upd H T (.tup [x, y]) ∧ (∀ xs, SqT K H a xs → xs[i]? = some x) ∧ ∀ ys, SqT K H b ys → ys[i]? = some y,
    fun i H => ∃ xs ys : List V, SqT K H a xs ∧ SqT K H b ys ∧ xs.length ≤ i ∧ ys.length ≤ i⟩
theorem turn_zipS {P : Program} {w : World} {K : PySem.W.Frag} {elts : List Expr} {kk : Nat} {tpos : Pos} {a b z TI TO i1 i2 : Addr} (D : ZipApart z TI TO i1 i2 a b) :
    Turn P w K (.Tuple elts kk tpos) (ItzS K a b) [z, TI, TO, i1, i2] z (fun i h => IsZipS h z TI TO .none ∧ IsPair h TI (.ref i1) (.ref i2) ∧ (∃ x y, IsPair h TO x y) ∧ h.IsTupleIter i1 a i ∧ h.IsTupleIter i2 b i) where
  mem := by simp
  obj := fun i h st c hc => by
    obtain ⟨hz, hTI, ⟨x, y, hTO⟩, ⟨o1, e1, _, d1⟩, ⟨o2, e2, _, d2⟩⟩ := st
    have e' : c = z ∨ c = TI ∨ c = TO ∨ c = i1 ∨ c = i2 := by simpa using hc
    rcases e' with q | q | q | q | q
    · rw [q]; exact ⟨_, hz, fun v q => nomatch q⟩
    · rw [q]; exact ⟨_, hTI, fun v q => nomatch q⟩
    · rw [q]; exact ⟨_, hTO, fun v q => nomatch q⟩
    · rw [q]; exact ⟨o1, e1, fun v q => by rw [d1] at q; cases q⟩
    · rw [q]; exact ⟨o2, e2, fun v q => by rw [d2] at q; cases q⟩
  keep := fun i h h' st k => by
    obtain ⟨hz, hTI, ⟨x, y, hTO⟩, h1, h2⟩ := st
    exact ⟨k z (by simp) _ hz, k TI (by simp) _ hTI, ⟨x, y, k TO (by simp) _ hTO⟩, h1.at fun o q => k i1 (by simp) o q, h2.at fun o q => k i2 (by simp) o q⟩
  item := by
    intro X hP hw hK hc i pins s σ H E I hf st hg
    subst hP hw hK
    obtain ⟨hz, hTI, ⟨x0, y0, hTO⟩, h1, h2⟩ := st
    obtain ⟨xs, ys, x, y, hqx, hqy, hx, hy⟩ := hg
    obtain ⟨its, rv, p, _⟩ := I.tuple hqx
    obtain ⟨its2, rv2, p2, _⟩ := I.tuple hqy
    obtain ⟨u, hu, ru⟩ := rv.get hx
    obtain ⟨u2, hu2, ru2⟩ := rv2.get hy
    have hzl : z < s.heap.objs.size := Heap.lt_size hz
    refine pyNext_item D hz hTI hTO h1 h2 p p2 (x := u) (y := u2) (by simpa using hu) (by simpa using hu2) fun h' z' TO' h1' h2' hT hsz hk => ?_
    refine ⟨_, rfl, letGo_zipS (s := { s with heap := h' }) z' fun h'' z'' sb => ?_⟩
    have hT2 : h''.get? s.heap.objs.size = some { cls := .type "tuple", data := .seq #[u, u2] } := (sb.2 _ (Nat.ne_of_gt hzl)).trans hT
    have new : ObjOk X.prog X.w (upd H s.heap.objs.size (.tup [x, y])) h'' s.heap.objs.size (.tup [x, y]) :=
      ⟨by show 2 ≤ sizeLine; decide, [u, u2], .cons ru (.cons ru2 .nil), ⟨_, hT2, rfl, _, rfl⟩⟩
    have I1 : Inv X pins σ (upd H s.heap.objs.size (.tup [x, y])) { s with heap := h'' } :=
      I.turnedNew (t' := s.toks) (ch := [z, TI, TO, i1, i2]) (fun c o hb q => (sb.2 c (fun q' => hb (by simp [q']))).trans (hk c o (fun q' => hb (by simp [q'])) (fun q' => hb (by simp [q'])) (fun q' => hb (by simp [q'])) (fun q' => hb (by simp [q'])) q)) hf (Nat.le_refl _) new
    refine ⟨.ref s.heap.objs.size, _, I1, rfl, ⟨_, x, y, rfl, I.hok.fresh (Nat.le_refl _), rfl, fun l hl => by rw [I.tuple_inj hl hqx]; exact hx, fun l hl => by rw [I.tuple_inj hl hqy]; exact hy⟩, ⟨z'', ?_, ⟨u, u2, ?_⟩, ?_, ?_⟩, fun c hcm => ?_⟩
    · exact (sb.2 _ D.TIz).trans (hk _ _ D.TIz D.TITO D.TIi1 D.TIi2 hTI)
    · exact (sb.2 _ D.TOz).trans TO'
    · exact h1'.at fun o q => (sb.2 _ D.i1z).trans q
    · exact h2'.at fun o q => (sb.2 _ D.i2z).trans q
    · have hlt : c < s.heap.objs.size := by
        have e' : c = z ∨ c = TI ∨ c = TO ∨ c = i1 ∨ c = i2 := by simpa using hcm
        rcases e' with q | q | q | q | q
        · rw [q]; exact hzl
        · rw [q]; exact Heap.lt_size hTI
        · rw [q]; exact Heap.lt_size hTO
        · rw [q]; obtain ⟨_, e1, _⟩ := h1; exact Heap.lt_size e1
        · rw [q]; obtain ⟨_, e2, _⟩ := h2; exact Heap.lt_size e2
      rw [upd_ne (Nat.ne_of_lt hlt)]
      exact (hf c hcm).1
  done := by
    intro X hP hw hK hc i pins s σ H E I hf st hg
    subst hP hw hK
    obtain ⟨hz, hTI, ⟨x0, y0, hTO⟩, h1, h2⟩ := st
    obtain ⟨xs, ys, hqx, hqy, hex, hey⟩ := hg
    obtain ⟨its, rv, p, _⟩ := I.tuple hqx
    obtain ⟨its2, rv2, p2, _⟩ := I.tuple hqy
    have l1 := rv.length
    have l2 := rv2.length
    exact pyNext_end (I.ok.hd hc) D hz hTI hTO h1 h2 p p2 (by simp; omega) (by simp; omega) fun h' hk => ⟨rfl, I.turnedL (t' := s.toks) (ch := [z, TI, TO, i1, i2]) (fun c o hb q =>
      hk c o (fun q' => hb (by simp [q'])) (fun q' => hb (by simp [q'])) (fun q' => hb (by simp [q'])) (fun q' => hb (by simp [q'])) q) hf⟩
  self := fun A i s Q E st h => pyIter_zipS st.1 h
theorem callWith_type_kw {M : Model} {A : Around} {E : Value → Shared → Prop} {s : Shared} {pos : Pos} {T : String} {first : List Value} {args : List (Bool × Sem Value)} {keywords : List (Option Str × Sem Value)} {Q : Value → Shared → Prop}
    (hplain : args.any (·.1) = false) (hkw : keywords.any (·.1.isNone) = false)
    (h : wpAny M A (evalArgs (.type T) true args keywords) (fun a s₁ => wpAny M A (call (.type T) (first ++ a.pos) a.kw) Q E s₁) E s) :
    wpAny M A (callWith pos (.type T) first args keywords) Q E s := by
  unfold callWith
  refine wpAny_bind (wpAny_holding (wpAny_mono h (fun a s₁ h₁ => wpAny_bind (wpAny_standAt ?_)) fun _ _ x => x))
  simp only [hplain, hkw, Bool.or_false]
  refine wpAny_bind (wpAny_pure ?_)
  exact wpAny_bind (wpAny_mono h₁ (fun r s₂ hr => wpAny_bind (wpAny_holding (wpAny_point (wpAny_pure hr)))) fun _ _ x => x)
def iZipS (K : PySem.W.Frag) (ta : TA) : TI := fun σ H R => ta σ H fun vs H1 => ∃ a b xs ys, vs = [.ref a, .ref b] ∧ SqT K H1 a xs ∧ SqT K H1 b ys ∧ R (ItzS K a b) H1
theorem pi_zipS {X : Cx} {e e2 : Expr} {ta : TA} {j} {p pos tpos kpos cpos : Pos} {elts : List Expr} {kk : Nat} (hg : Gl X "zip") (hm : X.mg "zip" = none) (ha : PA X [e, e2] ta)
    (hs : starEach [e, e2] X.env = (false, eval e X.env) :: starEach [e2] X.env := by rfl) (hpl : (backTo pos (starEach [e2] X.env)).any (·.1) = false := by rfl)
    (he : backTo pos (starEach [e, e2] X.env) = (false, eval e X.env) :: backTo pos (starEach [e2] X.env) := by rfl)
    (hall : (backToKw pos (keywordEach [⟨some "strict", .Constant (.bool true) j cpos, kpos⟩] X.env)).all (·.1.isSome) = true := by rfl) (hnone : (backToKw pos (keywordEach [⟨some "strict", .Constant (.bool true) j cpos, kpos⟩] X.env)).any (·.1.isNone) = false := by rfl)
    (hks : (backToKw pos (keywordEach [⟨some "strict", .Constant (.bool true) j cpos, kpos⟩] X.env)).filterMap (·.1) = [Str.ofString "strict"] := by rfl) :
    PI X (.Tuple elts kk tpos) (.Call (.Name "zip" p) [e, e2] [⟨some "strict", .Constant (.bool true) j cpos, kpos⟩] pos) (iZipS X.K ta) := by
  refine ⟨fun pins s σ H R I h => ?_⟩
  have hk : PK X [⟨some "strict", .Constant (.bool true) j cpos, kpos⟩] _ := pk_cons pe_bl pk_nil
  have hplain : (backTo pos (starEach [e, e2] X.env)).any (·.1) = false := by rw [he]; show (false || (backTo pos (starEach [e2] X.env)).any (·.1)) = false; rw [hpl]; rfl
  refine wpAny_Call_Name_kw (ld_blt I hg hm PyProof.Rows.boot_zip (callWith_type_kw hplain hnone ?_))
  rw [he]
  refine evalArgs_kwB hall ?_
  rw [← he]
  refine thn (ha.run pos pins s σ H _ I h) fun us s1 ⟨vs, H1, I1, r1, q1⟩ => thn (hk.run pos pins s1 σ H1 (fun zs H2 => zs = [V.bl true] ∧ H2 = H1) I1 ⟨rfl, rfl⟩) fun ws s2 ⟨zs, H2, I2, r2, q2⟩ => ?_
  obtain ⟨rfl, rfl⟩ := q2
  obtain ⟨w1, rfl, e1⟩ := vals1 r2
  obtain rfl : w1 = Value.bool true := e1
  rw [hks]
  obtain ⟨a, b, xs, ys, ex, hqx, hqy, q⟩ := q1
  subst ex
  cases r1 with
  | cons r rr =>
    cases rr with
    | cons r' rr =>
      cases rr
      cases r
      cases r'
      have fresh5 : ∀ c, c ∈ [s2.heap.objs.size + 4, s2.heap.objs.size + 2, s2.heap.objs.size + 3, s2.heap.objs.size, s2.heap.objs.size + 1] → FpOk X pins H2 c := fun c hcm => by
        have e' : c = s2.heap.objs.size + 4 ∨ c = s2.heap.objs.size + 2 ∨ c = s2.heap.objs.size + 3 ∨ c = s2.heap.objs.size ∨ c = s2.heap.objs.size + 1 := by simpa using hcm
        have hle : s2.heap.objs.size ≤ c := by
          rcases e' with z | z | z | z | z
          · rw [z]; exact Nat.le_add_right _ _
          · rw [z]; exact Nat.le_add_right _ _
          · rw [z]; exact Nat.le_add_right _ _
          · rw [z]; exact Nat.le_refl _
          · rw [z]; exact Nat.le_add_right _ _
        exact I2.fpOk hle (I2.hok.fresh hle)
      obtain ⟨its, rv, p1, _⟩ := I2.tuple hqx
      obtain ⟨its2, rv2, p2, _⟩ := I2.tuple hqy
      obtain ⟨o1, ho1, _⟩ := id p1
      obtain ⟨o2, ho2, _⟩ := id p2
      refine call_zipS (show s2.heap.IsTuple a its.toArray from p1) (show s2.heap.IsTuple b its2.toArray from p2) fun h' hz hTI hTO h1 h2 hsz hk => pyIter_zipS hz ?_
      have I3 : Inv X pins σ H2 { s2 with heap := h' } := I2.kept (t' := s2.toks) hk
      exact ⟨s2.heap.objs.size + 4, [s2.heap.objs.size + 4, s2.heap.objs.size + 2, s2.heap.objs.size + 3, s2.heap.objs.size, s2.heap.objs.size + 1], _, _, H2, rfl, I3, turn_zipS (PySem.W.ktu_apart s2.heap.objs.size a b (Heap.lt_size ho1) (Heap.lt_size ho2)), ⟨hz, hTI, ⟨_, _, hTO⟩, h1, h2⟩, fresh5, q⟩
end ZS
namespace DD
open PySem PySem.Spec L2
open PyProof.Rows hiding St
def zipS (a c : A) : Option (List D) := match tupD a.frz, tupD c.frz with
  | some l, some k => if l.length = k.length then some (zipD l k) else none
  | _, _ => none
def dZipS (f g : M A) : M (List D) := f.bind fun a => g.bind fun c => ofO (zipS a c)
section
variable {C : SC} {X : Cx} {e e2 : Expr} {f g : M A} {pos p tpos kpos cpos : Pos} {elts : List Expr} {kk : Nat}
theorem isIt_zipS {a c : Addr} {l k : List D} (hl : l.length = k.length) : IsIt C (ZS.ItzS C.K a c) [.ref c, .ref a] [.v (.tup k), .v (.tup l)] (zipD l k) := by
  intro b Z H σ ρ vs as S
  have t := Sta.top2 S
  have t2 := Sta.top S
  cases t with
  | @tup _ xs _ h1 r =>
    cases t2 with
    | @tup _ ys _ h2 r2 =>
      have hs := sameT S.zh h1
      have hs2 := sameT S.zh h2
      refine ⟨fun i d hi => ?_, xs, ys, hs, hs2, ?_, ?_⟩
      · obtain ⟨u, w, hu, hw, rfl⟩ := zipD_get hi
        obtain ⟨x, hx, rx⟩ := r.get hu
        obtain ⟨y, hy, ry⟩ := r2.get hw
        refine ⟨⟨xs, ys, x, y, hs, hs2, hx, hy⟩, fun z H' ⟨T, x', y', e1, hT, e2, f1, f2⟩ => ?_⟩
        subst e1 e2
        have q1 := f1 xs hs
        have q2 := f2 ys hs2
        rw [hx] at q1
        rw [hy] at q2
        cases q1
        cases q2
        exact ⟨_, S.newF (o := .tup [x, y]) hT (.tup (SqT.of upd_same) (RepDs.mono (same_upd (S.zh.free hT)) _ _ (.cons rx (.cons ry .nil))))⟩
      · rw [zipD_len, r.length]
        omega
      · rw [zipD_len, r2.length]
        omega
theorem di_zipS {j} (hK : X.K = C.K) (hg : Gl X "zip") (hm : X.mg "zip" = none) (ha : PE X e (tE C f)) (hb : PE X e2 (tE C g)) (hs : starEach [e, e2] X.env = (false, eval e X.env) :: starEach [e2] X.env := by rfl) (hpl : (backTo pos (starEach [e2] X.env)).any (·.1) = false := by rfl)
    (ht2 : starEach (e2 :: []) X.env = (false, eval e2 X.env) :: starEach [] X.env := by rfl) (he : backTo pos (starEach [e, e2] X.env) = (false, eval e X.env) :: backTo pos (starEach [e2] X.env) := by rfl)
    (hall : (backToKw pos (keywordEach [⟨some "strict", .Constant (.bool true) j cpos, kpos⟩] X.env)).all (·.1.isSome) = true := by rfl) (hnone : (backToKw pos (keywordEach [⟨some "strict", .Constant (.bool true) j cpos, kpos⟩] X.env)).any (·.1.isNone) = false := by rfl)
    (hks : (backToKw pos (keywordEach [⟨some "strict", .Constant (.bool true) j cpos, kpos⟩] X.env)).filterMap (·.1) = [Str.ofString "strict"] := by rfl) :
    PI X (.Tuple elts kk tpos) (.Call (.Name "zip" p) [e, e2] [⟨some "strict", .Constant (.bool true) j cpos, kpos⟩] pos) (tI C (dZipS f g)) := by
  refine PI.w (ZS.pi_zipS hg hm (pa_cons ha (pa_cons hb pa_nil ht2) hs) hs hpl he hall hnone hks) fun σ H R k => ?_
  refine (Go.bindE k).mono fun x H1 ⟨a, k1⟩ => (Go.bindE k1).mono fun y H2 ⟨c, k2⟩ => ?_
  obtain ⟨ds, e1, b, Z, ρ, vs, as, hb, _, S, k3⟩ := go_ofO k2
  rw [hK]
  obtain ⟨Z', S'⟩ := Sta.freeze2 (vs := vs) (as := as) S
  have t := Sta.top2 S'
  have t2 := Sta.top S'
  unfold zipS at e1
  split at e1
  · rename_i l k h1 h2
    split at e1
    · rename_i hl
      cases e1
      generalize a.frz = d at h1 t S'
      generalize c.frz = d2 at h2 t2 S'
      cases t with
      | @tup q xs l' h3 r =>
        cases h1
        cases t2 with
        | @tup q2 ys k' h4 r2 =>
          cases h2
          exact ⟨q, q2, xs, ys, rfl, sameT S'.zh h3, sameT S'.zh h4, k3 _ _ [.ref q2, .ref q] [.v (.tup _), .v (.tup _)] _ rfl S' (isIt_zipS hl)⟩
        | _ => cases h2
      | _ => cases h1
    · cases e1
  · cases e1
end
section
variable {ρ : DEnv} {E : Ex → DEnv → Prop} {f g : M A} {QD : List D → DEnv → Prop}
theorem w_zipS (k : Wp (f ρ) (fun a ρ1 => Wp (g ρ1) (fun c ρ2 => Wo (zipS a c) fun ds => QD ds ρ2) E) E) : Wp (dZipS f g ρ) QD E := wp_bind (wp_mono k (fun _ _ k => wp_bind (wp_mono k (fun _ _ k => wp_ofO k) fun _ _ z => z)) fun _ _ z => z)
theorem wo_zipS {l k : List D} {P : List D → Prop} (h : l.length = k.length) (q : P (zipD l k)) : Wo (zipS (.v (.tup l)) (.v (.tup k))) P := wo_eq (if_pos h) q
end
/-- a statement that is not reached -/
def dBad : M Flow := fun _ => .bad
theorem ds_bad {X : Cx} {C : SC} {st : Stmt} {t : TS} (h : PS X st t) : PS X st (tS C dBad) := PS.w h fun D σ H ⟨_, _, _, _, _, _, _, _, k⟩ => k.elim
theorem ds_bad0 {X : Cx} {C : SC} {st : Stmt} : PS X st (tS C dBad) := ⟨fun _ _ _ _ _ _ ⟨_, _, _, _, _, _, _, _, k⟩ => k.elim⟩
end DD

namespace DD
open PySem PySem.Spec L2
open PyProof.Rows hiding St
structure NumX (g : Int) (R : Type) [Lean.Grind.CommRing R] extends Num g R where
  inj : ∀ r s, dN (p r) (q r) = dN (p s) (q s) → r = s
  S : Nat → Nat → R → Prop
  SB : ∀ {L n k : Nat} {r : R}, 0 < L → S L n r → Bd k (L : Int) → n ≤ k → 4 ≤ k → Bd k (p r) ∧ Bd k (q r)
  Sadd : ∀ {L n m : Nat} {r s : R}, S L n r → S L m s → S L (max n m + 1) (r + s)
  Smul : ∀ {L K n m : Nat} {r s : R}, S L n r → S K m s → S (L * K) (n + m) (r * s)
  Szero : ∀ L n : Nat, S L n 0
  Sone : ∀ {L n : Nat}, Bd n (L : Int) → S L n 1
  Sex : ∀ {L n : Nat} {u d : Int} {r : R}, canon g u d = dN (p r) (q r) → 0 < d → d.toNat ∣ L → 0 < L → Bd n (u * (L / d.toNat : Nat)) → S L n r
section
variable {g : Int} {R : Type} [Lean.Grind.CommRing R] (N : NumX g R)
abbrev NumX.nm (r : R) : D := N.toNum.nm r
abbrev NumX.B (n : Nat) (r : R) : Prop := N.toNum.B n r
variable {N} {L n m k : Nat} {r s : R}
theorem NumX.S_B (hL : 0 < L) (h : N.S L n r) (hk : Bd k (L : Int)) (hn : n ≤ k) (h4 : 4 ≤ k) : N.B k r := let ⟨a, b⟩ := N.SB hL h hk hn h4; ⟨a, b⟩
theorem NumX.nm_inj (h : N.nm r = N.nm s) : r = s := N.inj r s h
end
/-- over 0 -/
def S0 (L n : Nat) (r : Rat) : Prop := ∃ m : Int, Bd n m ∧ r * (L : Rat) = (m : Rat)
theorem ratL {L : Nat} (hL : 0 < L) : (L : Rat) ≠ 0 := fun h => by
  have := congrArg Rat.num h
  have e : ((L : Rat)).num = (L : Int) := Rat.num_natCast L
  rw [e] at this
  have : (L : Int) = 0 := this
  omega
theorem S0.mk {L n : Nat} {r : Rat} (hL : 0 < L) (h : S0 L n r) : ∃ m : Int, Bd n m ∧ mkRat m L = r := by
  obtain ⟨m, hm, e⟩ := h
  refine ⟨m, hm, ?_⟩
  have hL' := ratL hL
  rw [Rat.mkRat_eq_div, ← e, Rat.div_def, Rat.mul_assoc, Rat.mul_inv_cancel _ hL', Rat.mul_one]
theorem S0.SB {L n k : Nat} {r : Rat} (hL : 0 < L) (h : S0 L n r) (hk : Bd k (L : Int)) (hn : n ≤ k) (h4 : 4 ≤ k) : Bd k r.num ∧ Bd k (r.den : Int) := by
  obtain ⟨m, hm, rfl⟩ := h.mk hL
  obtain ⟨x, y, e, h1, h2⟩ := canon_bd (g := 0) (u := m) (d := L) h4 (by decide) (hm.mono hn) hk
  have := (canon_nat (u := m) (d := L) (by omega)).symm.trans e
  obtain ⟨e1, e2⟩ := dN_inj this
  exact ⟨e1 ▸ h1, e2 ▸ h2⟩
theorem S0.ex {L n : Nat} {u d : Int} {r : Rat} (h : canon 0 u d = dN r.num r.den) (hd : 0 < d) (hdiv : d.toNat ∣ L) (hL : 0 < L) (hu : Bd n (u * (L / d.toNat : Nat))) : S0 L n r := by
  refine ⟨_, hu, ?_⟩
  have e := (rat_canon (u := u) hd).symm.trans h
  obtain ⟨e1, e2⟩ := dN_inj e
  have er : mkRat u d.toNat = r := Rat.ext e1 (by exact_mod_cast e2)
  obtain ⟨c, hc⟩ := hdiv
  have hd0 : 0 < d.toNat := by omega
  have hc0 : L / d.toNat = c := by rw [hc, Nat.mul_div_cancel_left _ hd0]
  have hdr := ratL hd0
  rw [hc0, ← er, Rat.mkRat_eq_div, hc, Rat.natCast_mul, Rat.intCast_mul]
  generalize ((d.toNat : Nat) : Rat) = D at hdr
  have : ((c : Int) : Rat) = (c : Rat) := rfl
  rw [this]
  grind
def numX0 : NumX 0 Rat where
  toNum := num0
  inj r s h := by
    obtain ⟨e1, e2⟩ := dN_inj h
    have e2 : (r.den : Int) = s.den := e2
    exact Rat.ext e1 (by exact_mod_cast e2)
  S := S0
  SB := S0.SB
  Sadd := by
    rintro L n m r s ⟨a, ha, e1⟩ ⟨b, hb, e2⟩
    exact ⟨a + b, ha.addx hb, by rw [Rat.intCast_add]; grind⟩
  Smul := by
    rintro L K n m r s ⟨a, ha, e1⟩ ⟨b, hb, e2⟩
    exact ⟨a * b, ha.mul hb, by rw [Rat.intCast_mul, Rat.natCast_mul]; grind⟩
  Szero L n := ⟨0, Bd.zero, by grind⟩
  Sone := fun {L n} h => ⟨L, h, by rw [Rat.one_mul]; rfl⟩
  Sex := fun h h1 h2 h3 h4 => S0.ex h h1 h2 h3 h4
/-- over g -/
theorem fin_canon {g : Int} {u : Int} (hg : 2 ≤ g) : canon g u 1 = dN (u.fmod g) 1 := by unfold canon; rw [if_pos (by omega)]
def numXF (n : Nat) [NeZero n] (hn : 2 ≤ n) (h13 : n ≤ 13) : NumX (n : Int) (_root_.Fin n) where
  p r := (r.val : Int)
  q _ := 1
  okp r s := by unfold okd; rw [if_pos (by omega)]; rfl
  ok1 r := by unfold okd; rw [if_pos (by omega)]
  add r s := by
    rw [Int.mul_one, Int.mul_one, Int.mul_one, fin_canon (by omega), Fin.val_add, Int.fmod_eq_emod_of_nonneg _ (by omega), Int.natCast_emod, Int.natCast_add]
  mul r s := by
    rw [Int.mul_one, fin_canon (by omega), Fin.val_mul, Int.fmod_eq_emod_of_nonneg _ (by omega), Int.natCast_emod, Int.natCast_mul]
  neg r := by
    rw [fin_canon (by omega), Fin.neg_def, Int.fmod_eq_emod_of_nonneg _ (by omega)]
    have hr := r.isLt
    show dN _ _ = dN (((n - r.val) % n : Nat) : Int) 1
    rw [Int.natCast_emod, Int.natCast_sub (by omega)]
    have : (0 - (r.val : Int)) % (n : Int) = ((n : Int) - (r.val : Int)) % (n : Int) := by
      rw [Int.sub_eq_add_neg (a := (n : Int)), Int.add_comm (n : Int), Int.add_emod_right, Int.zero_sub]
    rw [this]
  zero := rfl
  one := by
    show dN (((1 % n : Nat) : Int)) 1 = _
    rw [Nat.mod_eq_of_lt (by omega)]
    rfl
  mone := by
    rw [fin_canon (by omega), Fin.neg_def, Int.fmod_eq_emod_of_nonneg _ (by omega)]
    show dN _ _ = dN (((n - (1 % n)) % n : Nat) : Int) 1
    rw [Nat.mod_eq_of_lt (show 1 < n by omega), Int.natCast_emod, Int.natCast_sub (by omega)]
    have : (-1 : Int) % (n : Int) = ((n : Int) - ((1 : Nat) : Int)) % (n : Int) := by
      rw [Int.sub_eq_add_neg (a := (n : Int)), Int.add_comm (n : Int), Int.add_emod_right]
      rfl
    rw [this]
  ex u d _ h := by
    unfold okd at h
    rw [if_pos (by omega)] at h
    subst h
    rw [fin_canon (by omega)]
    have hr := fmod_range (i := u) (j := (n : Int)) (by omega)
    refine ⟨⟨(u.fmod n).toNat, by omega⟩, ?_⟩
    show dN _ _ = dN (((u.fmod n).toNat : Nat) : Int) 1
    rw [Int.toNat_of_nonneg hr.1]
  good r := by
    unfold numB dN
    have := r.isLt
    dsimp only
    rw [if_pos (by omega), decide_eq_true (by omega), decide_eq_true (by omega)]
    rfl
  inj r s h := by
    obtain ⟨e1, _⟩ := dN_inj h
    exact Fin.ext (by exact_mod_cast e1)
  S _ _ _ := True
  SB := fun {L m k r} _ h _ _ h4 => by
    have := r.isLt
    refine ⟨Bd.mono (n := 4) ?_ h4, Bd.one (by omega)⟩
    unfold Bd
    have e : (2:Nat) ^ 4 = 16 := by decide
    rw [Int.natAbs_natCast]
    omega
  Sadd := fun _ _ => trivial
  Smul := fun _ _ => trivial
  Szero _ _ := trivial
  Sone := fun _ => trivial
  Sex := fun _ _ _ _ _ => trivial
theorem numX_of {g : Int} (h : g = 0 ∨ 2 ≤ g) (h13 : g ≤ 13) : ∃ (R : Type) (_ : Lean.Grind.CommRing R), Nonempty (NumX g R) := by
  rcases h with rfl | h
  · exact ⟨Rat, inferInstance, ⟨numX0⟩⟩
  · have e : ((g.toNat : Nat) : Int) = g := Int.toNat_of_nonneg (by omega)
    have : NeZero g.toNat := ⟨by omega⟩
    have k : NumX ((g.toNat : Nat) : Int) (_root_.Fin g.toNat) := numXF g.toNat (by omega) (by omega)
    rw [e] at k
    exact ⟨_root_.Fin g.toNat, inferInstance, ⟨k⟩⟩
end DD

namespace DD
open PySem PySem.Spec L2
open PyProof.Rows hiding St
theorem w_compMap {α : Type} {sl : List Nat} {gg : D → M Unit} {elt : M A} {E : Ex → DEnv → Prop} (f : α → D) (h : α → A) {ρ0 : DEnv} : ∀ {xs : List α} {ds : List D} {QL : List A → DEnv → Prop}, ds = xs.map f →
    (∀ x ∈ xs, Wp (gg (f x) ρ0) (fun _ ρ1 => Wp (elt ρ1) (fun a ρ3 => a = h x ∧ wipeE ρ3 sl = ρ0) E) E) → QL (xs.map h) ρ0 → Wp (compL sl gg (M.pure true) elt ds ρ0) QL E
  | [], _, QL, rfl, _, k => w_compnil k
  | x :: xs, _, QL, rfl, st, k => by
    refine w_compcons (wp_mono (st x (by simp)) (fun _ ρ1 k1 => wp_pure (wk_t (wp_mono k1 (fun a ρ3 ⟨e1, e2⟩ => ?_) fun _ _ z => z))) fun _ _ z => z)
    subst e1
    rw [e2]
    exact w_compMap f h (xs := xs) (QL := fun l ρ4 => QL (h x :: l) ρ4) rfl (fun y hy => st y (List.mem_cons_of_mem _ hy)) k
mutual
def Pl (n : Nat) : D → Prop
  | .int i => Bd n i
  | .tup l => Pls n l
  | .lst l => Pls n l
  | .fz l => Pls n l
  | .ins _ _ _ => False
  | _ => True
def Pls (n : Nat) : List D → Prop
  | [] => True
  | d :: l => Pl n d ∧ Pls n l
end
theorem pls_iff {n : Nat} : ∀ {l : List D}, Pls n l ↔ ∀ d ∈ l, Pl n d
  | [] => by simp [Pls]
  | d :: l => by simp [Pls, pls_iff (l := l)]
theorem Pl.kind {n : Nat} {d : D} (h : Pl n d) : kindD d ≠ "" := by
  cases d with
  | ins _ _ _ => exact absurd h (by simp [Pl])
  | _ => simp [kindD]
theorem pl_tup {n : Nat} {l : List D} : Pl n (.tup l) ↔ ∀ d ∈ l, Pl n d := by rw [← pls_iff]; simp [Pl]
theorem pl_lst {n : Nat} {l : List D} : Pl n (.lst l) ↔ ∀ d ∈ l, Pl n d := by rw [← pls_iff]; simp [Pl]
theorem pl_int {n : Nat} {i : Int} : Pl n (.int i) ↔ Bd n i := by simp [Pl]
theorem pl_bl {n : Nat} {b : Bool} : Pl n (.bl b) := by simp [Pl]
theorem pl_str {n : Nat} {b : Str} : Pl n (.str b) := by simp [Pl]
theorem pl_non {n : Nat} : Pl n .non := by simp [Pl]
mutual
theorem Pl.mono {n m : Nat} (k : n ≤ m) : ∀ (d : D), Pl n d → Pl m d
  | .int i, h => by simp only [Pl] at h ⊢; exact h.mono k
  | .tup l, h => by simp only [Pl] at h ⊢; exact Pls.mono k l h
  | .lst l, h => by simp only [Pl] at h ⊢; exact Pls.mono k l h
  | .fz l, h => by simp only [Pl] at h ⊢; exact Pls.mono k l h
  | .ins _ _ _, h => by simp [Pl] at h
  | .non, _ => by simp [Pl]
  | .bl _, _ => by simp [Pl]
  | .str _, _ => by simp [Pl]
theorem Pls.mono {n m : Nat} (k : n ≤ m) : ∀ (l : List D), Pls n l → Pls m l
  | [], _ => by simp [Pls]
  | d :: l, h => by simp only [Pls] at h ⊢; exact ⟨Pl.mono k d h.1, Pls.mono k l h.2⟩
end
theorem bls_map {α : Type} {F : α → Bool} : ∀ l : List α, bls (l.map fun d => .bl (F d)) = some (l.map F)
  | [] => rfl
  | d :: l => by simp [bls, bls_map l]
theorem all_map {α : Type} {F : α → Bool} {l : List α} : opAll [.m (l.map fun d => A.v (.bl (F d)))] = some (.v (.bl (l.all F))) := by
  have e : (A.m (l.map fun d => A.v (.bl (F d)))).frz = .lst (l.map fun d => .bl (F d)) := by
    show D.lst (frzs _) = _
    rw [frzs_eq, List.map_map]
    rfl
  unfold opAll opBs
  dsimp only
  rw [e]
  unfold lstD
  rw [Option.bind_some, bls_map, Option.map_some]
  congr 3
  rw [List.all_map]
  rfl
def rowB (g m : Int) (d : D) : Bool := match d with
  | .tup l => decide ((l.length : Int) = m) && l.all (numB g)
  | _ => false
def tabB (g h m : Int) (d : D) : Bool := match d with
  | .tup l => decide ((l.length : Int) = h) && l.all (rowB g m)
  | _ => false
section
variable {g : Int} {R : Type} [Lean.Grind.CommRing R] (N : NumX g R)
def rwD (l : List R) : D := .tup (l.map N.nm)
def tbD (t : List (List R)) : D := .tup (t.map (rwD N))
variable {N}
theorem rwD_inj {l k : List R} (h : rwD N l = rwD N k) : l = k := by
  unfold rwD at h
  have h : l.map N.nm = k.map N.nm := by simpa using h
  exact List.map_inj_right (fun r s e => NumX.nm_inj e) |>.mp h
theorem rowB_rw {l : List R} {m : Int} : rowB g m (rwD N l) = decide ((l.length : Int) = m) := by
  unfold rowB rwD
  dsimp only
  have e : l.all (numB g ∘ N.nm) = true := List.all_eq_true.mpr fun r _ => N.good r
  rw [List.length_map, List.all_map, e, Bool.and_true]
theorem okc_nmX {r : R} : okc 1 (N.nm r) = true := okc_tup fun d hd => by simp at hd; rcases hd with rfl | rfl <;> exact okc_int
theorem okc_rw {l : List R} : okc 2 (rwD N l) = true := okc_tup fun d hd => by
  obtain ⟨r, _, rfl⟩ := List.mem_map.mp hd
  exact okc_nmX
theorem okc_tb {t : List (List R)} : okc 3 (tbD N t) = true := okc_tup fun d hd => by
  obtain ⟨r, _, rfl⟩ := List.mem_map.mp hd
  exact okc_rw
end
theorem eqv_bls : ∀ {l k : List Bool}, l = k → PyData.eqv (D.lst (l.map .bl)).py (D.lst (k.map .bl)).py = true := fun {l k} h => by
  subst h
  exact eqv_self (k := 1) (okc_lst fun d hd => by
    obtain ⟨b, _, rfl⟩ := List.mem_map.mp hd
    simp [okc])
end DD

namespace DD
open PySem PySem.Spec L2
open PyProof.Rows hiding St
section
variable {R : Type} [Lean.Grind.CommRing R]
def thrF (acc : List R) (p : R × List R) : List R := List.zipWith (· + ·) acc (p.2.map (· * p.1))
def thr (m : Nat) (x : List R) (t : List (List R)) : List R := (x.zip t).foldl thrF (List.replicate m 0)
def trn (m : Nat) (t : List (List R)) : List (List R) := (List.range m).map fun k => t.map fun l => l.getD k 0
def cel (x : List R) (t : List (List R)) (j : Nat) : R := ((List.range t.length).map fun k => x.getD k 0 * (t.getD k []).getD j 0).foldl (· + ·) 0
theorem thrF_len {m : Nat} {acc : List R} {p : R × List R} (h : acc.length = m) (hp : p.2.length = m) : (thrF acc p).length = m := by
  unfold thrF
  rw [List.length_zipWith, List.length_map, h, hp, Nat.min_self]
theorem getD_at {α : Type} {l : List α} {i : Nat} {d : α} (h : i < l.length) : l.getD i d = l[i] := by simp [List.getD_eq_getElem?_getD, h]
theorem thrF_zero {m : Nat} {acc : List R} {p : R × List R} (h : acc.length = m) (hp : p.2.length = m) (h0 : p.1 = 0) : thrF acc p = acc := by
  obtain ⟨a, b⟩ := p
  dsimp only at h0 hp
  subst h0
  unfold thrF
  refine List.ext_getElem (by rw [List.length_zipWith, List.length_map, h, hp, Nat.min_self]) fun i h1 h2 => ?_
  rw [List.getElem_zipWith, List.getElem_map]
  grind
theorem thrF_get {m j : Nat} {acc : List R} {p : R × List R} (h : acc.length = m) (hp : p.2.length = m) (hj : j < m) : (thrF acc p).getD j 0 = acc.getD j 0 + p.2.getD j 0 * p.1 := by
  have h1 : j < acc.length := by omega
  have h2 : j < p.2.length := by omega
  have h3 : j < (thrF acc p).length := by rw [thrF_len h hp]; exact hj
  rw [getD_at h3, getD_at h1, getD_at h2]
  exact (List.getElem_zipWith (f := (· + ·)) (l := acc) (l' := p.2.map (· * p.1)) (h := h3)).trans (by rw [List.getElem_map])
theorem fold_get {m j : Nat} (hj : j < m) : ∀ {ps : List (R × List R)} {acc : List R}, acc.length = m → (∀ p ∈ ps, p.2.length = m) → (ps.foldl thrF acc).length = m ∧ (ps.foldl thrF acc).getD j 0 = ps.foldl (fun s p => s + p.2.getD j 0 * p.1) (acc.getD j 0)
  | [], acc, h, _ => ⟨h, rfl⟩
  | p :: ps, acc, h, hp => by
    have h1 := hp p (by simp)
    obtain ⟨a, b⟩ := fold_get hj (ps := ps) (acc := thrF acc p) (thrF_len h h1) fun q hq => hp q (List.mem_cons_of_mem _ hq)
    refine ⟨a, ?_⟩
    rw [List.foldl_cons, b, thrF_get h h1 hj]
    rfl
theorem thr_len {m : Nat} {x : List R} {t : List (List R)} (ht : ∀ l ∈ t, l.length = m) : (thr m x t).length = m := by
  unfold thr
  have : ∀ {ps : List (R × List R)} {acc : List R}, acc.length = m → (∀ p ∈ ps, p.2.length = m) → (ps.foldl thrF acc).length = m := by
    intro ps
    induction ps with
    | nil => intro acc h _; exact h
    | cons p ps ih => intro acc h hp; exact ih (thrF_len h (hp p (by simp))) fun q hq => hp q (List.mem_cons_of_mem _ hq)
  exact this (by simp) fun p hp => ht _ (List.of_mem_zip hp).2
theorem thr_cel {m : Nat} {x : List R} {t : List (List R)} (hx : x.length = t.length) (ht : ∀ l ∈ t, l.length = m) : thr m x t = (List.range m).map (cel x t) := by
  refine List.ext_getElem (by rw [thr_len ht]; simp) fun j h1 h2 => ?_
  have hj : j < m := by simpa using h2
  rw [List.getElem_map, List.getElem_range]
  obtain ⟨a, b⟩ := fold_get hj (ps := x.zip t) (acc := List.replicate m 0) (by simp) fun p hp => ht _ (List.of_mem_zip hp).2
  have e1 : (thr m x t)[j] = (thr m x t).getD j 0 := (getD_at h1).symm
  rw [e1]
  unfold thr
  rw [b]
  unfold cel
  have e2 : ((List.range t.length).map fun k => x.getD k 0 * (t.getD k []).getD j 0) = (x.zip t).map fun p => p.1 * p.2.getD j 0 := by
    refine List.ext_getElem (by simp [hx]) fun k g1 g2 => ?_
    have hk : k < t.length := by simpa using g1
    rw [List.getElem_map, List.getElem_map, List.getElem_range, List.getElem_zip, getD_at hk, getD_at (by omega : k < x.length)]
  rw [e2, List.foldl_map]
  have e3 : (List.replicate m (0 : R)).getD j 0 = 0 := by rw [getD_at (by simpa using hj), List.getElem_replicate]
  rw [e3]
  congr 1
  funext s p
  grind
theorem trn_trn {h m : Nat} {t : List (List R)} (ht : t.length = h) (hl : ∀ l ∈ t, l.length = m) : trn h (trn m t) = t := by
  unfold trn
  refine List.ext_getElem (by simp [ht]) fun i h1 h2 => ?_
  rw [List.getElem_map, List.getElem_range, List.map_map]
  have hi := hl _ (List.getElem_mem h2)
  refine List.ext_getElem (by simp [hi]) fun j g1 g2 => ?_
  rw [List.getElem_map, List.getElem_range]
  show (t.map fun l => l.getD j 0).getD i 0 = _
  rw [getD_at (by simpa using h2), List.getElem_map, getD_at g2]
end
theorem eqv_dN {a b c d : Int} : PyData.eqv (dN a b).py (dN c d).py = (decide (a = c) && decide (b = d)) := by
  simp [dN, D.py, pys, PyData.eqv, PyData.eqvAll]
  by_cases h1 : a = c <;> by_cases h2 : b = d <;> simp [h1, h2]
section
variable {g : Int} {R : Type} [Lean.Grind.CommRing R] {N : NumX g R}
theorem NumX.smono {L n m : Nat} {r : R} (h : N.S L n r) (k : n < m) : N.S L m r := by
  have := N.Sadd h (N.Szero L (m - 1))
  have e : r + 0 = r := by grind
  rw [e] at this
  have e2 : max n (m - 1) + 1 = m := by omega
  rwa [e2] at this
/-- a number other than nought -/
theorem wo_neZ {r : R} {P : A → Prop} (q : ∀ b : Bool, (b = true → r ≠ 0) → (b = false → r = 0) → P (.v (.bl b))) : Wo (opNe (.v (N.nm r)) (.v (.tup [.int 0, .int 1]))) P := by
  refine wo_neD (k := 1) (j := 1) okc_nmX (by simp [okc, okcs, A.frz]) (by decide) (by decide) (q _ (fun h e => ?_) fun h => ?_)
  · subst e
    have e2 : (A.v (N.nm 0)).frz.py = (A.v (.tup [.int 0, .int 1])).frz.py := congrArg D.py N.zero
    rw [e2, eqv_self (k := 1) (by simp [okc, okcs, A.frz])] at h
    cases h
  · have e2 : PyData.eqv (dN (N.p r) (N.q r)).py (dN 0 1).py = true := by
      have : (!PyData.eqv (dN (N.p r) (N.q r)).py (dN 0 1).py) = false := h
      simpa using this
    rw [eqv_dN] at e2
    simp at e2
    refine NumX.nm_inj (N := N) ?_
    show dN (N.p r) (N.q r) = dN (N.p 0) (N.q 0)
    rw [N.zero, e2.1, e2.2]
end
end DD

namespace DD.K04
open PySem PySem.Spec L2
open PyProof.Rows hiding St
def topS (i : Nat) : Stmt := PySem.Challenge.pw_fewmirrors_k04_rows_and_tables.main.body.getD i (.Pass ⟨0, 0, 0, 0⟩)
abbrev s_is_whole : Stmt := topS 2
theorem sc_is_whole : FnScope ["thing"] ["thing"] (defScope s_is_whole) := ⟨rfl, rfl, rfl, by decide +kernel, rfl, by decide +kernel, by decide +kernel⟩
abbrev s_shared : Stmt := topS 3
theorem sc_shared : FnScope ["one", "other"] ["one", "other"] (defScope s_shared) := ⟨rfl, rfl, rfl, by decide +kernel, rfl, by decide +kernel, by decide +kernel⟩
abbrev s_contrary_on : Stmt := topS 5
theorem sc_contrary_on : FnScope ["wheel", "rest", "one"] ["wheel", "rest"] (defScope s_contrary_on) := ⟨rfl, rfl, rfl, by decide +kernel, rfl, by decide +kernel, by decide +kernel⟩
abbrev s_turned : Stmt := topS 16
theorem sc_turned : FnScope ["table", "k", "row"] ["table"] (defScope s_turned) := ⟨rfl, rfl, rfl, by decide +kernel, rfl, by decide +kernel, by decide +kernel⟩
abbrev s_l_is_whole : Stmt := topS 20
theorem sc_l_is_whole : FnScope ["_law_thing"] ["_law_thing"] (defScope s_l_is_whole) := ⟨rfl, rfl, rfl, by decide +kernel, rfl, by decide +kernel, by decide +kernel⟩
abbrev s_l_shared : Stmt := topS 21
theorem sc_l_shared : FnScope ["_law_one", "_law_other"] ["_law_one", "_law_other"] (defScope s_l_shared) := ⟨rfl, rfl, rfl, by decide +kernel, rfl, by decide +kernel, by decide +kernel⟩
abbrev s_l_bag : Stmt := topS 27
theorem sc_l_bag : FnScope ["_law_script", "_law_at", "_law_cell_here", "_law_great", "_law_primes", "_law_mixed"] ["_law_script", "_law_at"] (defScope s_l_bag) := ⟨rfl, rfl, rfl, by decide +kernel, rfl, by decide +kernel, by decide +kernel⟩
abbrev s_l_take : Stmt := topS 29
theorem sc_l_take : FnScope ["_law_bag_here", "_law_many", "_law_digit"] ["_law_bag_here", "_law_many"] (defScope s_l_take) := ⟨rfl, rfl, rfl, by decide +kernel, rfl, by decide +kernel, by decide +kernel⟩
abbrev s_l_swapped : Stmt := topS 36
theorem sc_l_swapped : FnScope ["_law_row_here", "_law_at", "_law_thing"] ["_law_row_here", "_law_at", "_law_thing"] (defScope s_l_swapped) := ⟨rfl, rfl, rfl, by decide +kernel, rfl, by decide +kernel, by decide +kernel⟩
abbrev s_is_number : Stmt := topS 4
theorem sc_is_number : FnScope ["ground", "thing", "top", "bottom", "part"] ["ground", "thing"] (defScope s_is_number) := ⟨rfl, rfl, rfl, by decide +kernel, rfl, by decide +kernel, by decide +kernel⟩
abbrev s_lowest : Stmt := topS 6
theorem sc_lowest : FnScope ["ground", "top", "bottom", "common"] ["ground", "top", "bottom"] (defScope s_lowest) := ⟨rfl, rfl, rfl, by decide +kernel, rfl, by decide +kernel, by decide +kernel⟩
abbrev s_l_is_number : Stmt := topS 19
theorem sc_l_is_number : FnScope ["_law_g", "_law_thing", "_law_one"] ["_law_g", "_law_thing"] (defScope s_l_is_number) := ⟨rfl, rfl, rfl, by decide +kernel, rfl, by decide +kernel, by decide +kernel⟩
abbrev s_l_low : Stmt := topS 25
theorem sc_l_low : FnScope ["_law_g", "_law_up", "_law_down", "_law_one", "_law_common"] ["_law_g", "_law_up", "_law_down"] (defScope s_l_low) := ⟨rfl, rfl, rfl, by decide +kernel, rfl, by decide +kernel, by decide +kernel⟩
abbrev s_l_ground : Stmt := topS 28
theorem sc_l_ground : FnScope ["_law_bag_here"] ["_law_bag_here"] (defScope s_l_ground) := ⟨rfl, rfl, rfl, by decide +kernel, rfl, by decide +kernel, by decide +kernel⟩
abbrev s_l_odd : Stmt := topS 34
theorem sc_l_odd : FnScope ["_law_bag_here", "_law_some"] ["_law_bag_here"] (defScope s_l_odd) := ⟨rfl, rfl, rfl, by decide +kernel, rfl, by decide +kernel, by decide +kernel⟩
abbrev s_plus : Stmt := topS 7
theorem sc_plus : FnScope ["ground", "x", "y"] ["ground", "x", "y"] (defScope s_plus) := ⟨rfl, rfl, rfl, by decide +kernel, rfl, by decide +kernel, by decide +kernel⟩
abbrev s_times : Stmt := topS 8
theorem sc_times : FnScope ["ground", "x", "y"] ["ground", "x", "y"] (defScope s_times) := ⟨rfl, rfl, rfl, by decide +kernel, rfl, by decide +kernel, by decide +kernel⟩
abbrev s_is_row : Stmt := topS 10
theorem sc_is_row : FnScope ["ground", "thing", "many", "one"] ["ground", "thing", "many"] (defScope s_is_row) := ⟨rfl, rfl, rfl, by decide +kernel, rfl, by decide +kernel, by decide +kernel⟩
abbrev s_l_is_row : Stmt := topS 18
theorem sc_l_is_row : FnScope ["_law_g", "_law_thing", "_law_many", "_law_one"] ["_law_g", "_law_thing", "_law_many"] (defScope s_l_is_row) := ⟨rfl, rfl, rfl, by decide +kernel, rfl, by decide +kernel, by decide +kernel⟩
abbrev s_l_plus : Stmt := topS 24
theorem sc_l_plus : FnScope ["_law_g", "_law_x", "_law_y"] ["_law_g", "_law_x", "_law_y"] (defScope s_l_plus) := ⟨rfl, rfl, rfl, by decide +kernel, rfl, by decide +kernel, by decide +kernel⟩
abbrev s_l_times : Stmt := topS 26
theorem sc_l_times : FnScope ["_law_g", "_law_x", "_law_y"] ["_law_g", "_law_x", "_law_y"] (defScope s_l_times) := ⟨rfl, rfl, rfl, by decide +kernel, rfl, by decide +kernel, by decide +kernel⟩
abbrev s_l_number : Stmt := topS 32
theorem sc_l_number : FnScope ["_law_bag_here", "_law_g", "_law_wide", "_law_down"] ["_law_bag_here", "_law_g"] (defScope s_l_number) := ⟨rfl, rfl, rfl, by decide +kernel, rfl, by decide +kernel, by decide +kernel⟩
abbrev s_l_bent_number : Stmt := topS 38
theorem sc_l_bent_number : FnScope ["_law_bag_here", "_law_g", "_law_x", "_law_some"] ["_law_bag_here", "_law_g", "_law_x"] (defScope s_l_bent_number) := ⟨rfl, rfl, rfl, by decide +kernel, rfl, by decide +kernel, by decide +kernel⟩
abbrev s_is_table : Stmt := topS 11
theorem sc_is_table : FnScope ["ground", "thing", "high", "wide", "row"] ["ground", "thing", "high", "wide"] (defScope s_is_table) := ⟨rfl, rfl, rfl, by decide +kernel, rfl, by decide +kernel, by decide +kernel⟩
abbrev s_scaled : Stmt := topS 12
theorem sc_scaled : FnScope ["ground", "row", "x", "one"] ["ground", "row", "x"] (defScope s_scaled) := ⟨rfl, rfl, rfl, by decide +kernel, rfl, by decide +kernel, by decide +kernel⟩
abbrev s_added : Stmt := topS 13
theorem sc_added : FnScope ["ground", "row", "other", "one", "two"] ["ground", "row", "other"] (defScope s_added) := ⟨rfl, rfl, rfl, by decide +kernel, rfl, by decide +kernel, by decide +kernel⟩
abbrev s_l_is_table : Stmt := topS 22
theorem sc_l_is_table : FnScope ["_law_g", "_law_thing", "_law_high", "_law_wide", "_law_row_here"] ["_law_g", "_law_thing", "_law_high", "_law_wide"] (defScope s_l_is_table) := ⟨rfl, rfl, rfl, by decide +kernel, rfl, by decide +kernel, by decide +kernel⟩
abbrev s_l_sum : Stmt := topS 23
theorem sc_l_sum : FnScope ["_law_g", "_law_some", "_law_found", "_law_one"] ["_law_g", "_law_some"] (defScope s_l_sum) := ⟨rfl, rfl, rfl, by decide +kernel, rfl, by decide +kernel, by decide +kernel⟩
abbrev s_l_row : Stmt := topS 31
theorem sc_l_row : FnScope ["_law_bag_here", "_law_g", "_law_many", "_law_k"] ["_law_bag_here", "_law_g", "_law_many"] (defScope s_l_row) := ⟨rfl, rfl, rfl, by decide +kernel, rfl, by decide +kernel, by decide +kernel⟩
abbrev s_l_added : Stmt := topS 33
theorem sc_l_added : FnScope ["_law_g", "_law_row_here", "_law_other", "_law_one", "_law_two"] ["_law_g", "_law_row_here", "_law_other"] (defScope s_l_added) := ⟨rfl, rfl, rfl, by decide +kernel, rfl, by decide +kernel, by decide +kernel⟩
abbrev s_l_bent_row : Stmt := topS 37
theorem sc_l_bent_row : FnScope ["_law_bag_here", "_law_g", "_law_row_here", "_law_at", "_law_way"] ["_law_bag_here", "_law_g", "_law_row_here"] (defScope s_l_bent_row) := ⟨rfl, rfl, rfl, by decide +kernel, rfl, by decide +kernel, by decide +kernel⟩
abbrev s_through : Stmt := topS 14
theorem sc_through : FnScope ["ground", "row", "table", "found", "x", "other"] ["ground", "row", "table"] (defScope s_through) := ⟨rfl, rfl, rfl, by decide +kernel, rfl, by decide +kernel, by decide +kernel⟩
abbrev s_l_rows : Stmt := topS 30
theorem sc_l_rows : FnScope ["_law_bag_here", "_law_g", "_law_high", "_law_wide", "_law_found", "_law_k", "_law_row_here", "_law_way"] ["_law_bag_here", "_law_g", "_law_high", "_law_wide"] (defScope s_l_rows) := ⟨rfl, rfl, rfl, by decide +kernel, rfl, by decide +kernel, by decide +kernel⟩
abbrev s_l_bent_table : Stmt := topS 35
theorem sc_l_bent_table : FnScope ["_law_bag_here", "_law_g", "_law_table", "_law_at", "_law_way"] ["_law_bag_here", "_law_g", "_law_table"] (defScope s_l_bent_table) := ⟨rfl, rfl, rfl, by decide +kernel, rfl, by decide +kernel, by decide +kernel⟩
abbrev s_l_are_told : Stmt := topS 39
theorem sc_l_are_told : FnScope ["_law_g", "_law_things", "_law_high", "_law_wide", "_law_thing", "_law_told", "_law_one"] ["_law_g", "_law_things", "_law_high", "_law_wide"] (defScope s_l_are_told) := ⟨rfl, rfl, rfl, by decide +kernel, rfl, by decide +kernel, by decide +kernel⟩
abbrev s_l_cell : Stmt := topS 40
theorem sc_l_cell : FnScope ["_law_g", "_law_one", "_law_other", "_law_i", "_law_j", "_law_k"] ["_law_g", "_law_one", "_law_other", "_law_i", "_law_j"] (defScope s_l_cell) := ⟨rfl, rfl, rfl, by decide +kernel, rfl, by decide +kernel, by decide +kernel⟩
abbrev s_product : Stmt := topS 15
theorem sc_product : FnScope ["ground", "one", "other", "row"] ["ground", "one", "other"] (defScope s_product) := ⟨rfl, rfl, rfl, by decide +kernel, rfl, by decide +kernel, by decide +kernel⟩
abbrev s_law : Stmt := topS 41
theorem sc_law : FnScope ["_law_script", "_law_k", "_law_bag_here", "_law_g", "_law_size", "_law_high", "_law_wide", "_law_more", "_law_one", "_law_other", "_law_things", "_law_turn", "_law_thing", "_law_due", "_law_i", "_law_row_here", "_law_j"] ["_law_script"] (defScope s_law) := ⟨rfl, rfl, rfl, by decide +kernel, rfl, by decide +kernel, by decide +kernel⟩
abbrev c_NOUGHT : D := .tup [.int 0, .int 1]
noncomputable def b_is_whole : M Flow := dRet (dAndV (dIsi "int" (dVar 0)) (dNotV (dIsi "bool" (dVar 0))))
noncomputable def n_is_whole : Fn := dFn 1 1 [] b_is_whole
noncomputable def b_shared_1 : M Flow := dPar false false 0 1 (dVar 1) (dOp2 opMod (dVar 0) (dVar 1))
noncomputable def b_shared : M Flow := dSeq (dPar false false 0 1 (dBlt opAbs (dCons (dVar 0) (dNil))) (dBlt opAbs (dCons (dVar 1) (dNil))))
  (dSeq (dWhile (dTest (dOp2 (opGt) (dVar 1) (dC (.int 0))))
  (b_shared_1))
  (dRet (dVar 0)))
noncomputable def n_shared : Fn := dFn 2 2 [] b_shared
noncomputable def b_contrary_on : M Flow := dRet (dOp2 opIx (dComp [2] (dRng1 (dVar 0)) (gSet 2) (dTest (dOp2 (opEq) (dOp2 opMod (dOp2 opMul (dVar 2) (dVar 1)) (dVar 0)) (dC (.int 1)))) (dVar 2)) (dC (.int 0)))
noncomputable def n_contrary_on : Fn := dFn 2 3 [] b_contrary_on
noncomputable def b_turned : M Flow := dRet (dBlt opTuple (dCons (dComp [1] (dRng1 (dBlt opLen (dCons (dOp2 opIx (dVar 0) (dC (.int 0))) (dNil)))) (gSet 1) (M.pure true) (dBlt opTuple (dCons (dComp [2] (dItems (dVar 0)) (gSet 2) (M.pure true) (dOp2 opIx (dVar 2) (dVar 1))) (dNil)))) (dNil)))
noncomputable def n_turned : Fn := dFn 1 3 [] b_turned
noncomputable def b_l_is_whole : M Flow := dRet (dAndV (dIsi "int" (dVar 0)) (dNotV (dIsi "bool" (dVar 0))))
noncomputable def n_l_is_whole : Fn := dFn 1 1 [] b_l_is_whole
noncomputable def b_l_shared_1 : M Flow := dPar false false 0 1 (dVar 1) (dOp2 opMod (dVar 0) (dVar 1))
noncomputable def b_l_shared : M Flow := dSeq (dPar false false 0 1 (dBlt opAbs (dCons (dVar 0) (dNil))) (dBlt opAbs (dCons (dVar 1) (dNil))))
  (dSeq (dWhile (dTest (dOp2 (opGt) (dVar 1) (dC (.int 0))))
  (b_l_shared_1))
  (dRet (dVar 0)))
noncomputable def n_l_shared : Fn := dFn 2 2 [] b_l_shared
noncomputable def b_l_bag : M Flow := dSeq (dSet false 2 (dC (.int 0)))
  (dSeq (dIfS (dTest (dOp2 (opLt) (dVar 1) (dBlt opLen (dCons (dVar 0) (dNil)))))
  (dSet false 2 (dOp2 opIx (dVar 0) (dVar 1)))
  (dSkip))
  (dSeq (dSet false 3 (dC (.int 0)))
  (dSeq (dIfS (dTest (dOp2 (opGe) (dBlt opAbs (dCons (dVar 2) (dNil))) (dOp2 opPow (dC (.int 10)) (dC (.int 18)))))
  (dSet false 3 (dBlt opAbs (dCons (dVar 2) (dNil))))
  (dSkip))
  (dSeq (dSet false 4 (dLst (dCons (dC (.int 2147483647)) (dCons (dC (.int 2147483629)) (dCons (dC (.int 2147483587)) (dCons (dC (.int 2147483579)) (dCons (dC (.int 2147483563)) (dCons (dC (.int 2147483549)) (dCons (dC (.int 2147483543)) (dCons (dC (.int 2147483497)) (dNil)))))))))))
  (dSeq (dSet false 5 (dOp2 opAdd (dOp2 opAdd (dOp2 opAdd (dOp2 opMul (dOp2 opMod (dVar 2) (dC (.int 2147483647))) (dC (.int 69623))) (dOp2 opMul (dOp2 opMul (dC (.int 104729)) (dVar 1)) (dVar 1))) (dOp2 opMul (dC (.int 7919)) (dVar 1))) (dC (.int 12345))))
  (dRet (dLst (dCons (dVar 3) (dCons (dOp2 opMod (dVar 5) (dOp2 opIx (dVar 4) (dOp2 opMod (dVar 1) (dC (.int 8))))) (dNil))))))))))
noncomputable def n_l_bag : Fn := dFn 2 6 [] b_l_bag
noncomputable def b_l_take : M Flow := dSeq (dIfS (dTest (dOp2 (opGt) (dIxOwn 0 (dC (.int 0))) (dC (.int 0))))
  (dSeq (dSet false 2 (dOp2 opMod (dIxOwn 0 (dC (.int 0))) (dVar 1)))
  (dSeq (dSetItem 0 false (dOp2 opDiv (dIxOwn 0 (dC (.int 0))) (dVar 1)) (dC (.int 0)))
  (dRet (dVar 2))))
  (dSkip))
  (dSeq (dSetItem 0 false (dOp2 opMod (dOp2 opAdd (dOp2 opMul (dIxOwn 0 (dC (.int 1))) (dC (.int 48271))) (dC (.int 2531011))) (dC (.int 2147483647))) (dC (.int 1)))
  (dRet (dOp2 opMod (dOp2 opDiv (dOp2 opMod (dOp2 opPow (dIxOwn 0 (dC (.int 1))) (dC (.int 3))) (dC (.int 2147483629))) (dC (.int 64))) (dVar 1))))
noncomputable def n_l_take : Fn := dFn 2 3 [0] b_l_take
noncomputable def b_l_swapped : M Flow := dRet (dOp2 opAdd (dOp2 opAdd (dSl (dVar 0) (pNo) (pSo (dVar 1))) (dTup (dCons (dVar 2) (dNil)))) (dSl (dVar 0) (pSo (dOp2 opAdd (dVar 1) (dC (.int 1)))) (pNo)))
noncomputable def n_l_swapped : Fn := dFn 3 3 [] b_l_swapped
noncomputable def b_is_number : M Flow := dSeq (dIfS (dOrT (dNotT (dTest (dIsi "tuple" (dVar 1)))) (dOrT (dTest (dOp2 (opNe) (dBlt opLen (dCons (dVar 1) (dNil))) (dC (.int 2)))) (dNotT (dTest (dBlt opAll (dCons (dComp [4] (dItems (dVar 1)) (gSet 4) (M.pure true) (dCall n_is_whole (vVal false (dVar 4) (vNil)) [])) (dNil)))))))
  (dRet (dC (.bl false)))
  (dSkip))
  (dSeq (dAsg (dVar 1) (gTupD 2 (gConsD (gSet 2) (gConsD (gSet 3) (gNilD)))))
  (dSeq (dIfS (dTest (dOp2 (opGt) (dVar 0) (dC (.int 0))))
  (dRet (dAndV (dChain (fun i j => decide (i ≤ j)) (fun i j => decide (i < j)) (dC (.int 0)) (dVar 2) (dVar 0)) (dOp2 (opEq) (dVar 3) (dC (.int 1)))))
  (dSkip))
  (dRet (dAndV (dOp2 (opGe) (dVar 3) (dC (.int 1))) (dOp2 (opEq) (dCall n_shared (vVal false (dVar 2) (vVal false (dVar 3) (vNil))) []) (dC (.int 1)))))))
noncomputable def n_is_number : Fn := dFn 2 5 [] b_is_number
noncomputable def b_lowest : M Flow := dSeq (dIfS (dAndT (dTest (dOp2 (opGt) (dVar 0) (dC (.int 0)))) (dTest (dOp2 (opEq) (dVar 2) (dC (.int 1)))))
  (dRet (dTup (dCons (dOp2 opMod (dVar 1) (dVar 0)) (dCons (dC (.int 1)) (dNil)))))
  (dSkip))
  (dSeq (dIfS (dTest (dOp2 (opGt) (dVar 0) (dC (.int 0))))
  (dRet (dTup (dCons (dOp2 opMod (dOp2 opMul (dVar 1) (dCall n_contrary_on (vVal false (dVar 0) (vVal false (dOp2 opMod (dVar 2) (dVar 0)) (vNil))) [])) (dVar 0)) (dCons (dC (.int 1)) (dNil)))))
  (dSkip))
  (dSeq (dSet false 3 (dCall n_shared (vVal false (dVar 1) (vVal false (dVar 2) (vNil))) []))
  (dSeq (dIfS (dTest (dOp2 (opLt) (dVar 2) (dC (.int 0))))
  (dSet false 3 (dOp2 opSub (dC (.int 0)) (dVar 3)))
  (dSkip))
  (dRet (dTup (dCons (dOp2 opDiv (dVar 1) (dVar 3)) (dCons (dOp2 opDiv (dVar 2) (dVar 3)) (dNil))))))))
noncomputable def n_lowest : Fn := dFn 3 4 [] b_lowest
noncomputable def b_l_is_number : M Flow := dSeq (dIfS (dOrT (dNotT (dTest (dIsi "tuple" (dVar 1)))) (dOrT (dTest (dOp2 (opNe) (dBlt opLen (dCons (dVar 1) (dNil))) (dC (.int 2)))) (dNotT (dTest (dBlt opAll (dCons (dComp [2] (dItems (dVar 1)) (gSet 2) (M.pure true) (dCall n_l_is_whole (vVal false (dVar 2) (vNil)) [])) (dNil)))))))
  (dRet (dC (.bl false)))
  (dSkip))
  (dSeq (dIfS (dTest (dOp2 (opGt) (dVar 0) (dC (.int 0))))
  (dRet (dAndV (dChain (fun i j => decide (i ≤ j)) (fun i j => decide (i < j)) (dC (.int 0)) (dOp2 opIx (dVar 1) (dC (.int 0))) (dVar 0)) (dOp2 (opEq) (dOp2 opIx (dVar 1) (dC (.int 1))) (dC (.int 1)))))
  (dSkip))
  (dRet (dAndV (dOp2 (opGt) (dOp2 opIx (dVar 1) (dC (.int 1))) (dC (.int 0))) (dOp2 (opEq) (dCall n_l_shared (vVal false (dOp2 opIx (dVar 1) (dC (.int 0))) (vVal false (dOp2 opIx (dVar 1) (dC (.int 1))) (vNil))) []) (dC (.int 1))))))
noncomputable def n_l_is_number : Fn := dFn 2 3 [] b_l_is_number
noncomputable def b_l_low_1 : M Flow := dIfS (dTest (dOp2 (opEq) (dOp2 opMod (dOp2 opMul (dVar 3) (dVar 2)) (dVar 0)) (dOp2 opMod (dVar 1) (dVar 0))))
  (dRet (dTup (dCons (dVar 3) (dCons (dC (.int 1)) (dNil)))))
  (dSkip)
noncomputable def b_l_low : M Flow := dSeq (dIfS (dTest (dOp2 (opGt) (dVar 0) (dC (.int 0))))
  (dFor (dRng1 (dVar 0)) (gSet 3)
  (b_l_low_1))
  (dSkip))
  (dSeq (dSet false 4 (dOp2 opMul (dCall n_l_shared (vVal false (dVar 1) (vVal false (dVar 2) (vNil))) []) (dOp2 opIx (dLst (dCons (dC (.int 1)) (dCons (dOp1 opNeg (dC (.int 1))) (dNil)))) (dBlt opInt (dCons (dOp2 (opLt) (dVar 2) (dC (.int 0))) (dNil))))))
  (dRet (dTup (dCons (dOp2 opDiv (dVar 1) (dVar 4)) (dCons (dOp2 opDiv (dVar 2) (dVar 4)) (dNil))))))
noncomputable def n_l_low : Fn := dFn 3 5 [] b_l_low
noncomputable def b_l_ground : M Flow := dRet (dOp2 opIx (dLst (dCons (dC (.int 0)) (dCons (dC (.int 0)) (dCons (dC (.int 0)) (dCons (dC (.int 0)) (dCons (dC (.int 3)) (dCons (dC (.int 3)) (dCons (dC (.int 5)) (dCons (dOp2 opIx (dLst (dCons (dC (.int 7)) (dCons (dC (.int 11)) (dCons (dC (.int 13)) (dNil))))) (dCall n_l_take (vRef 0 (vVal false (dC (.int 3)) (vNil))) [])) (dNil)))))))))) (dCall n_l_take (vRef 0 (vVal false (dC (.int 8)) (vNil))) []))
noncomputable def n_l_ground : Fn := dFn 1 1 [0] b_l_ground
noncomputable def b_l_odd : M Flow := dSeq (dSet false 1 (dLst (dCons (dC .non) (dCons (dC (.bl true)) (dCons (dC (.bl false)) (dCons (dC (.str "1")) (dCons (dC (.str "")) (dCons (dOp1 opNeg (dC (.int 1))) (dCons (dC (.int 0)) (dCons (dC (.int 1)) (dCons (dOp2 opPow (dC (.int 10)) (dC (.int 59))) (dCons (dTup (dNil)) (dCons (dLst (dNil)) (dCons (dLst (dCons (dC (.int 0)) (dNil))) (dCons (dTup (dCons (dC (.int 0)) (dCons (dC (.int 0)) (dNil)))) (dCons (dTup (dCons (dC (.int 1)) (dCons (dC (.int 0)) (dNil)))) (dCons (dTup (dCons (dC (.int 2)) (dCons (dC (.int 2)) (dNil)))) (dCons (dTup (dCons (dC (.bl true)) (dCons (dC (.int 1)) (dNil)))) (dCons (dTup (dCons (dC (.int 1)) (dCons (dOp1 opNeg (dC (.int 1))) (dNil)))) (dCons (dTup (dCons (dC (.int 1)) (dNil))) (dCons (dLst (dCons (dC (.int 1)) (dCons (dC (.int 1)) (dNil)))) (dCons (dTup (dCons (dC (.int 1)) (dCons (dC (.int 1)) (dCons (dC (.int 1)) (dNil))))) (dNil)))))))))))))))))))))))
  (dRet (dOp2 opIx (dVar 1) (dCall n_l_take (vRef 0 (vVal false (dC (.int 20)) (vNil))) [])))
noncomputable def n_l_odd : Fn := dFn 1 2 [0] b_l_odd
noncomputable def b_plus : M Flow := dRet (dCall n_lowest (vVal false (dVar 0) (vVal false (dOp2 opAdd (dOp2 opMul (dOp2 opIx (dVar 1) (dC (.int 0))) (dOp2 opIx (dVar 2) (dC (.int 1)))) (dOp2 opMul (dOp2 opIx (dVar 2) (dC (.int 0))) (dOp2 opIx (dVar 1) (dC (.int 1))))) (vVal false (dOp2 opMul (dOp2 opIx (dVar 1) (dC (.int 1))) (dOp2 opIx (dVar 2) (dC (.int 1)))) (vNil)))) [])
noncomputable def n_plus : Fn := dFn 3 3 [] b_plus
noncomputable def b_times : M Flow := dRet (dCall n_lowest (vVal false (dVar 0) (vVal false (dOp2 opMul (dOp2 opIx (dVar 1) (dC (.int 0))) (dOp2 opIx (dVar 2) (dC (.int 0)))) (vVal false (dOp2 opMul (dOp2 opIx (dVar 1) (dC (.int 1))) (dOp2 opIx (dVar 2) (dC (.int 1)))) (vNil)))) [])
noncomputable def n_times : Fn := dFn 3 3 [] b_times
noncomputable def b_is_row : M Flow := dRet (dAndV (dIsi "tuple" (dVar 1)) (dAndV (dOp2 (opEq) (dBlt opLen (dCons (dVar 1) (dNil))) (dVar 2)) (dBlt opAll (dCons (dComp [3] (dItems (dVar 1)) (gSet 3) (M.pure true) (dCall n_is_number (vVal false (dVar 0) (vVal false (dVar 3) (vNil))) [])) (dNil)))))
noncomputable def n_is_row : Fn := dFn 3 4 [] b_is_row
noncomputable def b_l_is_row : M Flow := dRet (dAndV (dIsi "tuple" (dVar 1)) (dAndV (dOp2 (opEq) (dBlt opLen (dCons (dVar 1) (dNil))) (dVar 2)) (dBlt opAll (dCons (dComp [3] (dItems (dVar 1)) (gSet 3) (M.pure true) (dCall n_l_is_number (vVal false (dVar 0) (vVal false (dVar 3) (vNil))) [])) (dNil)))))
noncomputable def n_l_is_row : Fn := dFn 3 4 [] b_l_is_row
noncomputable def b_l_plus : M Flow := dRet (dCall n_l_low (vVal false (dVar 0) (vVal false (dOp2 opAdd (dOp2 opMul (dOp2 opIx (dVar 1) (dC (.int 0))) (dOp2 opIx (dVar 2) (dC (.int 1)))) (dOp2 opMul (dOp2 opIx (dVar 2) (dC (.int 0))) (dOp2 opIx (dVar 1) (dC (.int 1))))) (vVal false (dOp2 opMul (dOp2 opIx (dVar 1) (dC (.int 1))) (dOp2 opIx (dVar 2) (dC (.int 1)))) (vNil)))) [])
noncomputable def n_l_plus : Fn := dFn 3 3 [] b_l_plus
noncomputable def b_l_times : M Flow := dRet (dCall n_l_low (vVal false (dVar 0) (vVal false (dOp2 opMul (dOp2 opIx (dVar 1) (dC (.int 0))) (dOp2 opIx (dVar 2) (dC (.int 0)))) (vVal false (dOp2 opMul (dOp2 opIx (dVar 1) (dC (.int 1))) (dOp2 opIx (dVar 2) (dC (.int 1)))) (vNil)))) [])
noncomputable def n_l_times : Fn := dFn 3 3 [] b_l_times
noncomputable def b_l_number : M Flow := dSeq (dIfS (dTest (dOp2 (opGt) (dVar 1) (dC (.int 0))))
  (dRet (dTup (dCons (dCall n_l_take (vRef 0 (vVal false (dVar 1) (vNil))) []) (dCons (dC (.int 1)) (dNil)))))
  (dSkip))
  (dSeq (dSet false 2 (dOp2 opIx (dLst (dCons (dC (.int 3)) (dCons (dC (.int 5)) (dCons (dC (.int 5)) (dCons (dC (.int 9)) (dCons (dC (.int 19)) (dCons (dC (.int 99)) (dNil)))))))) (dCall n_l_take (vRef 0 (vVal false (dC (.int 6)) (vNil))) [])))
  (dSeq (dSet false 3 (dOp2 opIx (dLst (dCons (dC (.int 1)) (dCons (dC (.int 1)) (dCons (dC (.int 1)) (dCons (dOp2 opAdd (dC (.int 2)) (dCall n_l_take (vRef 0 (vVal false (dC (.int 8)) (vNil))) [])) (dNil)))))) (dCall n_l_take (vRef 0 (vVal false (dC (.int 4)) (vNil))) [])))
  (dRet (dCall n_l_low (vVal false (dC (.int 0)) (vVal false (dOp2 opSub (dCall n_l_take (vRef 0 (vVal false (dVar 2) (vNil))) []) (dOp2 opDiv (dVar 2) (dC (.int 2)))) (vVal false (dVar 3) (vNil)))) []))))
noncomputable def n_l_number : Fn := dFn 2 4 [0] b_l_number
noncomputable def b_l_bent_number : M Flow := dSeq (dSet false 3 (dLst (dCons (dTup (dCons (dOp2 opMul (dOp2 opIx (dVar 2) (dC (.int 0))) (dC (.int 2))) (dCons (dOp2 opMul (dOp2 opIx (dVar 2) (dC (.int 1))) (dC (.int 2))) (dNil)))) (dCons (dTup (dCons (dOp2 opIx (dVar 2) (dC (.int 0))) (dCons (dOp2 opSub (dC (.int 0)) (dOp2 opIx (dVar 2) (dC (.int 1)))) (dNil)))) (dCons (dTup (dCons (dOp2 opIx (dVar 2) (dC (.int 0))) (dCons (dC (.int 0)) (dNil)))) (dCons (dLst (dCons (dOp2 opIx (dVar 2) (dC (.int 0))) (dCons (dOp2 opIx (dVar 2) (dC (.int 1))) (dNil)))) (dCons (dTup (dCons (dOp2 opIx (dVar 2) (dC (.int 0))) (dNil))) (dCons (dTup (dCons (dOp2 opIx (dVar 2) (dC (.int 0))) (dCons (dOp2 opIx (dVar 2) (dC (.int 1))) (dCons (dC (.int 1)) (dNil))))) (dCons (dTup (dCons (dOp2 (opEq) (dOp2 opIx (dVar 2) (dC (.int 0))) (dC (.int 1))) (dCons (dOp2 opIx (dVar 2) (dC (.int 1))) (dNil)))) (dCons (dTup (dCons (dOp2 opIx (dVar 2) (dC (.int 0))) (dCons (dC (.bl true)) (dNil)))) (dCons (dOp2 opIx (dVar 2) (dC (.int 0))) (dCons (dTup (dCons (dOp2 opAdd (dOp2 opIx (dVar 2) (dC (.int 0))) (dVar 1)) (dCons (dOp2 opIx (dVar 2) (dC (.int 1))) (dNil)))) (dCons (dTup (dCons (dOp2 opSub (dOp2 opIx (dVar 2) (dC (.int 0))) (dVar 1)) (dCons (dOp2 opIx (dVar 2) (dC (.int 1))) (dNil)))) (dCons (dTup (dCons (dOp2 opIx (dVar 2) (dC (.int 1))) (dCons (dOp2 opIx (dVar 2) (dC (.int 0))) (dNil)))) (dCons (dTup (dCons (dC (.int 0)) (dCons (dC (.int 2)) (dNil)))) (dCons (dTup (dCons (dBlt opStr (dCons (dOp2 opIx (dVar 2) (dC (.int 0))) (dNil))) (dCons (dOp2 opIx (dVar 2) (dC (.int 1))) (dNil)))) (dCons (dCall n_l_odd (vRef 0 (vNil)) []) (dCons (dTup (dCons (dOp2 opAdd (dOp2 opIx (dVar 2) (dC (.int 0))) (dC (.int 1))) (dCons (dOp2 opIx (dVar 2) (dC (.int 1))) (dNil)))) (dNil)))))))))))))))))))
  (dRet (dOp2 opIx (dVar 3) (dCall n_l_take (vRef 0 (vVal false (dC (.int 16)) (vNil))) [])))
noncomputable def n_l_bent_number : Fn := dFn 3 4 [0] b_l_bent_number
noncomputable def b_is_table : M Flow := dRet (dAndV (dIsi "tuple" (dVar 1)) (dAndV (dOp2 (opEq) (dBlt opLen (dCons (dVar 1) (dNil))) (dVar 2)) (dBlt opAll (dCons (dComp [4] (dItems (dVar 1)) (gSet 4) (M.pure true) (dCall n_is_row (vVal false (dVar 0) (vVal false (dVar 4) (vVal false (dVar 3) (vNil)))) [])) (dNil)))))
noncomputable def n_is_table : Fn := dFn 4 5 [] b_is_table
noncomputable def b_scaled : M Flow := dRet (dBlt opTuple (dCons (dComp [3] (dItems (dVar 1)) (gSet 3) (M.pure true) (dCall n_times (vVal false (dVar 0) (vVal false (dVar 3) (vVal false (dVar 2) (vNil)))) [])) (dNil)))
noncomputable def n_scaled : Fn := dFn 3 4 [] b_scaled
noncomputable def b_added : M Flow := dRet (dBlt opTuple (dCons (dComp [3, 4] (dZipS (dVar 1) (dVar 2)) (gTupD 2 (gConsD (gSet 3) (gConsD (gSet 4) (gNilD)))) (M.pure true) (dCall n_plus (vVal false (dVar 0) (vVal false (dVar 3) (vVal false (dVar 4) (vNil)))) [])) (dNil)))
noncomputable def n_added : Fn := dFn 3 5 [] b_added
noncomputable def b_l_is_table : M Flow := dRet (dAndV (dIsi "tuple" (dVar 1)) (dAndV (dOp2 (opEq) (dBlt opLen (dCons (dVar 1) (dNil))) (dVar 2)) (dBlt opAll (dCons (dComp [4] (dItems (dVar 1)) (gSet 4) (M.pure true) (dCall n_l_is_row (vVal false (dVar 0) (vVal false (dVar 4) (vVal false (dVar 3) (vNil)))) [])) (dNil)))))
noncomputable def n_l_is_table : Fn := dFn 4 5 [] b_l_is_table
noncomputable def b_l_sum_1 : M Flow := dSet false 2 (dCall n_l_plus (vVal false (dVar 0) (vVal false (dVar 2) (vVal false (dVar 3) (vNil)))) [])
noncomputable def b_l_sum : M Flow := dSeq (dSet false 2 (dTup (dCons (dC (.int 0)) (dCons (dC (.int 1)) (dNil)))))
  (dSeq (dFor (dItems (dVar 1)) (gSet 3)
  (b_l_sum_1))
  (dRet (dVar 2)))
noncomputable def n_l_sum : Fn := dFn 2 4 [] b_l_sum
noncomputable def b_l_row : M Flow := dRet (dBlt opTuple (dCons (dComp [3] (dRng1 (dVar 2)) (gSet 3) (M.pure true) (dCall n_l_number (vRef 0 (vVal false (dVar 1) (vNil))) [])) (dNil)))
noncomputable def n_l_row : Fn := dFn 3 4 [0] b_l_row
noncomputable def b_l_added : M Flow := dRet (dBlt opTuple (dCons (dComp [3, 4] (dZip (dVar 1) (dVar 2)) (gTupD 2 (gConsD (gSet 3) (gConsD (gSet 4) (gNilD)))) (M.pure true) (dCall n_l_plus (vVal false (dVar 0) (vVal false (dVar 3) (vVal false (dVar 4) (vNil)))) [])) (dNil)))
noncomputable def n_l_added : Fn := dFn 3 5 [] b_l_added
noncomputable def b_l_bent_row : M Flow := dSeq (dSet false 3 (dCall n_l_take (vRef 0 (vVal false (dBlt opLen (dCons (dVar 2) (dNil))) (vNil))) []))
  (dSeq (dSet false 4 (dCall n_l_take (vRef 0 (vVal false (dC (.int 6)) (vNil))) []))
  (dSeq (dIfS (dTest (dOp2 (opLt) (dVar 4) (dC (.int 3))))
  (dRet (dCall n_l_swapped (vVal false (dVar 2) (vVal false (dVar 3) (vVal false (dCall n_l_bent_number (vRef 0 (vVal false (dVar 1) (vVal false (dOp2 opIx (dVar 2) (dVar 3)) (vNil)))) []) (vNil)))) []))
  (dSkip))
  (dRet (dOp2 opIx (dLst (dCons (dOp2 opAdd (dVar 2) (dTup (dCons (dOp2 opIx (dVar 2) (dVar 3)) (dNil)))) (dCons (dOp2 opAdd (dSl (dVar 2) (pNo) (pSo (dVar 3))) (dSl (dVar 2) (pSo (dOp2 opAdd (dVar 3) (dC (.int 1)))) (pNo))) (dCons (dBlt opList (dCons (dVar 2) (dNil))) (dNil))))) (dOp2 opSub (dVar 4) (dC (.int 3)))))))
noncomputable def n_l_bent_row : Fn := dFn 3 5 [0] b_l_bent_row
noncomputable def b_through_1 : M Flow := dIfS (dTest (dOp2 (opNe) (dVar 4) (dC c_NOUGHT)))
  (dSet false 3 (dCall n_added (vVal false (dVar 0) (vVal false (dVar 3) (vVal false (dCall n_scaled (vVal false (dVar 0) (vVal false (dVar 5) (vVal false (dVar 4) (vNil)))) []) (vNil)))) []))
  (dSkip)
noncomputable def b_through : M Flow := dSeq (dSet false 3 (dBlt opTuple (dCons (dOp2 opMul (dLst (dCons (dC c_NOUGHT) (dNil))) (dBlt opLen (dCons (dOp2 opIx (dVar 2) (dC (.int 0))) (dNil)))) (dNil))))
  (dSeq (dFor (dZipS (dVar 1) (dVar 2)) (gTupD 2 (gConsD (gSet 4) (gConsD (gSet 5) (gNilD))))
  (b_through_1))
  (dRet (dVar 3)))
noncomputable def n_through : Fn := dFn 3 6 [] b_through
noncomputable def b_l_rows_1 : M Flow := dSeq (dSet false 6 (dCall n_l_row (vRef 0 (vVal false (dVar 1) (vVal false (dVar 3) (vNil)))) []))
  (dSeq (dSet false 7 (dCall n_l_take (vRef 0 (vVal false (dC (.int 5)) (vNil))) []))
  (dSeq (dIfS (dTest (dOp2 (opEq) (dVar 7) (dC (.int 0))))
  (dSet false 6 (dBlt opTuple (dCons (dOp2 opMul (dLst (dCons (dTup (dCons (dC (.int 0)) (dCons (dC (.int 1)) (dNil)))) (dNil))) (dVar 3)) (dNil))))
  (dSkip))
  (dSeq (dIfS (dAndT (dTest (dOp2 (opEq) (dVar 7) (dC (.int 1)))) (dBorT (dTest (dOp2 (opNe) (dVar 4) (dLst (dNil))))))
  (dSet false 6 (dCall n_l_added (vVal false (dVar 1) (vVal false (dIxOwn 4 (dCall n_l_take (vRef 0 (vVal false (dLenOwn 4) (vNil))) [])) (vVal false (dIxOwn 4 (dOp1 opNeg (dC (.int 1)))) (vNil)))) []))
  (dSkip))
  (dExpr (dAppend 4 false (dVar 6))))))
noncomputable def b_l_rows : M Flow := dSeq (dSet true 4 (dLst (dNil)))
  (dSeq (dFor (dRng1 (dVar 2)) (gSet 5)
  (b_l_rows_1))
  (dFrz 4 (dRet (dBlt opTuple (dCons (dVar 4) (dNil))))))
noncomputable def n_l_rows : Fn := dFn 4 8 [0] b_l_rows
noncomputable def b_l_bent_table : M Flow := dSeq (dSet false 3 (dCall n_l_take (vRef 0 (vVal false (dBlt opLen (dCons (dVar 2) (dNil))) (vNil))) []))
  (dSeq (dSet false 4 (dCall n_l_take (vRef 0 (vVal false (dC (.int 8)) (vNil))) []))
  (dSeq (dIfS (dTest (dOp2 (opLt) (dVar 4) (dC (.int 4))))
  (dRet (dCall n_l_swapped (vVal false (dVar 2) (vVal false (dVar 3) (vVal false (dCall n_l_bent_row (vRef 0 (vVal false (dVar 1) (vVal false (dOp2 opIx (dVar 2) (dVar 3)) (vNil)))) []) (vNil)))) []))
  (dSkip))
  (dRet (dOp2 opIx (dLst (dCons (dOp2 opAdd (dVar 2) (dTup (dCons (dOp2 opIx (dVar 2) (dVar 3)) (dNil)))) (dCons (dOp2 opAdd (dSl (dVar 2) (pNo) (pSo (dVar 3))) (dSl (dVar 2) (pSo (dOp2 opAdd (dVar 3) (dC (.int 1)))) (pNo))) (dCons (dBlt opList (dCons (dVar 2) (dNil))) (dCons (dCall n_l_odd (vRef 0 (vNil)) []) (dNil)))))) (dOp2 opSub (dVar 4) (dC (.int 4)))))))
noncomputable def n_l_bent_table : Fn := dFn 3 5 [0] b_l_bent_table
noncomputable def b_l_are_told_1 : M Flow := dSeq (dSet false 5 (dLst (dCons (dCall n_is_row (vVal false (dVar 0) (vVal false (dVar 4) (vVal false (dVar 3) (vNil)))) []) (dCons (dCall n_is_table (vVal false (dVar 0) (vVal false (dVar 4) (vVal false (dVar 2) (vVal false (dVar 3) (vNil))))) []) (dNil)))))
  (dSeq (dIfS (dTest (dOp2 (opNe) (dVar 5) (dLst (dCons (dCall n_l_is_row (vVal false (dVar 0) (vVal false (dVar 4) (vVal false (dVar 3) (vNil)))) []) (dCons (dCall n_l_is_table (vVal false (dVar 0) (vVal false (dVar 4) (vVal false (dVar 2) (vVal false (dVar 3) (vNil))))) []) (dNil))))))
  (dRet (dC (.bl false)))
  (dSkip))
  (dIfS (dNotT (dTest (dBlt opAll (dCons (dComp [6] (dItems (dVar 5)) (gSet 6) (M.pure true) (dIsi "bool" (dVar 6))) (dNil)))))
  (dRet (dC (.bl false)))
  (dSkip)))
noncomputable def b_l_are_told : M Flow := dSeq (dFor (dItems (dVar 1)) (gSet 4)
  (b_l_are_told_1))
  (dRet (dC (.bl true)))
noncomputable def n_l_are_told : Fn := dFn 4 7 [] b_l_are_told
noncomputable def b_l_cell : M Flow := dRet (dCall n_l_sum (vVal false (dVar 0) (vVal false (dComp [5] (dRng1 (dBlt opLen (dCons (dVar 2) (dNil)))) (gSet 5) (M.pure true) (dCall n_l_times (vVal false (dVar 0) (vVal false (dOp2 opIx (dOp2 opIx (dVar 1) (dVar 3)) (dVar 5)) (vVal false (dOp2 opIx (dOp2 opIx (dVar 2) (dVar 5)) (dVar 4)) (vNil)))) [])) (vNil))) [])
noncomputable def n_l_cell : Fn := dFn 5 6 [] b_l_cell
noncomputable def b_product : M Flow := dRet (dBlt opTuple (dCons (dComp [3] (dItems (dVar 1)) (gSet 3) (M.pure true) (dCall n_through (vVal false (dVar 0) (vVal false (dVar 3) (vVal false (dVar 2) (vNil)))) [])) (dNil)))
noncomputable def n_product : Fn := dFn 3 4 [] b_product
noncomputable def b_law_1 : M Flow := dSeq (dSet false 12 (dCall n_l_bent_table (vRef 2 (vVal false (dVar 3) (vVal false (dVar 8) (vNil)))) []))
  (dSeq (dExpr (dExtend 10 (dLst (dCons (dVar 12) (dCons (dCall n_l_bent_row (vRef 2 (vVal false (dVar 3) (vVal false (dOp2 opIx (dVar 8) (dC (.int 0))) (vNil)))) []) (dNil))))))
  (dIfS (dTest (dCall n_l_is_table (vVal false (dVar 3) (vVal false (dVar 12) (vVal false (dVar 5) (vVal false (dVar 6) (vNil))))) []))
  (dExpr (dAppend 10 false (dCall n_l_bent_table (vRef 2 (vVal false (dVar 3) (vVal false (dVar 12) (vNil)))) [])))
  (dSkip)))
noncomputable def b_law_2 : M Flow := dSeq (dSet true 2 (dCall n_l_bag (vVal false (dVar 0) (vVal false (dVar 1) (vNil))) []))
  (dSeq (dSet false 3 (dCall n_l_ground (vRef 2 (vNil)) []))
  (dSeq (dSet false 4 (dOp2 opIx (dLst (dCons (dC (.int 5)) (dCons (dC (.int 10)) (dNil)))) (dOp2 opDiv (dCall n_l_take (vRef 2 (vVal false (dC (.int 8)) (vNil))) []) (dC (.int 7)))))
  (dSeq (dAsg (dTup (dCons (dOp2 opAdd (dC (.int 1)) (dCall n_l_take (vRef 2 (vVal false (dVar 4) (vNil))) [])) (dCons (dOp2 opAdd (dC (.int 1)) (dCall n_l_take (vRef 2 (vVal false (dVar 4) (vNil))) [])) (dCons (dOp2 opAdd (dC (.int 1)) (dCall n_l_take (vRef 2 (vVal false (dVar 4) (vNil))) [])) (dNil))))) (gTupD 3 (gConsD (gSet 5) (gConsD (gSet 6) (gConsD (gSet 7) (gNilD))))))
  (dSeq (dAsg (dTup (dCons (dCall n_l_rows (vRef 2 (vVal false (dVar 3) (vVal false (dVar 5) (vVal false (dVar 6) (vNil))))) []) (dCons (dCall n_l_rows (vRef 2 (vVal false (dVar 3) (vVal false (dVar 6) (vVal false (dVar 7) (vNil))))) []) (dNil)))) (gTupD 2 (gConsD (gSet 8) (gConsD (gSet 9) (gNilD)))))
  (dSeq (dSet true 10 (dLst (dCons (dVar 8) (dCons (dOp2 opIx (dVar 8) (dC (.int 0))) (dCons (dVar 9) (dCons (dOp2 opIx (dVar 9) (dC (.int 0))) (dCons (dCall n_l_odd (vRef 2 (vNil)) []) (dNil))))))))
  (dSeq (dFor (dRng1 (dC (.int 4))) (gSet 11)
  (b_law_1))
  (dSeq (dFrz 10 (dIfS (dOrT (dNotT (dTest (dCall n_l_are_told (vVal false (dVar 3) (vVal false (dOp2 opAdd (dVar 10) (dRev (dVar 10))) (vVal false (dVar 5) (vVal false (dVar 6) (vNil))))) []))) (dNotT (dTest (dCall n_l_are_told (vVal false (dVar 3) (vVal false (dVar 10) (vVal false (dVar 6) (vVal false (dVar 5) (vNil))))) []))))
  (dRet (dC (.bl false)))
  (dSkip)))
  (dSeq (dSet false 13 (dBlt opTuple (dCons (dComp [14] (dRng1 (dVar 5)) (gSet 14) (M.pure true) (dBlt opTuple (dCons (dComp [16] (dRng1 (dVar 7)) (gSet 16) (M.pure true) (dCall n_l_cell (vVal false (dVar 3) (vVal false (dVar 8) (vVal false (dVar 9) (vVal false (dVar 14) (vVal false (dVar 16) (vNil)))))) [])) (dNil)))) (dNil))))
  (dSeq (dIfS (dOrT (dTest (dOp2 (opNe) (dCall n_product (vVal false (dVar 3) (vVal false (dVar 8) (vVal false (dVar 9) (vNil)))) []) (dVar 13))) (dTest (dOp2 (opNe) (dComp [15] (dItems (dVar 8)) (gSet 15) (M.pure true) (dCall n_through (vVal false (dVar 3) (vVal false (dVar 15) (vVal false (dVar 9) (vNil)))) [])) (dBlt opList (dCons (dVar 13) (dNil))))))
  (dRet (dC (.bl false)))
  (dSkip))
  (dSeq (dIfS (dTest (dOp2 (opNe) (dCall n_turned (vVal false (dVar 8) (vNil)) []) (dBlt opTuple (dCons (dComp [16] (dRng1 (dVar 6)) (gSet 16) (M.pure true) (dBlt opTuple (dCons (dComp [15] (dItems (dVar 8)) (gSet 15) (M.pure true) (dOp2 opIx (dVar 15) (dVar 16))) (dNil)))) (dNil)))))
  (dRet (dC (.bl false)))
  (dSkip))
  (dSeq (dIfS (dTest (dOp2 (opNe) (dCall n_turned (vVal false (dCall n_turned (vVal false (dVar 9) (vNil)) []) (vNil)) []) (dVar 9)))
  (dRet (dC (.bl false)))
  (dSkip))
  (dIfS (dOrT (dTest (dOp2 (opNe) (dCall n_product (vVal false (dVar 3) (vVal false (dVar 8) (vVal false (dVar 9) (vNil)))) []) (dVar 13))) (dNotT (dTest (dCall n_l_is_table (vVal false (dVar 3) (vVal false (dCall n_product (vVal false (dVar 3) (vVal false (dVar 8) (vVal false (dVar 9) (vNil)))) []) (vVal false (dVar 5) (vVal false (dVar 7) (vNil))))) []))))
  (dRet (dC (.bl false)))
  (dSkip)))))))))))))
noncomputable def b_law : M Flow := dSeq (dFor (dRng1 (dBlt opMax (dCons (dC (.int 2)) (dCons (dBlt opMin (dCons (dC (.int 5)) (dCons (dBlt opLen (dCons (dVar 0) (dNil))) (dNil)))) (dNil))))) (gSet 1)
  (b_law_2))
  (dRet (dOp2 (opEq) (dCall n_through (vVal false (dC (.int 3)) (vVal false (dTup (dCons (dTup (dCons (dC (.int 1)) (dCons (dC (.int 1)) (dNil)))) (dCons (dTup (dCons (dC (.int 2)) (dCons (dC (.int 1)) (dNil)))) (dNil)))) (vVal false (dTup (dCons (dTup (dCons (dTup (dCons (dC (.int 1)) (dCons (dC (.int 1)) (dNil)))) (dNil))) (dCons (dTup (dCons (dTup (dCons (dC (.int 2)) (dCons (dC (.int 1)) (dNil)))) (dNil))) (dNil)))) (vNil)))) []) (dTup (dCons (dTup (dCons (dC (.int 2)) (dCons (dC (.int 1)) (dNil)))) (dNil)))))
noncomputable def n_law : Fn := dFn 1 17 [] b_law
end DD.K04

namespace DD.K04
open PySem PySem.Spec L2
open PyProof.Rows hiding St
structure Facts (K : PySem.W.Frag) (mg : Str → Option Value) : Prop where
  b_abs : mg "abs" = none
  b_all : mg "all" = none
  b_bool : mg "bool" = none
  b_int : mg "int" = none
  b_isinstance : mg "isinstance" = none
  b_len : mg "len" = none
  b_list : mg "list" = none
  b_max : mg "max" = none
  b_min : mg "min" = none
  b_range : mg "range" = none
  b_str : mg "str" = none
  b_tuple : mg "tuple" = none
  b_zip : mg "zip" = none
  g_NOUGHT : Glob K mg "NOUGHT" c_NOUGHT
section
variable {P : Program} {w : World} {K : PySem.W.Frag} {mg : Str → Option Value} {base : Heap}
theorem ok_is_whole (H : Facts K mg) (h : Def0 K mg "is_whole" s_is_whole ["thing"])  : CalD P w K mg base 1 "is_whole" n_is_whole [] :=
  cal_def h sc_is_whole rfl rfl rfl fun f cdv A outer s H0 E hr =>
(dss_one (ds_ret (de_and (de_isi (T := "int") rfl (by rfl) H.b_isinstance (xv 0) (by rfl) H.b_int (by decide +kernel) (by decide +kernel)) (de_one (de_not (de_isi (T := "bool") rfl (by rfl) H.b_isinstance (xv 0) (by rfl) H.b_bool (by decide +kernel) (by decide +kernel)))))))
theorem ok_shared (H : Facts K mg) (h : Def0 K mg "shared" s_shared ["one", "other"])  : CalD P w K mg base 1 "shared" n_shared [] :=
  cal_def h sc_shared rfl rfl rfl fun f cdv A outer s H0 E hr =>
(dss_cons (ds_par (i := 0) (j := 1) false false rfl sc_shared.nd rfl rfl (by exact of_decide_eq_true rfl) (by exact of_decide_eq_true rfl) rfl rfl (de_callB call_abs on_abs (by rfl) H.b_abs (by decide +kernel) (da_cons (xv 0) da_nil)) (de_callB call_abs on_abs (by rfl) H.b_abs (by decide +kernel) (da_cons (xv 1) da_nil)) (by exact of_decide_eq_true rfl) (by rfl))
  (dss_cons (ds_while PassesOwn.never (dt_cmp op_gt o2_gt (xv 1) de_int (nomark _))
  (dss_one (ds_par (i := 0) (j := 1) false false rfl sc_shared.nd rfl rfl (by exact of_decide_eq_true rfl) (by exact of_decide_eq_true rfl) rfl rfl (xv 1) (de_op2 op_modN o2_mod (xv 0) (xv 1)) (by exact of_decide_eq_true rfl) (by rfl))))
  (dss_one (ds_ret (xv 0)))))
theorem ok_contrary_on (H : Facts K mg) (h : Def0 K mg "contrary_on" s_contrary_on ["wheel", "rest"])  : CalD P w K mg base 1 "contrary_on" n_contrary_on [] :=
  cal_def h sc_contrary_on rfl rfl rfl fun f cdv A outer s H0 E hr =>
(dss_one (ds_ret (de_ix (de_comp (own := [("one", 2)]) (by exact of_decide_eq_true rfl) (by exact of_decide_eq_true rfl) rfl sc_contrary_on.nd (di_rng1 (by rfl) H.b_range (xv 0)) (blkOk_by (by kernel_rfl)) (fun _ _ _ _ _ => (dg_name (i := 2) (by exact of_decide_eq_true rfl) sc_contrary_on.nd rfl (by first | exact Or.inl rfl | exact Or.inr rfl) (by exact of_decide_eq_true rfl))) (fun _ _ _ _ _ => (dts_one (dt_cmp (op_eqD hr.units) o2_eq (de_op2 op_modN o2_mod (de_op2 or_mulA o2_mul (xv 2) (xv 1)) (xv 0)) de_int (nomark _)))) (fun _ _ _ _ _ => (xv 2))) de_int rfl (fun _ _ => rfl))))
theorem ok_turned (H : Facts K mg) (h : Def0 K mg "turned" s_turned ["table"])  : CalD P w K mg base 1 "turned" n_turned [] :=
  cal_def h sc_turned rfl rfl rfl fun f cdv A outer s H0 E hr =>
(dss_one (ds_ret (de_callTy call_tuple_of on_tuple (by rfl) H.b_tuple (by decide +kernel) (da_cons (de_comp (own := [("k", 1)]) (by exact of_decide_eq_true rfl) (by exact of_decide_eq_true rfl) rfl sc_turned.nd (di_rng1 (by rfl) H.b_range (de_callB cl_len on_len (by rfl) H.b_len PySem.boot_len (da_cons (de_ix (xv 0) de_int rfl (fun _ _ => rfl)) da_nil))) (blkOk_by (by kernel_rfl)) (fun _ _ _ _ _ => (dg_name (i := 1) (by exact of_decide_eq_true rfl) sc_turned.nd rfl (by first | exact Or.inl rfl | exact Or.inr rfl) (by exact of_decide_eq_true rfl))) (fun _ _ _ _ _ => dts_nil) (fun _ _ _ _ _ => (de_callTy call_tuple_of on_tuple (by rfl) H.b_tuple (by decide +kernel) (da_cons (de_comp (own := [("row", 2)]) (by exact of_decide_eq_true rfl) (by exact of_decide_eq_true rfl) rfl sc_turned.nd (di_seq rfl (xv 0)) (blkOk_by (by kernel_rfl)) (fun _ _ _ _ _ => (dg_name (i := 2) (by exact of_decide_eq_true rfl) sc_turned.nd rfl (by first | exact Or.inl rfl | exact Or.inr rfl) (by exact of_decide_eq_true rfl))) (fun _ _ _ _ _ => dts_nil) (fun _ _ _ _ _ => (de_ix (xv 2) (xv 1) rfl (fun _ _ => rfl)))) da_nil)))) da_nil))))
theorem ok_l_is_whole (H : Facts K mg) (h : Def0 K mg "_law_is_whole" s_l_is_whole ["_law_thing"])  : CalD P w K mg base 1 "_law_is_whole" n_l_is_whole [] :=
  cal_def h sc_l_is_whole rfl rfl rfl fun f cdv A outer s H0 E hr =>
(dss_one (ds_ret (de_and (de_isi (T := "int") rfl (by rfl) H.b_isinstance (xv 0) (by rfl) H.b_int (by decide +kernel) (by decide +kernel)) (de_one (de_not (de_isi (T := "bool") rfl (by rfl) H.b_isinstance (xv 0) (by rfl) H.b_bool (by decide +kernel) (by decide +kernel)))))))
theorem ok_l_shared (H : Facts K mg) (h : Def0 K mg "_law_shared" s_l_shared ["_law_one", "_law_other"])  : CalD P w K mg base 1 "_law_shared" n_l_shared [] :=
  cal_def h sc_l_shared rfl rfl rfl fun f cdv A outer s H0 E hr =>
(dss_cons (ds_par (i := 0) (j := 1) false false rfl sc_l_shared.nd rfl rfl (by exact of_decide_eq_true rfl) (by exact of_decide_eq_true rfl) rfl rfl (de_callB call_abs on_abs (by rfl) H.b_abs (by decide +kernel) (da_cons (xv 0) da_nil)) (de_callB call_abs on_abs (by rfl) H.b_abs (by decide +kernel) (da_cons (xv 1) da_nil)) (by exact of_decide_eq_true rfl) (by rfl))
  (dss_cons (ds_while PassesOwn.never (dt_cmp op_gt o2_gt (xv 1) de_int (nomark _))
  (dss_one (ds_par (i := 0) (j := 1) false false rfl sc_l_shared.nd rfl rfl (by exact of_decide_eq_true rfl) (by exact of_decide_eq_true rfl) rfl rfl (xv 1) (de_op2 op_modN o2_mod (xv 0) (xv 1)) (by exact of_decide_eq_true rfl) (by rfl))))
  (dss_one (ds_ret (xv 0)))))
theorem ok_l_bag (H : Facts K mg) (h : Def0 K mg "_law_bag" s_l_bag ["_law_script", "_law_at"])  : CalD P w K mg base 1 "_law_bag" n_l_bag [] :=
  cal_def h sc_l_bag rfl rfl rfl fun f cdv A outer s H0 E hr =>
(dss_cons (ds_set (i := 2) false sc_l_bag.nd rfl (by first | exact Or.inl rfl | exact Or.inr rfl) (by exact of_decide_eq_true rfl) de_int)
  (dss_cons (ds_if (dt_cmp op_lt o2_lt (xv 1) (de_callB cl_len on_len (by rfl) H.b_len PySem.boot_len (da_cons (xv 0) da_nil)) (nomark _))
  (dss_one (ds_set (i := 2) false sc_l_bag.nd rfl (by first | exact Or.inl rfl | exact Or.inr rfl) (by exact of_decide_eq_true rfl) (de_ix (xv 0) (xv 1) rfl (fun _ _ => rfl))))
  dss_nil)
  (dss_cons (ds_set (i := 3) false sc_l_bag.nd rfl (by first | exact Or.inl rfl | exact Or.inr rfl) (by exact of_decide_eq_true rfl) de_int)
  (dss_cons (ds_if (dt_cmp op_ge o2_ge (de_callB call_abs on_abs (by rfl) H.b_abs (by decide +kernel) (da_cons (xv 2) da_nil)) (de_op2 op_pow o2_pow de_int de_int) (nomark _))
  (dss_one (ds_set (i := 3) false sc_l_bag.nd rfl (by first | exact Or.inl rfl | exact Or.inr rfl) (by exact of_decide_eq_true rfl) (de_callB call_abs on_abs (by rfl) H.b_abs (by decide +kernel) (da_cons (xv 2) da_nil))))
  dss_nil)
  (dss_cons (ds_set (i := 4) false sc_l_bag.nd rfl (by first | exact Or.inl rfl | exact Or.inr rfl) (by exact of_decide_eq_true rfl) (de_lst (da_cons de_int (da_cons de_int (da_cons de_int (da_cons de_int (da_cons de_int (da_cons de_int (da_cons de_int (da_cons de_int da_nil))))))))))
  (dss_cons (ds_set (i := 5) false sc_l_bag.nd rfl (by first | exact Or.inl rfl | exact Or.inr rfl) (by exact of_decide_eq_true rfl) (de_op2 or_add o2_add (de_op2 or_add o2_add (de_op2 or_add o2_add (de_op2 or_mulA o2_mul (de_op2 op_modN o2_mod (xv 2) de_int) de_int) (de_op2 or_mulA o2_mul (de_op2 or_mulA o2_mul de_int (xv 1)) (xv 1))) (de_op2 or_mulA o2_mul de_int (xv 1))) de_int))
  (dss_one (ds_ret (de_lst (da_cons (xv 3) (da_cons (de_op2 op_modN o2_mod (xv 5) (de_ix (xv 4) (de_op2 op_modN o2_mod (xv 1) de_int) rfl (fun _ _ => rfl))) da_nil)))))))))))
theorem ok_l_take (H : Facts K mg) (h : Def0 K mg "_law_take" s_l_take ["_law_bag_here", "_law_many"])  : CalD P w K mg base 1 "_law_take" n_l_take [] :=
  cal_def h sc_l_take rfl rfl rfl fun f cdv A outer s H0 E hr =>
(dss_cons (ds_if (dt_cmp op_gt o2_gt (de_ixOwn (i := 0) rfl rfl (by first | exact Or.inl rfl | exact Or.inr (Or.inl rfl) | exact Or.inr (Or.inr rfl)) de_int (fun _ _ => rfl)) de_int (nomark _))
  (dss_cons (ds_set (i := 2) false sc_l_take.nd rfl (by first | exact Or.inl rfl | exact Or.inr rfl) (by exact of_decide_eq_true rfl) (de_op2 op_modN o2_mod (de_ixOwn (i := 0) rfl rfl (by first | exact Or.inl rfl | exact Or.inr (Or.inl rfl) | exact Or.inr (Or.inr rfl)) de_int (fun _ _ => rfl)) (xv 1)))
  (dss_cons (ds_setitem (i := 0) false rfl (by first | exact Or.inl rfl | exact Or.inr (Or.inl rfl) | exact Or.inr (Or.inr rfl)) (de_op2 or_div o2_div (de_ixOwn (i := 0) rfl rfl (by first | exact Or.inl rfl | exact Or.inr (Or.inl rfl) | exact Or.inr (Or.inr rfl)) de_int (fun _ _ => rfl)) (xv 1)) de_int)
  (dss_one (ds_ret (xv 2)))))
  dss_nil)
  (dss_cons (ds_setitem (i := 0) false rfl (by first | exact Or.inl rfl | exact Or.inr (Or.inl rfl) | exact Or.inr (Or.inr rfl)) (de_op2 op_modN o2_mod (de_op2 or_add o2_add (de_op2 or_mulA o2_mul (de_ixOwn (i := 0) rfl rfl (by first | exact Or.inl rfl | exact Or.inr (Or.inl rfl) | exact Or.inr (Or.inr rfl)) de_int (fun _ _ => rfl)) de_int) de_int) de_int) de_int)
  (dss_one (ds_ret (de_op2 op_modN o2_mod (de_op2 or_div o2_div (de_op2 op_modN o2_mod (de_op2 op_pow o2_pow (de_ixOwn (i := 0) rfl rfl (by first | exact Or.inl rfl | exact Or.inr (Or.inl rfl) | exact Or.inr (Or.inr rfl)) de_int (fun _ _ => rfl)) de_int) de_int) de_int) (xv 1))))))
theorem ok_l_swapped (H : Facts K mg) (h : Def0 K mg "_law_swapped" s_l_swapped ["_law_row_here", "_law_at", "_law_thing"])  : CalD P w K mg base 1 "_law_swapped" n_l_swapped [] :=
  cal_def h sc_l_swapped rfl rfl rfl fun f cdv A outer s H0 E hr =>
(dss_one (ds_ret (de_op2 or_add o2_add (de_op2 or_add o2_add (de_slice rfl (xv 0) do_none (do_some (xv 1))) (de_tup (da_cons (xv 2) da_nil))) (de_slice rfl (xv 0) (do_some (de_op2 or_add o2_add (xv 1) de_int)) do_none))))
theorem ok_is_number (H : Facts K mg) (h : Def0 K mg "is_number" s_is_number ["ground", "thing"]) (c_is_whole : CalD P w K mg base 1 "is_whole" n_is_whole []) (c_shared : CalD P w K mg base 1 "shared" n_shared []) : CalD P w K mg base 2 "is_number" n_is_number [] :=
  cal_def h sc_is_number rfl rfl rfl fun f cdv A outer s H0 E hr =>
(dss_cons (ds_if (PW.pt (dw_or (dt_not (dt_val (de_isi (T := "tuple") rfl (by rfl) H.b_isinstance (xv 1) (by rfl) H.b_tuple (by decide +kernel) (by decide +kernel)))) (dw_or (dt_cmp (op_neD hr.units) o2_ne (de_callB cl_len on_len (by rfl) H.b_len PySem.boot_len (da_cons (xv 1) da_nil)) de_int (nomark _)) (dw_or1 (dt_not (dt_val (de_callB (cr_all rfl) on_bs (by rfl) H.b_all (by decide +kernel) (da_cons (de_comp (own := [("part", 4)]) (by exact of_decide_eq_true rfl) (by exact of_decide_eq_true rfl) rfl sc_is_number.nd (di_seq rfl (xv 1)) (blkOk_by (by kernel_rfl)) (fun _ _ _ _ _ => (dg_name (i := 4) (by exact of_decide_eq_true rfl) sc_is_number.nd rfl (by first | exact Or.inl rfl | exact Or.inr rfl) (by exact of_decide_eq_true rfl))) (fun _ _ _ _ _ => dts_nil) (fun _ _ _ _ _ => (de_call c_is_whole hr (by rfl) rfl rfl rfl (dv_val false (xv 4) dv_nil)))) da_nil))))))))
  (dss_one (ds_ret de_bl))
  dss_nil)
  (dss_cons (ds_asg (sl := [2, 3]) (xv 1) (dg_tup rfl rfl (dgs_cons (dg_name (i := 2) (by exact of_decide_eq_true rfl) sc_is_number.nd rfl (by first | exact Or.inl rfl | exact Or.inr rfl) (by exact of_decide_eq_true rfl)) (dgs_cons (dg_name (i := 3) (by exact of_decide_eq_true rfl) sc_is_number.nd rfl (by first | exact Or.inl rfl | exact Or.inr rfl) (by exact of_decide_eq_true rfl)) dgs_nil))))
  (dss_cons (ds_if (dt_cmp op_gt o2_gt (xv 0) de_int (nomark _))
  (dss_one (ds_ret (de_and (de_chain op_le op_lt de_int (xv 2) (xv 0)) (de_one (de_cmp (op_eqD hr.units) o2_eq (xv 3) de_int (nomark _))))))
  dss_nil)
  (dss_one (ds_ret (de_and (de_cmp op_ge o2_ge (xv 3) de_int (nomark _)) (de_one (de_cmp (op_eqD hr.units) o2_eq (de_call c_shared hr (by rfl) rfl rfl rfl (dv_val false (xv 2) (dv_val false (xv 3) dv_nil))) de_int (nomark _)))))))))
theorem ok_lowest (H : Facts K mg) (h : Def0 K mg "lowest" s_lowest ["ground", "top", "bottom"]) (c_contrary_on : CalD P w K mg base 1 "contrary_on" n_contrary_on []) (c_shared : CalD P w K mg base 1 "shared" n_shared []) : CalD P w K mg base 2 "lowest" n_lowest [] :=
  cal_def h sc_lowest rfl rfl rfl fun f cdv A outer s H0 E hr =>
(dss_cons (ds_if (PW.pt (dw_and (dt_cmp op_gt o2_gt (xv 0) de_int (nomark _)) (dw_and1 (dt_cmp (op_eqD hr.units) o2_eq (xv 2) de_int (nomark _)))))
  (dss_one (ds_ret (de_tup (da_cons (de_op2 op_modN o2_mod (xv 1) (xv 0)) (da_cons de_int da_nil)))))
  dss_nil)
  (dss_cons (ds_if (dt_cmp op_gt o2_gt (xv 0) de_int (nomark _))
  (dss_one (ds_ret (de_tup (da_cons (de_op2 op_modN o2_mod (de_op2 or_mulA o2_mul (xv 1) (de_call c_contrary_on hr (by rfl) rfl rfl rfl (dv_val false (xv 0) (dv_val false (de_op2 op_modN o2_mod (xv 2) (xv 0)) dv_nil)))) (xv 0)) (da_cons de_int da_nil)))))
  dss_nil)
  (dss_cons (ds_set (i := 3) false sc_lowest.nd rfl (by first | exact Or.inl rfl | exact Or.inr rfl) (by exact of_decide_eq_true rfl) (de_call c_shared hr (by rfl) rfl rfl rfl (dv_val false (xv 1) (dv_val false (xv 2) dv_nil))))
  (dss_cons (ds_if (dt_cmp op_lt o2_lt (xv 2) de_int (nomark _))
  (dss_one (ds_set (i := 3) false sc_lowest.nd rfl (by first | exact Or.inl rfl | exact Or.inr rfl) (by exact of_decide_eq_true rfl) (de_op2 op_sub o2_sub de_int (xv 3))))
  dss_nil)
  (dss_one (ds_ret (de_tup (da_cons (de_op2 or_div o2_div (xv 1) (xv 3)) (da_cons (de_op2 or_div o2_div (xv 2) (xv 3)) da_nil)))))))))
theorem ok_l_is_number (H : Facts K mg) (h : Def0 K mg "_law_is_number" s_l_is_number ["_law_g", "_law_thing"]) (c_l_is_whole : CalD P w K mg base 1 "_law_is_whole" n_l_is_whole []) (c_l_shared : CalD P w K mg base 1 "_law_shared" n_l_shared []) : CalD P w K mg base 2 "_law_is_number" n_l_is_number [] :=
  cal_def h sc_l_is_number rfl rfl rfl fun f cdv A outer s H0 E hr =>
(dss_cons (ds_if (PW.pt (dw_or (dt_not (dt_val (de_isi (T := "tuple") rfl (by rfl) H.b_isinstance (xv 1) (by rfl) H.b_tuple (by decide +kernel) (by decide +kernel)))) (dw_or (dt_cmp (op_neD hr.units) o2_ne (de_callB cl_len on_len (by rfl) H.b_len PySem.boot_len (da_cons (xv 1) da_nil)) de_int (nomark _)) (dw_or1 (dt_not (dt_val (de_callB (cr_all rfl) on_bs (by rfl) H.b_all (by decide +kernel) (da_cons (de_comp (own := [("_law_one", 2)]) (by exact of_decide_eq_true rfl) (by exact of_decide_eq_true rfl) rfl sc_l_is_number.nd (di_seq rfl (xv 1)) (blkOk_by (by kernel_rfl)) (fun _ _ _ _ _ => (dg_name (i := 2) (by exact of_decide_eq_true rfl) sc_l_is_number.nd rfl (by first | exact Or.inl rfl | exact Or.inr rfl) (by exact of_decide_eq_true rfl))) (fun _ _ _ _ _ => dts_nil) (fun _ _ _ _ _ => (de_call c_l_is_whole hr (by rfl) rfl rfl rfl (dv_val false (xv 2) dv_nil)))) da_nil))))))))
  (dss_one (ds_ret de_bl))
  dss_nil)
  (dss_cons (ds_if (dt_cmp op_gt o2_gt (xv 0) de_int (nomark _))
  (dss_one (ds_ret (de_and (de_chain op_le op_lt de_int (de_ix (xv 1) de_int rfl (fun _ _ => rfl)) (xv 0)) (de_one (de_cmp (op_eqD hr.units) o2_eq (de_ix (xv 1) de_int rfl (fun _ _ => rfl)) de_int (nomark _))))))
  dss_nil)
  (dss_one (ds_ret (de_and (de_cmp op_gt o2_gt (de_ix (xv 1) de_int rfl (fun _ _ => rfl)) de_int (nomark _)) (de_one (de_cmp (op_eqD hr.units) o2_eq (de_call c_l_shared hr (by rfl) rfl rfl rfl (dv_val false (de_ix (xv 1) de_int rfl (fun _ _ => rfl)) (dv_val false (de_ix (xv 1) de_int rfl (fun _ _ => rfl)) dv_nil))) de_int (nomark _))))))))
theorem ok_l_low (H : Facts K mg) (h : Def0 K mg "_law_low" s_l_low ["_law_g", "_law_up", "_law_down"]) (c_l_shared : CalD P w K mg base 1 "_law_shared" n_l_shared []) : CalD P w K mg base 2 "_law_low" n_l_low [] :=
  cal_def h sc_l_low rfl rfl rfl fun f cdv A outer s H0 E hr =>
(dss_cons (ds_if (dt_cmp op_gt o2_gt (xv 0) de_int (nomark _))
  (dss_one (ds_for (sl := [3]) PassesOwn.never rfl (di_rng1 (by rfl) H.b_range (xv 0)) (dg_name (i := 3) (by exact of_decide_eq_true rfl) sc_l_low.nd rfl (by first | exact Or.inl rfl | exact Or.inr rfl) (by exact of_decide_eq_true rfl))
  (dss_one (ds_if (dt_cmp (op_eqD hr.units) o2_eq (de_op2 op_modN o2_mod (de_op2 or_mulA o2_mul (xv 3) (xv 2)) (xv 0)) (de_op2 op_modN o2_mod (xv 1) (xv 0)) (nomark _))
  (dss_one (ds_ret (de_tup (da_cons (xv 3) (da_cons de_int da_nil)))))
  dss_nil))))
  dss_nil)
  (dss_cons (ds_set (i := 4) false sc_l_low.nd rfl (by first | exact Or.inl rfl | exact Or.inr rfl) (by exact of_decide_eq_true rfl) (de_op2 or_mulA o2_mul (de_call c_l_shared hr (by rfl) rfl rfl rfl (dv_val false (xv 1) (dv_val false (xv 2) dv_nil))) (de_ix (de_lst (da_cons de_int (da_cons (de_un un_neg o1_neg de_int) da_nil))) (de_callTy call_int1 on_int (by rfl) H.b_int (by decide +kernel) (da_cons (de_cmp op_lt o2_lt (xv 2) de_int (nomark _)) da_nil)) rfl (fun _ _ => rfl))))
  (dss_one (ds_ret (de_tup (da_cons (de_op2 or_div o2_div (xv 1) (xv 4)) (da_cons (de_op2 or_div o2_div (xv 2) (xv 4)) da_nil)))))))
theorem ok_l_ground (H : Facts K mg) (h : Def0 K mg "_law_ground" s_l_ground ["_law_bag_here"]) (c_l_take : CalD P w K mg base 1 "_law_take" n_l_take []) : CalD P w K mg base 2 "_law_ground" n_l_ground [] :=
  cal_def h sc_l_ground rfl rfl rfl fun f cdv A outer s H0 E hr =>
(dss_one (ds_ret (de_ix (de_lst (da_cons de_int (da_cons de_int (da_cons de_int (da_cons de_int (da_cons de_int (da_cons de_int (da_cons de_int (da_cons (de_ix (de_lst (da_cons de_int (da_cons de_int (da_cons de_int da_nil)))) (de_call c_l_take hr (by rfl) rfl rfl rfl (dv_ref (i := 0) rfl (by first | exact Or.inl rfl | exact Or.inr (Or.inl rfl) | exact Or.inr (Or.inr rfl)) (dv_val false de_int dv_nil))) rfl (fun _ _ => rfl)) da_nil))))))))) (de_call c_l_take hr (by rfl) rfl rfl rfl (dv_ref (i := 0) rfl (by first | exact Or.inl rfl | exact Or.inr (Or.inl rfl) | exact Or.inr (Or.inr rfl)) (dv_val false de_int dv_nil))) rfl (fun _ _ => rfl))))
theorem ok_l_odd (H : Facts K mg) (h : Def0 K mg "_law_odd" s_l_odd ["_law_bag_here"]) (c_l_take : CalD P w K mg base 1 "_law_take" n_l_take []) : CalD P w K mg base 2 "_law_odd" n_l_odd [] :=
  cal_def h sc_l_odd rfl rfl rfl fun f cdv A outer s H0 E hr =>
(dss_cons (ds_set (i := 1) false sc_l_odd.nd rfl (by first | exact Or.inl rfl | exact Or.inr rfl) (by exact of_decide_eq_true rfl) (de_lst (da_cons de_non (da_cons de_bl (da_cons de_bl (da_cons de_str (da_cons de_str (da_cons (de_un un_neg o1_neg de_int) (da_cons de_int (da_cons de_int (da_cons (de_op2 op_pow o2_pow de_int de_int) (da_cons (de_tup da_nil) (da_cons (de_lst da_nil) (da_cons (de_lst (da_cons de_int da_nil)) (da_cons (de_tup (da_cons de_int (da_cons de_int da_nil))) (da_cons (de_tup (da_cons de_int (da_cons de_int da_nil))) (da_cons (de_tup (da_cons de_int (da_cons de_int da_nil))) (da_cons (de_tup (da_cons de_bl (da_cons de_int da_nil))) (da_cons (de_tup (da_cons de_int (da_cons (de_un un_neg o1_neg de_int) da_nil))) (da_cons (de_tup (da_cons de_int da_nil)) (da_cons (de_lst (da_cons de_int (da_cons de_int da_nil))) (da_cons (de_tup (da_cons de_int (da_cons de_int (da_cons de_int da_nil)))) da_nil))))))))))))))))))))))
  (dss_one (ds_ret (de_ix (xv 1) (de_call c_l_take hr (by rfl) rfl rfl rfl (dv_ref (i := 0) rfl (by first | exact Or.inl rfl | exact Or.inr (Or.inl rfl) | exact Or.inr (Or.inr rfl)) (dv_val false de_int dv_nil))) rfl (fun _ _ => rfl)))))
theorem ok_plus (H : Facts K mg) (h : Def0 K mg "plus" s_plus ["ground", "x", "y"]) (c_lowest : CalD P w K mg base 2 "lowest" n_lowest []) : CalD P w K mg base 3 "plus" n_plus [] :=
  cal_def h sc_plus rfl rfl rfl fun f cdv A outer s H0 E hr =>
(dss_one (ds_ret (de_call c_lowest hr (by rfl) rfl rfl rfl (dv_val false (xv 0) (dv_val false (de_op2 or_add o2_add (de_op2 or_mulA o2_mul (de_ix (xv 1) de_int rfl (fun _ _ => rfl)) (de_ix (xv 2) de_int rfl (fun _ _ => rfl))) (de_op2 or_mulA o2_mul (de_ix (xv 2) de_int rfl (fun _ _ => rfl)) (de_ix (xv 1) de_int rfl (fun _ _ => rfl)))) (dv_val false (de_op2 or_mulA o2_mul (de_ix (xv 1) de_int rfl (fun _ _ => rfl)) (de_ix (xv 2) de_int rfl (fun _ _ => rfl))) dv_nil))))))
theorem ok_times (H : Facts K mg) (h : Def0 K mg "times" s_times ["ground", "x", "y"]) (c_lowest : CalD P w K mg base 2 "lowest" n_lowest []) : CalD P w K mg base 3 "times" n_times [] :=
  cal_def h sc_times rfl rfl rfl fun f cdv A outer s H0 E hr =>
(dss_one (ds_ret (de_call c_lowest hr (by rfl) rfl rfl rfl (dv_val false (xv 0) (dv_val false (de_op2 or_mulA o2_mul (de_ix (xv 1) de_int rfl (fun _ _ => rfl)) (de_ix (xv 2) de_int rfl (fun _ _ => rfl))) (dv_val false (de_op2 or_mulA o2_mul (de_ix (xv 1) de_int rfl (fun _ _ => rfl)) (de_ix (xv 2) de_int rfl (fun _ _ => rfl))) dv_nil))))))
theorem ok_is_row (H : Facts K mg) (h : Def0 K mg "is_row" s_is_row ["ground", "thing", "many"]) (c_is_number : CalD P w K mg base 2 "is_number" n_is_number []) : CalD P w K mg base 3 "is_row" n_is_row [] :=
  cal_def h sc_is_row rfl rfl rfl fun f cdv A outer s H0 E hr =>
(dss_one (ds_ret (de_and (de_isi (T := "tuple") rfl (by rfl) H.b_isinstance (xv 1) (by rfl) H.b_tuple (by decide +kernel) (by decide +kernel)) (de_and (de_cmp (op_eqD hr.units) o2_eq (de_callB cl_len on_len (by rfl) H.b_len PySem.boot_len (da_cons (xv 1) da_nil)) (xv 2) (nomark _)) (de_one (de_callB (cr_all rfl) on_bs (by rfl) H.b_all (by decide +kernel) (da_cons (de_comp (own := [("one", 3)]) (by exact of_decide_eq_true rfl) (by exact of_decide_eq_true rfl) rfl sc_is_row.nd (di_seq rfl (xv 1)) (blkOk_by (by kernel_rfl)) (fun _ _ _ _ _ => (dg_name (i := 3) (by exact of_decide_eq_true rfl) sc_is_row.nd rfl (by first | exact Or.inl rfl | exact Or.inr rfl) (by exact of_decide_eq_true rfl))) (fun _ _ _ _ _ => dts_nil) (fun _ _ _ _ _ => (de_call c_is_number hr (by rfl) rfl rfl rfl (dv_val false (xv 0) (dv_val false (xv 3) dv_nil))))) da_nil)))))))
theorem ok_l_is_row (H : Facts K mg) (h : Def0 K mg "_law_is_row" s_l_is_row ["_law_g", "_law_thing", "_law_many"]) (c_l_is_number : CalD P w K mg base 2 "_law_is_number" n_l_is_number []) : CalD P w K mg base 3 "_law_is_row" n_l_is_row [] :=
  cal_def h sc_l_is_row rfl rfl rfl fun f cdv A outer s H0 E hr =>
(dss_one (ds_ret (de_and (de_isi (T := "tuple") rfl (by rfl) H.b_isinstance (xv 1) (by rfl) H.b_tuple (by decide +kernel) (by decide +kernel)) (de_and (de_cmp (op_eqD hr.units) o2_eq (de_callB cl_len on_len (by rfl) H.b_len PySem.boot_len (da_cons (xv 1) da_nil)) (xv 2) (nomark _)) (de_one (de_callB (cr_all rfl) on_bs (by rfl) H.b_all (by decide +kernel) (da_cons (de_comp (own := [("_law_one", 3)]) (by exact of_decide_eq_true rfl) (by exact of_decide_eq_true rfl) rfl sc_l_is_row.nd (di_seq rfl (xv 1)) (blkOk_by (by kernel_rfl)) (fun _ _ _ _ _ => (dg_name (i := 3) (by exact of_decide_eq_true rfl) sc_l_is_row.nd rfl (by first | exact Or.inl rfl | exact Or.inr rfl) (by exact of_decide_eq_true rfl))) (fun _ _ _ _ _ => dts_nil) (fun _ _ _ _ _ => (de_call c_l_is_number hr (by rfl) rfl rfl rfl (dv_val false (xv 0) (dv_val false (xv 3) dv_nil))))) da_nil)))))))
theorem ok_l_plus (H : Facts K mg) (h : Def0 K mg "_law_plus" s_l_plus ["_law_g", "_law_x", "_law_y"]) (c_l_low : CalD P w K mg base 2 "_law_low" n_l_low []) : CalD P w K mg base 3 "_law_plus" n_l_plus [] :=
  cal_def h sc_l_plus rfl rfl rfl fun f cdv A outer s H0 E hr =>
(dss_one (ds_ret (de_call c_l_low hr (by rfl) rfl rfl rfl (dv_val false (xv 0) (dv_val false (de_op2 or_add o2_add (de_op2 or_mulA o2_mul (de_ix (xv 1) de_int rfl (fun _ _ => rfl)) (de_ix (xv 2) de_int rfl (fun _ _ => rfl))) (de_op2 or_mulA o2_mul (de_ix (xv 2) de_int rfl (fun _ _ => rfl)) (de_ix (xv 1) de_int rfl (fun _ _ => rfl)))) (dv_val false (de_op2 or_mulA o2_mul (de_ix (xv 1) de_int rfl (fun _ _ => rfl)) (de_ix (xv 2) de_int rfl (fun _ _ => rfl))) dv_nil))))))
theorem ok_l_times (H : Facts K mg) (h : Def0 K mg "_law_times" s_l_times ["_law_g", "_law_x", "_law_y"]) (c_l_low : CalD P w K mg base 2 "_law_low" n_l_low []) : CalD P w K mg base 3 "_law_times" n_l_times [] :=
  cal_def h sc_l_times rfl rfl rfl fun f cdv A outer s H0 E hr =>
(dss_one (ds_ret (de_call c_l_low hr (by rfl) rfl rfl rfl (dv_val false (xv 0) (dv_val false (de_op2 or_mulA o2_mul (de_ix (xv 1) de_int rfl (fun _ _ => rfl)) (de_ix (xv 2) de_int rfl (fun _ _ => rfl))) (dv_val false (de_op2 or_mulA o2_mul (de_ix (xv 1) de_int rfl (fun _ _ => rfl)) (de_ix (xv 2) de_int rfl (fun _ _ => rfl))) dv_nil))))))
theorem ok_l_number (H : Facts K mg) (h : Def0 K mg "_law_number" s_l_number ["_law_bag_here", "_law_g"]) (c_l_low : CalD P w K mg base 2 "_law_low" n_l_low []) (c_l_take : CalD P w K mg base 1 "_law_take" n_l_take []) : CalD P w K mg base 3 "_law_number" n_l_number [] :=
  cal_def h sc_l_number rfl rfl rfl fun f cdv A outer s H0 E hr =>
(dss_cons (ds_if (dt_cmp op_gt o2_gt (xv 1) de_int (nomark _))
  (dss_one (ds_ret (de_tup (da_cons (de_call (c_l_take.mono (by exact of_decide_eq_true rfl)) hr (by rfl) rfl rfl rfl (dv_ref (i := 0) rfl (by first | exact Or.inl rfl | exact Or.inr (Or.inl rfl) | exact Or.inr (Or.inr rfl)) (dv_val false (xv 1) dv_nil))) (da_cons de_int da_nil)))))
  dss_nil)
  (dss_cons (ds_set (i := 2) false sc_l_number.nd rfl (by first | exact Or.inl rfl | exact Or.inr rfl) (by exact of_decide_eq_true rfl) (de_ix (de_lst (da_cons de_int (da_cons de_int (da_cons de_int (da_cons de_int (da_cons de_int (da_cons de_int da_nil))))))) (de_call (c_l_take.mono (by exact of_decide_eq_true rfl)) hr (by rfl) rfl rfl rfl (dv_ref (i := 0) rfl (by first | exact Or.inl rfl | exact Or.inr (Or.inl rfl) | exact Or.inr (Or.inr rfl)) (dv_val false de_int dv_nil))) rfl (fun _ _ => rfl)))
  (dss_cons (ds_set (i := 3) false sc_l_number.nd rfl (by first | exact Or.inl rfl | exact Or.inr rfl) (by exact of_decide_eq_true rfl) (de_ix (de_lst (da_cons de_int (da_cons de_int (da_cons de_int (da_cons (de_op2 or_add o2_add de_int (de_call (c_l_take.mono (by exact of_decide_eq_true rfl)) hr (by rfl) rfl rfl rfl (dv_ref (i := 0) rfl (by first | exact Or.inl rfl | exact Or.inr (Or.inl rfl) | exact Or.inr (Or.inr rfl)) (dv_val false de_int dv_nil)))) da_nil))))) (de_call (c_l_take.mono (by exact of_decide_eq_true rfl)) hr (by rfl) rfl rfl rfl (dv_ref (i := 0) rfl (by first | exact Or.inl rfl | exact Or.inr (Or.inl rfl) | exact Or.inr (Or.inr rfl)) (dv_val false de_int dv_nil))) rfl (fun _ _ => rfl)))
  (dss_one (ds_ret (de_call c_l_low hr (by rfl) rfl rfl rfl (dv_val false de_int (dv_val false (de_op2 op_sub o2_sub (de_call (c_l_take.mono (by exact of_decide_eq_true rfl)) hr (by rfl) rfl rfl rfl (dv_ref (i := 0) rfl (by first | exact Or.inl rfl | exact Or.inr (Or.inl rfl) | exact Or.inr (Or.inr rfl)) (dv_val false (xv 2) dv_nil))) (de_op2 or_div o2_div (xv 2) de_int)) (dv_val false (xv 3) dv_nil)))))))))
theorem ok_l_bent_number (H : Facts K mg) (h : Def0 K mg "_law_bent_number" s_l_bent_number ["_law_bag_here", "_law_g", "_law_x"]) (c_l_odd : CalD P w K mg base 2 "_law_odd" n_l_odd []) (c_l_take : CalD P w K mg base 1 "_law_take" n_l_take []) : CalD P w K mg base 3 "_law_bent_number" n_l_bent_number [] :=
  cal_def h sc_l_bent_number rfl rfl rfl fun f cdv A outer s H0 E hr =>
(dss_cons (ds_set (i := 3) false sc_l_bent_number.nd rfl (by first | exact Or.inl rfl | exact Or.inr rfl) (by exact of_decide_eq_true rfl) (de_lst (da_cons (de_tup (da_cons (de_op2 or_mulA o2_mul (de_ix (xv 2) de_int rfl (fun _ _ => rfl)) de_int) (da_cons (de_op2 or_mulA o2_mul (de_ix (xv 2) de_int rfl (fun _ _ => rfl)) de_int) da_nil))) (da_cons (de_tup (da_cons (de_ix (xv 2) de_int rfl (fun _ _ => rfl)) (da_cons (de_op2 op_sub o2_sub de_int (de_ix (xv 2) de_int rfl (fun _ _ => rfl))) da_nil))) (da_cons (de_tup (da_cons (de_ix (xv 2) de_int rfl (fun _ _ => rfl)) (da_cons de_int da_nil))) (da_cons (de_lst (da_cons (de_ix (xv 2) de_int rfl (fun _ _ => rfl)) (da_cons (de_ix (xv 2) de_int rfl (fun _ _ => rfl)) da_nil))) (da_cons (de_tup (da_cons (de_ix (xv 2) de_int rfl (fun _ _ => rfl)) da_nil)) (da_cons (de_tup (da_cons (de_ix (xv 2) de_int rfl (fun _ _ => rfl)) (da_cons (de_ix (xv 2) de_int rfl (fun _ _ => rfl)) (da_cons de_int da_nil)))) (da_cons (de_tup (da_cons (de_cmp (op_eqD hr.units) o2_eq (de_ix (xv 2) de_int rfl (fun _ _ => rfl)) de_int (nomark _)) (da_cons (de_ix (xv 2) de_int rfl (fun _ _ => rfl)) da_nil))) (da_cons (de_tup (da_cons (de_ix (xv 2) de_int rfl (fun _ _ => rfl)) (da_cons de_bl da_nil))) (da_cons (de_ix (xv 2) de_int rfl (fun _ _ => rfl)) (da_cons (de_tup (da_cons (de_op2 or_add o2_add (de_ix (xv 2) de_int rfl (fun _ _ => rfl)) (xv 1)) (da_cons (de_ix (xv 2) de_int rfl (fun _ _ => rfl)) da_nil))) (da_cons (de_tup (da_cons (de_op2 op_sub o2_sub (de_ix (xv 2) de_int rfl (fun _ _ => rfl)) (xv 1)) (da_cons (de_ix (xv 2) de_int rfl (fun _ _ => rfl)) da_nil))) (da_cons (de_tup (da_cons (de_ix (xv 2) de_int rfl (fun _ _ => rfl)) (da_cons (de_ix (xv 2) de_int rfl (fun _ _ => rfl)) da_nil))) (da_cons (de_tup (da_cons de_int (da_cons de_int da_nil))) (da_cons (de_tup (da_cons (de_callTy call_str_int on_str (by rfl) H.b_str (by decide +kernel) (da_cons (de_ix (xv 2) de_int rfl (fun _ _ => rfl)) da_nil)) (da_cons (de_ix (xv 2) de_int rfl (fun _ _ => rfl)) da_nil))) (da_cons (de_call c_l_odd hr (by rfl) rfl rfl rfl (dv_ref (i := 0) rfl (by first | exact Or.inl rfl | exact Or.inr (Or.inl rfl) | exact Or.inr (Or.inr rfl)) dv_nil)) (da_cons (de_tup (da_cons (de_op2 or_add o2_add (de_ix (xv 2) de_int rfl (fun _ _ => rfl)) de_int) (da_cons (de_ix (xv 2) de_int rfl (fun _ _ => rfl)) da_nil))) da_nil))))))))))))))))))
  (dss_one (ds_ret (de_ix (xv 3) (de_call (c_l_take.mono (by exact of_decide_eq_true rfl)) hr (by rfl) rfl rfl rfl (dv_ref (i := 0) rfl (by first | exact Or.inl rfl | exact Or.inr (Or.inl rfl) | exact Or.inr (Or.inr rfl)) (dv_val false de_int dv_nil))) rfl (fun _ _ => rfl)))))
theorem ok_is_table (H : Facts K mg) (h : Def0 K mg "is_table" s_is_table ["ground", "thing", "high", "wide"]) (c_is_row : CalD P w K mg base 3 "is_row" n_is_row []) : CalD P w K mg base 4 "is_table" n_is_table [] :=
  cal_def h sc_is_table rfl rfl rfl fun f cdv A outer s H0 E hr =>
(dss_one (ds_ret (de_and (de_isi (T := "tuple") rfl (by rfl) H.b_isinstance (xv 1) (by rfl) H.b_tuple (by decide +kernel) (by decide +kernel)) (de_and (de_cmp (op_eqD hr.units) o2_eq (de_callB cl_len on_len (by rfl) H.b_len PySem.boot_len (da_cons (xv 1) da_nil)) (xv 2) (nomark _)) (de_one (de_callB (cr_all rfl) on_bs (by rfl) H.b_all (by decide +kernel) (da_cons (de_comp (own := [("row", 4)]) (by exact of_decide_eq_true rfl) (by exact of_decide_eq_true rfl) rfl sc_is_table.nd (di_seq rfl (xv 1)) (blkOk_by (by kernel_rfl)) (fun _ _ _ _ _ => (dg_name (i := 4) (by exact of_decide_eq_true rfl) sc_is_table.nd rfl (by first | exact Or.inl rfl | exact Or.inr rfl) (by exact of_decide_eq_true rfl))) (fun _ _ _ _ _ => dts_nil) (fun _ _ _ _ _ => (de_call c_is_row hr (by rfl) rfl rfl rfl (dv_val false (xv 0) (dv_val false (xv 4) (dv_val false (xv 3) dv_nil)))))) da_nil)))))))
theorem ok_scaled (H : Facts K mg) (h : Def0 K mg "scaled" s_scaled ["ground", "row", "x"]) (c_times : CalD P w K mg base 3 "times" n_times []) : CalD P w K mg base 4 "scaled" n_scaled [] :=
  cal_def h sc_scaled rfl rfl rfl fun f cdv A outer s H0 E hr =>
(dss_one (ds_ret (de_callTy call_tuple_of on_tuple (by rfl) H.b_tuple (by decide +kernel) (da_cons (de_comp (own := [("one", 3)]) (by exact of_decide_eq_true rfl) (by exact of_decide_eq_true rfl) rfl sc_scaled.nd (di_seq rfl (xv 1)) (blkOk_by (by kernel_rfl)) (fun _ _ _ _ _ => (dg_name (i := 3) (by exact of_decide_eq_true rfl) sc_scaled.nd rfl (by first | exact Or.inl rfl | exact Or.inr rfl) (by exact of_decide_eq_true rfl))) (fun _ _ _ _ _ => dts_nil) (fun _ _ _ _ _ => (de_call c_times hr (by rfl) rfl rfl rfl (dv_val false (xv 0) (dv_val false (xv 3) (dv_val false (xv 2) dv_nil)))))) da_nil))))
theorem ok_added (H : Facts K mg) (h : Def0 K mg "added" s_added ["ground", "row", "other"]) (c_plus : CalD P w K mg base 3 "plus" n_plus []) : CalD P w K mg base 4 "added" n_added [] :=
  cal_def h sc_added rfl rfl rfl fun f cdv A outer s H0 E hr =>
(dss_one (ds_ret (de_callTy call_tuple_of on_tuple (by rfl) H.b_tuple (by decide +kernel) (da_cons (de_comp (own := [("one", 3), ("two", 4)]) (by exact of_decide_eq_true rfl) (by exact of_decide_eq_true rfl) rfl sc_added.nd (di_zipS rfl (by rfl) H.b_zip (xv 1) (xv 2)) (blkOk_by (by kernel_rfl)) (fun _ _ _ _ _ => (dg_tup rfl rfl (dgs_cons (dg_name (i := 3) (by exact of_decide_eq_true rfl) sc_added.nd rfl (by first | exact Or.inl rfl | exact Or.inr rfl) (by exact of_decide_eq_true rfl)) (dgs_cons (dg_name (i := 4) (by exact of_decide_eq_true rfl) sc_added.nd rfl (by first | exact Or.inl rfl | exact Or.inr rfl) (by exact of_decide_eq_true rfl)) dgs_nil)))) (fun _ _ _ _ _ => dts_nil) (fun _ _ _ _ _ => (de_call c_plus hr (by rfl) rfl rfl rfl (dv_val false (xv 0) (dv_val false (xv 3) (dv_val false (xv 4) dv_nil)))))) da_nil))))
theorem ok_l_is_table (H : Facts K mg) (h : Def0 K mg "_law_is_table" s_l_is_table ["_law_g", "_law_thing", "_law_high", "_law_wide"]) (c_l_is_row : CalD P w K mg base 3 "_law_is_row" n_l_is_row []) : CalD P w K mg base 4 "_law_is_table" n_l_is_table [] :=
  cal_def h sc_l_is_table rfl rfl rfl fun f cdv A outer s H0 E hr =>
(dss_one (ds_ret (de_and (de_isi (T := "tuple") rfl (by rfl) H.b_isinstance (xv 1) (by rfl) H.b_tuple (by decide +kernel) (by decide +kernel)) (de_and (de_cmp (op_eqD hr.units) o2_eq (de_callB cl_len on_len (by rfl) H.b_len PySem.boot_len (da_cons (xv 1) da_nil)) (xv 2) (nomark _)) (de_one (de_callB (cr_all rfl) on_bs (by rfl) H.b_all (by decide +kernel) (da_cons (de_comp (own := [("_law_row_here", 4)]) (by exact of_decide_eq_true rfl) (by exact of_decide_eq_true rfl) rfl sc_l_is_table.nd (di_seq rfl (xv 1)) (blkOk_by (by kernel_rfl)) (fun _ _ _ _ _ => (dg_name (i := 4) (by exact of_decide_eq_true rfl) sc_l_is_table.nd rfl (by first | exact Or.inl rfl | exact Or.inr rfl) (by exact of_decide_eq_true rfl))) (fun _ _ _ _ _ => dts_nil) (fun _ _ _ _ _ => (de_call c_l_is_row hr (by rfl) rfl rfl rfl (dv_val false (xv 0) (dv_val false (xv 4) (dv_val false (xv 3) dv_nil)))))) da_nil)))))))
theorem ok_l_sum (H : Facts K mg) (h : Def0 K mg "_law_sum" s_l_sum ["_law_g", "_law_some"]) (c_l_plus : CalD P w K mg base 3 "_law_plus" n_l_plus []) : CalD P w K mg base 4 "_law_sum" n_l_sum [] :=
  cal_def h sc_l_sum rfl rfl rfl fun f cdv A outer s H0 E hr =>
(dss_cons (ds_set (i := 2) false sc_l_sum.nd rfl (by first | exact Or.inl rfl | exact Or.inr rfl) (by exact of_decide_eq_true rfl) (de_tup (da_cons de_int (da_cons de_int da_nil))))
  (dss_cons (ds_for (sl := [3]) PassesOwn.never rfl (di_seq rfl (xv 1)) (dg_name (i := 3) (by exact of_decide_eq_true rfl) sc_l_sum.nd rfl (by first | exact Or.inl rfl | exact Or.inr rfl) (by exact of_decide_eq_true rfl))
  (dss_one (ds_set (i := 2) false sc_l_sum.nd rfl (by first | exact Or.inl rfl | exact Or.inr rfl) (by exact of_decide_eq_true rfl) (de_call c_l_plus hr (by rfl) rfl rfl rfl (dv_val false (xv 0) (dv_val false (xv 2) (dv_val false (xv 3) dv_nil)))))))
  (dss_one (ds_ret (xv 2)))))
theorem ok_l_row (H : Facts K mg) (h : Def0 K mg "_law_row" s_l_row ["_law_bag_here", "_law_g", "_law_many"]) (c_l_number : CalD P w K mg base 3 "_law_number" n_l_number []) : CalD P w K mg base 4 "_law_row" n_l_row [] :=
  cal_def h sc_l_row rfl rfl rfl fun f cdv A outer s H0 E hr =>
(dss_one (ds_ret (de_callTy call_tuple_of on_tuple (by rfl) H.b_tuple (by decide +kernel) (da_cons (de_comp (own := [("_law_k", 3)]) (by exact of_decide_eq_true rfl) (by exact of_decide_eq_true rfl) rfl sc_l_row.nd (di_rng1 (by rfl) H.b_range (xv 2)) (blkOk_by (by kernel_rfl)) (fun _ _ _ _ _ => (dg_name (i := 3) (by exact of_decide_eq_true rfl) sc_l_row.nd rfl (by first | exact Or.inl rfl | exact Or.inr rfl) (by exact of_decide_eq_true rfl))) (fun _ _ _ _ _ => dts_nil) (fun _ _ _ _ _ => (de_call c_l_number hr (by rfl) rfl rfl rfl (dv_ref (i := 0) rfl (by first | exact Or.inl rfl | exact Or.inr (Or.inl rfl) | exact Or.inr (Or.inr rfl)) (dv_val false (xv 1) dv_nil))))) da_nil))))
theorem ok_l_added (H : Facts K mg) (h : Def0 K mg "_law_added" s_l_added ["_law_g", "_law_row_here", "_law_other"]) (c_l_plus : CalD P w K mg base 3 "_law_plus" n_l_plus []) : CalD P w K mg base 4 "_law_added" n_l_added [] :=
  cal_def h sc_l_added rfl rfl rfl fun f cdv A outer s H0 E hr =>
(dss_one (ds_ret (de_callTy call_tuple_of on_tuple (by rfl) H.b_tuple (by decide +kernel) (da_cons (de_comp (own := [("_law_one", 3), ("_law_two", 4)]) (by exact of_decide_eq_true rfl) (by exact of_decide_eq_true rfl) rfl sc_l_added.nd (di_zip rfl (by rfl) H.b_zip (xv 1) (xv 2)) (blkOk_by (by kernel_rfl)) (fun _ _ _ _ _ => (dg_tup rfl rfl (dgs_cons (dg_name (i := 3) (by exact of_decide_eq_true rfl) sc_l_added.nd rfl (by first | exact Or.inl rfl | exact Or.inr rfl) (by exact of_decide_eq_true rfl)) (dgs_cons (dg_name (i := 4) (by exact of_decide_eq_true rfl) sc_l_added.nd rfl (by first | exact Or.inl rfl | exact Or.inr rfl) (by exact of_decide_eq_true rfl)) dgs_nil)))) (fun _ _ _ _ _ => dts_nil) (fun _ _ _ _ _ => (de_call c_l_plus hr (by rfl) rfl rfl rfl (dv_val false (xv 0) (dv_val false (xv 3) (dv_val false (xv 4) dv_nil)))))) da_nil))))
theorem ok_l_bent_row (H : Facts K mg) (h : Def0 K mg "_law_bent_row" s_l_bent_row ["_law_bag_here", "_law_g", "_law_row_here"]) (c_l_bent_number : CalD P w K mg base 3 "_law_bent_number" n_l_bent_number []) (c_l_swapped : CalD P w K mg base 1 "_law_swapped" n_l_swapped []) (c_l_take : CalD P w K mg base 1 "_law_take" n_l_take []) : CalD P w K mg base 4 "_law_bent_row" n_l_bent_row [] :=
  cal_def h sc_l_bent_row rfl rfl rfl fun f cdv A outer s H0 E hr =>
(dss_cons (ds_set (i := 3) false sc_l_bent_row.nd rfl (by first | exact Or.inl rfl | exact Or.inr rfl) (by exact of_decide_eq_true rfl) (de_call (c_l_take.mono (by exact of_decide_eq_true rfl)) hr (by rfl) rfl rfl rfl (dv_ref (i := 0) rfl (by first | exact Or.inl rfl | exact Or.inr (Or.inl rfl) | exact Or.inr (Or.inr rfl)) (dv_val false (de_callB cl_len on_len (by rfl) H.b_len PySem.boot_len (da_cons (xv 2) da_nil)) dv_nil))))
  (dss_cons (ds_set (i := 4) false sc_l_bent_row.nd rfl (by first | exact Or.inl rfl | exact Or.inr rfl) (by exact of_decide_eq_true rfl) (de_call (c_l_take.mono (by exact of_decide_eq_true rfl)) hr (by rfl) rfl rfl rfl (dv_ref (i := 0) rfl (by first | exact Or.inl rfl | exact Or.inr (Or.inl rfl) | exact Or.inr (Or.inr rfl)) (dv_val false de_int dv_nil))))
  (dss_cons (ds_if (dt_cmp op_lt o2_lt (xv 4) de_int (nomark _))
  (dss_one (ds_ret (de_call (c_l_swapped.mono (by exact of_decide_eq_true rfl)) hr (by rfl) rfl rfl rfl (dv_val false (xv 2) (dv_val false (xv 3) (dv_val false (de_call c_l_bent_number hr (by rfl) rfl rfl rfl (dv_ref (i := 0) rfl (by first | exact Or.inl rfl | exact Or.inr (Or.inl rfl) | exact Or.inr (Or.inr rfl)) (dv_val false (xv 1) (dv_val false (de_ix (xv 2) (xv 3) rfl (fun _ _ => rfl)) dv_nil)))) dv_nil))))))
  dss_nil)
  (dss_one (ds_ret (de_ix (de_lst (da_cons (de_op2 or_add o2_add (xv 2) (de_tup (da_cons (de_ix (xv 2) (xv 3) rfl (fun _ _ => rfl)) da_nil))) (da_cons (de_op2 or_add o2_add (de_slice rfl (xv 2) do_none (do_some (xv 3))) (de_slice rfl (xv 2) (do_some (de_op2 or_add o2_add (xv 3) de_int)) do_none)) (da_cons (de_callTy call_list_of on_list (by rfl) H.b_list (by decide +kernel) (da_cons (xv 2) da_nil)) da_nil)))) (de_op2 op_sub o2_sub (xv 4) de_int) rfl (fun _ _ => rfl)))))))
theorem ok_through (H : Facts K mg) (h : Def0 K mg "through" s_through ["ground", "row", "table"]) (c_added : CalD P w K mg base 4 "added" n_added []) (c_scaled : CalD P w K mg base 4 "scaled" n_scaled []) : CalD P w K mg base 5 "through" n_through [] :=
  cal_def h sc_through rfl rfl rfl fun f cdv A outer s H0 E hr =>
(dss_cons (ds_set (i := 3) false sc_through.nd rfl (by first | exact Or.inl rfl | exact Or.inr rfl) (by exact of_decide_eq_true rfl) (de_callTy call_tuple_of on_tuple (by rfl) H.b_tuple (by decide +kernel) (da_cons (de_op2 or_mulA o2_mul (de_lst (da_cons (de_globC H.g_NOUGHT (by rfl) rfl rfl) da_nil)) (de_callB cl_len on_len (by rfl) H.b_len PySem.boot_len (da_cons (de_ix (xv 2) de_int rfl (fun _ _ => rfl)) da_nil))) da_nil)))
  (dss_cons (ds_for (sl := [4, 5]) PassesOwn.never rfl (di_zipS rfl (by rfl) H.b_zip (xv 1) (xv 2)) (dg_tup rfl rfl (dgs_cons (dg_name (i := 4) (by exact of_decide_eq_true rfl) sc_through.nd rfl (by first | exact Or.inl rfl | exact Or.inr rfl) (by exact of_decide_eq_true rfl)) (dgs_cons (dg_name (i := 5) (by exact of_decide_eq_true rfl) sc_through.nd rfl (by first | exact Or.inl rfl | exact Or.inr rfl) (by exact of_decide_eq_true rfl)) dgs_nil)))
  (dss_one (ds_if (dt_cmp (op_neD hr.units) o2_ne (xv 4) (de_globC H.g_NOUGHT (by rfl) rfl rfl) (nomark _))
  (dss_one (ds_set (i := 3) false sc_through.nd rfl (by first | exact Or.inl rfl | exact Or.inr rfl) (by exact of_decide_eq_true rfl) (de_call c_added hr (by rfl) rfl rfl rfl (dv_val false (xv 0) (dv_val false (xv 3) (dv_val false (de_call c_scaled hr (by rfl) rfl rfl rfl (dv_val false (xv 0) (dv_val false (xv 5) (dv_val false (xv 4) dv_nil)))) dv_nil))))))
  dss_nil)))
  (dss_one (ds_ret (xv 3)))))
theorem ok_l_rows (H : Facts K mg) (h : Def0 K mg "_law_rows" s_l_rows ["_law_bag_here", "_law_g", "_law_high", "_law_wide"]) (c_l_added : CalD P w K mg base 4 "_law_added" n_l_added []) (c_l_row : CalD P w K mg base 4 "_law_row" n_l_row []) (c_l_take : CalD P w K mg base 1 "_law_take" n_l_take []) : CalD P w K mg base 5 "_law_rows" n_l_rows [] :=
  cal_def h sc_l_rows rfl rfl rfl fun f cdv A outer s H0 E hr =>
(dss_cons (ds_set (i := 4) true sc_l_rows.nd rfl (by first | exact Or.inl rfl | exact Or.inr rfl) (by exact of_decide_eq_true rfl) (de_lst da_nil))
  (dss_cons (ds_for (sl := [5]) PassesOwn.never rfl (di_rng1 (by rfl) H.b_range (xv 2)) (dg_name (i := 5) (by exact of_decide_eq_true rfl) sc_l_rows.nd rfl (by first | exact Or.inl rfl | exact Or.inr rfl) (by exact of_decide_eq_true rfl))
  (dss_cons (ds_set (i := 6) false sc_l_rows.nd rfl (by first | exact Or.inl rfl | exact Or.inr rfl) (by exact of_decide_eq_true rfl) (de_call c_l_row hr (by rfl) rfl rfl rfl (dv_ref (i := 0) rfl (by first | exact Or.inl rfl | exact Or.inr (Or.inl rfl) | exact Or.inr (Or.inr rfl)) (dv_val false (xv 1) (dv_val false (xv 3) dv_nil)))))
  (dss_cons (ds_set (i := 7) false sc_l_rows.nd rfl (by first | exact Or.inl rfl | exact Or.inr rfl) (by exact of_decide_eq_true rfl) (de_call (c_l_take.mono (by exact of_decide_eq_true rfl)) hr (by rfl) rfl rfl rfl (dv_ref (i := 0) rfl (by first | exact Or.inl rfl | exact Or.inr (Or.inl rfl) | exact Or.inr (Or.inr rfl)) (dv_val false de_int dv_nil))))
  (dss_cons (ds_if (dt_cmp (op_eqD hr.units) o2_eq (xv 7) de_int (nomark _))
  (dss_one (ds_set (i := 6) false sc_l_rows.nd rfl (by first | exact Or.inl rfl | exact Or.inr rfl) (by exact of_decide_eq_true rfl) (de_callTy call_tuple_of on_tuple (by rfl) H.b_tuple (by decide +kernel) (da_cons (de_op2 or_mulA o2_mul (de_lst (da_cons (de_tup (da_cons de_int (da_cons de_int da_nil))) da_nil)) (xv 3)) da_nil))))
  dss_nil)
  (dss_cons (ds_if (PW.pt (dw_and (dt_cmp (op_eqD hr.units) o2_eq (xv 7) de_int (nomark _)) (dw_and1 (dt_bor (dt_cmp (op_neD hr.units) o2_ne (xv 4) (de_lst da_nil) (nomark _))))))
  (dss_one (ds_set (i := 6) false sc_l_rows.nd rfl (by first | exact Or.inl rfl | exact Or.inr rfl) (by exact of_decide_eq_true rfl) (de_call c_l_added hr (by rfl) rfl rfl rfl (dv_val false (xv 1) (dv_val false (de_ixOwn (i := 4) rfl rfl (by first | exact Or.inl rfl | exact Or.inr (Or.inl rfl) | exact Or.inr (Or.inr rfl)) (de_call (c_l_take.mono (by exact of_decide_eq_true rfl)) hr (by rfl) rfl rfl rfl (dv_ref (i := 0) rfl (by first | exact Or.inl rfl | exact Or.inr (Or.inl rfl) | exact Or.inr (Or.inr rfl)) (dv_val false (de_lenOwn (i := 4) (by rfl) H.b_len rfl rfl (by first | exact Or.inl rfl | exact Or.inr (Or.inl rfl) | exact Or.inr (Or.inr rfl))) dv_nil))) (fun _ _ => rfl)) (dv_val false (de_ixOwn (i := 4) rfl rfl (by first | exact Or.inl rfl | exact Or.inr (Or.inl rfl) | exact Or.inr (Or.inr rfl)) (de_un un_neg o1_neg de_int) (fun _ _ => rfl)) dv_nil))))))
  dss_nil)
  (dss_one (ds_expr (de_append (i := 4) false rfl (by first | exact Or.inl rfl | exact Or.inr (Or.inl rfl) | exact Or.inr (Or.inr rfl)) (xv 6)))))))))
  (dss_one (ds_frz 4 (by exact of_decide_eq_true rfl) (ds_ret (de_callTy call_tuple_of on_tuple (by rfl) H.b_tuple (by decide +kernel) (da_cons (xv 4) da_nil)))))))
theorem ok_l_bent_table (H : Facts K mg) (h : Def0 K mg "_law_bent_table" s_l_bent_table ["_law_bag_here", "_law_g", "_law_table"]) (c_l_bent_row : CalD P w K mg base 4 "_law_bent_row" n_l_bent_row []) (c_l_odd : CalD P w K mg base 2 "_law_odd" n_l_odd []) (c_l_swapped : CalD P w K mg base 1 "_law_swapped" n_l_swapped []) (c_l_take : CalD P w K mg base 1 "_law_take" n_l_take []) : CalD P w K mg base 5 "_law_bent_table" n_l_bent_table [] :=
  cal_def h sc_l_bent_table rfl rfl rfl fun f cdv A outer s H0 E hr =>
(dss_cons (ds_set (i := 3) false sc_l_bent_table.nd rfl (by first | exact Or.inl rfl | exact Or.inr rfl) (by exact of_decide_eq_true rfl) (de_call (c_l_take.mono (by exact of_decide_eq_true rfl)) hr (by rfl) rfl rfl rfl (dv_ref (i := 0) rfl (by first | exact Or.inl rfl | exact Or.inr (Or.inl rfl) | exact Or.inr (Or.inr rfl)) (dv_val false (de_callB cl_len on_len (by rfl) H.b_len PySem.boot_len (da_cons (xv 2) da_nil)) dv_nil))))
  (dss_cons (ds_set (i := 4) false sc_l_bent_table.nd rfl (by first | exact Or.inl rfl | exact Or.inr rfl) (by exact of_decide_eq_true rfl) (de_call (c_l_take.mono (by exact of_decide_eq_true rfl)) hr (by rfl) rfl rfl rfl (dv_ref (i := 0) rfl (by first | exact Or.inl rfl | exact Or.inr (Or.inl rfl) | exact Or.inr (Or.inr rfl)) (dv_val false de_int dv_nil))))
  (dss_cons (ds_if (dt_cmp op_lt o2_lt (xv 4) de_int (nomark _))
  (dss_one (ds_ret (de_call (c_l_swapped.mono (by exact of_decide_eq_true rfl)) hr (by rfl) rfl rfl rfl (dv_val false (xv 2) (dv_val false (xv 3) (dv_val false (de_call c_l_bent_row hr (by rfl) rfl rfl rfl (dv_ref (i := 0) rfl (by first | exact Or.inl rfl | exact Or.inr (Or.inl rfl) | exact Or.inr (Or.inr rfl)) (dv_val false (xv 1) (dv_val false (de_ix (xv 2) (xv 3) rfl (fun _ _ => rfl)) dv_nil)))) dv_nil))))))
  dss_nil)
  (dss_one (ds_ret (de_ix (de_lst (da_cons (de_op2 or_add o2_add (xv 2) (de_tup (da_cons (de_ix (xv 2) (xv 3) rfl (fun _ _ => rfl)) da_nil))) (da_cons (de_op2 or_add o2_add (de_slice rfl (xv 2) do_none (do_some (xv 3))) (de_slice rfl (xv 2) (do_some (de_op2 or_add o2_add (xv 3) de_int)) do_none)) (da_cons (de_callTy call_list_of on_list (by rfl) H.b_list (by decide +kernel) (da_cons (xv 2) da_nil)) (da_cons (de_call (c_l_odd.mono (by exact of_decide_eq_true rfl)) hr (by rfl) rfl rfl rfl (dv_ref (i := 0) rfl (by first | exact Or.inl rfl | exact Or.inr (Or.inl rfl) | exact Or.inr (Or.inr rfl)) dv_nil)) da_nil))))) (de_op2 op_sub o2_sub (xv 4) de_int) rfl (fun _ _ => rfl)))))))
theorem ok_l_are_told (H : Facts K mg) (h : Def0 K mg "_law_are_told" s_l_are_told ["_law_g", "_law_things", "_law_high", "_law_wide"]) (c_l_is_row : CalD P w K mg base 3 "_law_is_row" n_l_is_row []) (c_l_is_table : CalD P w K mg base 4 "_law_is_table" n_l_is_table []) (c_is_row : CalD P w K mg base 3 "is_row" n_is_row []) (c_is_table : CalD P w K mg base 4 "is_table" n_is_table []) : CalD P w K mg base 5 "_law_are_told" n_l_are_told [] :=
  cal_def h sc_l_are_told rfl rfl rfl fun f cdv A outer s H0 E hr =>
(dss_cons (ds_for (sl := [4]) PassesOwn.never rfl (di_seq rfl (xv 1)) (dg_name (i := 4) (by exact of_decide_eq_true rfl) sc_l_are_told.nd rfl (by first | exact Or.inl rfl | exact Or.inr rfl) (by exact of_decide_eq_true rfl))
  (dss_cons (ds_set (i := 5) false sc_l_are_told.nd rfl (by first | exact Or.inl rfl | exact Or.inr rfl) (by exact of_decide_eq_true rfl) (de_lst (da_cons (de_call (c_is_row.mono (by exact of_decide_eq_true rfl)) hr (by rfl) rfl rfl rfl (dv_val false (xv 0) (dv_val false (xv 4) (dv_val false (xv 3) dv_nil)))) (da_cons (de_call c_is_table hr (by rfl) rfl rfl rfl (dv_val false (xv 0) (dv_val false (xv 4) (dv_val false (xv 2) (dv_val false (xv 3) dv_nil))))) da_nil))))
  (dss_cons (ds_if (dt_cmp (op_neD hr.units) o2_ne (xv 5) (de_lst (da_cons (de_call (c_l_is_row.mono (by exact of_decide_eq_true rfl)) hr (by rfl) rfl rfl rfl (dv_val false (xv 0) (dv_val false (xv 4) (dv_val false (xv 3) dv_nil)))) (da_cons (de_call c_l_is_table hr (by rfl) rfl rfl rfl (dv_val false (xv 0) (dv_val false (xv 4) (dv_val false (xv 2) (dv_val false (xv 3) dv_nil))))) da_nil))) (nomark _))
  (dss_one (ds_ret de_bl))
  dss_nil)
  (dss_one (ds_if (dt_not (dt_val (de_callB (cr_all rfl) on_bs (by rfl) H.b_all (by decide +kernel) (da_cons (de_comp (own := [("_law_one", 6)]) (by exact of_decide_eq_true rfl) (by exact of_decide_eq_true rfl) rfl sc_l_are_told.nd (di_seq rfl (xv 5)) (blkOk_by (by kernel_rfl)) (fun _ _ _ _ _ => (dg_name (i := 6) (by exact of_decide_eq_true rfl) sc_l_are_told.nd rfl (by first | exact Or.inl rfl | exact Or.inr rfl) (by exact of_decide_eq_true rfl))) (fun _ _ _ _ _ => dts_nil) (fun _ _ _ _ _ => (de_isi (T := "bool") rfl (by rfl) H.b_isinstance (xv 6) (by rfl) H.b_bool (by decide +kernel) (by decide +kernel)))) da_nil))))
  (dss_one (ds_ret de_bl))
  dss_nil)))))
  (dss_one (ds_ret de_bl)))
theorem ok_l_cell (H : Facts K mg) (h : Def0 K mg "_law_cell" s_l_cell ["_law_g", "_law_one", "_law_other", "_law_i", "_law_j"]) (c_l_sum : CalD P w K mg base 4 "_law_sum" n_l_sum []) (c_l_times : CalD P w K mg base 3 "_law_times" n_l_times []) : CalD P w K mg base 5 "_law_cell" n_l_cell [] :=
  cal_def h sc_l_cell rfl rfl rfl fun f cdv A outer s H0 E hr =>
(dss_one (ds_ret (de_call c_l_sum hr (by rfl) rfl rfl rfl (dv_val false (xv 0) (dv_val false (de_comp (own := [("_law_k", 5)]) (by exact of_decide_eq_true rfl) (by exact of_decide_eq_true rfl) rfl sc_l_cell.nd (di_rng1 (by rfl) H.b_range (de_callB cl_len on_len (by rfl) H.b_len PySem.boot_len (da_cons (xv 2) da_nil))) (blkOk_by (by kernel_rfl)) (fun _ _ _ _ _ => (dg_name (i := 5) (by exact of_decide_eq_true rfl) sc_l_cell.nd rfl (by first | exact Or.inl rfl | exact Or.inr rfl) (by exact of_decide_eq_true rfl))) (fun _ _ _ _ _ => dts_nil) (fun _ _ _ _ _ => (de_call (c_l_times.mono (by exact of_decide_eq_true rfl)) hr (by rfl) rfl rfl rfl (dv_val false (xv 0) (dv_val false (de_ix (de_ix (xv 1) (xv 3) rfl (fun _ _ => rfl)) (xv 5) rfl (fun _ _ => rfl)) (dv_val false (de_ix (de_ix (xv 2) (xv 5) rfl (fun _ _ => rfl)) (xv 4) rfl (fun _ _ => rfl)) dv_nil)))))) dv_nil)))))
theorem ok_product (H : Facts K mg) (h : Def0 K mg "product" s_product ["ground", "one", "other"]) (c_through : CalD P w K mg base 5 "through" n_through []) : CalD P w K mg base 6 "product" n_product [] :=
  cal_def h sc_product rfl rfl rfl fun f cdv A outer s H0 E hr =>
(dss_one (ds_ret (de_callTy call_tuple_of on_tuple (by rfl) H.b_tuple (by decide +kernel) (da_cons (de_comp (own := [("row", 3)]) (by exact of_decide_eq_true rfl) (by exact of_decide_eq_true rfl) rfl sc_product.nd (di_seq rfl (xv 1)) (blkOk_by (by kernel_rfl)) (fun _ _ _ _ _ => (dg_name (i := 3) (by exact of_decide_eq_true rfl) sc_product.nd rfl (by first | exact Or.inl rfl | exact Or.inr rfl) (by exact of_decide_eq_true rfl))) (fun _ _ _ _ _ => dts_nil) (fun _ _ _ _ _ => (de_call c_through hr (by rfl) rfl rfl rfl (dv_val false (xv 0) (dv_val false (xv 3) (dv_val false (xv 2) dv_nil)))))) da_nil))))
theorem ok_law (H : Facts K mg) {f : Addr} {fd : FuncData} (h : Def K mg "law" s_law ["_law_script"] f fd) (c_l_are_told : CalD P w K mg base 5 "_law_are_told" n_l_are_told []) (c_l_bag : CalD P w K mg base 1 "_law_bag" n_l_bag []) (c_l_bent_row : CalD P w K mg base 4 "_law_bent_row" n_l_bent_row []) (c_l_bent_table : CalD P w K mg base 5 "_law_bent_table" n_l_bent_table []) (c_l_cell : CalD P w K mg base 5 "_law_cell" n_l_cell []) (c_l_ground : CalD P w K mg base 2 "_law_ground" n_l_ground []) (c_l_is_table : CalD P w K mg base 4 "_law_is_table" n_l_is_table []) (c_l_odd : CalD P w K mg base 2 "_law_odd" n_l_odd []) (c_l_rows : CalD P w K mg base 5 "_law_rows" n_l_rows []) (c_l_take : CalD P w K mg base 1 "_law_take" n_l_take []) (c_product : CalD P w K mg base 6 "product" n_product []) (c_through : CalD P w K mg base 5 "through" n_through []) (c_turned : CalD P w K mg base 1 "turned" n_turned []) : FnOk P w K mg base CX0 7 f fd ["_law_script"] (fun vs H Q _ => spD K mg n_law vs H Q fun _ _ _ => False) :=
  fn_def h sc_law rfl rfl rfl fun cdv A outer s H0 E hr =>
(dss_cons (ds_for (sl := [1]) PassesOwn.never rfl (di_rng1 (by rfl) H.b_range (de_callB (call_max2 rfl) on_i2 (by rfl) H.b_max (by decide +kernel) (da_cons de_int (da_cons (de_callB (call_min2 rfl) on_i2 (by rfl) H.b_min (by decide +kernel) (da_cons de_int (da_cons (de_callB cl_len on_len (by rfl) H.b_len PySem.boot_len (da_cons (xv 0) da_nil)) da_nil))) da_nil)))) (dg_name (i := 1) (by exact of_decide_eq_true rfl) sc_law.nd rfl (by first | exact Or.inl rfl | exact Or.inr rfl) (by exact of_decide_eq_true rfl))
  (dss_cons (ds_set (i := 2) true sc_law.nd rfl (by first | exact Or.inl rfl | exact Or.inr rfl) (by exact of_decide_eq_true rfl) (de_call (c_l_bag.mono (by exact of_decide_eq_true rfl)) hr (by rfl) rfl rfl rfl (dv_val false (xv 0) (dv_val false (xv 1) dv_nil))))
  (dss_cons (ds_set (i := 3) false sc_law.nd rfl (by first | exact Or.inl rfl | exact Or.inr rfl) (by exact of_decide_eq_true rfl) (de_call (c_l_ground.mono (by exact of_decide_eq_true rfl)) hr (by rfl) rfl rfl rfl (dv_ref (i := 2) rfl (by first | exact Or.inl rfl | exact Or.inr (Or.inl rfl) | exact Or.inr (Or.inr rfl)) dv_nil)))
  (dss_cons (ds_set (i := 4) false sc_law.nd rfl (by first | exact Or.inl rfl | exact Or.inr rfl) (by exact of_decide_eq_true rfl) (de_ix (de_lst (da_cons de_int (da_cons de_int da_nil))) (de_op2 or_div o2_div (de_call (c_l_take.mono (by exact of_decide_eq_true rfl)) hr (by rfl) rfl rfl rfl (dv_ref (i := 2) rfl (by first | exact Or.inl rfl | exact Or.inr (Or.inl rfl) | exact Or.inr (Or.inr rfl)) (dv_val false de_int dv_nil))) de_int) rfl (fun _ _ => rfl)))
  (dss_cons (ds_asg (sl := [5, 6, 7]) (de_tup (da_cons (de_op2 or_add o2_add de_int (de_call (c_l_take.mono (by exact of_decide_eq_true rfl)) hr (by rfl) rfl rfl rfl (dv_ref (i := 2) rfl (by first | exact Or.inl rfl | exact Or.inr (Or.inl rfl) | exact Or.inr (Or.inr rfl)) (dv_val false (xv 4) dv_nil)))) (da_cons (de_op2 or_add o2_add de_int (de_call (c_l_take.mono (by exact of_decide_eq_true rfl)) hr (by rfl) rfl rfl rfl (dv_ref (i := 2) rfl (by first | exact Or.inl rfl | exact Or.inr (Or.inl rfl) | exact Or.inr (Or.inr rfl)) (dv_val false (xv 4) dv_nil)))) (da_cons (de_op2 or_add o2_add de_int (de_call (c_l_take.mono (by exact of_decide_eq_true rfl)) hr (by rfl) rfl rfl rfl (dv_ref (i := 2) rfl (by first | exact Or.inl rfl | exact Or.inr (Or.inl rfl) | exact Or.inr (Or.inr rfl)) (dv_val false (xv 4) dv_nil)))) da_nil)))) (dg_tup rfl rfl (dgs_cons (dg_name (i := 5) (by exact of_decide_eq_true rfl) sc_law.nd rfl (by first | exact Or.inl rfl | exact Or.inr rfl) (by exact of_decide_eq_true rfl)) (dgs_cons (dg_name (i := 6) (by exact of_decide_eq_true rfl) sc_law.nd rfl (by first | exact Or.inl rfl | exact Or.inr rfl) (by exact of_decide_eq_true rfl)) (dgs_cons (dg_name (i := 7) (by exact of_decide_eq_true rfl) sc_law.nd rfl (by first | exact Or.inl rfl | exact Or.inr rfl) (by exact of_decide_eq_true rfl)) dgs_nil)))))
  (dss_cons (ds_asg (sl := [8, 9]) (de_tup (da_cons (de_call (c_l_rows.mono (by exact of_decide_eq_true rfl)) hr (by rfl) rfl rfl rfl (dv_ref (i := 2) rfl (by first | exact Or.inl rfl | exact Or.inr (Or.inl rfl) | exact Or.inr (Or.inr rfl)) (dv_val false (xv 3) (dv_val false (xv 5) (dv_val false (xv 6) dv_nil))))) (da_cons (de_call (c_l_rows.mono (by exact of_decide_eq_true rfl)) hr (by rfl) rfl rfl rfl (dv_ref (i := 2) rfl (by first | exact Or.inl rfl | exact Or.inr (Or.inl rfl) | exact Or.inr (Or.inr rfl)) (dv_val false (xv 3) (dv_val false (xv 6) (dv_val false (xv 7) dv_nil))))) da_nil))) (dg_tup rfl rfl (dgs_cons (dg_name (i := 8) (by exact of_decide_eq_true rfl) sc_law.nd rfl (by first | exact Or.inl rfl | exact Or.inr rfl) (by exact of_decide_eq_true rfl)) (dgs_cons (dg_name (i := 9) (by exact of_decide_eq_true rfl) sc_law.nd rfl (by first | exact Or.inl rfl | exact Or.inr rfl) (by exact of_decide_eq_true rfl)) dgs_nil))))
  (dss_cons (ds_set (i := 10) true sc_law.nd rfl (by first | exact Or.inl rfl | exact Or.inr rfl) (by exact of_decide_eq_true rfl) (de_lst (da_cons (xv 8) (da_cons (de_ix (xv 8) de_int rfl (fun _ _ => rfl)) (da_cons (xv 9) (da_cons (de_ix (xv 9) de_int rfl (fun _ _ => rfl)) (da_cons (de_call (c_l_odd.mono (by exact of_decide_eq_true rfl)) hr (by rfl) rfl rfl rfl (dv_ref (i := 2) rfl (by first | exact Or.inl rfl | exact Or.inr (Or.inl rfl) | exact Or.inr (Or.inr rfl)) dv_nil)) da_nil)))))))
  (dss_cons (ds_for (sl := [11]) PassesOwn.never rfl (di_rng1 (by rfl) H.b_range de_int) (dg_name (i := 11) (by exact of_decide_eq_true rfl) sc_law.nd rfl (by first | exact Or.inl rfl | exact Or.inr rfl) (by exact of_decide_eq_true rfl))
  (dss_cons (ds_set (i := 12) false sc_law.nd rfl (by first | exact Or.inl rfl | exact Or.inr rfl) (by exact of_decide_eq_true rfl) (de_call (c_l_bent_table.mono (by exact of_decide_eq_true rfl)) hr (by rfl) rfl rfl rfl (dv_ref (i := 2) rfl (by first | exact Or.inl rfl | exact Or.inr (Or.inl rfl) | exact Or.inr (Or.inr rfl)) (dv_val false (xv 3) (dv_val false (xv 8) dv_nil)))))
  (dss_cons (ds_expr (de_extend (i := 10) rfl (by first | exact Or.inl rfl | exact Or.inr (Or.inl rfl) | exact Or.inr (Or.inr rfl)) (de_lst (da_cons (xv 12) (da_cons (de_call (c_l_bent_row.mono (by exact of_decide_eq_true rfl)) hr (by rfl) rfl rfl rfl (dv_ref (i := 2) rfl (by first | exact Or.inl rfl | exact Or.inr (Or.inl rfl) | exact Or.inr (Or.inr rfl)) (dv_val false (xv 3) (dv_val false (de_ix (xv 8) de_int rfl (fun _ _ => rfl)) dv_nil)))) da_nil)))))
  (dss_one (ds_if (dt_val (de_call (c_l_is_table.mono (by exact of_decide_eq_true rfl)) hr (by rfl) rfl rfl rfl (dv_val false (xv 3) (dv_val false (xv 12) (dv_val false (xv 5) (dv_val false (xv 6) dv_nil))))))
  (dss_one (ds_expr (de_append (i := 10) false rfl (by first | exact Or.inl rfl | exact Or.inr (Or.inl rfl) | exact Or.inr (Or.inr rfl)) (de_call (c_l_bent_table.mono (by exact of_decide_eq_true rfl)) hr (by rfl) rfl rfl rfl (dv_ref (i := 2) rfl (by first | exact Or.inl rfl | exact Or.inr (Or.inl rfl) | exact Or.inr (Or.inr rfl)) (dv_val false (xv 3) (dv_val false (xv 12) dv_nil)))))))
  dss_nil)))))
  (dss_cons (ds_frz 10 (by exact of_decide_eq_true rfl) (ds_if (PW.pt (dw_or (dt_not (dt_val (de_call (c_l_are_told.mono (by exact of_decide_eq_true rfl)) hr (by rfl) rfl rfl rfl (dv_val false (xv 3) (dv_val false (de_op2 or_add o2_add (xv 10) (de_rev rfl (xv 10))) (dv_val false (xv 5) (dv_val false (xv 6) dv_nil))))))) (dw_or1 (dt_not (dt_val (de_call (c_l_are_told.mono (by exact of_decide_eq_true rfl)) hr (by rfl) rfl rfl rfl (dv_val false (xv 3) (dv_val false (xv 10) (dv_val false (xv 6) (dv_val false (xv 5) dv_nil))))))))))
  (dss_one (ds_ret de_bl))
  dss_nil))
  (dss_cons (ds_set (i := 13) false sc_law.nd rfl (by first | exact Or.inl rfl | exact Or.inr rfl) (by exact of_decide_eq_true rfl) (de_callTy call_tuple_of on_tuple (by rfl) H.b_tuple (by decide +kernel) (da_cons (de_comp (own := [("_law_i", 14)]) (by exact of_decide_eq_true rfl) (by exact of_decide_eq_true rfl) rfl sc_law.nd (di_rng1 (by rfl) H.b_range (xv 5)) (blkOk_by (by kernel_rfl)) (fun _ _ _ _ _ => (dg_name (i := 14) (by exact of_decide_eq_true rfl) sc_law.nd rfl (by first | exact Or.inl rfl | exact Or.inr rfl) (by exact of_decide_eq_true rfl))) (fun _ _ _ _ _ => dts_nil) (fun _ _ _ _ _ => (de_callTy call_tuple_of on_tuple (by rfl) H.b_tuple (by decide +kernel) (da_cons (de_comp (own := [("_law_j", 16)]) (by exact of_decide_eq_true rfl) (by exact of_decide_eq_true rfl) rfl sc_law.nd (di_rng1 (by rfl) H.b_range (xv 7)) (blkOk_by (by kernel_rfl)) (fun _ _ _ _ _ => (dg_name (i := 16) (by exact of_decide_eq_true rfl) sc_law.nd rfl (by first | exact Or.inl rfl | exact Or.inr rfl) (by exact of_decide_eq_true rfl))) (fun _ _ _ _ _ => dts_nil) (fun _ _ _ _ _ => (de_call (c_l_cell.mono (by exact of_decide_eq_true rfl)) hr (by rfl) rfl rfl rfl (dv_val false (xv 3) (dv_val false (xv 8) (dv_val false (xv 9) (dv_val false (xv 14) (dv_val false (xv 16) dv_nil)))))))) da_nil)))) da_nil)))
  (dss_cons (ds_if (PW.pt (dw_or (dt_cmp (op_neD hr.units) o2_ne (de_call c_product hr (by rfl) rfl rfl rfl (dv_val false (xv 3) (dv_val false (xv 8) (dv_val false (xv 9) dv_nil)))) (xv 13) (nomark _)) (dw_or1 (dt_cmp (op_neD hr.units) o2_ne (de_comp (own := [("_law_row_here", 15)]) (by exact of_decide_eq_true rfl) (by exact of_decide_eq_true rfl) rfl sc_law.nd (di_seq rfl (xv 8)) (blkOk_by (by kernel_rfl)) (fun _ _ _ _ _ => (dg_name (i := 15) (by exact of_decide_eq_true rfl) sc_law.nd rfl (by first | exact Or.inl rfl | exact Or.inr rfl) (by exact of_decide_eq_true rfl))) (fun _ _ _ _ _ => dts_nil) (fun _ _ _ _ _ => (de_call (c_through.mono (by exact of_decide_eq_true rfl)) hr (by rfl) rfl rfl rfl (dv_val false (xv 3) (dv_val false (xv 15) (dv_val false (xv 9) dv_nil)))))) (de_callTy call_list_of on_list (by rfl) H.b_list (by decide +kernel) (da_cons (xv 13) da_nil)) (nomark _)))))
  (dss_one (ds_ret de_bl))
  dss_nil)
  (dss_cons (ds_if (dt_cmp (op_neD hr.units) o2_ne (de_call (c_turned.mono (by exact of_decide_eq_true rfl)) hr (by rfl) rfl rfl rfl (dv_val false (xv 8) dv_nil)) (de_callTy call_tuple_of on_tuple (by rfl) H.b_tuple (by decide +kernel) (da_cons (de_comp (own := [("_law_j", 16)]) (by exact of_decide_eq_true rfl) (by exact of_decide_eq_true rfl) rfl sc_law.nd (di_rng1 (by rfl) H.b_range (xv 6)) (blkOk_by (by kernel_rfl)) (fun _ _ _ _ _ => (dg_name (i := 16) (by exact of_decide_eq_true rfl) sc_law.nd rfl (by first | exact Or.inl rfl | exact Or.inr rfl) (by exact of_decide_eq_true rfl))) (fun _ _ _ _ _ => dts_nil) (fun _ _ _ _ _ => (de_callTy call_tuple_of on_tuple (by rfl) H.b_tuple (by decide +kernel) (da_cons (de_comp (own := [("_law_row_here", 15)]) (by exact of_decide_eq_true rfl) (by exact of_decide_eq_true rfl) rfl sc_law.nd (di_seq rfl (xv 8)) (blkOk_by (by kernel_rfl)) (fun _ _ _ _ _ => (dg_name (i := 15) (by exact of_decide_eq_true rfl) sc_law.nd rfl (by first | exact Or.inl rfl | exact Or.inr rfl) (by exact of_decide_eq_true rfl))) (fun _ _ _ _ _ => dts_nil) (fun _ _ _ _ _ => (de_ix (xv 15) (xv 16) rfl (fun _ _ => rfl)))) da_nil)))) da_nil)) (nomark _))
  (dss_one (ds_ret de_bl))
  dss_nil)
  (dss_cons (ds_if (dt_cmp (op_neD hr.units) o2_ne (de_call (c_turned.mono (by exact of_decide_eq_true rfl)) hr (by rfl) rfl rfl rfl (dv_val false (de_call (c_turned.mono (by exact of_decide_eq_true rfl)) hr (by rfl) rfl rfl rfl (dv_val false (xv 9) dv_nil)) dv_nil)) (xv 9) (nomark _))
  (dss_one (ds_ret de_bl))
  dss_nil)
  (dss_one (ds_if (PW.pt (dw_or (dt_cmp (op_neD hr.units) o2_ne (de_call c_product hr (by rfl) rfl rfl rfl (dv_val false (xv 3) (dv_val false (xv 8) (dv_val false (xv 9) dv_nil)))) (xv 13) (nomark _)) (dw_or1 (dt_not (dt_val (de_call (c_l_is_table.mono (by exact of_decide_eq_true rfl)) hr (by rfl) rfl rfl rfl (dv_val false (xv 3) (dv_val false (de_call c_product hr (by rfl) rfl rfl rfl (dv_val false (xv 3) (dv_val false (xv 8) (dv_val false (xv 9) dv_nil)))) (dv_val false (xv 5) (dv_val false (xv 7) dv_nil))))))))))
  (dss_one (ds_ret de_bl))
  dss_nil)))))))))))))))
  (dss_one (ds_ret (de_cmp (op_eqD hr.units) o2_eq (de_call (c_through.mono (by exact of_decide_eq_true rfl)) hr (by rfl) rfl rfl rfl (dv_val false de_int (dv_val false (de_tup (da_cons (de_tup (da_cons de_int (da_cons de_int da_nil))) (da_cons (de_tup (da_cons de_int (da_cons de_int da_nil))) da_nil))) (dv_val false (de_tup (da_cons (de_tup (da_cons (de_tup (da_cons de_int (da_cons de_int da_nil))) da_nil)) (da_cons (de_tup (da_cons (de_tup (da_cons de_int (da_cons de_int da_nil))) da_nil)) da_nil))) dv_nil)))) (de_tup (da_cons (de_tup (da_cons de_int (da_cons de_int da_nil))) da_nil)) (nomark _)))))
end
end DD.K04

namespace DD.K04
open PySem PySem.Spec L2
open PyProof.Rows hiding St
local macro_rules | `(tactic| fail "z") => `(tactic| first | (refine sz_of ?_; simp only [List.length_cons, List.length_nil, List.length_map, List.length_range, List.length_set, List.length_append, Int.reduceNeg, Int.reduceSub, Int.reduceToNat, Nat.reduceAdd, Nat.zero_add, Nat.reduceLT, Nat.reduceLeDiff, ne_eq, Nat.reduceEqDiff, not_false_eq_true]; done) | (refine szl_of ?_; simp only [List.length_cons, List.length_nil, List.length_map, List.length_range, List.length_set, List.length_append, Int.reduceNeg, Int.reduceSub, Int.reduceToNat, Nat.reduceAdd, Nat.zero_add, Nat.reduceLT, Nat.reduceLeDiff, ne_eq, Nat.reduceEqDiff, not_false_eq_true]; done) | (simp only [List.length_cons, List.length_nil, List.length_map, List.length_range, List.length_set, List.length_append, Int.reduceNeg, Int.reduceSub, Int.reduceToNat, Nat.reduceAdd, Nat.zero_add, Nat.reduceLT, Nat.reduceLeDiff, ne_eq, Nat.reduceEqDiff, not_false_eq_true]; done))
local macro_rules | `(tactic| fail "w") => `(tactic| with_reducible first
  | refine w_seq ?_ | refine w_setF ?_ | refine w_setT ?_ | refine w_ret ?_ | refine w_ifS ?_ | refine w_expr ?_ | refine w_for ?_ | refine w_parF ?_ | refine w_asg ?_ | refine w_skip ?_
  | refine w_var (by with_unfolding_all rfl) ?_ | refine w_c ?_ | refine w_op2 ?_ | refine w_op1 ?_ | refine w_test ?_ | refine wb ?_ | refine w_nil ?_ | refine w_cons ?_
  | refine w_tup ?_ | refine w_lst ?_ | refine w_if ?_ | refine w_andT ?_ | refine w_orT ?_ | refine w_notT ?_ | refine w_andV ?_ | refine w_orV ?_ | refine w_notV ?_
  | refine wk_t ?_ | refine wk_f ?_ | refine wk_n ?_
  | refine wf_nx ?_ | refine wf_ret ?_ | refine wf_bk ?_ | refine wf_ct ?_ | refine wl_nx ?_ | refine wl_ct ?_ | refine wl_bk ?_ | refine wl_ret ?_ | refine wr_nx ?_ | refine wr_ret ?_
  | refine w_gset (by fail "z") ?_ | refine w_gtup (by with_unfolding_all rfl) ?_ | refine w_gcons ?_ | refine w_gnil ?_ | refine w_items ?_ | refine w_rng1 ?_ | refine w_rng2 ?_
  | refine w_blt ?_ | refine w_isi ?_ | refine w_vnil ?_ | refine w_vvalF ?_ | refine w_vvalT ?_ | refine w_vref (by with_unfolding_all rfl) ?_ | refine w_call ?_
  | refine w_appendF (by with_unfolding_all rfl) ?_ | refine w_extend (by with_unfolding_all rfl) ?_ | refine w_setitemF ?_ | refine w_ixOwn (by with_unfolding_all rfl) ?_ | refine w_lenOwn (by with_unfolding_all rfl) ?_ | refine w_move (by with_unfolding_all rfl) ?_ | refine w_frz (by with_unfolding_all rfl) ?_
  | refine wix (by with_unfolding_all rfl) (by with_unfolding_all rfl) ?_ | refine wap (by with_unfolding_all rfl) (by fail "z") ?_ | refine wxt (by with_unfolding_all rfl) (by with_unfolding_all rfl) (by fail "z") ?_ | refine wmm (by with_unfolding_all rfl) ?_ | refine wst (by with_unfolding_all rfl) (by with_unfolding_all rfl) ?_ | refine win ?_
  | refine w_fmt ?_ | refine w_jscons ?_ | refine w_jsnil ?_ | refine wjs ?_ | refine w_join ?_ | refine w_zip ?_ | refine w_enum ?_ | refine w_bor ?_ | refine w_borT ?_ | refine wfl_bl ?_ | refine wfl_int ?_
  | refine w_no ?_ | refine w_so ?_ | refine w_sl ?_ | refine w_rev ?_ | refine w_comp ?_ | refine w_chain ?_ | refine w_compnil ?_ | refine w_compcons ?_ | refine wp_pure ?_
  | refine wo_add ?_ | refine wo_sub ?_ | refine wo_neg ?_ | refine wo_lt ?_ | refine wo_le ?_ | refine wo_gt ?_ | refine wo_ge ?_ | refine wo_eqI ?_ | refine wo_neI ?_ | refine wo_notB ?_ | refine wo_isB ?_
  | refine wo_abs ?_ | refine wo_lenT ?_ | refine wo_lenL ?_ | refine wo_lenF ?_ | refine wo_lenM ?_ | refine wo_some ?_ | refine ix_at (by with_unfolding_all rfl) (by with_unfolding_all rfl) ?_
  | refine wo_mod (by omega) ?_ | refine wo_div (divc64 (by omega) (by omega) (by omega)) ?_ | refine wo_mul (mulc64 (by omega) (by omega) (by omega) (by omega)) ?_ | refine wo_pow (cpow64 (by omega) (by omega) (by omega) (by omega)) ?_
  | refine And.intro (by fail "z") ?_ | refine And.intro (And.intro (by fail "z") (And.intro (by fail "z") (by fail "z"))) ?_)
local macro_rules | `(tactic| fail "e") => `(tactic| simp only [List.map_cons, List.map_nil, List.replicate, List.cons_append, List.nil_append, List.append_nil, List.set_cons_zero, List.set_cons_succ, List.set_nil, A.frz, frzs_v, frzs, Nat.reduceSub, gath, back, List.getElem?_cons_zero, List.getElem?_cons_succ, Option.map_some, lentL, List.contains_cons, List.contains_nil, List.elem_nil, List.elem_cons, Nat.reduceAdd, Nat.reduceBEq, Bool.or_false, Bool.or_true, Bool.false_or, Bool.true_or, beq_self_eq_true, if_true, if_false, reduceIte, Bool.false_eq_true, Int.reduceToNat, iBool_bl, iBool_int, iInt_bl, iInt_int, isI_int, isI_bl, iTup_tup, iTup_lst, iTup_int, Int.reducePow, List.getElem?_nil, wipeE, wipeF, parkL, putL, Nat.reduceLT, Nat.reduceLeDiff, frzE])
local macro_rules | `(tactic| fail "s") => `(tactic| repeat (first | fail "w" | fail "e"))
theorem take_s {a b k : Int} {Q : A → List A → Prop} {E : Ex → List A → Prop} (ha : 0 ≤ a) (hb : 0 ≤ b) (hb2 : b < 2147483647) (hk : 0 < k) (hk2 : k ≤ 10000000000)
    (q : ∀ d a' b', 0 ≤ a' → 0 ≤ b' → b' < 2147483647 → 0 ≤ d → d < k → Q (.v (.int d)) [.m [.v (.int a'), .v (.int b')], .v (.int k)]) :
    Wc (n_l_take [.m [.v (.int a), .v (.int b)], .v (.int k)]) Q E := by
  refine wc_fn rfl rfl ?_
  unfold b_l_take
  fail "e"
  repeat fail "w"
  refine wk_d (fun h => ?_) (fun h => ?_)
  · repeat fail "w"
    fail "e"
    have h1 := fmod_range (i := a) hk
    have h2 := fdiv_range ha hk
    exact wo_some (q _ _ _ (by omega) hb hb2 (by omega) (by omega))
  · repeat fail "w"
    fail "e"
    have h1 := fmod_range (i := b * 48271 + 2531011) (j := 2147483647) (by omega)
    repeat fail "w"
    fail "e"
    have h2 := fmod_range (i := (((b * 48271 + 2531011).fmod 2147483647 ^ 3).fmod 2147483629).fdiv 64) hk
    exact wo_some (q _ _ _ (by omega) (by omega) (by omega) (by omega) (by omega))

local macro_rules | `(tactic| fail "t") => `(tactic| refine take_s (by omega) (by omega) (by omega) (by omega) (by omega) ?_)
theorem bag_s {ns : List Int} {at_ : Int} {Q : A → List A → Prop} {E : Ex → List A → Prop} (h0 : 0 ≤ at_) (h1 : at_ < 1000)
    (q : ∀ a b, 0 ≤ a → 0 ≤ b → b < 2147483647 → Q (.m [.v (.int a), .v (.int b)]) [script ns, .v (.int at_)]) : Wc (n_l_bag [script ns, .v (.int at_)]) Q E := by
  refine wc_fn rfl rfl ?_
  unfold b_l_bag script
  fail "e"
  iterate 5 fail "w"
  fail "e"
  refine w_seqJ (fun ρ1 => ∃ c, ρ1 = [some (.v (.fz (ns.map .int))), some (.v (.int at_)), some (.v (.int c)), none, none, none]) ?_ ?_
  · repeat fail "w"
    refine wk_d (fun h => ?_) (fun h => ?_)
    · repeat fail "w"
      refine wo_ix rfl h0 h fun d hd => ?_
      obtain ⟨z, _, rfl⟩ := List.mem_map.mp hd
      repeat fail "w"
      exact ⟨_, rfl⟩
    · repeat fail "w"
      exact ⟨_, rfl⟩
  · rintro _ ⟨cell, rfl⟩
    have hk := fmod_range (i := cell) (j := 2147483647) (by omega)
    have h8 := fmod_range (i := at_) (j := 8) (by omega)
    repeat fail "w"
    refine wk_d (fun h => ?_) (fun h => ?_)
    all_goals
      repeat fail "w"
      fail "e"
      refine wo_ixI (fun p => 0 < p ∧ p ≤ 2147483647) rfl h8.1 h8.2 (by simp) fun p hp => ?_
      have hm := fmod_range (i := cell.fmod 2147483647 * 69623 + 104729 * at_ * at_ + 7919 * at_ + 12345) hp.1
      repeat fail "w"
      fail "e"
      exact wo_some (q _ _ (by omega) (by omega) (by omega))
theorem is_whole_s {d : D} {Q : A → List A → Prop} {E : Ex → List A → Prop} (hd : kindD d ≠ "") (q : Q (.v (.bl (isI d))) [.v d]) : Wc (n_is_whole [.v d]) Q E := by
  refine wc_fn rfl rfl ?_
  unfold b_is_whole
  fail "e"
  repeat fail "w"
  refine wo_isInt hd ?_
  repeat fail "w"
  refine wk_b (fun h => ?_) (fun h => ?_)
  · repeat fail "w"
    refine wo_isBool hd ?_
    repeat fail "w"
    fail "e"
    rw [isI_eq h]
    exact wo_some q
  · repeat fail "w"
    rw [isI_f h]
    exact wo_some q
theorem shared_s {a b : Int} {Q : A → List A → Prop} {E : Ex → List A → Prop} (q : Q (.v (.int (Int.gcd a b))) [.v (.int a), .v (.int b)]) : Wc (n_shared [.v (.int a), .v (.int b)]) Q E := by
  refine wc_fn rfl rfl ?_
  unfold b_shared b_shared_1
  fail "e"
  repeat fail "w"
  fail "e"
  refine w_while (fun n ρ => ∃ x y : Nat, ρ = [some (.v (.int x)), some (.v (.int y))] ∧ Nat.gcd x y = Int.gcd a b ∧ y = n) ⟨_, _, rfl, rfl, rfl⟩ fun n ρ ⟨x, y, e1, e2, e3⟩ => ?_
  subst e1 e3
  repeat fail "w"
  refine wk_d (fun h => ?_) (fun h => ?_)
  · repeat fail "w"
    fail "e"
    have hy : 0 < y := by omega
    refine ⟨x % y, Nat.mod_lt _ hy, y, x % y, ?_, ?_, rfl⟩
    · rw [Int.fmod_eq_emod_of_nonneg _ (by omega), ← Int.natCast_emod]
    · rw [← e2, Nat.gcd_comm x y, Nat.gcd_rec y x, Nat.gcd_comm]
  · repeat fail "w"
    have hy : y = 0 := by omega
    subst hy
    rw [Nat.gcd_zero_right] at e2
    subst e2
    exact wo_some q
theorem l_is_whole_s {d : D} {Q : A → List A → Prop} {E : Ex → List A → Prop} (hd : kindD d ≠ "") (q : Q (.v (.bl (isI d))) [.v d]) : Wc (n_l_is_whole [.v d]) Q E := by
  refine wc_fn rfl rfl ?_
  unfold b_l_is_whole
  fail "e"
  repeat fail "w"
  refine wo_isInt hd ?_
  repeat fail "w"
  refine wk_b (fun h => ?_) (fun h => ?_)
  · repeat fail "w"
    refine wo_isBool hd ?_
    repeat fail "w"
    fail "e"
    rw [isI_eq h]
    exact wo_some q
  · repeat fail "w"
    rw [isI_f h]
    exact wo_some q
theorem l_shared_s {a b : Int} {Q : A → List A → Prop} {E : Ex → List A → Prop} (q : Q (.v (.int (Int.gcd a b))) [.v (.int a), .v (.int b)]) : Wc (n_l_shared [.v (.int a), .v (.int b)]) Q E := by
  refine wc_fn rfl rfl ?_
  unfold b_l_shared b_l_shared_1
  fail "e"
  repeat fail "w"
  fail "e"
  refine w_while (fun n ρ => ∃ x y : Nat, ρ = [some (.v (.int x)), some (.v (.int y))] ∧ Nat.gcd x y = Int.gcd a b ∧ y = n) ⟨_, _, rfl, rfl, rfl⟩ fun n ρ ⟨x, y, e1, e2, e3⟩ => ?_
  subst e1 e3
  repeat fail "w"
  refine wk_d (fun h => ?_) (fun h => ?_)
  · repeat fail "w"
    fail "e"
    have hy : 0 < y := by omega
    refine ⟨x % y, Nat.mod_lt _ hy, y, x % y, ?_, ?_, rfl⟩
    · rw [Int.fmod_eq_emod_of_nonneg _ (by omega), ← Int.natCast_emod]
    · rw [← e2, Nat.gcd_comm x y, Nat.gcd_rec y x, Nat.gcd_comm]
  · repeat fail "w"
    have hy : y = 0 := by omega
    subst hy
    rw [Nat.gcd_zero_right] at e2
    subst e2
    exact wo_some q

theorem ground_s {a b : Int} {Q : A → List A → Prop} {E : Ex → List A → Prop} (ha : 0 ≤ a) (hb : 0 ≤ b) (hb2 : b < 2147483647)
    (q : ∀ g a' b', 0 ≤ a' → 0 ≤ b' → b' < 2147483647 → (g = 0 ∨ 2 ≤ g) → g ≤ 13 → Q (.v (.int g)) [.m [.v (.int a'), .v (.int b')]]) : Wc (n_l_ground [.m [.v (.int a), .v (.int b)]]) Q E := by
  refine wc_fn rfl rfl ?_
  unfold b_l_ground
  fail "s"
  fail "t"
  intro d a1 b1 ha1 hb1 hb11 h0 h1
  fail "s"
  refine wo_ixM (fun i => 2 ≤ i ∧ i ≤ 13) h0 h1 (by simp) fun g hg => ?_
  fail "s"
  fail "t"
  intro d2 a2 b2 ha2 hb2 hb21 h20 h21
  fail "s"
  refine wo_ixM (fun i => (i = 0 ∨ 2 ≤ i) ∧ i ≤ 13) h20 h21 (by simp; omega) fun g hg => ?_
  fail "s"
  exact q _ _ _ ha2 hb2 hb21 hg.1 hg.2
theorem sgn_ix2 {w : Int} {P : A → Prop} (k : P (.v (.int (if w < 0 then -1 else 1)))) : Wo (opIx (.m [.v (.int 1), .v (.int (-1))]) (.v (.int (if decide (w < 0) = true then 1 else 0)))) P := by
  by_cases h : w < 0
  · rw [if_pos (decide_eq_true h)]
    rw [if_pos h] at k
    exact wo_eq rfl k
  · rw [if_neg (by simpa using h)]
    rw [if_neg h] at k
    exact wo_eq rfl k
theorem cmn_bd {n : Nat} {u w : Int} (hw : Bd n w) (h0 : w ≠ 0) : Bd (n + 1) (cmn u w) ∧ Bd n (Int.gcd u w) := by
  have hle : Int.gcd u w ≤ w.natAbs := Nat.le_of_dvd (by omega) (Int.gcd_dvd_natAbs_right u w)
  have hB : Bd n (Int.gcd u w) := hw.le (by simpa using hle)
  have hs : Bd 1 (if w < 0 then -1 else 1) := by split <;> unfold Bd <;> decide
  exact ⟨hB.mul hs, hB⟩
theorem l_low_s {n : Nat} {g u w : Int} {Q : A → List A → Prop} {E : Ex → List A → Prop} (hg : g = 0 ∨ 2 ≤ g) (hg2 : g ≤ 13) (hn : n ≤ 8000) (hu : Bd n u) (hw : Bd n w) (ok : okd g w)
    (q : Q (.v (canon g u w)) [.v (.int g), .v (.int u), .v (.int w)]) : Wc (n_l_low [.v (.int g), .v (.int u), .v (.int w)]) Q E := by
  refine wc_fn rfl rfl ?_
  unfold b_l_low b_l_low_1
  rcases hg with rfl | hg
  · unfold okd at ok
    rw [if_neg (by decide)] at ok
    fail "s"
    refine wk_d (fun h => absurd h (by decide)) (fun _ => ?_)
    fail "s"
    refine l_shared_s ?_
    fail "s"
    refine wo_eq rfl ?_
    fail "s"
    refine sgn_ix2 ?_
    obtain ⟨h1, h2⟩ := cmn_bd (u := u) hw ok
    have hs : Bd 1 (if w < 0 then -1 else 1) := by split <;> unfold Bd <;> decide
    fail "s"
    refine wo_mul (h2.mulC hs (by omega)) ?_
    have hc0 := cmn_ne (u := u) ok
    unfold canon at q
    rw [if_neg (by decide)] at q
    change Bd (n + 1) ((Int.gcd u w : Int) * (if w < 0 then -1 else 1)) at h1
    change (Int.gcd u w : Int) * (if w < 0 then -1 else 1) ≠ 0 at hc0
    change Q (.v (dN (u.fdiv ((Int.gcd u w : Int) * (if w < 0 then -1 else 1))) (w.fdiv ((Int.gcd u w : Int) * (if w < 0 then -1 else 1))))) _ at q
    fail "s"
    refine wo_div (h1.divC hc0 (by omega)) ?_
    fail "s"
    refine wo_div (h1.divC hc0 (by omega)) ?_
    fail "s"
    exact q
  · unfold okd at ok
    rw [if_pos (by omega)] at ok
    subst ok
    unfold canon at q
    rw [if_pos (by omega)] at q
    have hr := fmod_range (i := u) (j := g) (by omega)
    fail "s"
    refine wk_d (fun _ => ?_) (fun h => absurd (by omega) h)
    fail "s"
    refine ⟨⟨by omega, by omega⟩, ?_⟩
    refine w_forL (fun ds ρ => (∃ x, ρ = [some (.v (.int g)), some (.v (.int u)), some (.v (.int 1)), x, none]) ∧ (∀ d ∈ ds, ∃ z : Int, d = .int z ∧ 0 ≤ z ∧ z < g) ∧ D.int (u.fmod g) ∈ ds) ⟨⟨_, rfl⟩, ?_, ?_⟩ ?_ ?_
    · intro d hd
      obtain ⟨i, hi, rfl⟩ := List.mem_map.mp hd
      have := List.mem_range.mp hi
      exact ⟨_, rfl, by omega, by omega⟩
    · refine List.mem_map.mpr ⟨(u.fmod g).toNat, List.mem_range.mpr (by omega), ?_⟩
      rw [Int.toNat_of_nonneg hr.1]
    · rintro d ds _ ⟨⟨x, rfl⟩, hds, hm⟩
      obtain ⟨z, rfl, hz0, hz⟩ := hds d (by simp)
      fail "s"
      have hz1 : (z * 1).fmod g = z := by rw [Int.mul_one, Int.fmod_eq_of_lt hz0 hz]
      rw [hz1]
      refine wk_d (fun h => ?_) (fun h => ?_)
      · fail "s"
        rw [← h] at q
        exact q
      · fail "s"
        refine ⟨⟨_, rfl⟩, fun d hd => hds d (List.mem_cons_of_mem _ hd), ?_⟩
        rcases List.mem_cons.mp hm with e | e
        · cases e; exact absurd rfl h
        · exact e
    · rintro _ ⟨⟨x, rfl⟩, _, hm⟩
      cases hm
theorem lowest_s {n : Nat} {g u w : Int} {Q : A → List A → Prop} {E : Ex → List A → Prop} (hg : g = 0 ∨ 2 ≤ g) (hg2 : g ≤ 13) (hn : n ≤ 8000) (hu : Bd n u) (hw : Bd n w) (ok : okd g w)
    (q : Q (.v (canon g u w)) [.v (.int g), .v (.int u), .v (.int w)]) : Wc (n_lowest [.v (.int g), .v (.int u), .v (.int w)]) Q E := by
  refine wc_fn rfl rfl ?_
  unfold b_lowest
  rcases hg with rfl | hg
  · unfold okd at ok
    rw [if_neg (by decide)] at ok
    fail "s"
    refine wk_d (fun h => absurd h (by decide)) (fun _ => ?_)
    fail "s"
    refine wk_d (fun h => absurd h (by decide)) (fun _ => ?_)
    fail "s"
    refine shared_s ?_
    obtain ⟨h1, h2⟩ := cmn_bd (u := u) hw ok
    have hc0 := cmn_ne (u := u) ok
    unfold canon at q
    rw [if_neg (by decide)] at q
    repeat' (fail_if_success (with_reducible refine w_seq ?_)); first | fail "w" | fail "e"
    refine w_seqJ (fun ρ1 => ρ1 = [some (.v (.int 0)), some (.v (.int u)), some (.v (.int w)), some (.v (.int (cmn u w)))]) ?_ ?_
    · fail "s"
      refine wk_d (fun h => ?_) (fun h => ?_)
      · fail "s"
        unfold cmn
        rw [if_pos h]
        rw [Int.zero_sub, Int.mul_neg, Int.mul_one]
      · fail "s"
        unfold cmn
        rw [if_neg h, Int.mul_one]
    rintro _ rfl
    fail "s"
    refine wo_div (h1.divC hc0 (by omega)) ?_
    fail "s"
    refine wo_div (h1.divC hc0 (by omega)) ?_
    fail "s"
    exact q
  · unfold okd at ok
    rw [if_pos (by omega)] at ok
    subst ok
    unfold canon at q
    rw [if_pos (by omega)] at q
    fail "s"
    refine wk_d (fun _ => ?_) (fun h => absurd (by omega) h)
    fail "s"
    refine wk_d (fun _ => ?_) (fun h => absurd trivial h)
    fail "s"
    exact q
section
variable {g : Int} {R : Type} [Lean.Grind.CommRing R] {N : Num g R} {a b : Nat} {r s : R} {Q : A → List A → Prop} {E : Ex → List A → Prop}
theorem plus_s (hg : g = 0 ∨ 2 ≤ g) (hg2 : g ≤ 13) (h4 : 4 ≤ a) (hab : a + b ≤ 7000) (hr : N.B a r) (hs : N.B b s) (q : N.B (a + b + 1) (r + s) → Q (.v (N.nm (r + s))) [.v (.int g), .v (N.nm r), .v (N.nm s)]) : Wc (n_plus [.v (.int g), .v (N.nm r), .v (N.nm s)]) Q E := by
  have q := q (hr.add h4 hg2 hs)
  refine wc_fn rfl rfl ?_
  unfold b_plus
  unfold Num.nm dN at q ⊢
  fail "s"
  refine wo_mul (hr.p.mulC hs.q (by omega)) ?_
  fail "s"
  refine wo_mul (hs.p.mulC hr.q (by omega)) ?_
  fail "s"
  refine wo_mul (hr.q.mulC hs.q (by omega)) ?_
  fail "s"
  refine lowest_s hg hg2 (n := a + b + 1) (by omega) (hr.sums hs) (hr.dens hs) (N.okp r s) ?_
  fail "s"
  rw [N.add]
  exact q
theorem l_plus_s (hg : g = 0 ∨ 2 ≤ g) (hg2 : g ≤ 13) (h4 : 4 ≤ a) (hab : a + b ≤ 7000) (hr : N.B a r) (hs : N.B b s) (q : N.B (a + b + 1) (r + s) → Q (.v (N.nm (r + s))) [.v (.int g), .v (N.nm r), .v (N.nm s)]) : Wc (n_l_plus [.v (.int g), .v (N.nm r), .v (N.nm s)]) Q E := by
  have q := q (hr.add h4 hg2 hs)
  refine wc_fn rfl rfl ?_
  unfold b_l_plus
  unfold Num.nm dN at q ⊢
  fail "s"
  refine wo_mul (hr.p.mulC hs.q (by omega)) ?_
  fail "s"
  refine wo_mul (hs.p.mulC hr.q (by omega)) ?_
  fail "s"
  refine wo_mul (hr.q.mulC hs.q (by omega)) ?_
  fail "s"
  refine l_low_s hg hg2 (n := a + b + 1) (by omega) (hr.sums hs) (hr.dens hs) (N.okp r s) ?_
  fail "s"
  rw [N.add]
  exact q
theorem times_s (hg : g = 0 ∨ 2 ≤ g) (hg2 : g ≤ 13) (h4 : 4 ≤ a) (hab : a + b ≤ 7000) (hr : N.B a r) (hs : N.B b s) (q : N.B (a + b) (r * s) → Q (.v (N.nm (r * s))) [.v (.int g), .v (N.nm r), .v (N.nm s)]) : Wc (n_times [.v (.int g), .v (N.nm r), .v (N.nm s)]) Q E := by
  have q := q (hr.mul h4 hg2 hs)
  refine wc_fn rfl rfl ?_
  unfold b_times
  unfold Num.nm dN at q ⊢
  fail "s"
  refine wo_mul (hr.p.mulC hs.p (by omega)) ?_
  fail "s"
  refine wo_mul (hr.q.mulC hs.q (by omega)) ?_
  fail "s"
  refine lowest_s hg hg2 (n := a + b) (by omega) (hr.p.mul hs.p) (hr.q.mul hs.q) (N.okp r s) ?_
  fail "s"
  rw [N.mul]
  exact q
theorem l_times_s (hg : g = 0 ∨ 2 ≤ g) (hg2 : g ≤ 13) (h4 : 4 ≤ a) (hab : a + b ≤ 7000) (hr : N.B a r) (hs : N.B b s) (q : N.B (a + b) (r * s) → Q (.v (N.nm (r * s))) [.v (.int g), .v (N.nm r), .v (N.nm s)]) : Wc (n_l_times [.v (.int g), .v (N.nm r), .v (N.nm s)]) Q E := by
  have q := q (hr.mul h4 hg2 hs)
  refine wc_fn rfl rfl ?_
  unfold b_l_times
  unfold Num.nm dN at q ⊢
  fail "s"
  refine wo_mul (hr.p.mulC hs.p (by omega)) ?_
  fail "s"
  refine wo_mul (hr.q.mulC hs.q (by omega)) ?_
  fail "s"
  refine l_low_s hg hg2 (n := a + b) (by omega) (hr.p.mul hs.p) (hr.q.mul hs.q) (N.okp r s) ?_
  fail "s"
  rw [N.mul]
  exact q
end
def okT (d : D) : Prop := kindD d ≠ "" ∧ ∀ l, d = .tup l → ∀ e ∈ l, kindD e ≠ ""
theorem numB_nt {g : Int} {d : D} (h : iTup d = false) : numB g d = false := by
  cases d <;> first | rfl | cases h
theorem numB_len {g : Int} {l : List D} (h : ¬ ((l.length : Int) = 2)) : numB g (.tup l) = false := by
  unfold numB
  split
  · rename_i e; cases e; exact absurd rfl h
  · rfl
theorem numB_el {g : Int} {x y : D} (h : [isI x, isI y].all id = false) : numB g (.tup [x, y]) = false := by
  cases x <;> cases y <;> first | rfl | simp [isI] at h
theorem is_number_s {g : Int} {d : D} {Q : A → List A → Prop} {E : Ex → List A → Prop} (hd : okT d) (q : Q (.v (.bl (numB g d))) [.v (.int g), .v d]) : Wc (n_is_number [.v (.int g), .v d]) Q E := by
  refine wc_fn rfl rfl ?_
  unfold b_is_number
  fail "e"
  repeat fail "w"
  refine wo_isTup hd.1 ?_
  repeat fail "w"
  refine wk_b (fun h => ?_) (fun h => ?_)
  case refine_2 =>
    repeat fail "w"
    rw [numB_nt h] at q
    exact wo_some q
  obtain ⟨l, rfl⟩ : ∃ l, d = .tup l := by cases d <;> first | exact ⟨_, rfl⟩ | cases h
  repeat fail "w"
  refine wk_d (fun h2 => ?_) (fun h2 => ?_)
  case refine_2 =>
    repeat fail "w"
    rw [numB_len h2] at q
    exact wo_some q
  obtain ⟨x, y, rfl⟩ : ∃ x y, l = [x, y] := by
    match l, h2 with
    | [x, y], _ => exact ⟨x, y, rfl⟩
    | [], h2 => simp at h2
    | [_], h2 => simp at h2
    | _ :: _ :: _ :: _, h2 => simp at h2; omega
  have hx := hd.2 _ rfl x (by simp)
  have hy := hd.2 _ rfl y (by simp)
  fail "s"
  refine wo_eq rfl ?_
  fail "s"
  refine is_whole_s hx ?_
  fail "s"
  refine is_whole_s hy ?_
  fail "s"
  refine wo_eq rfl ?_
  fail "s"
  refine wk_b (fun h3 => ?_) (fun h3 => ?_)
  case refine_2 =>
    fail "s"
    rw [numB_el h3] at q
    exact q
  obtain ⟨a, rfl⟩ : ∃ a, x = .int a := by cases x <;> first | exact ⟨_, rfl⟩ | simp [isI] at h3
  obtain ⟨b, rfl⟩ : ∃ b, y = .int b := by cases y <;> first | exact ⟨_, rfl⟩ | simp [isI] at h3
  fail "s"
  refine wk_d (fun hg => ?_) (fun hg => ?_)
  · fail "s"
    refine wk_d (fun ha => ?_) (fun ha => ?_)
    · fail "s"
      refine wk_d (fun hb => ?_) (fun hb => ?_)
      · fail "s"
        simpa [numB, hg, ha, hb] using q
      · fail "s"
        simpa [numB, hg, ha, hb] using q
    · fail "s"
      simpa [numB, hg, ha] using q
  · fail "s"
    refine wk_d (fun hb => ?_) (fun hb => ?_)
    · fail "s"
      refine shared_s ?_
      fail "s"
      have e : numB g (.tup [.int a, .int b]) = decide (((Int.gcd a b : Nat) : Int) = 1) := by
        unfold numB; dsimp only
        rw [if_neg hg, decide_eq_true hb, Bool.true_and]
      rwa [e] at q
    · fail "s"
      simpa [numB, hg, hb] using q
theorem l_is_number_s {g : Int} {d : D} {Q : A → List A → Prop} {E : Ex → List A → Prop} (hd : okT d) (q : Q (.v (.bl (numB g d))) [.v (.int g), .v d]) : Wc (n_l_is_number [.v (.int g), .v d]) Q E := by
  refine wc_fn rfl rfl ?_
  unfold b_l_is_number
  fail "e"
  repeat fail "w"
  refine wo_isTup hd.1 ?_
  repeat fail "w"
  refine wk_b (fun h => ?_) (fun h => ?_)
  case refine_2 =>
    repeat fail "w"
    rw [numB_nt h] at q
    exact wo_some q
  obtain ⟨l, rfl⟩ : ∃ l, d = .tup l := by cases d <;> first | exact ⟨_, rfl⟩ | cases h
  repeat fail "w"
  refine wk_d (fun h2 => ?_) (fun h2 => ?_)
  case refine_2 =>
    repeat fail "w"
    rw [numB_len h2] at q
    exact wo_some q
  obtain ⟨x, y, rfl⟩ : ∃ x y, l = [x, y] := by
    match l, h2 with
    | [x, y], _ => exact ⟨x, y, rfl⟩
    | [], h2 => simp at h2
    | [_], h2 => simp at h2
    | _ :: _ :: _ :: _, h2 => simp at h2; omega
  have hx := hd.2 _ rfl x (by simp)
  have hy := hd.2 _ rfl y (by simp)
  fail "s"
  refine wo_eq rfl ?_
  fail "s"
  refine l_is_whole_s hx ?_
  fail "s"
  refine l_is_whole_s hy ?_
  fail "s"
  refine wo_eq rfl ?_
  fail "s"
  refine wk_b (fun h3 => ?_) (fun h3 => ?_)
  case refine_2 =>
    fail "s"
    rw [numB_el h3] at q
    exact q
  obtain ⟨a, rfl⟩ : ∃ a, x = .int a := by cases x <;> first | exact ⟨_, rfl⟩ | simp [isI] at h3
  obtain ⟨b, rfl⟩ : ∃ b, y = .int b := by cases y <;> first | exact ⟨_, rfl⟩ | simp [isI] at h3
  fail "s"
  refine wk_d (fun hg => ?_) (fun hg => ?_)
  · fail "s"
    refine wk_d (fun ha => ?_) (fun ha => ?_)
    · fail "s"
      refine wk_d (fun hb => ?_) (fun hb => ?_)
      · fail "s"
        simpa [numB, hg, ha, hb] using q
      · fail "s"
        simpa [numB, hg, ha, hb] using q
    · fail "s"
      simpa [numB, hg, ha] using q
  · fail "s"
    refine wk_d (fun hb => ?_) (fun hb => ?_)
    · fail "s"
      refine l_shared_s ?_
      fail "s"
      have e : numB g (.tup [.int a, .int b]) = decide (((Int.gcd a b : Nat) : Int) = 1) := by
        unfold numB; dsimp only
        rw [if_neg hg, decide_eq_true (show 1 ≤ b by omega), Bool.true_and]
      rwa [e] at q
    · fail "s"
      have e : numB g (.tup [.int a, .int b]) = false := by
        unfold numB; dsimp only
        rw [if_neg hg, decide_eq_false (show ¬ 1 ≤ b by omega), Bool.false_and]
      rwa [e] at q
end DD.K04

namespace DD.K04
open PySem PySem.Spec L2
open PyProof.Rows hiding St
local macro_rules | `(tactic| fail "z") => `(tactic| first | (refine sz_of ?_; simp only [List.length_cons, List.length_nil, List.length_map, List.length_range, List.length_set, List.length_append, Int.reduceNeg, Int.reduceSub, Int.reduceToNat, Nat.reduceAdd, Nat.zero_add, Nat.reduceLT, Nat.reduceLeDiff, ne_eq, Nat.reduceEqDiff, not_false_eq_true]; done) | (refine szl_of ?_; simp only [List.length_cons, List.length_nil, List.length_map, List.length_range, List.length_set, List.length_append, Int.reduceNeg, Int.reduceSub, Int.reduceToNat, Nat.reduceAdd, Nat.zero_add, Nat.reduceLT, Nat.reduceLeDiff, ne_eq, Nat.reduceEqDiff, not_false_eq_true]; done) | (simp only [List.length_cons, List.length_nil, List.length_map, List.length_range, List.length_set, List.length_append, Int.reduceNeg, Int.reduceSub, Int.reduceToNat, Nat.reduceAdd, Nat.zero_add, Nat.reduceLT, Nat.reduceLeDiff, ne_eq, Nat.reduceEqDiff, not_false_eq_true]; done))
local macro_rules | `(tactic| fail "w") => `(tactic| with_reducible first
  | refine w_seq ?_ | refine w_setF ?_ | refine w_setT ?_ | refine w_ret ?_ | refine w_ifS ?_ | refine w_expr ?_ | refine w_for ?_ | refine w_parF ?_ | refine w_asg ?_ | refine w_skip ?_
  | refine w_var (by with_unfolding_all rfl) ?_ | refine w_c ?_ | refine w_op2 ?_ | refine w_op1 ?_ | refine w_test ?_ | refine wb ?_ | refine w_nil ?_ | refine w_cons ?_
  | refine w_tup ?_ | refine w_lst ?_ | refine w_if ?_ | refine w_andT ?_ | refine w_orT ?_ | refine w_notT ?_ | refine w_andV ?_ | refine w_orV ?_ | refine w_notV ?_
  | refine wk_t ?_ | refine wk_f ?_ | refine wk_n ?_
  | refine wf_nx ?_ | refine wf_ret ?_ | refine wf_bk ?_ | refine wf_ct ?_ | refine wl_nx ?_ | refine wl_ct ?_ | refine wl_bk ?_ | refine wl_ret ?_ | refine wr_nx ?_ | refine wr_ret ?_
  | refine w_gset (by fail "z") ?_ | refine w_gtup (by with_unfolding_all rfl) ?_ | refine w_gcons ?_ | refine w_gnil ?_ | refine w_items ?_ | refine w_rng1 ?_ | refine w_rng2 ?_
  | refine w_blt ?_ | refine w_isi ?_ | refine w_vnil ?_ | refine w_vvalF ?_ | refine w_vvalT ?_ | refine w_vref (by with_unfolding_all rfl) ?_ | refine w_call ?_
  | refine w_appendF (by with_unfolding_all rfl) ?_ | refine w_extend (by with_unfolding_all rfl) ?_ | refine w_setitemF ?_ | refine w_ixOwn (by with_unfolding_all rfl) ?_ | refine w_lenOwn (by with_unfolding_all rfl) ?_ | refine w_move (by with_unfolding_all rfl) ?_ | refine w_frz (by with_unfolding_all rfl) ?_
  | refine wix (by with_unfolding_all rfl) (by with_unfolding_all rfl) ?_ | refine wap (by with_unfolding_all rfl) (by fail "z") ?_ | refine wxt (by with_unfolding_all rfl) (by with_unfolding_all rfl) (by fail "z") ?_ | refine wmm (by with_unfolding_all rfl) ?_ | refine wst (by with_unfolding_all rfl) (by with_unfolding_all rfl) ?_ | refine win ?_
  | refine w_fmt ?_ | refine w_jscons ?_ | refine w_jsnil ?_ | refine wjs ?_ | refine w_join ?_ | refine w_zip ?_ | refine w_zipS ?_ | refine w_enum ?_ | refine w_bor ?_ | refine w_borT ?_ | refine wfl_bl ?_ | refine wfl_int ?_
  | refine w_no ?_ | refine w_so ?_ | refine w_sl ?_ | refine w_rev ?_ | refine w_comp ?_ | refine w_chain ?_ | refine w_compnil ?_ | refine w_compcons ?_ | refine wp_pure ?_
  | refine wo_add ?_ | refine wo_sub ?_ | refine wo_neg ?_ | refine wo_lt ?_ | refine wo_le ?_ | refine wo_gt ?_ | refine wo_ge ?_ | refine wo_eqI ?_ | refine wo_neI ?_ | refine wo_notB ?_ | refine wo_isB ?_
  | refine wo_abs ?_ | refine wo_lenT ?_ | refine wo_lenL ?_ | refine wo_lenF ?_ | refine wo_lenM ?_ | refine wo_some ?_ | refine ix_at (by with_unfolding_all rfl) (by with_unfolding_all rfl) ?_
  | refine wo_mod (by omega) ?_ | refine wo_div (divc64 (by omega) (by omega) (by omega)) ?_ | refine wo_mul (mulc64 (by omega) (by omega) (by omega) (by omega)) ?_ | refine wo_pow (cpow64 (by omega) (by omega) (by omega) (by omega)) ?_
  | refine And.intro (by fail "z") ?_ | refine And.intro (And.intro (by fail "z") (And.intro (by fail "z") (by fail "z"))) ?_)
local macro_rules | `(tactic| fail "e") => `(tactic| simp only [List.map_cons, List.map_nil, List.replicate, List.cons_append, List.nil_append, List.append_nil, List.set_cons_zero, List.set_cons_succ, List.set_nil, A.frz, frzs_v, frzs, Nat.reduceSub, gath, back, List.getElem?_cons_zero, List.getElem?_cons_succ, Option.map_some, lentL, List.contains_cons, List.contains_nil, List.elem_nil, List.elem_cons, Nat.reduceAdd, Nat.reduceBEq, Bool.or_false, Bool.or_true, Bool.false_or, Bool.true_or, beq_self_eq_true, if_true, if_false, reduceIte, Bool.false_eq_true, Int.reduceToNat, iBool_bl, iBool_int, iInt_bl, iInt_int, isI_int, isI_bl, iTup_tup, iTup_lst, iTup_int, Int.reducePow, List.getElem?_nil, wipeE, wipeF, parkL, putL, Nat.reduceLT, Nat.reduceLeDiff, frzE])
local macro_rules | `(tactic| fail "s") => `(tactic| repeat (first | fail "w" | fail "e"))
local macro_rules | `(tactic| fail "t") => `(tactic| refine take_s (by omega) (by omega) (by omega) (by omega) (by omega) ?_)

theorem okT_pl {n : Nat} {d : D} (h : Pl n d) : okT d := ⟨h.kind, fun l e x hx => by subst e; exact ((pl_tup.mp h) x hx).kind⟩
theorem is_row_s {n : Nat} {g m : Int} {d : D} {Q : A → List A → Prop} {E : Ex → List A → Prop} (hd : Pl n d) (hm : m ≤ 1000) (q : Q (.v (.bl (rowB g m d))) [.v (.int g), .v d, .v (.int m)]) : Wc (n_is_row [.v (.int g), .v d, .v (.int m)]) Q E := by
  refine wc_fn rfl rfl ?_
  unfold b_is_row
  fail "s"
  refine wo_isTup hd.kind ?_
  fail "s"
  refine wk_b (fun h => ?_) (fun h => ?_)
  case refine_2 =>
    fail "s"
    have e : rowB g m d = false := by cases d <;> first | rfl | cases h
    rw [e] at q
    exact q
  obtain ⟨l, rfl⟩ : ∃ l, d = .tup l := by cases d <;> first | exact ⟨_, rfl⟩ | cases h
  fail "s"
  refine wk_d (fun h2 => ?_) (fun h2 => ?_)
  case refine_2 =>
    fail "s"
    have e : rowB g m (.tup l) = false := by unfold rowB; dsimp only; rw [decide_eq_false h2, Bool.false_and]
    rw [e] at q
    exact q
  have e : rowB g m (.tup l) = l.all (numB g) := by unfold rowB; dsimp only; rw [decide_eq_true h2, Bool.true_and]
  rw [e] at q
  fail "s"
  refine wo_eq rfl ?_
  refine ⟨sz_of (by omega), ?_⟩
  fail "s"
  refine w_compMap (fun d => d) (fun d => A.v (.bl (numB g d))) (xs := l) (by simp) (fun x hx => ?_) ?_
  · fail "s"
    refine is_number_s (okT_pl ((pl_tup.mp hd) x hx)) ?_
    fail "s"
  fail "s"
  refine wo_eq all_map ?_
  fail "s"
  exact q
theorem l_is_row_s {n : Nat} {g m : Int} {d : D} {Q : A → List A → Prop} {E : Ex → List A → Prop} (hd : Pl n d) (hm : m ≤ 1000) (q : Q (.v (.bl (rowB g m d))) [.v (.int g), .v d, .v (.int m)]) : Wc (n_l_is_row [.v (.int g), .v d, .v (.int m)]) Q E := by
  refine wc_fn rfl rfl ?_
  unfold b_l_is_row
  fail "s"
  refine wo_isTup hd.kind ?_
  fail "s"
  refine wk_b (fun h => ?_) (fun h => ?_)
  case refine_2 =>
    fail "s"
    have e : rowB g m d = false := by cases d <;> first | rfl | cases h
    rw [e] at q
    exact q
  obtain ⟨l, rfl⟩ : ∃ l, d = .tup l := by cases d <;> first | exact ⟨_, rfl⟩ | cases h
  fail "s"
  refine wk_d (fun h2 => ?_) (fun h2 => ?_)
  case refine_2 =>
    fail "s"
    have e : rowB g m (.tup l) = false := by unfold rowB; dsimp only; rw [decide_eq_false h2, Bool.false_and]
    rw [e] at q
    exact q
  have e : rowB g m (.tup l) = l.all (numB g) := by unfold rowB; dsimp only; rw [decide_eq_true h2, Bool.true_and]
  rw [e] at q
  fail "s"
  refine wo_eq rfl ?_
  refine ⟨sz_of (by omega), ?_⟩
  fail "s"
  refine w_compMap (fun d => d) (fun d => A.v (.bl (numB g d))) (xs := l) (by simp) (fun x hx => ?_) ?_
  · fail "s"
    refine l_is_number_s (okT_pl ((pl_tup.mp hd) x hx)) ?_
    fail "s"
  fail "s"
  refine wo_eq all_map ?_
  fail "s"
  exact q
theorem is_table_s {n : Nat} {g h m : Int} {d : D} {Q : A → List A → Prop} {E : Ex → List A → Prop} (hd : Pl n d) (hh : h ≤ 1000) (hm : m ≤ 1000) (q : Q (.v (.bl (tabB g h m d))) [.v (.int g), .v d, .v (.int h), .v (.int m)]) : Wc (n_is_table [.v (.int g), .v d, .v (.int h), .v (.int m)]) Q E := by
  refine wc_fn rfl rfl ?_
  unfold b_is_table
  fail "s"
  refine wo_isTup hd.kind ?_
  fail "s"
  refine wk_b (fun h0 => ?_) (fun h0 => ?_)
  case refine_2 =>
    fail "s"
    have e : tabB g h m d = false := by cases d <;> first | rfl | cases h0
    rw [e] at q
    exact q
  obtain ⟨l, rfl⟩ : ∃ l, d = .tup l := by cases d <;> first | exact ⟨_, rfl⟩ | cases h0
  fail "s"
  refine wk_d (fun h2 => ?_) (fun h2 => ?_)
  case refine_2 =>
    fail "s"
    have e : tabB g h m (.tup l) = false := by unfold tabB; dsimp only; rw [decide_eq_false h2, Bool.false_and]
    rw [e] at q
    exact q
  have e : tabB g h m (.tup l) = l.all (rowB g m) := by unfold tabB; dsimp only; rw [decide_eq_true h2, Bool.true_and]
  rw [e] at q
  fail "s"
  refine wo_eq rfl ?_
  refine ⟨sz_of (by omega), ?_⟩
  fail "s"
  refine w_compMap (fun d => d) (fun d => A.v (.bl (rowB g m d))) (xs := l) (by simp) (fun x hx => ?_) ?_
  · fail "s"
    refine is_row_s ((pl_tup.mp hd) x hx) hm ?_
    fail "s"
  fail "s"
  refine wo_eq all_map ?_
  fail "s"
  exact q
theorem l_is_table_s {n : Nat} {g h m : Int} {d : D} {Q : A → List A → Prop} {E : Ex → List A → Prop} (hd : Pl n d) (hh : h ≤ 1000) (hm : m ≤ 1000) (q : Q (.v (.bl (tabB g h m d))) [.v (.int g), .v d, .v (.int h), .v (.int m)]) : Wc (n_l_is_table [.v (.int g), .v d, .v (.int h), .v (.int m)]) Q E := by
  refine wc_fn rfl rfl ?_
  unfold b_l_is_table
  fail "s"
  refine wo_isTup hd.kind ?_
  fail "s"
  refine wk_b (fun h0 => ?_) (fun h0 => ?_)
  case refine_2 =>
    fail "s"
    have e : tabB g h m d = false := by cases d <;> first | rfl | cases h0
    rw [e] at q
    exact q
  obtain ⟨l, rfl⟩ : ∃ l, d = .tup l := by cases d <;> first | exact ⟨_, rfl⟩ | cases h0
  fail "s"
  refine wk_d (fun h2 => ?_) (fun h2 => ?_)
  case refine_2 =>
    fail "s"
    have e : tabB g h m (.tup l) = false := by unfold tabB; dsimp only; rw [decide_eq_false h2, Bool.false_and]
    rw [e] at q
    exact q
  have e : tabB g h m (.tup l) = l.all (rowB g m) := by unfold tabB; dsimp only; rw [decide_eq_true h2, Bool.true_and]
  rw [e] at q
  fail "s"
  refine wo_eq rfl ?_
  refine ⟨sz_of (by omega), ?_⟩
  fail "s"
  refine w_compMap (fun d => d) (fun d => A.v (.bl (rowB g m d))) (xs := l) (by simp) (fun x hx => ?_) ?_
  · fail "s"
    refine l_is_row_s ((pl_tup.mp hd) x hx) hm ?_
    fail "s"
  fail "s"
  refine wo_eq all_map ?_
  fail "s"
  exact q
theorem are_told_s {n : Nat} {g h m : Int} {ds : List D} {lst : D} {Q : A → List A → Prop} {E : Ex → List A → Prop} (hl : seqD lst = some ds) (hds : ∀ d ∈ ds, Pl n d) (hh : h ≤ 1000) (hm : m ≤ 1000)
    (q : Q (.v (.bl true)) [.v (.int g), .v lst, .v (.int h), .v (.int m)]) : Wc (n_l_are_told [.v (.int g), .v lst, .v (.int h), .v (.int m)]) Q E := by
  refine wc_fn rfl rfl ?_
  unfold b_l_are_told b_l_are_told_1
  fail "s"
  refine wo_eq hl ?_
  fail "s"
  refine w_forL (fun ds ρ => ∃ s4 s5, ρ = [some (.v (.int g)), some (.v lst), some (.v (.int h)), some (.v (.int m)), s4, s5, none] ∧ ∀ d ∈ ds, Pl n d) ⟨_, _, rfl, hds⟩ ?_ ?_
  · rintro d ds _ ⟨s4, s5, rfl, hds⟩
    have hd := hds d (by simp)
    fail "s"
    refine is_row_s hd hm ?_
    fail "s"
    refine is_table_s hd hh hm ?_
    fail "s"
    refine l_is_row_s hd hm ?_
    fail "s"
    refine l_is_table_s hd hh hm ?_
    fail "s"
    refine wo_neS (k := 1) rfl (okc_lst fun d hd => by simp at hd; rcases hd with rfl | rfl <;> simp [okc]) (by decide) ?_
    fail "s"
    refine wo_eq rfl ?_
    fail "s"
    refine wo_isBool (by simp [kindD]) ?_
    fail "s"
    refine wo_isBool (by simp [kindD]) ?_
    fail "s"
    refine wo_eq rfl ?_
    fail "s"
    refine wk_b (fun _ => ?_) (fun h => absurd h (by decide))
    fail "s"
    exact ⟨_, _, rfl, fun d hd => hds d (List.mem_cons_of_mem _ hd)⟩
  · rintro _ ⟨s4, s5, rfl, _⟩
    fail "s"
    exact q
end DD.K04

namespace DD.K04
open PySem PySem.Spec L2
open PyProof.Rows hiding St
local macro_rules | `(tactic| fail "z") => `(tactic| first | (refine sz_of ?_; simp only [List.length_cons, List.length_nil, List.length_map, List.length_range, List.length_set, List.length_append, Int.reduceNeg, Int.reduceSub, Int.reduceToNat, Nat.reduceAdd, Nat.zero_add, Nat.reduceLT, Nat.reduceLeDiff, ne_eq, Nat.reduceEqDiff, not_false_eq_true]; done) | (refine szl_of ?_; simp only [List.length_cons, List.length_nil, List.length_map, List.length_range, List.length_set, List.length_append, Int.reduceNeg, Int.reduceSub, Int.reduceToNat, Nat.reduceAdd, Nat.zero_add, Nat.reduceLT, Nat.reduceLeDiff, ne_eq, Nat.reduceEqDiff, not_false_eq_true]; done) | (simp only [List.length_cons, List.length_nil, List.length_map, List.length_range, List.length_set, List.length_append, Int.reduceNeg, Int.reduceSub, Int.reduceToNat, Nat.reduceAdd, Nat.zero_add, Nat.reduceLT, Nat.reduceLeDiff, ne_eq, Nat.reduceEqDiff, not_false_eq_true]; done))
local macro_rules | `(tactic| fail "w") => `(tactic| with_reducible first
  | refine w_seq ?_ | refine w_setF ?_ | refine w_setT ?_ | refine w_ret ?_ | refine w_ifS ?_ | refine w_expr ?_ | refine w_for ?_ | refine w_parF ?_ | refine w_asg ?_ | refine w_skip ?_
  | refine w_var (by with_unfolding_all rfl) ?_ | refine w_c ?_ | refine w_op2 ?_ | refine w_op1 ?_ | refine w_test ?_ | refine wb ?_ | refine w_nil ?_ | refine w_cons ?_
  | refine w_tup ?_ | refine w_lst ?_ | refine w_if ?_ | refine w_andT ?_ | refine w_orT ?_ | refine w_notT ?_ | refine w_andV ?_ | refine w_orV ?_ | refine w_notV ?_
  | refine wk_t ?_ | refine wk_f ?_ | refine wk_n ?_
  | refine wf_nx ?_ | refine wf_ret ?_ | refine wf_bk ?_ | refine wf_ct ?_ | refine wl_nx ?_ | refine wl_ct ?_ | refine wl_bk ?_ | refine wl_ret ?_ | refine wr_nx ?_ | refine wr_ret ?_
  | refine w_gset (by fail "z") ?_ | refine w_gtup (by with_unfolding_all rfl) ?_ | refine w_gcons ?_ | refine w_gnil ?_ | refine w_items ?_ | refine w_rng1 ?_ | refine w_rng2 ?_
  | refine w_blt ?_ | refine w_isi ?_ | refine w_vnil ?_ | refine w_vvalF ?_ | refine w_vvalT ?_ | refine w_vref (by with_unfolding_all rfl) ?_ | refine w_call ?_
  | refine w_appendF (by with_unfolding_all rfl) ?_ | refine w_extend (by with_unfolding_all rfl) ?_ | refine w_setitemF ?_ | refine w_ixOwn (by with_unfolding_all rfl) ?_ | refine w_lenOwn (by with_unfolding_all rfl) ?_ | refine w_move (by with_unfolding_all rfl) ?_ | refine w_frz (by with_unfolding_all rfl) ?_
  | refine wix (by with_unfolding_all rfl) (by with_unfolding_all rfl) ?_ | refine wap (by with_unfolding_all rfl) (by fail "z") ?_ | refine wxt (by with_unfolding_all rfl) (by with_unfolding_all rfl) (by fail "z") ?_ | refine wmm (by with_unfolding_all rfl) ?_ | refine wst (by with_unfolding_all rfl) (by with_unfolding_all rfl) ?_ | refine win ?_
  | refine w_fmt ?_ | refine w_jscons ?_ | refine w_jsnil ?_ | refine wjs ?_ | refine w_join ?_ | refine w_zip ?_ | refine w_zipS ?_ | refine w_enum ?_ | refine w_bor ?_ | refine w_borT ?_ | refine wfl_bl ?_ | refine wfl_int ?_
  | refine w_no ?_ | refine w_so ?_ | refine w_sl ?_ | refine w_rev ?_ | refine w_comp ?_ | refine w_chain ?_ | refine w_compnil ?_ | refine w_compcons ?_ | refine wp_pure ?_
  | refine wo_add ?_ | refine wo_sub ?_ | refine wo_neg ?_ | refine wo_lt ?_ | refine wo_le ?_ | refine wo_gt ?_ | refine wo_ge ?_ | refine wo_eqI ?_ | refine wo_neI ?_ | refine wo_notB ?_ | refine wo_isB ?_
  | refine wo_abs ?_ | refine wo_lenT ?_ | refine wo_lenL ?_ | refine wo_lenF ?_ | refine wo_lenM ?_ | refine wo_some ?_ | refine ix_at (by with_unfolding_all rfl) (by with_unfolding_all rfl) ?_
  | refine wo_mod (by omega) ?_ | refine wo_div (divc64 (by omega) (by omega) (by omega)) ?_ | refine wo_mul (mulc64 (by omega) (by omega) (by omega) (by omega)) ?_ | refine wo_pow (cpow64 (by omega) (by omega) (by omega) (by omega)) ?_
  | refine And.intro (by fail "z") ?_ | refine And.intro (And.intro (by fail "z") (And.intro (by fail "z") (by fail "z"))) ?_)
local macro_rules | `(tactic| fail "e") => `(tactic| simp only [List.map_cons, List.map_nil, List.replicate, List.cons_append, List.nil_append, List.append_nil, List.set_cons_zero, List.set_cons_succ, List.set_nil, A.frz, frzs_v, frzs, Nat.reduceSub, gath, back, List.getElem?_cons_zero, List.getElem?_cons_succ, Option.map_some, lentL, List.contains_cons, List.contains_nil, List.elem_nil, List.elem_cons, Nat.reduceAdd, Nat.reduceBEq, Bool.or_false, Bool.or_true, Bool.false_or, Bool.true_or, beq_self_eq_true, if_true, if_false, reduceIte, Bool.false_eq_true, Int.reduceToNat, iBool_bl, iBool_int, iInt_bl, iInt_int, isI_int, isI_bl, iTup_tup, iTup_lst, iTup_int, Int.reducePow, List.getElem?_nil, wipeE, wipeF, parkL, putL, Nat.reduceLT, Nat.reduceLeDiff, frzE])
local macro_rules | `(tactic| fail "s") => `(tactic| repeat (first | fail "w" | fail "e"))
local macro_rules | `(tactic| fail "t") => `(tactic| refine take_s (by omega) (by omega) (by omega) (by omega) (by omega) ?_)

def NumP (n : Nat) (d : D) : Prop := ∃ x y, d = .tup [.int x, .int y] ∧ Bd n x ∧ Bd n y
def RowP (n : Nat) (d : D) : Prop := ∃ l, d = .tup l ∧ 1 ≤ l.length ∧ l.length ≤ 10 ∧ ∀ e ∈ l, NumP n e
def TabP (n : Nat) (d : D) : Prop := ∃ l, d = .tup l ∧ 1 ≤ l.length ∧ l.length ≤ 10 ∧ ∀ e ∈ l, RowP n e
theorem NumP.pl {n : Nat} {d : D} (h : NumP n d) : Pl n d := by
  obtain ⟨x, y, rfl, hx, hy⟩ := h
  exact pl_tup.mpr fun e he => by simp at he; rcases he with rfl | rfl <;> exact pl_int.mpr (by assumption)
theorem RowP.pl {n : Nat} {d : D} (h : RowP n d) : Pl n d := by
  obtain ⟨l, rfl, _, _, h⟩ := h
  exact pl_tup.mpr fun e he => (h e he).pl
theorem TabP.pl {n : Nat} {d : D} (h : TabP n d) : Pl n d := by
  obtain ⟨l, rfl, _, _, h⟩ := h
  exact pl_tup.mpr fun e he => (h e he).pl
theorem cut_mem {α : Type} {l : List α} {lo hi : Option Int} {e : α} (h : e ∈ cutL l lo hi) : e ∈ l := List.mem_of_mem_drop (List.mem_of_mem_take h)
theorem cut_len {α : Type} {l : List α} {lo hi : Option Int} : (cutL l lo hi).length ≤ l.length := by
  unfold cutL
  rw [List.length_take, List.length_drop]
  omega
theorem wo_addT {l k : List D} {P : A → Prop} (h : l.length + k.length ≤ 1000000) (q : P (.v (.tup (l ++ k)))) : Wo (opAdd (.v (.tup l)) (.v (.tup k))) P := wo_eq (if_pos (sz_of h)) q
theorem odd_s {a b : Int} {Q : A → List A → Prop} {E : Ex → List A → Prop} (ha : 0 ≤ a) (hb : 0 ≤ b) (hb2 : b < 2147483647)
    (q : ∀ d a' b', 0 ≤ a' → 0 ≤ b' → b' < 2147483647 → Pl 200 d → Q (.v d) [.m [.v (.int a'), .v (.int b')]]) : Wc (n_l_odd [.m [.v (.int a), .v (.int b)]]) Q E := by
  refine wc_fn rfl rfl ?_
  unfold b_l_odd
  fail "s"
  fail "t"
  intro d a1 b1 ha1 hb1 hb11 h0 h1
  fail "s"
  refine wo_ix rfl h0 h1 fun d hd => ?_
  fail "s"
  refine q _ _ _ ha1 hb1 hb11 ?_
  have k : ∀ i : Int, -10 < i → i < 10 → Bd 200 i := fun i h g => (bd20 (by omega) (by omega)).mono (by decide)
  have k59 : Bd 200 (100000000000000000000000000000000000000000000000000000000000 : Int) := by unfold Bd; decide +kernel
  simp only [List.mem_cons, List.not_mem_nil, or_false] at hd
  rcases hd with rfl | rfl | rfl | rfl | rfl | rfl | rfl | rfl | rfl | rfl | rfl | rfl | rfl | rfl | rfl | rfl | rfl | rfl | rfl | rfl <;> simp [Pl, Pls, k59, k]
theorem bent_number_s {n : Nat} {a b g x y : Int} {Q : A → List A → Prop} {E : Ex → List A → Prop} (hn : 200 ≤ n) (hn2 : n ≤ 1000) (hg : 0 ≤ g) (hg2 : g ≤ 13) (ha : 0 ≤ a) (hb : 0 ≤ b) (hb2 : b < 2147483647) (hx : Bd n x) (hy : Bd n y)
    (q : ∀ d a' b', 0 ≤ a' → 0 ≤ b' → b' < 2147483647 → Pl (n + 20) d → Q (.v d) [.m [.v (.int a'), .v (.int b')], .v (.int g), .v (.tup [.int x, .int y])]) : Wc (n_l_bent_number [.m [.v (.int a), .v (.int b)], .v (.int g), .v (.tup [.int x, .int y])]) Q E := by
  refine wc_fn rfl rfl ?_
  unfold b_l_bent_number
  fail "s"
  have h2 : Bd 20 2 := bd20 (by decide) (by decide)
  refine wo_mul (hx.mulC h2 (by omega)) ?_
  fail "s"
  refine wo_mul (hy.mulC h2 (by omega)) ?_
  fail "s"
  refine wo_str (Nat.lt_of_le_of_lt hx.log (by omega)) ?_
  fail "s"
  refine odd_s ha hb hb2 fun d a1 b1 ha1 hb1 hb11 hd => ?_
  fail "s"
  fail "t"
  intro d1 a2 b2 ha2 hb2 hb21 h0 h1
  fail "s"
  refine wo_ix rfl h0 h1 fun e he => ?_
  fail "s"
  refine q _ _ _ ha2 hb2 hb21 ?_
  have k : ∀ i : Int, -100 < i → i < 100 → Bd (n + 20) i := fun i h g => (bd20 (by omega) (by omega)).mono (by omega)
  have k' : ∀ i : Int, -100 < i → i < 100 → Bd n i := fun i h g => (bd20 (by omega) (by omega)).mono (by omega)
  have e1 : Bd (n + 20) x := hx.mono (by omega)
  have e2 : Bd (n + 20) y := hy.mono (by omega)
  have e3 : Bd (n + 20) (x * 2) := hx.mul h2
  have e4 : Bd (n + 20) (y * 2) := hy.mul h2
  have e5 : Bd (n + 20) (-y) := e2.neg
  have e6 : Bd (n + 20) (x + g) := (hx.add (k' g (by omega) (by omega))).mono (by omega)
  have e7 : Bd (n + 20) (x - g) := (hx.sub (k' g (by omega) (by omega))).mono (by omega)
  have e8 : Bd (n + 20) (x + 1) := (hx.add (k' 1 (by omega) (by omega))).mono (by omega)
  have e9 := Pl.mono (show 200 ≤ n + 20 by omega) _ hd
  simp only [List.mem_cons, List.not_mem_nil, or_false] at he
  rcases he with rfl | rfl | rfl | rfl | rfl | rfl | rfl | rfl | rfl | rfl | rfl | rfl | rfl | rfl | rfl | rfl <;> first | exact e9 | simp [Pl, Pls, k, e1, e2, e3, e4, e5, e6, e7, e8]
theorem swapped_s {l : List D} {i : Int} {d : D} {Q : A → List A → Prop} {E : Ex → List A → Prop} (hl : l.length ≤ 1000) (q : ∀ l', (∀ e ∈ l', e ∈ l ∨ e = d) → Q (.v (.tup l')) [.v (.tup l), .v (.int i), .v d]) : Wc (n_l_swapped [.v (.tup l), .v (.int i), .v d]) Q E := by
  refine wc_fn rfl rfl ?_
  unfold b_l_swapped
  fail "s"
  have c1 := cut_len (l := l) (lo := none) (hi := some i)
  have c2 := cut_len (l := l) (lo := some (i + 1)) (hi := none)
  refine wo_eq rfl ?_
  fail "s"
  refine wo_addT (by simp; omega) ?_
  fail "s"
  refine wo_eq rfl ?_
  fail "s"
  refine wo_addT (by simp; omega) ?_
  fail "s"
  refine q _ fun e he => ?_
  simp only [List.mem_append, List.mem_cons, List.not_mem_nil, or_false] at he
  rcases he with (he | he) | he
  · exact .inl (cut_mem he)
  · exact .inr he
  · exact .inl (cut_mem he)
theorem bent_row_s {n : Nat} {a b g : Int} {r : D} {Q : A → List A → Prop} {E : Ex → List A → Prop} (hn : 200 ≤ n) (hn2 : n ≤ 1000) (hg : 0 ≤ g) (hg2 : g ≤ 13) (ha : 0 ≤ a) (hb : 0 ≤ b) (hb2 : b < 2147483647) (hr : RowP n r)
    (q : ∀ d a' b', 0 ≤ a' → 0 ≤ b' → b' < 2147483647 → Pl (n + 20) d → Q (.v d) [.m [.v (.int a'), .v (.int b')], .v (.int g), .v r]) : Wc (n_l_bent_row [.m [.v (.int a), .v (.int b)], .v (.int g), .v r]) Q E := by
  have hp := Pl.mono (show n ≤ n + 20 by omega) _ hr.pl
  obtain ⟨l, rfl, h1, h10, hL⟩ := hr
  have hp := pl_tup.mp hp
  refine wc_fn rfl rfl ?_
  unfold b_l_bent_row
  fail "s"
  fail "t"
  intro i a b ha hb hb2 i0 i1
  fail "s"
  fail "t"
  intro way a b ha hb hb2 w0 w1
  fail "s"
  obtain ⟨e, he, hat⟩ := atI_ex (l := l) i0 i1
  have c1 := cut_len (l := l) (lo := none) (hi := some i)
  have c2 := cut_len (l := l) (lo := some (i + 1)) (hi := none)
  refine wk_d (fun h => ?_) (fun h => ?_)
  · fail "s"
    refine ix_at rfl hat ?_
    fail "s"
    obtain ⟨x, y, rfl, hx, hy⟩ := hL e he
    refine bent_number_s hn hn2 hg hg2 ha hb hb2 hx hy fun d a b ha hb hb2 hd => ?_
    fail "s"
    refine swapped_s (by omega) fun l' hl' => ?_
    fail "s"
    refine q _ _ _ ha hb hb2 (pl_tup.mpr fun e he => ?_)
    rcases hl' e he with h | rfl
    · exact hp e h
    · exact hd
  · fail "s"
    refine ix_at rfl hat ?_
    fail "s"
    refine wo_addT (by simp; omega) ?_
    fail "s"
    refine wo_eq rfl ?_
    fail "s"
    refine wo_eq rfl ?_
    fail "s"
    refine wo_addT (by omega) ?_
    fail "s"
    refine wo_eq rfl ?_
    fail "s"
    refine wo_ixA (Pl (n + 20)) (by omega) (by simp; omega) (fun z hz => ?_) fun d hd => ?_
    · simp only [List.mem_cons, List.not_mem_nil, or_false] at hz
      rcases hz with rfl | rfl | rfl
      · exact pl_tup.mpr fun z hz => by
          simp only [List.mem_append, List.mem_cons, List.not_mem_nil, or_false] at hz
          rcases hz with h | rfl
          · exact hp z h
          · exact hp _ he
      · exact pl_tup.mpr fun z hz => by
          simp only [List.mem_append] at hz
          rcases hz with h | h
          · exact hp z (cut_mem h)
          · exact hp z (cut_mem h)
      · refine pl_lst.mpr fun z hz => ?_
        rw [frzs_v] at hz
        exact hp z hz
    · fail "s"
      exact q _ _ _ ha hb hb2 hd
theorem bent_table_s {n : Nat} {a b g : Int} {r : D} {Q : A → List A → Prop} {E : Ex → List A → Prop} (hn : 200 ≤ n) (hn2 : n ≤ 1000) (hg : 0 ≤ g) (hg2 : g ≤ 13) (ha : 0 ≤ a) (hb : 0 ≤ b) (hb2 : b < 2147483647) (hr : TabP n r)
    (q : ∀ d a' b', 0 ≤ a' → 0 ≤ b' → b' < 2147483647 → Pl (n + 20) d → Q (.v d) [.m [.v (.int a'), .v (.int b')], .v (.int g), .v r]) : Wc (n_l_bent_table [.m [.v (.int a), .v (.int b)], .v (.int g), .v r]) Q E := by
  have hp := Pl.mono (show n ≤ n + 20 by omega) _ hr.pl
  obtain ⟨l, rfl, h1, h10, hL⟩ := hr
  have hp := pl_tup.mp hp
  refine wc_fn rfl rfl ?_
  unfold b_l_bent_table
  fail "s"
  fail "t"
  intro i a b ha hb hb2 i0 i1
  fail "s"
  fail "t"
  intro way a b ha hb hb2 w0 w1
  fail "s"
  obtain ⟨e, he, hat⟩ := atI_ex (l := l) i0 i1
  have c1 := cut_len (l := l) (lo := none) (hi := some i)
  have c2 := cut_len (l := l) (lo := some (i + 1)) (hi := none)
  refine wk_d (fun h => ?_) (fun h => ?_)
  · fail "s"
    refine ix_at rfl hat ?_
    fail "s"
    refine bent_row_s hn hn2 hg hg2 ha hb hb2 (hL e he) fun d a b ha hb hb2 hd => ?_
    fail "s"
    refine swapped_s (by omega) fun l' hl' => ?_
    fail "s"
    refine q _ _ _ ha hb hb2 (pl_tup.mpr fun e he => ?_)
    rcases hl' e he with h | rfl
    · exact hp e h
    · exact hd
  · fail "s"
    refine ix_at rfl hat ?_
    fail "s"
    refine wo_addT (by simp; omega) ?_
    fail "s"
    refine wo_eq rfl ?_
    fail "s"
    refine wo_eq rfl ?_
    fail "s"
    refine wo_addT (by omega) ?_
    fail "s"
    refine wo_eq rfl ?_
    fail "s"
    refine odd_s ha hb hb2 fun od a b ha hb hb2 hod => ?_
    fail "s"
    refine wo_ixA (Pl (n + 20)) (by omega) (by simp; omega) (fun z hz => ?_) fun d hd => ?_
    · simp only [List.mem_cons, List.not_mem_nil, or_false] at hz
      rcases hz with rfl | rfl | rfl | rfl
      · exact pl_tup.mpr fun z hz => by
          simp only [List.mem_append, List.mem_cons, List.not_mem_nil, or_false] at hz
          rcases hz with h | rfl
          · exact hp z h
          · exact hp _ he
      · exact pl_tup.mpr fun z hz => by
          simp only [List.mem_append] at hz
          rcases hz with h | h
          · exact hp z (cut_mem h)
          · exact hp z (cut_mem h)
      · refine pl_lst.mpr fun z hz => ?_
        rw [frzs_v] at hz
        exact hp z hz
      · exact Pl.mono (by omega) _ hod
    · fail "s"
      exact q _ _ _ ha hb hb2 hd
end DD.K04

namespace DD.K04
open PySem PySem.Spec L2
open PyProof.Rows hiding St
local macro_rules | `(tactic| fail "z") => `(tactic| first | (refine sz_of ?_; simp only [List.length_cons, List.length_nil, List.length_map, List.length_range, List.length_set, List.length_append, Int.reduceNeg, Int.reduceSub, Int.reduceToNat, Nat.reduceAdd, Nat.zero_add, Nat.reduceLT, Nat.reduceLeDiff, ne_eq, Nat.reduceEqDiff, not_false_eq_true]; done) | (refine szl_of ?_; simp only [List.length_cons, List.length_nil, List.length_map, List.length_range, List.length_set, List.length_append, Int.reduceNeg, Int.reduceSub, Int.reduceToNat, Nat.reduceAdd, Nat.zero_add, Nat.reduceLT, Nat.reduceLeDiff, ne_eq, Nat.reduceEqDiff, not_false_eq_true]; done) | (simp only [List.length_cons, List.length_nil, List.length_map, List.length_range, List.length_set, List.length_append, Int.reduceNeg, Int.reduceSub, Int.reduceToNat, Nat.reduceAdd, Nat.zero_add, Nat.reduceLT, Nat.reduceLeDiff, ne_eq, Nat.reduceEqDiff, not_false_eq_true]; done))
local macro_rules | `(tactic| fail "w") => `(tactic| with_reducible first
  | refine w_seq ?_ | refine w_setF ?_ | refine w_setT ?_ | refine w_ret ?_ | refine w_ifS ?_ | refine w_expr ?_ | refine w_for ?_ | refine w_parF ?_ | refine w_asg ?_ | refine w_skip ?_
  | refine w_var (by with_unfolding_all rfl) ?_ | refine w_c ?_ | refine w_op2 ?_ | refine w_op1 ?_ | refine w_test ?_ | refine wb ?_ | refine w_nil ?_ | refine w_cons ?_
  | refine w_tup ?_ | refine w_lst ?_ | refine w_if ?_ | refine w_andT ?_ | refine w_orT ?_ | refine w_notT ?_ | refine w_andV ?_ | refine w_orV ?_ | refine w_notV ?_
  | refine wk_t ?_ | refine wk_f ?_ | refine wk_n ?_
  | refine wf_nx ?_ | refine wf_ret ?_ | refine wf_bk ?_ | refine wf_ct ?_ | refine wl_nx ?_ | refine wl_ct ?_ | refine wl_bk ?_ | refine wl_ret ?_ | refine wr_nx ?_ | refine wr_ret ?_
  | refine w_gset (by fail "z") ?_ | refine w_gtup (by with_unfolding_all rfl) ?_ | refine w_gcons ?_ | refine w_gnil ?_ | refine w_items ?_ | refine w_rng1 ?_ | refine w_rng2 ?_
  | refine w_blt ?_ | refine w_isi ?_ | refine w_vnil ?_ | refine w_vvalF ?_ | refine w_vvalT ?_ | refine w_vref (by with_unfolding_all rfl) ?_ | refine w_call ?_
  | refine w_appendF (by with_unfolding_all rfl) ?_ | refine w_extend (by with_unfolding_all rfl) ?_ | refine w_setitemF ?_ | refine w_ixOwn (by with_unfolding_all rfl) ?_ | refine w_lenOwn (by with_unfolding_all rfl) ?_ | refine w_move (by with_unfolding_all rfl) ?_ | refine w_frz (by with_unfolding_all rfl) ?_
  | refine wix (by with_unfolding_all rfl) (by with_unfolding_all rfl) ?_ | refine wap (by with_unfolding_all rfl) (by fail "z") ?_ | refine wxt (by with_unfolding_all rfl) (by with_unfolding_all rfl) (by fail "z") ?_ | refine wmm (by with_unfolding_all rfl) ?_ | refine wst (by with_unfolding_all rfl) (by with_unfolding_all rfl) ?_ | refine win ?_
  | refine w_fmt ?_ | refine w_jscons ?_ | refine w_jsnil ?_ | refine wjs ?_ | refine w_join ?_ | refine w_zip ?_ | refine w_zipS ?_ | refine w_enum ?_ | refine w_bor ?_ | refine w_borT ?_ | refine wfl_bl ?_ | refine wfl_int ?_
  | refine w_no ?_ | refine w_so ?_ | refine w_sl ?_ | refine w_rev ?_ | refine w_comp ?_ | refine w_chain ?_ | refine w_compnil ?_ | refine w_compcons ?_ | refine wp_pure ?_
  | refine wo_add ?_ | refine wo_sub ?_ | refine wo_neg ?_ | refine wo_lt ?_ | refine wo_le ?_ | refine wo_gt ?_ | refine wo_ge ?_ | refine wo_eqI ?_ | refine wo_neI ?_ | refine wo_notB ?_ | refine wo_isB ?_
  | refine wo_abs ?_ | refine wo_lenT ?_ | refine wo_lenL ?_ | refine wo_lenF ?_ | refine wo_lenM ?_ | refine wo_some ?_ | refine ix_at (by with_unfolding_all rfl) (by with_unfolding_all rfl) ?_
  | refine wo_mod (by omega) ?_ | refine wo_div (divc64 (by omega) (by omega) (by omega)) ?_ | refine wo_mul (mulc64 (by omega) (by omega) (by omega) (by omega)) ?_ | refine wo_pow (cpow64 (by omega) (by omega) (by omega) (by omega)) ?_
  | refine And.intro (by fail "z") ?_ | refine And.intro (And.intro (by fail "z") (And.intro (by fail "z") (by fail "z"))) ?_)
local macro_rules | `(tactic| fail "e") => `(tactic| simp only [List.map_cons, List.map_nil, List.replicate, List.cons_append, List.nil_append, List.append_nil, List.set_cons_zero, List.set_cons_succ, List.set_nil, A.frz, frzs_v, frzs, Nat.reduceSub, gath, back, List.getElem?_cons_zero, List.getElem?_cons_succ, Option.map_some, lentL, List.contains_cons, List.contains_nil, List.elem_nil, List.elem_cons, Nat.reduceAdd, Nat.reduceBEq, Bool.or_false, Bool.or_true, Bool.false_or, Bool.true_or, beq_self_eq_true, if_true, if_false, reduceIte, Bool.false_eq_true, Int.reduceToNat, iBool_bl, iBool_int, iInt_bl, iInt_int, isI_int, isI_bl, iTup_tup, iTup_lst, iTup_int, Int.reducePow, List.getElem?_nil, wipeE, wipeF, parkL, putL, Nat.reduceLT, Nat.reduceLeDiff, frzE])
local macro_rules | `(tactic| fail "s") => `(tactic| repeat (first | fail "w" | fail "e"))
local macro_rules | `(tactic| fail "t") => `(tactic| refine take_s (by omega) (by omega) (by omega) (by omega) (by omega) ?_)

section
variable {g : Int} {R : Type} [Lean.Grind.CommRing R] {N : NumX g R} {Q : A → List A → Prop} {E : Ex → List A → Prop}
theorem bd10 (z : Int) (h1 : -1000 < z) (h2 : z < 1000) : Bd 10 z := by
  unfold Bd
  have : (2:Nat) ^ 10 = 1024 := by decide
  omega
theorem canon_pos {g u : Int} (h0 : 0 ≤ u) (h : u < g) : canon g u 1 = dN u 1 := by
  unfold canon
  rw [if_pos (by omega), Int.fmod_eq_of_lt h0 h]
theorem okd_one {g : Int} : okd g 1 := by unfold okd; split <;> decide
/-- an entry as drawn -/
theorem num_exS {u d : Int} (hu : -100 < u) (hu2 : u < 100) (hd : 1 ≤ d) (hd2 : d ≤ 9) (ok : okd g d) : ∃ r, canon g u d = N.nm r ∧ N.S 2520 20 r := by
  obtain ⟨r, e⟩ := N.ex u d (by omega) ok
  have hdv : d.toNat ∣ 2520 := by
    have : d = 1 ∨ d = 2 ∨ d = 3 ∨ d = 4 ∨ d = 5 ∨ d = 6 ∨ d = 7 ∨ d = 8 ∨ d = 9 := by omega
    rcases this with rfl | rfl | rfl | rfl | rfl | rfl | rfl | rfl | rfl <;> decide
  refine ⟨r, e, N.Sex e (by omega) hdv (by decide) ?_⟩
  have hq : 2520 / d.toNat ≤ 2520 := Nat.div_le_self _ _
  have hu3 : u.natAbs ≤ 99 := by omega
  unfold Bd
  rw [Int.natAbs_mul, Int.natAbs_natCast]
  have := Nat.mul_le_mul hu3 hq
  have : (2:Nat) ^ 20 = 1048576 := by decide
  omega
theorem number_s {a b : Int} (hg : g = 0 ∨ 2 ≤ g) (hg2 : g ≤ 13) (ha : 0 ≤ a) (hb : 0 ≤ b) (hb2 : b < 2147483647)
    (q : ∀ r a' b', 0 ≤ a' → 0 ≤ b' → b' < 2147483647 → N.S 2520 20 r → Q (.v (N.nm r)) [.m [.v (.int a'), .v (.int b')], .v (.int g)]) : Wc (n_l_number [.m [.v (.int a), .v (.int b)], .v (.int g)]) Q E := by
  refine wc_fn rfl rfl ?_
  unfold b_l_number
  fail "s"
  refine wk_d (fun h => ?_) (fun h => ?_)
  · fail "s"
    refine take_s ha hb hb2 h (by omega) ?_
    intro d a1 b1' ha1 hb1 hb11 h0 h1
    fail "s"
    obtain ⟨r, e, hr⟩ := num_exS (N := N) (u := d) (d := 1) (by omega) (by omega) (by decide) (by decide) okd_one
    have e2 := (canon_pos h0 h1).symm.trans e
    have := q r _ _ ha1 hb1 hb11 hr
    rw [← e2] at this
    exact this
  · have g0 : g = 0 := by omega
    subst g0
    fail "s"
    fail "t"
    intro d2 a2 b2 ha2 hb2 hb21 h20 h21
    fail "s"
    refine wo_ixM (fun i => 3 ≤ i ∧ i ≤ 99) h20 h21 (by simp) fun wd hwd => ?_
    fail "s"
    fail "t"
    intro d3 a3 b3 ha3 hb3 hb31 h30 h31
    fail "s"
    fail "t"
    intro d4 a4 b4 ha4 hb4 hb41 h40 h41
    fail "s"
    refine wo_ixM (fun i => 1 ≤ i ∧ i ≤ 9) h40 h41 (by simp; omega) fun dn hdn => ?_
    fail "s"
    fail "t"
    intro d5 a5 b5 ha5 hb5 hb51 h50 h51
    fail "s"
    have hf := fdiv_range (i := wd) (j := 2) (by omega) (by decide)
    have okn : okd 0 dn := by unfold okd; rw [if_neg (by decide)]; omega
    obtain ⟨r, e, hr⟩ := num_exS (N := N) (u := d5 - wd.fdiv 2) (d := dn) (by omega) (by omega) hdn.1 hdn.2 okn
    refine l_low_s (n := 10) (.inl rfl) (by decide) (by decide) (bd10 _ (by omega) (by omega)) (bd10 _ (by omega) (by omega)) okn ?_
    fail "s"
    rw [e]
    exact q _ _ _ ha5 hb5 hb51 hr
def RowS (N : NumX g R) (L n m : Nat) (l : List R) : Prop := l.length = m ∧ ∀ r ∈ l, N.S L n r
theorem RowS.B {L n m : Nat} {l : List R} (h : RowS N L n m l) (hL : 0 < L) (hL2 : L ≤ 1000000000) (hn : n ≤ 200) : ∀ r ∈ l, N.B 200 r := fun r hr =>
  NumX.S_B hL (h.2 r hr) (Bd.mono (n := 64) (bd64 (by omega) (by omega)) (by decide)) hn (by decide)
theorem map_frz {l : List R} {k : List A} (e : k = l.map fun r => A.v (N.nm r)) : frzs k = l.map N.nm := by
  subst e
  rw [frzs_eq, List.map_map]
  rfl
theorem row_s {a b m : Int} (hg : g = 0 ∨ 2 ≤ g) (hg2 : g ≤ 13) (ha : 0 ≤ a) (hb : 0 ≤ b) (hb2 : b < 2147483647) (hm : 0 ≤ m) (hm2 : m ≤ 100)
    (q : ∀ l a' b', 0 ≤ a' → 0 ≤ b' → b' < 2147483647 → RowS N 2520 20 m.toNat l → Q (.v (rwD N l)) [.m [.v (.int a'), .v (.int b')], .v (.int g), .v (.int m)]) : Wc (n_l_row [.m [.v (.int a), .v (.int b)], .v (.int g), .v (.int m)]) Q E := by
  refine wc_fn rfl rfl ?_
  unfold b_l_row
  fail "s"
  refine ⟨⟨by omega, by omega⟩, ⟨sz_of (by simp; omega), ?_⟩⟩
  fail "s"
  refine w_compL (fun k ds ρ => ∃ a b l, ρ = [some (.m [.v (.int a), .v (.int b)]), some (.v (.int g)), some (.v (.int m)), none] ∧ 0 ≤ a ∧ 0 ≤ b ∧ b < 2147483647 ∧ k = l.map (fun r => A.v (N.nm r)) ∧ l.length + ds.length = m.toNat ∧ ∀ r ∈ l, N.S 2520 20 r) (l := []) ⟨a, b, [], rfl, ha, hb, hb2, rfl, by simp, fun r hr => by cases hr⟩ ?_ ?_
  · rintro k d ds _ ⟨a1, b1, l, rfl, ha1, hb1, hb11, rfl, hl, hA⟩
    fail "s"
    refine number_s (N := N) hg hg2 ha1 hb1 hb11 fun r a2 b2 ha2 hb2 hb21 hr => ?_
    fail "s"
    refine ⟨_, _, l ++ [r], rfl, ha2, hb2, hb21, by simp, by simp at hl ⊢; omega, fun s hs => ?_⟩
    rcases List.mem_append.mp hs with hs | hs
    · exact hA s hs
    · simp at hs; exact hs ▸ hr
  · rintro k _ ⟨a1, b1, l, rfl, ha1, hb1, hb11, e, hl, hA⟩
    fail "s"
    refine wo_eq rfl ?_
    fail "s"
    rw [map_frz (by simpa using e)]
    exact q l _ _ ha1 hb1 hb11 ⟨by simpa using hl, hA⟩
theorem added_s {l k : List R} (hg : g = 0 ∨ 2 ≤ g) (hg2 : g ≤ 13) (he : l.length = k.length) (hlen : l.length ≤ 1000) (hl : ∀ r ∈ l, N.B 200 r) (hk : ∀ r ∈ k, N.B 200 r)
    (q : Q (.v (rwD N (List.zipWith (· + ·) l k))) [.v (.int g), .v (rwD N l), .v (rwD N k)]) : Wc (n_added [.v (.int g), .v (rwD N l), .v (rwD N k)]) Q E := by
  refine wc_fn rfl rfl ?_
  unfold b_added
  unfold rwD at q ⊢
  fail "s"
  refine wo_zipS (by simpa using he) ?_
  refine ⟨sz_of (by rw [zipD_len, List.length_map]; omega), ?_⟩
  fail "s"
  refine w_compMap (fun p : R × R => D.tup [N.nm p.1, N.nm p.2]) (fun p => A.v (N.nm (p.1 + p.2))) (xs := l.zip k) ?_ (fun p hp => ?_) ?_
  · unfold zipD
    rw [List.zip_map, List.map_map]
    rfl
  · have h1 := hl _ (List.of_mem_zip hp).1
    have h2 := hk _ (List.of_mem_zip hp).2
    fail "s"
    refine plus_s (N := N.toNum) hg hg2 (by decide) (by decide) h1 h2 fun _ => ?_
    fail "s"
  fail "s"
  refine wo_eq rfl ?_
  fail "s"
  have e : frzs ((l.zip k).map fun p => A.v (N.nm (p.1 + p.2))) = (List.zipWith (· + ·) l k).map N.nm := by
    rw [frzs_eq, List.map_map, List.zip, List.map_zipWith, List.map_zipWith]
    rfl
  rw [e]
  exact q
theorem l_added_s {l k : List R} (hg : g = 0 ∨ 2 ≤ g) (hg2 : g ≤ 13) (he : l.length = k.length) (hlen : l.length ≤ 1000) (hl : ∀ r ∈ l, N.B 200 r) (hk : ∀ r ∈ k, N.B 200 r)
    (q : Q (.v (rwD N (List.zipWith (· + ·) l k))) [.v (.int g), .v (rwD N l), .v (rwD N k)]) : Wc (n_l_added [.v (.int g), .v (rwD N l), .v (rwD N k)]) Q E := by
  refine wc_fn rfl rfl ?_
  unfold b_l_added
  unfold rwD at q ⊢
  fail "s"
  refine wo_eq (a := zipD (l.map N.nm) (k.map N.nm)) rfl ?_
  refine ⟨sz_of (by rw [zipD_len, List.length_map]; omega), ?_⟩
  fail "s"
  refine w_compMap (fun p : R × R => D.tup [N.nm p.1, N.nm p.2]) (fun p => A.v (N.nm (p.1 + p.2))) (xs := l.zip k) ?_ (fun p hp => ?_) ?_
  · unfold zipD
    rw [List.zip_map, List.map_map]
    rfl
  · have h1 := hl _ (List.of_mem_zip hp).1
    have h2 := hk _ (List.of_mem_zip hp).2
    fail "s"
    refine l_plus_s (N := N.toNum) hg hg2 (by decide) (by decide) h1 h2 fun _ => ?_
    fail "s"
  fail "s"
  refine wo_eq rfl ?_
  fail "s"
  have e : frzs ((l.zip k).map fun p => A.v (N.nm (p.1 + p.2))) = (List.zipWith (· + ·) l k).map N.nm := by
    rw [frzs_eq, List.map_map, List.zip, List.map_zipWith, List.map_zipWith]
    rfl
  rw [e]
  exact q
theorem scaled_s {l : List R} {x : R} (hg : g = 0 ∨ 2 ≤ g) (hg2 : g ≤ 13) (hlen : l.length ≤ 1000) (hl : ∀ r ∈ l, N.B 200 r) (hx : N.B 200 x)
    (q : Q (.v (rwD N (l.map (· * x)))) [.v (.int g), .v (rwD N l), .v (N.nm x)]) : Wc (n_scaled [.v (.int g), .v (rwD N l), .v (N.nm x)]) Q E := by
  refine wc_fn rfl rfl ?_
  unfold b_scaled
  unfold rwD at q ⊢
  fail "s"
  refine wo_eq rfl ?_
  refine ⟨sz_of (by rw [List.length_map]; omega), ?_⟩
  fail "s"
  refine w_compMap N.nm (fun r => A.v (N.nm (r * x))) (xs := l) rfl (fun r hr => ?_) ?_
  · fail "s"
    refine times_s (N := N.toNum) hg hg2 (by decide) (by decide) (hl r hr) hx fun _ => ?_
    fail "s"
  fail "s"
  refine wo_eq rfl ?_
  fail "s"
  have e : frzs (l.map fun r => A.v (N.nm (r * x))) = (l.map (· * x)).map N.nm := by
    rw [frzs_eq, List.map_map, List.map_map]
    rfl
  rw [e]
  exact q
end
end DD.K04

namespace DD.K04
open PySem PySem.Spec L2
open PyProof.Rows hiding St
local macro_rules | `(tactic| fail "z") => `(tactic| first | (refine sz_of ?_; simp only [List.length_cons, List.length_nil, List.length_map, List.length_range, List.length_set, List.length_append, Int.reduceNeg, Int.reduceSub, Int.reduceToNat, Nat.reduceAdd, Nat.zero_add, Nat.reduceLT, Nat.reduceLeDiff, ne_eq, Nat.reduceEqDiff, not_false_eq_true]; done) | (refine szl_of ?_; simp only [List.length_cons, List.length_nil, List.length_map, List.length_range, List.length_set, List.length_append, Int.reduceNeg, Int.reduceSub, Int.reduceToNat, Nat.reduceAdd, Nat.zero_add, Nat.reduceLT, Nat.reduceLeDiff, ne_eq, Nat.reduceEqDiff, not_false_eq_true]; done) | (simp only [List.length_cons, List.length_nil, List.length_map, List.length_range, List.length_set, List.length_append, Int.reduceNeg, Int.reduceSub, Int.reduceToNat, Nat.reduceAdd, Nat.zero_add, Nat.reduceLT, Nat.reduceLeDiff, ne_eq, Nat.reduceEqDiff, not_false_eq_true]; done))
local macro_rules | `(tactic| fail "w") => `(tactic| with_reducible first
  | refine w_seq ?_ | refine w_setF ?_ | refine w_setT ?_ | refine w_ret ?_ | refine w_ifS ?_ | refine w_expr ?_ | refine w_for ?_ | refine w_parF ?_ | refine w_asg ?_ | refine w_skip ?_
  | refine w_var (by with_unfolding_all rfl) ?_ | refine w_c ?_ | refine w_op2 ?_ | refine w_op1 ?_ | refine w_test ?_ | refine wb ?_ | refine w_nil ?_ | refine w_cons ?_
  | refine w_tup ?_ | refine w_lst ?_ | refine w_if ?_ | refine w_andT ?_ | refine w_orT ?_ | refine w_notT ?_ | refine w_andV ?_ | refine w_orV ?_ | refine w_notV ?_
  | refine wk_t ?_ | refine wk_f ?_ | refine wk_n ?_
  | refine wf_nx ?_ | refine wf_ret ?_ | refine wf_bk ?_ | refine wf_ct ?_ | refine wl_nx ?_ | refine wl_ct ?_ | refine wl_bk ?_ | refine wl_ret ?_ | refine wr_nx ?_ | refine wr_ret ?_
  | refine w_gset (by fail "z") ?_ | refine w_gtup (by with_unfolding_all rfl) ?_ | refine w_gcons ?_ | refine w_gnil ?_ | refine w_items ?_ | refine w_rng1 ?_ | refine w_rng2 ?_
  | refine w_blt ?_ | refine w_isi ?_ | refine w_vnil ?_ | refine w_vvalF ?_ | refine w_vvalT ?_ | refine w_vref (by with_unfolding_all rfl) ?_ | refine w_call ?_
  | refine w_appendF (by with_unfolding_all rfl) ?_ | refine w_extend (by with_unfolding_all rfl) ?_ | refine w_setitemF ?_ | refine w_ixOwn (by with_unfolding_all rfl) ?_ | refine w_lenOwn (by with_unfolding_all rfl) ?_ | refine w_move (by with_unfolding_all rfl) ?_ | refine w_frz (by with_unfolding_all rfl) ?_
  | refine wix (by with_unfolding_all rfl) (by with_unfolding_all rfl) ?_ | refine wap (by with_unfolding_all rfl) (by fail "z") ?_ | refine wxt (by with_unfolding_all rfl) (by with_unfolding_all rfl) (by fail "z") ?_ | refine wmm (by with_unfolding_all rfl) ?_ | refine wst (by with_unfolding_all rfl) (by with_unfolding_all rfl) ?_ | refine win ?_
  | refine w_fmt ?_ | refine w_jscons ?_ | refine w_jsnil ?_ | refine wjs ?_ | refine w_join ?_ | refine w_zip ?_ | refine w_zipS ?_ | refine w_enum ?_ | refine w_bor ?_ | refine w_borT ?_ | refine wfl_bl ?_ | refine wfl_int ?_
  | refine w_no ?_ | refine w_so ?_ | refine w_sl ?_ | refine w_rev ?_ | refine w_comp ?_ | refine w_chain ?_ | refine w_compnil ?_ | refine w_compcons ?_ | refine wp_pure ?_
  | refine wo_add ?_ | refine wo_sub ?_ | refine wo_neg ?_ | refine wo_lt ?_ | refine wo_le ?_ | refine wo_gt ?_ | refine wo_ge ?_ | refine wo_eqI ?_ | refine wo_neI ?_ | refine wo_notB ?_ | refine wo_isB ?_
  | refine wo_abs ?_ | refine wo_lenT ?_ | refine wo_lenL ?_ | refine wo_lenF ?_ | refine wo_lenM ?_ | refine wo_some ?_ | refine ix_at (by with_unfolding_all rfl) (by with_unfolding_all rfl) ?_
  | refine wo_mod (by omega) ?_ | refine wo_div (divc64 (by omega) (by omega) (by omega)) ?_ | refine wo_mul (mulc64 (by omega) (by omega) (by omega) (by omega)) ?_ | refine wo_pow (cpow64 (by omega) (by omega) (by omega) (by omega)) ?_
  | refine And.intro (by fail "z") ?_ | refine And.intro (And.intro (by fail "z") (And.intro (by fail "z") (by fail "z"))) ?_)
local macro_rules | `(tactic| fail "e") => `(tactic| simp only [List.map_cons, List.map_nil, List.replicate, List.cons_append, List.nil_append, List.append_nil, List.set_cons_zero, List.set_cons_succ, List.set_nil, A.frz, frzs_v, frzs, Nat.reduceSub, gath, back, List.getElem?_cons_zero, List.getElem?_cons_succ, Option.map_some, lentL, List.contains_cons, List.contains_nil, List.elem_nil, List.elem_cons, Nat.reduceAdd, Nat.reduceBEq, Bool.or_false, Bool.or_true, Bool.false_or, Bool.true_or, beq_self_eq_true, if_true, if_false, reduceIte, Bool.false_eq_true, Int.reduceToNat, iBool_bl, iBool_int, iInt_bl, iInt_int, isI_int, isI_bl, iTup_tup, iTup_lst, iTup_int, Int.reducePow, List.getElem?_nil, wipeE, wipeF, parkL, putL, Nat.reduceLT, Nat.reduceLeDiff, frzE])
local macro_rules | `(tactic| fail "s") => `(tactic| repeat (first | fail "w" | fail "e"))
local macro_rules | `(tactic| fail "t") => `(tactic| refine take_s (by omega) (by omega) (by omega) (by omega) (by omega) ?_)

section
variable {g : Int} {R : Type} [Lean.Grind.CommRing R] {N : NumX g R} {Q : A → List A → Prop} {E : Ex → List A → Prop}
theorem RowS.mono {L n m k : Nat} {l : List R} (h : RowS N L n k l) (j : n < m) : RowS N L m k l := ⟨h.1, fun r hr => NumX.smono (N := N) (h.2 r hr) j⟩
theorem atI_last {α : Type} {l : List α} (h : 0 < l.length) : ∃ e ∈ l, atI l (-1) = some e := by
  refine ⟨l[l.length - 1], List.getElem_mem _, ?_⟩
  unfold atI ixN
  rw [if_neg (by omega), if_pos (by omega)]
  have : (-1 + (l.length : Int)).toNat = l.length - 1 := by omega
  rw [this]
  exact List.getElem?_eq_getElem _
theorem zero_rw {m : Nat} : D.tup (List.replicate m [D.tup [.int 0, .int 1]]).flatten = rwD N (List.replicate m 0) := by
  unfold rwD
  rw [List.map_replicate]
  have e : D.tup [.int 0, .int 1] = N.nm 0 := N.zero.symm
  rw [e]
  congr 1
  induction m with
  | zero => rfl
  | succ m ih => simp [List.replicate_succ]
theorem zero_S {m : Nat} {L n : Nat} : RowS N L n m (List.replicate m 0) := ⟨by simp, fun r hr => by
  simp at hr
  rw [hr.2]
  exact N.Szero _ _⟩
theorem rows_s {a b h w : Int} (hg : g = 0 ∨ 2 ≤ g) (hg2 : g ≤ 13) (ha : 0 ≤ a) (hb : 0 ≤ b) (hb2 : b < 2147483647) (hh : 1 ≤ h) (hh2 : h ≤ 10) (hw : 1 ≤ w) (hw2 : w ≤ 10)
    (q : ∀ (t : List (List R)) a' b', 0 ≤ a' → 0 ≤ b' → b' < 2147483647 → t.length = h.toNat → (∀ l ∈ t, RowS N 2520 40 w.toNat l) → Q (.v (tbD N t)) [.m [.v (.int a'), .v (.int b')], .v (.int g), .v (.int h), .v (.int w)]) :
    Wc (n_l_rows [.m [.v (.int a), .v (.int b)], .v (.int g), .v (.int h), .v (.int w)]) Q E := by
  refine wc_fn rfl rfl ?_
  unfold b_l_rows b_l_rows_1
  fail "s"
  refine ⟨⟨by omega, by omega⟩, ?_⟩
  refine w_forL (fun ds ρ => ∃ a b t x y z, ρ = [some (.m [.v (.int a), .v (.int b)]), some (.v (.int g)), some (.v (.int h)), some (.v (.int w)), some (.m (t.map fun l => A.v (rwD N l))), x, y, z] ∧ 0 ≤ a ∧ 0 ≤ b ∧ b < 2147483647 ∧ t.length + ds.length = h.toNat ∧ ∀ l ∈ t, RowS N 2520 (21 + t.length) w.toNat l)
    ⟨a, b, [], none, none, none, rfl, ha, hb, hb2, by simp, fun l hl => by cases hl⟩ ?_ ?_
  · rintro d ds _ ⟨a1, b1, t, x, y, z, rfl, ha1, hb1, hb11, hl, hA⟩
    have hl5 : t.length < 10 := by simp at hl; omega
    fail "s"
    refine row_s (N := N) hg hg2 ha1 hb1 hb11 (by omega) (by omega) fun r a2 b2 ha2 hb2 hb21 hr => ?_
    fail "s"
    fail "t"
    intro way a3 b3 ha3 hb3 hb31 h0 h1
    repeat' (fail_if_success (with_reducible refine w_seq ?_)); first | fail "w" | fail "e"
    refine w_seqJ (fun ρ1 => ∃ r, ρ1 = [some (.m [.v (.int a3), .v (.int b3)]), some (.v (.int g)), some (.v (.int h)), some (.v (.int w)), some (.m (t.map fun l => A.v (rwD N l))), some (.v d), some (.v (rwD N r)), some (.v (.int way))] ∧ RowS N 2520 (21 + t.length) w.toNat r) ?_ ?_
    · fail "s"
      refine wk_d (fun h => ?_) (fun h => ?_)
      · fail "s"
        refine wo_eq (a := .m ((List.replicate w.toNat [D.tup [.int 0, .int 1]]).flatten.map A.v)) ?_ ?_
        · unfold opMul
          simp only [List.length_cons, List.length_nil, frzs, A.frz]
          rw [if_pos]
          refine ⟨sz_of (by omega), by omega, by omega⟩
        · fail "s"
          refine wo_eq rfl ?_
          fail "s"
          rw [zero_rw (N := N)]
          exact ⟨_, rfl, zero_S⟩
      · fail "s"
        exact ⟨_, rfl, hr.mono (by omega)⟩
    rintro _ ⟨r, rfl, hr⟩
    refine w_seqJ (fun ρ1 => ∃ r a b, ρ1 = [some (.m [.v (.int a), .v (.int b)]), some (.v (.int g)), some (.v (.int h)), some (.v (.int w)), some (.m (t.map fun l => A.v (rwD N l))), some (.v d), some (.v (rwD N r)), some (.v (.int way))] ∧ RowS N 2520 (22 + t.length) w.toNat r ∧ 0 ≤ a ∧ 0 ≤ b ∧ b < 2147483647) ?_ ?_
    · fail "s"
      refine wk_d (fun h => ?_) (fun h => ?_)
      · fail "s"
        refine wo_neNil (k := 3) (okc_lst fun d hd => ?_) (by decide) ?_
        · rw [frzs_eq, List.map_map] at hd
          obtain ⟨l, _, rfl⟩ := List.mem_map.mp hd
          exact okc_rw
        fail "s"
        refine wk_b (fun h2 => ?_) (fun h2 => ?_)
        · fail "s"
          exact ⟨_, _, _, rfl, hr.mono (by omega), ha3, hb3, hb31⟩
        · fail "s"
          have hl0 : 0 < t.length := by
            cases t with
            | nil => simp [frzs] at h2
            | cons _ _ => simp
          refine take_s ha3 hb3 hb31 (by simp; omega) (by simp; omega) ?_
          intro i a4 b4 ha4 hb4 hb41 i0 i1
          fail "s"
          obtain ⟨e, he, e2⟩ := atI_ex (l := t.map fun l => A.v (rwD N l)) i0 i1
          obtain ⟨l1, hl1, rfl⟩ := List.mem_map.mp he
          refine wix (by with_unfolding_all rfl) e2 ?_
          fail "s"
          obtain ⟨e, he, e3⟩ := atI_last (l := t.map fun l => A.v (rwD N l)) (by simpa using hl0)
          obtain ⟨l2, hl2, rfl⟩ := List.mem_map.mp he
          refine wix (by with_unfolding_all rfl) e3 ?_
          fail "s"
          have k1 := hA l1 hl1
          have k2 := hA l2 hl2
          refine l_added_s hg hg2 (by rw [k1.1, k2.1]) (by rw [k1.1]; omega) (k1.B (by decide) (by decide) (by omega)) (k2.B (by decide) (by decide) (by omega)) ?_
          fail "s"
          refine ⟨_, _, _, rfl, ⟨by rw [List.length_zipWith, k1.1, k2.1, Nat.min_self], fun r hr => ?_⟩, ha4, hb4, hb41⟩
          obtain ⟨i, hi, rfl⟩ := List.mem_iff_getElem.mp hr
          rw [List.getElem_zipWith]
          have := N.Sadd (k1.2 _ (List.getElem_mem (by simp at hi; omega : i < l1.length))) (k2.2 _ (List.getElem_mem (by simp at hi; omega : i < l2.length)))
          rw [Nat.max_self] at this
          rw [show 22 + t.length = 21 + t.length + 1 from by omega]
          exact this
      · fail "s"
        exact ⟨_, _, _, rfl, hr.mono (by omega), ha3, hb3, hb31⟩
    rintro _ ⟨r, a4, b4, rfl, hr, ha4, hb4, hb41⟩
    fail "s"
    refine wap (by with_unfolding_all rfl) (szl_of (by simp; omega)) ?_
    fail "s"
    refine ⟨_, _, t ++ [r], _, _, _, by rw [List.map_append]; rfl, ha4, hb4, hb41, by simp at hl ⊢; omega, fun l hl' => ?_⟩
    rw [List.length_append]
    rcases List.mem_append.mp hl' with hl' | hl'
    · exact (hA l hl').mono (by simp)
    · simp at hl'
      subst hl'
      rw [show 21 + (t.length + [l].length) = 22 + t.length from by simp; omega]
      exact hr
  · rintro _ ⟨a1, b1, t, x, y, z, rfl, ha1, hb1, hb11, hl, hA⟩
    fail "s"
    refine wo_eq rfl ?_
    fail "s"
    have e : frzs (t.map fun l => A.v (rwD N l)) = t.map (rwD N) := by
      rw [frzs_eq, List.map_map]
      rfl
    rw [e]
    have hl' : t.length = h.toNat := by simpa using hl
    exact q t _ _ ha1 hb1 hb11 hl' fun l hl2 => (hA l hl2).mono (by omega)
theorem through_s {m : Nat} {x : List R} {t : List (List R)} (hg : g = 0 ∨ 2 ≤ g) (hg2 : g ≤ 13) (hx : RowS N 2520 40 t.length x) (ht : ∀ l ∈ t, RowS N 2520 40 m l) (h1 : 1 ≤ t.length) (h10 : t.length ≤ 10) (hm : 1 ≤ m) (hm10 : m ≤ 10)
    (q : Q (.v (rwD N (thr m x t))) [.v (.int g), .v (rwD N x), .v (tbD N t)]) : Wc (n_through [.v (.int g), .v (rwD N x), .v (tbD N t)]) Q E := by
  obtain ⟨t0, t', rfl⟩ : ∃ t0 t', t = t0 :: t' := by
    cases t with
    | nil => simp at h1
    | cons a b => exact ⟨a, b, rfl⟩
  have ht0 := ht t0 (by simp)
  refine wc_fn rfl rfl ?_
  unfold b_through b_through_1 c_NOUGHT
  fail "s"
  refine ix_at (ds := rwD N t0 :: t'.map (rwD N)) rfl (by rw [atI_get (by decide) (by simp)]; rfl) ?_
  fail "s"
  refine wo_eq (a := .v (.int m)) (by unfold rwD opLen; simp [A.frz, seqD, ht0.1]) ?_
  fail "s"
  refine wo_eq (a := .m ((List.replicate m [D.tup [.int 0, .int 1]]).flatten.map A.v)) ?_ ?_
  · unfold opMul
    simp only [List.length_cons, List.length_nil, frzs, A.frz, Int.toNat_natCast]
    rw [if_pos]
    refine ⟨sz_of (by omega), by omega, by omega⟩
  fail "s"
  refine wo_eq rfl ?_
  fail "s"
  rw [zero_rw (N := N)]
  refine wo_eq (a := zipD (x.map N.nm) ((t0 :: t').map (rwD N))) ?_ ?_
  · exact if_pos (by simpa using hx.1)
  have hB : ∀ {L n : Nat} {r : R}, N.S L n r → 0 < L → L ≤ 1000000000 → n ≤ 200 → N.B 200 r := fun h hL hL2 hn => NumX.S_B hL h (Bd.mono (n := 64) (bd64 (by omega) (by omega)) (by decide)) hn (by decide)
  refine w_forL (fun ds ρ => ∃ (ps : List (R × List R)) (acc : List R) (s4 s5 : Option A), ds = ps.map (fun p => D.tup [N.nm p.1, rwD N p.2]) ∧ ρ = [some (.v (.int g)), some (.v (rwD N x)), some (.v (tbD N (t0 :: t'))), some (.v (rwD N acc)), s4, s5] ∧ ps.foldl thrF acc = thr m x (t0 :: t') ∧ ps.length ≤ 10 ∧ RowS N (2520 * 2520) (100 - ps.length) m acc ∧ ∀ p ∈ ps, N.S 2520 40 p.1 ∧ RowS N 2520 40 m p.2)
    ⟨x.zip (t0 :: t'), List.replicate m 0, none, none, ?_, rfl, rfl, by rw [List.length_zip]; omega, zero_S, fun p hp => ⟨hx.2 _ (List.of_mem_zip hp).1, ht _ (List.of_mem_zip hp).2⟩⟩ ?_ ?_
  · unfold zipD
    rw [List.zip_map, List.map_map]
    rfl
  · rintro d ds _ ⟨ps, acc, s4, s5, e, rfl, hf, hlen, hacc, hps⟩
    cases ps with
    | nil => cases e
    | cons p ps =>
      cases e
      have hp := hps p (by simp)
      have hpl : ps.length < 10 := by simp at hlen; omega
      fail "s"
      refine wo_neZ (N := N) fun b hb1 hb0 => ?_
      fail "s"
      refine wk_b (fun h => ?_) (fun h => ?_)
      · fail "s"
        refine scaled_s hg hg2 (by rw [hp.2.1]; omega) (hp.2.B (by decide) (by decide) (by decide)) (hB hp.1 (by decide) (by decide) (by decide)) ?_
        fail "s"
        have hs : RowS N (2520 * 2520) 80 m (p.2.map (· * p.1)) := ⟨by rw [List.length_map, hp.2.1], fun r hr => by
          obtain ⟨s, hs, rfl⟩ := List.mem_map.mp hr
          exact N.Smul (hp.2.2 s hs) hp.1⟩
        refine added_s hg hg2 (by rw [hacc.1, hs.1]) (by rw [hacc.1]; omega) (hacc.B (by decide) (by decide) (by omega)) (hs.B (by decide) (by decide) (by decide)) ?_
        fail "s"
        refine ⟨ps, thrF acc p, some (.v (N.nm p.1)), some (.v (rwD N p.2)), rfl, rfl, hf, by omega, ⟨thrF_len hacc.1 hp.2.1, fun r hr => ?_⟩, fun p hp => hps p (List.mem_cons_of_mem _ hp)⟩
        unfold thrF at hr
        obtain ⟨i, hi, rfl⟩ := List.mem_iff_getElem.mp hr
        rw [List.getElem_zipWith]
        have := N.Sadd (hacc.2 _ (List.getElem_mem (by simp at hi; omega : i < acc.length))) (hs.2 _ (List.getElem_mem (by rw [List.length_map, hp.2.1, ← hacc.1]; simp at hi; omega : i < (p.2.map (· * p.1)).length)))
        rw [show max (100 - (p :: ps).length) 80 + 1 = 100 - ps.length from by simp; omega] at this
        exact this
      · fail "s"
        refine ⟨ps, acc, some (.v (N.nm p.1)), some (.v (rwD N p.2)), rfl, rfl, ?_, by omega, hacc.mono (by simp; omega), fun p hp => hps p (List.mem_cons_of_mem _ hp)⟩
        rw [List.foldl_cons, thrF_zero hacc.1 hp.2.1 (hb0 h)] at hf
        exact hf
  · rintro _ ⟨ps, acc, s4, s5, e, rfl, hf, _⟩
    have : ps = [] := by simpa using e.symm
    subst this
    fail "s"
    rw [← hf] at q
    exact q
theorem product_s {m : Nat} {o t : List (List R)} (hg : g = 0 ∨ 2 ≤ g) (hg2 : g ≤ 13) (hol : o.length ≤ 10) (ho : ∀ x ∈ o, RowS N 2520 40 t.length x) (ht : ∀ l ∈ t, RowS N 2520 40 m l) (h1 : 1 ≤ t.length) (h10 : t.length ≤ 10) (hm : 1 ≤ m) (hm10 : m ≤ 10)
    (q : Q (.v (tbD N (o.map fun x => thr m x t))) [.v (.int g), .v (tbD N o), .v (tbD N t)]) : Wc (n_product [.v (.int g), .v (tbD N o), .v (tbD N t)]) Q E := by
  refine wc_fn rfl rfl ?_
  unfold b_product
  fail "s"
  refine wo_eq (a := o.map (rwD N)) rfl ?_
  refine ⟨sz_of (by rw [List.length_map]; omega), ?_⟩
  fail "s"
  refine w_compMap (rwD N) (fun x => A.v (rwD N (thr m x t))) (xs := o) rfl (fun x hx => ?_) ?_
  · fail "s"
    refine through_s hg hg2 (ho x hx) ht h1 h10 hm hm10 ?_
    fail "s"
  fail "s"
  refine wo_eq rfl ?_
  fail "s"
  have e : frzs (o.map fun x => A.v (rwD N (thr m x t))) = (o.map fun x => thr m x t).map (rwD N) := by
    rw [frzs_eq, List.map_map, List.map_map]
    rfl
  rw [e]
  exact q
end
end DD.K04

namespace DD.K04
open PySem PySem.Spec L2
open PyProof.Rows hiding St
local macro_rules | `(tactic| fail "z") => `(tactic| first | (refine sz_of ?_; simp only [List.length_cons, List.length_nil, List.length_map, List.length_range, List.length_set, List.length_append, Int.reduceNeg, Int.reduceSub, Int.reduceToNat, Nat.reduceAdd, Nat.zero_add, Nat.reduceLT, Nat.reduceLeDiff, ne_eq, Nat.reduceEqDiff, not_false_eq_true]; done) | (refine szl_of ?_; simp only [List.length_cons, List.length_nil, List.length_map, List.length_range, List.length_set, List.length_append, Int.reduceNeg, Int.reduceSub, Int.reduceToNat, Nat.reduceAdd, Nat.zero_add, Nat.reduceLT, Nat.reduceLeDiff, ne_eq, Nat.reduceEqDiff, not_false_eq_true]; done) | (simp only [List.length_cons, List.length_nil, List.length_map, List.length_range, List.length_set, List.length_append, Int.reduceNeg, Int.reduceSub, Int.reduceToNat, Nat.reduceAdd, Nat.zero_add, Nat.reduceLT, Nat.reduceLeDiff, ne_eq, Nat.reduceEqDiff, not_false_eq_true]; done))
local macro_rules | `(tactic| fail "w") => `(tactic| with_reducible first
  | refine w_seq ?_ | refine w_setF ?_ | refine w_setT ?_ | refine w_ret ?_ | refine w_ifS ?_ | refine w_expr ?_ | refine w_for ?_ | refine w_parF ?_ | refine w_asg ?_ | refine w_skip ?_
  | refine w_var (by with_unfolding_all rfl) ?_ | refine w_c ?_ | refine w_op2 ?_ | refine w_op1 ?_ | refine w_test ?_ | refine wb ?_ | refine w_nil ?_ | refine w_cons ?_
  | refine w_tup ?_ | refine w_lst ?_ | refine w_if ?_ | refine w_andT ?_ | refine w_orT ?_ | refine w_notT ?_ | refine w_andV ?_ | refine w_orV ?_ | refine w_notV ?_
  | refine wk_t ?_ | refine wk_f ?_ | refine wk_n ?_
  | refine wf_nx ?_ | refine wf_ret ?_ | refine wf_bk ?_ | refine wf_ct ?_ | refine wl_nx ?_ | refine wl_ct ?_ | refine wl_bk ?_ | refine wl_ret ?_ | refine wr_nx ?_ | refine wr_ret ?_
  | refine w_gset (by fail "z") ?_ | refine w_gtup (by with_unfolding_all rfl) ?_ | refine w_gcons ?_ | refine w_gnil ?_ | refine w_items ?_ | refine w_rng1 ?_ | refine w_rng2 ?_
  | refine w_blt ?_ | refine w_isi ?_ | refine w_vnil ?_ | refine w_vvalF ?_ | refine w_vvalT ?_ | refine w_vref (by with_unfolding_all rfl) ?_ | refine w_call ?_
  | refine w_appendF (by with_unfolding_all rfl) ?_ | refine w_extend (by with_unfolding_all rfl) ?_ | refine w_setitemF ?_ | refine w_ixOwn (by with_unfolding_all rfl) ?_ | refine w_lenOwn (by with_unfolding_all rfl) ?_ | refine w_move (by with_unfolding_all rfl) ?_ | refine w_frz (by with_unfolding_all rfl) ?_
  | refine wix (by with_unfolding_all rfl) (by with_unfolding_all rfl) ?_ | refine wap (by with_unfolding_all rfl) (by fail "z") ?_ | refine wxt (by with_unfolding_all rfl) (by with_unfolding_all rfl) (by fail "z") ?_ | refine wmm (by with_unfolding_all rfl) ?_ | refine wst (by with_unfolding_all rfl) (by with_unfolding_all rfl) ?_ | refine win ?_
  | refine w_fmt ?_ | refine w_jscons ?_ | refine w_jsnil ?_ | refine wjs ?_ | refine w_join ?_ | refine w_zip ?_ | refine w_zipS ?_ | refine w_enum ?_ | refine w_bor ?_ | refine w_borT ?_ | refine wfl_bl ?_ | refine wfl_int ?_
  | refine w_no ?_ | refine w_so ?_ | refine w_sl ?_ | refine w_rev ?_ | refine w_comp ?_ | refine w_chain ?_ | refine w_compnil ?_ | refine w_compcons ?_ | refine wp_pure ?_
  | refine wo_add ?_ | refine wo_sub ?_ | refine wo_neg ?_ | refine wo_lt ?_ | refine wo_le ?_ | refine wo_gt ?_ | refine wo_ge ?_ | refine wo_eqI ?_ | refine wo_neI ?_ | refine wo_notB ?_ | refine wo_isB ?_
  | refine wo_abs ?_ | refine wo_lenT ?_ | refine wo_lenL ?_ | refine wo_lenF ?_ | refine wo_lenM ?_ | refine wo_some ?_ | refine ix_at (by with_unfolding_all rfl) (by with_unfolding_all rfl) ?_
  | refine wo_mod (by omega) ?_ | refine wo_div (divc64 (by omega) (by omega) (by omega)) ?_ | refine wo_mul (mulc64 (by omega) (by omega) (by omega) (by omega)) ?_ | refine wo_pow (cpow64 (by omega) (by omega) (by omega) (by omega)) ?_
  | refine And.intro (by fail "z") ?_ | refine And.intro (And.intro (by fail "z") (And.intro (by fail "z") (by fail "z"))) ?_)
local macro_rules | `(tactic| fail "e") => `(tactic| simp only [List.map_cons, List.map_nil, List.replicate, List.cons_append, List.nil_append, List.append_nil, List.set_cons_zero, List.set_cons_succ, List.set_nil, A.frz, frzs_v, frzs, Nat.reduceSub, gath, back, List.getElem?_cons_zero, List.getElem?_cons_succ, Option.map_some, lentL, List.contains_cons, List.contains_nil, List.elem_nil, List.elem_cons, Nat.reduceAdd, Nat.reduceBEq, Bool.or_false, Bool.or_true, Bool.false_or, Bool.true_or, beq_self_eq_true, if_true, if_false, reduceIte, Bool.false_eq_true, Int.reduceToNat, iBool_bl, iBool_int, iInt_bl, iInt_int, isI_int, isI_bl, iTup_tup, iTup_lst, iTup_int, Int.reducePow, List.getElem?_nil, wipeE, wipeF, parkL, putL, Nat.reduceLT, Nat.reduceLeDiff, frzE])
local macro_rules | `(tactic| fail "s") => `(tactic| repeat (first | fail "w" | fail "e"))
local macro_rules | `(tactic| fail "t") => `(tactic| refine take_s (by omega) (by omega) (by omega) (by omega) (by omega) ?_)

section
variable {g : Int} {R : Type} [Lean.Grind.CommRing R] {N : NumX g R} {Q : A → List A → Prop} {E : Ex → List A → Prop}
theorem nm_at {l : List R} {k : Nat} (h : k < l.length) : atI (l.map N.nm) (k : Int) = some (N.nm (l.getD k 0)) := by
  rw [atI_get (by omega) (by rw [List.length_map]; omega), Int.toNat_natCast, List.getElem?_map, List.getElem?_eq_getElem h, getD_at h]
  rfl
theorem rw_at {t : List (List R)} {k : Nat} (h : k < t.length) : atI (t.map (rwD N)) (k : Int) = some (rwD N (t.getD k [])) := by
  rw [atI_get (by omega) (by rw [List.length_map]; omega), Int.toNat_natCast, List.getElem?_map, List.getElem?_eq_getElem h, getD_at h]
  rfl
theorem frz_rows {α : Type} {f : α → List R} {xs : List α} : frzs (xs.map fun x => A.v (rwD N (f x))) = (xs.map f).map (rwD N) := by
  rw [frzs_eq, List.map_map, List.map_map]
  rfl
theorem frz_nums {α : Type} {f : α → R} {xs : List α} : frzs (xs.map fun x => A.v (N.nm (f x))) = (xs.map f).map N.nm := by
  rw [frzs_eq, List.map_map, List.map_map]
  rfl
theorem turned_s {m : Nat} {t : List (List R)} (ht : ∀ l ∈ t, l.length = m) (h1 : 1 ≤ t.length) (h10 : t.length ≤ 10) (hm : 1 ≤ m) (hm10 : m ≤ 10)
    (q : Q (.v (tbD N (trn m t))) [.v (tbD N t)]) : Wc (n_turned [.v (tbD N t)]) Q E := by
  have ht' := ht
  obtain ⟨t0, t', e0⟩ : ∃ t0 t', t = t0 :: t' := by
    cases t with
    | nil => simp at h1
    | cons a b => exact ⟨a, b, rfl⟩
  have ht0 := ht t0 (by rw [e0]; simp)
  refine wc_fn rfl rfl ?_
  unfold b_turned
  fail "s"
  refine ix_at (ds := t.map (rwD N)) (d := rwD N t0) rfl (by rw [e0, atI_get (by decide) (by simp)]; rfl) ?_
  fail "s"
  refine wo_eq (a := .v (.int m)) (by unfold rwD opLen; simp [A.frz, seqD, ht0]) ?_
  fail "s"
  refine ⟨⟨by omega, by omega⟩, ⟨sz_of (by simp; omega), ?_⟩⟩
  simp only [Int.toNat_natCast]
  fail "s"
  refine w_compMap (fun i : Nat => D.int i) (fun k => A.v (rwD N (t.map fun l => l.getD k 0))) (xs := List.range m) rfl (fun k hk => ?_) ?_
  · have hk := List.mem_range.mp hk
    fail "s"
    refine wo_eq (a := t.map (rwD N)) rfl ?_
    refine ⟨sz_of (by rw [List.length_map]; omega), ?_⟩
    fail "s"
    refine w_compMap (rwD N) (fun l => A.v (N.nm (l.getD k 0))) (xs := t) rfl (fun l hl => ?_) ?_
    · fail "s"
      refine ix_at (ds := l.map N.nm) rfl (nm_at (by rw [ht' l hl]; exact hk)) ?_
      fail "s"
    fail "s"
    refine wo_eq rfl ?_
    fail "s"
    rw [frz_nums (N := N) (f := fun l : List R => l.getD k 0)]
    exact ⟨rfl, trivial⟩
  fail "s"
  refine wo_eq rfl ?_
  fail "s"
  rw [frz_rows (N := N) (f := fun k : Nat => t.map fun l => l.getD k 0)]
  exact q
theorem sum_s {l : List R} {L : Nat} (hg : g = 0 ∨ 2 ≤ g) (hg2 : g ≤ 13) (hL : 0 < L) (hL2 : L ≤ 1000000000) (hl : l.length ≤ 10) (h : ∀ r ∈ l, N.S L 80 r) (q : Q (.v (N.nm (l.foldl (· + ·) 0))) [.v (.int g), .v (.lst (l.map N.nm))]) :
    Wc (n_l_sum [.v (.int g), .v (.lst (l.map N.nm))]) Q E := by
  have hB : ∀ {n : Nat} {r : R}, N.S L n r → n ≤ 200 → N.B 200 r := fun h hn => NumX.S_B hL h (Bd.mono (n := 64) (bd64 (by omega) (by omega)) (by decide)) hn (by decide)
  refine wc_fn rfl rfl ?_
  unfold b_l_sum b_l_sum_1
  fail "s"
  refine wo_eq (a := l.map N.nm) rfl ?_
  have e0 : D.tup [.int 0, .int 1] = N.nm 0 := N.zero.symm
  rw [e0]
  refine w_forL (fun ds ρ => ∃ (rs : List R) (acc : R) (s3 : Option A), ds = rs.map N.nm ∧ ρ = [some (.v (.int g)), some (.v (.lst (l.map N.nm))), some (.v (N.nm acc)), s3] ∧ rs.foldl (· + ·) acc = l.foldl (· + ·) 0 ∧ rs.length ≤ 10 ∧ N.S L (100 - rs.length) acc ∧ ∀ r ∈ rs, N.S L 80 r)
    ⟨l, 0, none, rfl, rfl, rfl, hl, N.Szero _ _, h⟩ ?_ ?_
  · rintro d ds _ ⟨rs, acc, s3, e, rfl, hf, hlen, hacc, hrs⟩
    cases rs with
    | nil => cases e
    | cons r rs =>
      cases e
      have hr := hrs r (by simp)
      fail "s"
      refine l_plus_s (N := N.toNum) hg hg2 (by decide) (by decide) (hB hacc (by omega)) (hB hr (by decide)) fun _ => ?_
      fail "s"
      refine ⟨rs, acc + r, some (.v (N.nm r)), rfl, rfl, hf, by simp at hlen; omega, ?_, fun r hr => hrs r (List.mem_cons_of_mem _ hr)⟩
      have := N.Sadd hacc hr
      rw [show max (100 - (r :: rs).length) 80 + 1 = 100 - rs.length from by simp at hlen ⊢; omega] at this
      exact this
  · rintro _ ⟨rs, acc, s3, e, rfl, hf, _⟩
    have : rs = [] := by simpa using e.symm
    subst this
    fail "s"
    rw [← hf] at q
    exact q
theorem cell_s {m : Nat} {o t : List (List R)} {i j : Nat} (hg : g = 0 ∨ 2 ≤ g) (hg2 : g ≤ 13) (ho : ∀ x ∈ o, RowS N 2520 40 t.length x) (ht : ∀ l ∈ t, RowS N 2520 40 m l) (h1 : 1 ≤ t.length) (h10 : t.length ≤ 10) (hi : i < o.length) (hj : j < m)
    (q : Q (.v (N.nm (cel (o.getD i []) t j))) [.v (.int g), .v (tbD N o), .v (tbD N t), .v (.int i), .v (.int j)]) : Wc (n_l_cell [.v (.int g), .v (tbD N o), .v (tbD N t), .v (.int i), .v (.int j)]) Q E := by
  have hx : RowS N 2520 40 t.length (o.getD i []) := by rw [getD_at hi]; exact ho _ (List.getElem_mem hi)
  have htk : ∀ k, k < t.length → RowS N 2520 40 m (t.getD k []) := fun k hk => by rw [getD_at hk]; exact ht _ (List.getElem_mem hk)
  have hB : ∀ {n : Nat} {r : R}, N.S 2520 n r → n ≤ 200 → N.B 200 r := fun h hn => NumX.S_B (by decide) h (Bd.mono (n := 64) (bd64 (by decide) (by decide)) (by decide)) hn (by decide)
  have sx : ∀ k, k < t.length → N.S 2520 40 ((o.getD i []).getD k 0) := fun k hk => by
    rw [getD_at (by rw [hx.1]; exact hk)]; exact hx.2 _ (List.getElem_mem _)
  have st : ∀ k, k < t.length → N.S 2520 40 ((t.getD k []).getD j 0) := fun k hk => by
    rw [getD_at (by rw [(htk k hk).1]; exact hj)]; exact (htk k hk).2 _ (List.getElem_mem _)
  refine wc_fn rfl rfl ?_
  unfold b_l_cell
  fail "s"
  refine wo_eq (a := .v (.int t.length)) (by unfold tbD opLen; simp [A.frz, seqD]) ?_
  fail "s"
  refine ⟨⟨by omega, by omega⟩, ⟨sz_of (by simp; omega), ?_⟩⟩
  simp only [Int.toNat_natCast]
  fail "s"
  refine w_compMap (fun i : Nat => D.int i) (fun k => A.v (N.nm ((o.getD i []).getD k 0 * (t.getD k []).getD j 0))) (xs := List.range t.length) rfl (fun k hk => ?_) ?_
  · have hk := List.mem_range.mp hk
    fail "s"
    refine ix_at (ds := o.map (rwD N)) rfl (rw_at hi) ?_
    fail "s"
    refine ix_at (ds := (o.getD i []).map N.nm) rfl (nm_at (by rw [hx.1]; exact hk)) ?_
    fail "s"
    refine ix_at (ds := t.map (rwD N)) rfl (rw_at hk) ?_
    fail "s"
    refine ix_at (ds := (t.getD k []).map N.nm) rfl (nm_at (by rw [(htk k hk).1]; exact hj)) ?_
    fail "s"
    refine l_times_s (N := N.toNum) hg hg2 (by decide) (by decide) (hB (sx k hk) (by decide)) (hB (st k hk) (by decide)) fun _ => ?_
    fail "s"
  fail "s"
  rw [frz_nums (N := N) (f := fun k : Nat => (o.getD i []).getD k 0 * (t.getD k []).getD j 0)]
  refine sum_s (L := 2520 * 2520) hg hg2 (by decide) (by decide) (by simp; omega) (fun r hr => ?_) ?_
  · obtain ⟨k, hk, rfl⟩ := List.mem_map.mp hr
    have hk := List.mem_range.mp hk
    exact N.Smul (sx k hk) (st k hk)
  fail "s"
  exact q
end
end DD.K04

namespace DD.K04
open PySem PySem.Spec L2
open PyProof.Rows hiding St
local macro_rules | `(tactic| fail "z") => `(tactic| first | (refine sz_of ?_; simp only [List.length_cons, List.length_nil, List.length_map, List.length_range, List.length_set, List.length_append, Int.reduceNeg, Int.reduceSub, Int.reduceToNat, Nat.reduceAdd, Nat.zero_add, Nat.reduceLT, Nat.reduceLeDiff, ne_eq, Nat.reduceEqDiff, not_false_eq_true]; done) | (refine szl_of ?_; simp only [List.length_cons, List.length_nil, List.length_map, List.length_range, List.length_set, List.length_append, Int.reduceNeg, Int.reduceSub, Int.reduceToNat, Nat.reduceAdd, Nat.zero_add, Nat.reduceLT, Nat.reduceLeDiff, ne_eq, Nat.reduceEqDiff, not_false_eq_true]; done) | (simp only [List.length_cons, List.length_nil, List.length_map, List.length_range, List.length_set, List.length_append, Int.reduceNeg, Int.reduceSub, Int.reduceToNat, Nat.reduceAdd, Nat.zero_add, Nat.reduceLT, Nat.reduceLeDiff, ne_eq, Nat.reduceEqDiff, not_false_eq_true]; done))
local macro_rules | `(tactic| fail "w") => `(tactic| with_reducible first
  | refine w_seq ?_ | refine w_setF ?_ | refine w_setT ?_ | refine w_ret ?_ | refine w_ifS ?_ | refine w_expr ?_ | refine w_for ?_ | refine w_parF ?_ | refine w_asg ?_ | refine w_skip ?_
  | refine w_var (by with_unfolding_all rfl) ?_ | refine w_c ?_ | refine w_op2 ?_ | refine w_op1 ?_ | refine w_test ?_ | refine wb ?_ | refine w_nil ?_ | refine w_cons ?_
  | refine w_tup ?_ | refine w_lst ?_ | refine w_if ?_ | refine w_andT ?_ | refine w_orT ?_ | refine w_notT ?_ | refine w_andV ?_ | refine w_orV ?_ | refine w_notV ?_
  | refine wk_t ?_ | refine wk_f ?_ | refine wk_n ?_
  | refine wf_nx ?_ | refine wf_ret ?_ | refine wf_bk ?_ | refine wf_ct ?_ | refine wl_nx ?_ | refine wl_ct ?_ | refine wl_bk ?_ | refine wl_ret ?_ | refine wr_nx ?_ | refine wr_ret ?_
  | refine w_gset (by fail "z") ?_ | refine w_gtup (by with_unfolding_all rfl) ?_ | refine w_gcons ?_ | refine w_gnil ?_ | refine w_items ?_ | refine w_rng1 ?_ | refine w_rng2 ?_
  | refine w_blt ?_ | refine w_isi ?_ | refine w_vnil ?_ | refine w_vvalF ?_ | refine w_vvalT ?_ | refine w_vref (by with_unfolding_all rfl) ?_ | refine w_call ?_
  | refine w_appendF (by with_unfolding_all rfl) ?_ | refine w_extend (by with_unfolding_all rfl) ?_ | refine w_setitemF ?_ | refine w_ixOwn (by with_unfolding_all rfl) ?_ | refine w_lenOwn (by with_unfolding_all rfl) ?_ | refine w_move (by with_unfolding_all rfl) ?_ | refine w_frz (by with_unfolding_all rfl) ?_
  | refine wix (by with_unfolding_all rfl) (by with_unfolding_all rfl) ?_ | refine wap (by with_unfolding_all rfl) (by fail "z") ?_ | refine wxt (by with_unfolding_all rfl) (by with_unfolding_all rfl) (by fail "z") ?_ | refine wmm (by with_unfolding_all rfl) ?_ | refine wst (by with_unfolding_all rfl) (by with_unfolding_all rfl) ?_ | refine win ?_
  | refine w_fmt ?_ | refine w_jscons ?_ | refine w_jsnil ?_ | refine wjs ?_ | refine w_join ?_ | refine w_zip ?_ | refine w_zipS ?_ | refine w_enum ?_ | refine w_bor ?_ | refine w_borT ?_ | refine wfl_bl ?_ | refine wfl_int ?_
  | refine w_no ?_ | refine w_so ?_ | refine w_sl ?_ | refine w_rev ?_ | refine w_comp ?_ | refine w_chain ?_ | refine w_compnil ?_ | refine w_compcons ?_ | refine wp_pure ?_
  | refine wo_add ?_ | refine wo_sub ?_ | refine wo_neg ?_ | refine wo_lt ?_ | refine wo_le ?_ | refine wo_gt ?_ | refine wo_ge ?_ | refine wo_eqI ?_ | refine wo_neI ?_ | refine wo_notB ?_ | refine wo_isB ?_
  | refine wo_abs ?_ | refine wo_lenT ?_ | refine wo_lenL ?_ | refine wo_lenF ?_ | refine wo_lenM ?_ | refine wo_some ?_ | refine ix_at (by with_unfolding_all rfl) (by with_unfolding_all rfl) ?_
  | refine wo_mod (by omega) ?_ | refine wo_div (divc64 (by omega) (by omega) (by omega)) ?_ | refine wo_mul (mulc64 (by omega) (by omega) (by omega) (by omega)) ?_ | refine wo_pow (cpow64 (by omega) (by omega) (by omega) (by omega)) ?_
  | refine And.intro (by fail "z") ?_ | refine And.intro (And.intro (by fail "z") (And.intro (by fail "z") (by fail "z"))) ?_)
local macro_rules | `(tactic| fail "e") => `(tactic| simp only [List.map_cons, List.map_nil, List.replicate, List.cons_append, List.nil_append, List.append_nil, List.set_cons_zero, List.set_cons_succ, List.set_nil, A.frz, frzs_v, frzs, Nat.reduceSub, gath, back, List.getElem?_cons_zero, List.getElem?_cons_succ, Option.map_some, lentL, List.contains_cons, List.contains_nil, List.elem_nil, List.elem_cons, Nat.reduceAdd, Nat.reduceBEq, Bool.or_false, Bool.or_true, Bool.false_or, Bool.true_or, beq_self_eq_true, if_true, if_false, reduceIte, Bool.false_eq_true, Int.reduceToNat, iBool_bl, iBool_int, iInt_bl, iInt_int, isI_int, isI_bl, iTup_tup, iTup_lst, iTup_int, Int.reducePow, List.getElem?_nil, wipeE, wipeF, parkL, putL, Nat.reduceLT, Nat.reduceLeDiff, frzE])
local macro_rules | `(tactic| fail "s") => `(tactic| repeat (first | fail "w" | fail "e"))
local macro_rules | `(tactic| fail "t") => `(tactic| refine take_s (by omega) (by omega) (by omega) (by omega) (by omega) ?_)

section
variable {g : Int} {R : Type} [Lean.Grind.CommRing R] {N : NumX g R}
theorem thr_S {m : Nat} {x : List R} {t : List (List R)} (hx : RowS N 2520 40 t.length x) (ht : ∀ l ∈ t, RowS N 2520 40 m l) (h10 : t.length ≤ 10) : RowS N (2520 * 2520) 100 m (thr m x t) := by
  have key : ∀ (ps : List (R × List R)) (acc : List R), ps.length ≤ 10 → RowS N (2520 * 2520) (100 - ps.length) m acc → (∀ p ∈ ps, N.S 2520 40 p.1 ∧ RowS N 2520 40 m p.2) → RowS N (2520 * 2520) 100 m (ps.foldl thrF acc) := by
    intro ps
    induction ps with
    | nil => intro acc _ h _; exact h
    | cons p ps ih =>
      intro acc hl hacc hps
      have hp := hps p (by simp)
      have hl' : ps.length < 10 := by simp at hl; omega
      have hs : RowS N (2520 * 2520) 80 m (p.2.map (· * p.1)) := ⟨by rw [List.length_map, hp.2.1], fun r hr => by
        obtain ⟨s, hs, rfl⟩ := List.mem_map.mp hr
        exact N.Smul (hp.2.2 s hs) hp.1⟩
      refine ih (thrF acc p) (by omega) ⟨thrF_len hacc.1 hp.2.1, fun r hr => ?_⟩ fun q hq => hps q (List.mem_cons_of_mem _ hq)
      unfold thrF at hr
      obtain ⟨i, hi, rfl⟩ := List.mem_iff_getElem.mp hr
      rw [List.getElem_zipWith]
      have := N.Sadd (hacc.2 _ (List.getElem_mem (by simp at hi; omega : i < acc.length))) (hs.2 _ (List.getElem_mem (by rw [List.length_map, hp.2.1, ← hacc.1]; simp at hi; omega : i < (p.2.map (· * p.1)).length)))
      rw [show max (100 - (p :: ps).length) 80 + 1 = 100 - ps.length from by simp; omega] at this
      exact this
  exact key _ _ (by rw [List.length_zip]; omega) zero_S fun p hp => ⟨hx.2 _ (List.of_mem_zip hp).1, ht _ (List.of_mem_zip hp).2⟩
theorem RowS.rowP {L n m : Nat} {l : List R} (h : RowS N L n m l) (hL : 0 < L) (hL2 : L ≤ 1000000000) (hn : n ≤ 200) (h1 : 1 ≤ m) (h10 : m ≤ 10) : RowP 200 (rwD N l) := by
  refine ⟨_, rfl, by rw [List.length_map, h.1]; exact h1, by rw [List.length_map, h.1]; exact h10, fun e he => ?_⟩
  obtain ⟨r, hr, rfl⟩ := List.mem_map.mp he
  have := h.B hL hL2 hn r hr
  exact ⟨_, _, rfl, this.p, this.q⟩
theorem tabP {L n m : Nat} {t : List (List R)} (h : ∀ l ∈ t, RowS N L n m l) (hL : 0 < L) (hL2 : L ≤ 1000000000) (hn : n ≤ 200) (h1 : 1 ≤ m) (h10 : m ≤ 10) (t1 : 1 ≤ t.length) (t10 : t.length ≤ 10) : TabP 200 (tbD N t) := by
  refine ⟨_, rfl, by rw [List.length_map]; exact t1, by rw [List.length_map]; exact t10, fun e he => ?_⟩
  obtain ⟨r, hr, rfl⟩ := List.mem_map.mp he
  exact (h r hr).rowP hL hL2 hn h1 h10
theorem due_eq {m : Nat} {o t : List (List R)} (ho : ∀ x ∈ o, x.length = t.length) (ht : ∀ l ∈ t, l.length = m) : ((List.range o.length).map fun i => (List.range m).map fun j => cel (o.getD i []) t j) = o.map fun x => thr m x t := by
  refine List.ext_getElem (by simp) fun i h1 h2 => ?_
  have hi : i < o.length := by simpa using h2
  rw [List.getElem_map, List.getElem_map, List.getElem_range, getD_at hi, thr_cel (ho _ (List.getElem_mem hi)) ht]
end
theorem tabP_of {n : Nat} {g h m : Int} {d : D} (hd : Pl n d) (ht : tabB g h m d = true) (h1 : 1 ≤ h) (h10 : h ≤ 10) (m1 : 1 ≤ m) (m10 : m ≤ 10) : TabP n d := by
  unfold tabB at ht
  split at ht
  · rename_i l
    simp at ht
    refine ⟨l, rfl, by omega, by omega, fun r hr => ?_⟩
    have hrp := pl_tup.mp hd r hr
    have hrb := ht.2 r hr
    unfold rowB at hrb
    split at hrb
    · rename_i k
      simp at hrb
      refine ⟨k, rfl, by omega, by omega, fun e he => ?_⟩
      have hep := pl_tup.mp hrp e he
      have heb := hrb.2 e he
      unfold numB at heb
      split at heb
      · rename_i a b
        have := pl_tup.mp hep
        exact ⟨a, b, rfl, pl_int.mp (this _ (by simp)), pl_int.mp (this _ (by simp))⟩
      · cases heb
    · cases hrb
  · cases ht
theorem law_in {n : Nat} {ns : List Int} {a b g h w : Int} {l : List A} {one : D} {r0 : D} {s1 s4 s7 s9 s11 s12 s13 : Option A} {QF : Flow → DEnv → Prop} {E : Ex → DEnv → Prop} (hg : 0 ≤ g) (hg2 : g ≤ 13) (ha : 0 ≤ a) (hb : 0 ≤ b) (hb2 : b < 2147483647) (h1 : 1 ≤ h) (h10 : h ≤ 10) (w1 : 1 ≤ w) (w10 : w ≤ 10)
    (hone : TabP 200 one) (hr0 : RowP 200 r0) (hix : ∃ rs, seqD one = some rs ∧ atI rs 0 = some r0) (hl : l.length ≤ 100) (hA : AllV (Pl 260) l)
    (q : ∀ a b l' s12, 0 ≤ a → 0 ≤ b → b < 2147483647 → l'.length ≤ l.length + 3 → AllV (Pl 260) l' → QF .nx [some (script ns), s1, some (.m [.v (.int a), .v (.int b)]), some (.v (.int g)), s4, some (.v (.int h)), some (.v (.int w)), s7, some (.v one), s9, some (.m l'), s11, s12, s13, none, none, none]) :
    Wp (b_law_1 [some (script ns), s1, some (.m [.v (.int a), .v (.int b)]), some (.v (.int g)), s4, some (.v (.int h)), some (.v (.int w)), s7, some (.v one), s9, some (.m l), s11, s12, s13, none, none, none]) QF E := by
  obtain ⟨rs, hrs, hat⟩ := hix
  unfold b_law_1
  fail "s"
  refine bent_table_s (n := 200) (by decide) (by decide) hg hg2 ha hb hb2 hone fun th a b ha hb hb2 hth => ?_
  fail "s"
  refine ix_at hrs hat ?_
  fail "s"
  refine bent_row_s (n := 200) (by decide) (by decide) hg hg2 ha hb hb2 hr0 fun br a b ha hb hb2 hbr => ?_
  fail "s"
  refine wxt (l := l) (ds := [th, br]) (by with_unfolding_all rfl) (by with_unfolding_all rfl) (sz_of (by simp; omega)) ?_
  fail "s"
  have hA2 : AllV (Pl 260) (l ++ [A.v th, A.v br]) := fun e he => by
    rcases List.mem_append.mp he with he | he
    · exact hA e he
    · simp at he
      rcases he with rfl | rfl
      · exact ⟨th, rfl, Pl.mono (by decide) _ hth⟩
      · exact ⟨br, rfl, Pl.mono (by decide) _ hbr⟩
  refine l_is_table_s hth (by omega) (by omega) ?_
  fail "s"
  refine wk_b (fun hy => ?_) (fun hy => ?_)
  · fail "s"
    refine bent_table_s (n := 220) (by decide) (by decide) hg hg2 ha hb hb2 (tabP_of hth hy h1 h10 w1 w10) fun th2 a b ha hb hb2 hth2 => ?_
    fail "s"
    refine wap (by with_unfolding_all rfl) (szl_of (by simp; omega)) ?_
    exact q _ _ _ _ ha hb hb2 (by simp) (hA2.snoc (Pl.mono (by decide) _ hth2))
  · fail "s"
    exact q _ _ _ _ ha hb hb2 (by simp) hA2
end DD.K04

namespace DD.K04
open PySem PySem.Spec L2
open PyProof.Rows hiding St
local macro_rules | `(tactic| fail "z") => `(tactic| first | (refine sz_of ?_; simp only [List.length_cons, List.length_nil, List.length_map, List.length_range, List.length_set, List.length_append, Int.reduceNeg, Int.reduceSub, Int.reduceToNat, Nat.reduceAdd, Nat.zero_add, Nat.reduceLT, Nat.reduceLeDiff, ne_eq, Nat.reduceEqDiff, not_false_eq_true]; done) | (refine szl_of ?_; simp only [List.length_cons, List.length_nil, List.length_map, List.length_range, List.length_set, List.length_append, Int.reduceNeg, Int.reduceSub, Int.reduceToNat, Nat.reduceAdd, Nat.zero_add, Nat.reduceLT, Nat.reduceLeDiff, ne_eq, Nat.reduceEqDiff, not_false_eq_true]; done) | (simp only [List.length_cons, List.length_nil, List.length_map, List.length_range, List.length_set, List.length_append, Int.reduceNeg, Int.reduceSub, Int.reduceToNat, Nat.reduceAdd, Nat.zero_add, Nat.reduceLT, Nat.reduceLeDiff, ne_eq, Nat.reduceEqDiff, not_false_eq_true]; done))
local macro_rules | `(tactic| fail "w") => `(tactic| with_reducible first
  | refine w_seq ?_ | refine w_setF ?_ | refine w_setT ?_ | refine w_ret ?_ | refine w_ifS ?_ | refine w_expr ?_ | refine w_for ?_ | refine w_parF ?_ | refine w_asg ?_ | refine w_skip ?_
  | refine w_var (by with_unfolding_all rfl) ?_ | refine w_c ?_ | refine w_op2 ?_ | refine w_op1 ?_ | refine w_test ?_ | refine wb ?_ | refine w_nil ?_ | refine w_cons ?_
  | refine w_tup ?_ | refine w_lst ?_ | refine w_if ?_ | refine w_andT ?_ | refine w_orT ?_ | refine w_notT ?_ | refine w_andV ?_ | refine w_orV ?_ | refine w_notV ?_
  | refine wk_t ?_ | refine wk_f ?_ | refine wk_n ?_
  | refine wf_nx ?_ | refine wf_ret ?_ | refine wf_bk ?_ | refine wf_ct ?_ | refine wl_nx ?_ | refine wl_ct ?_ | refine wl_bk ?_ | refine wl_ret ?_ | refine wr_nx ?_ | refine wr_ret ?_
  | refine w_gset (by fail "z") ?_ | refine w_gtup (by with_unfolding_all rfl) ?_ | refine w_gcons ?_ | refine w_gnil ?_ | refine w_items ?_ | refine w_rng1 ?_ | refine w_rng2 ?_
  | refine w_blt ?_ | refine w_isi ?_ | refine w_vnil ?_ | refine w_vvalF ?_ | refine w_vvalT ?_ | refine w_vref (by with_unfolding_all rfl) ?_ | refine w_call ?_
  | refine w_appendF (by with_unfolding_all rfl) ?_ | refine w_extend (by with_unfolding_all rfl) ?_ | refine w_setitemF ?_ | refine w_ixOwn (by with_unfolding_all rfl) ?_ | refine w_lenOwn (by with_unfolding_all rfl) ?_ | refine w_move (by with_unfolding_all rfl) ?_ | refine w_frz (by with_unfolding_all rfl) ?_
  | refine wix (by with_unfolding_all rfl) (by with_unfolding_all rfl) ?_ | refine wap (by with_unfolding_all rfl) (by fail "z") ?_ | refine wxt (by with_unfolding_all rfl) (by with_unfolding_all rfl) (by fail "z") ?_ | refine wmm (by with_unfolding_all rfl) ?_ | refine wst (by with_unfolding_all rfl) (by with_unfolding_all rfl) ?_ | refine win ?_
  | refine w_fmt ?_ | refine w_jscons ?_ | refine w_jsnil ?_ | refine wjs ?_ | refine w_join ?_ | refine w_zip ?_ | refine w_zipS ?_ | refine w_enum ?_ | refine w_bor ?_ | refine w_borT ?_ | refine wfl_bl ?_ | refine wfl_int ?_
  | refine w_no ?_ | refine w_so ?_ | refine w_sl ?_ | refine w_rev ?_ | refine w_comp ?_ | refine w_chain ?_ | refine w_compnil ?_ | refine w_compcons ?_ | refine wp_pure ?_
  | refine wo_add ?_ | refine wo_sub ?_ | refine wo_neg ?_ | refine wo_lt ?_ | refine wo_le ?_ | refine wo_gt ?_ | refine wo_ge ?_ | refine wo_eqI ?_ | refine wo_neI ?_ | refine wo_notB ?_ | refine wo_isB ?_
  | refine wo_abs ?_ | refine wo_lenT ?_ | refine wo_lenL ?_ | refine wo_lenF ?_ | refine wo_lenM ?_ | refine wo_some ?_ | refine ix_at (by with_unfolding_all rfl) (by with_unfolding_all rfl) ?_
  | refine wo_mod (by omega) ?_ | refine wo_div (divc64 (by omega) (by omega) (by omega)) ?_ | refine wo_mul (mulc64 (by omega) (by omega) (by omega) (by omega)) ?_ | refine wo_pow (cpow64 (by omega) (by omega) (by omega) (by omega)) ?_
  | refine And.intro (by fail "z") ?_ | refine And.intro (And.intro (by fail "z") (And.intro (by fail "z") (by fail "z"))) ?_)
local macro_rules | `(tactic| fail "e") => `(tactic| simp only [List.map_cons, List.map_nil, List.replicate, List.cons_append, List.nil_append, List.append_nil, List.set_cons_zero, List.set_cons_succ, List.set_nil, A.frz, frzs_v, frzs, Nat.reduceSub, gath, back, List.getElem?_cons_zero, List.getElem?_cons_succ, Option.map_some, lentL, List.contains_cons, List.contains_nil, List.elem_nil, List.elem_cons, Nat.reduceAdd, Nat.reduceBEq, Bool.or_false, Bool.or_true, Bool.false_or, Bool.true_or, beq_self_eq_true, if_true, if_false, reduceIte, Bool.false_eq_true, Int.reduceToNat, iBool_bl, iBool_int, iInt_bl, iInt_int, isI_int, isI_bl, iTup_tup, iTup_lst, iTup_int, Int.reducePow, List.getElem?_nil, wipeE, wipeF, parkL, putL, Nat.reduceLT, Nat.reduceLeDiff, frzE])
local macro_rules | `(tactic| fail "s") => `(tactic| repeat (first | fail "w" | fail "e"))
local macro_rules | `(tactic| fail "t") => `(tactic| refine take_s (by omega) (by omega) (by omega) (by omega) (by omega) ?_)

noncomputable def b_tail : M Flow := (dSeq (dSet false 13 (dBlt opTuple (dCons (dComp [14] (dRng1 (dVar 5)) (gSet 14) (M.pure true) (dBlt opTuple (dCons (dComp [16] (dRng1 (dVar 7)) (gSet 16) (M.pure true) (dCall n_l_cell (vVal false (dVar 3) (vVal false (dVar 8) (vVal false (dVar 9) (vVal false (dVar 14) (vVal false (dVar 16) (vNil)))))) [])) (dNil)))) (dNil))))
  (dSeq (dIfS (dOrT (dTest (dOp2 (opNe) (dCall n_product (vVal false (dVar 3) (vVal false (dVar 8) (vVal false (dVar 9) (vNil)))) []) (dVar 13))) (dTest (dOp2 (opNe) (dComp [15] (dItems (dVar 8)) (gSet 15) (M.pure true) (dCall n_through (vVal false (dVar 3) (vVal false (dVar 15) (vVal false (dVar 9) (vNil)))) [])) (dBlt opList (dCons (dVar 13) (dNil))))))
  (dRet (dC (.bl false)))
  (dSkip))
  (dSeq (dIfS (dTest (dOp2 (opNe) (dCall n_turned (vVal false (dVar 8) (vNil)) []) (dBlt opTuple (dCons (dComp [16] (dRng1 (dVar 6)) (gSet 16) (M.pure true) (dBlt opTuple (dCons (dComp [15] (dItems (dVar 8)) (gSet 15) (M.pure true) (dOp2 opIx (dVar 15) (dVar 16))) (dNil)))) (dNil)))))
  (dRet (dC (.bl false)))
  (dSkip))
  (dSeq (dIfS (dTest (dOp2 (opNe) (dCall n_turned (vVal false (dCall n_turned (vVal false (dVar 9) (vNil)) []) (vNil)) []) (dVar 9)))
  (dRet (dC (.bl false)))
  (dSkip))
  (dIfS (dOrT (dTest (dOp2 (opNe) (dCall n_product (vVal false (dVar 3) (vVal false (dVar 8) (vVal false (dVar 9) (vNil)))) []) (dVar 13))) (dNotT (dTest (dCall n_l_is_table (vVal false (dVar 3) (vVal false (dCall n_product (vVal false (dVar 3) (vVal false (dVar 8) (vVal false (dVar 9) (vNil)))) []) (vVal false (dVar 5) (vVal false (dVar 7) (vNil))))) []))))
  (dRet (dC (.bl false)))
  (dSkip))))))
theorem law_tail {ns : List Int} {k g sz : Int} {H W M : Nat} {R : Type} [Lean.Grind.CommRing R] {N : NumX g R} {o t : List (List R)} {bg l10 : A} {s11 s12 s13 : Option A} {QF : Flow → DEnv → Prop} {E : Ex → DEnv → Prop} (hg : g = 0 ∨ 2 ≤ g) (hg2 : g ≤ 13)
    (H1 : 1 ≤ H) (H10 : H ≤ 10) (W1 : 1 ≤ W) (W10 : W ≤ 10) (M1 : 1 ≤ M) (M10 : M ≤ 10) (hol : o.length = H) (htl : t.length = W) (ho : ∀ l ∈ o, RowS N 2520 40 W l) (ht : ∀ l ∈ t, RowS N 2520 40 M l)
    (q : ∀ s13, QF .nx [some (script ns), some (.v (.int k)), some bg, some (.v (.int g)), some (.v (.int sz)), some (.v (.int H)), some (.v (.int W)), some (.v (.int M)), some (.v (tbD N o)), some (.v (tbD N t)), some l10, s11, s12, s13, none, none, none]) :
    Wp (b_tail [some (script ns), some (.v (.int k)), some bg, some (.v (.int g)), some (.v (.int sz)), some (.v (.int H)), some (.v (.int W)), some (.v (.int M)), some (.v (tbD N o)), some (.v (tbD N t)), some l10, s11, s12, s13, none, none, none]) QF E := by
  have hoW : ∀ x ∈ o, RowS N 2520 40 t.length x := by rw [htl]; exact ho
  unfold b_tail
  fail "s"
  refine ⟨⟨by omega, by omega⟩, ⟨sz_of (by simp; omega), ?_⟩⟩
  simp only [Int.toNat_natCast]
  fail "s"
  refine w_compMap (fun i : Nat => D.int i) (fun i => A.v (rwD N ((List.range M).map fun j => cel (o.getD i []) t j))) (xs := List.range H) rfl (fun i hi => ?_) ?_
  · have hi := List.mem_range.mp hi
    fail "s"
    refine ⟨⟨by omega, by omega⟩, ⟨sz_of (by simp; omega), ?_⟩⟩
    simp only [Int.toNat_natCast]
    fail "s"
    refine w_compMap (fun i : Nat => D.int i) (fun j => A.v (N.nm (cel (o.getD i []) t j))) (xs := List.range M) rfl (fun j hj => ?_) ?_
    · have hj := List.mem_range.mp hj
      fail "s"
      refine cell_s hg hg2 hoW ht (by omega) (by omega) (by omega) hj ?_
      fail "s"
    fail "s"
    refine wo_eq rfl ?_
    fail "s"
    rw [frz_nums (N := N) (f := fun j : Nat => cel (o.getD i []) t j)]
    exact ⟨rfl, trivial⟩
  fail "s"
  refine wo_eq rfl ?_
  fail "s"
  rw [frz_rows (N := N) (f := fun i : Nat => (List.range M).map fun j => cel (o.getD i []) t j), ← hol, due_eq (fun x hx => (hoW x hx).1) (fun l hl => (ht l hl).1)]
  have edue : D.tup ((o.map fun x => thr M x t).map (rwD N)) = tbD N (o.map fun x => thr M x t) := rfl
  rw [edue]
  refine product_s hg hg2 (by omega) hoW ht (by omega) (by omega) M1 M10 ?_
  fail "s"
  refine wo_neS (k := 3) rfl okc_tb (by decide) ?_
  fail "s"
  refine wo_eq (a := o.map (rwD N)) rfl ?_
  refine ⟨sz_of (by rw [List.length_map]; omega), ?_⟩
  fail "s"
  refine w_compMap (rwD N) (fun x => A.v (rwD N (thr M x t))) (xs := o) rfl (fun x hx => ?_) ?_
  · fail "s"
    refine through_s hg hg2 (hoW x hx) ht (by omega) (by omega) M1 M10 ?_
    fail "s"
  fail "s"
  refine wo_eq rfl ?_
  fail "s"
  refine wo_neS (k := 3) ?_ ?_ (by decide) ?_
  · show D.lst (frzs (((o.map fun x => thr M x t).map (rwD N)).map A.v)) = D.lst (frzs (o.map fun x => A.v (rwD N (thr M x t))))
    rw [frzs_v, frz_rows (N := N) (f := fun x : List R => thr M x t)]
  · show okc 3 (D.lst (frzs (o.map fun x => A.v (rwD N (thr M x t))))) = true
    rw [frz_rows (N := N) (f := fun x : List R => thr M x t)]
    exact okc_lst fun d hd => by
      obtain ⟨r, _, rfl⟩ := List.mem_map.mp hd
      exact okc_rw
  fail "s"
  refine turned_s (m := W) (fun l hl => (ho l hl).1) (by omega) (by omega) W1 W10 ?_
  fail "s"
  refine ⟨⟨by omega, by omega⟩, ⟨sz_of (by simp; omega), ?_⟩⟩
  simp only [Int.toNat_natCast]
  fail "s"
  refine w_compMap (fun i : Nat => D.int i) (fun k => A.v (rwD N (o.map fun l => l.getD k 0))) (xs := List.range W) rfl (fun k hk => ?_) ?_
  · have hk := List.mem_range.mp hk
    fail "s"
    refine wo_eq (a := o.map (rwD N)) rfl ?_
    refine ⟨sz_of (by rw [List.length_map]; omega), ?_⟩
    fail "s"
    refine w_compMap (rwD N) (fun l => A.v (N.nm (l.getD k 0))) (xs := o) rfl (fun l hl => ?_) ?_
    · fail "s"
      refine ix_at (ds := l.map N.nm) rfl (nm_at (by rw [(ho l hl).1]; exact hk)) ?_
      fail "s"
    fail "s"
    refine wo_eq rfl ?_
    fail "s"
    rw [frz_nums (N := N) (f := fun l : List R => l.getD k 0)]
    exact ⟨rfl, trivial⟩
  fail "s"
  refine wo_eq rfl ?_
  fail "s"
  rw [frz_rows (N := N) (f := fun k : Nat => o.map fun l => l.getD k 0)]
  refine wo_neS (k := 3) rfl okc_tb (by decide) ?_
  fail "s"
  refine turned_s (m := M) (fun l hl => (ht l hl).1) (by omega) (by omega) M1 M10 ?_
  fail "s"
  have htt : ∀ l ∈ trn M t, l.length = W := fun l hl => by
    obtain ⟨k, _, rfl⟩ := List.mem_map.mp hl
    rw [List.length_map, htl]
  have htl2 : (trn M t).length = M := by unfold trn; simp
  refine turned_s (m := W) htt (by omega) (by omega) W1 W10 ?_
  fail "s"
  refine wo_neS (k := 3) (by rw [trn_trn htl (fun l hl => (ht l hl).1)]) okc_tb (by decide) ?_
  fail "s"
  refine product_s hg hg2 (by omega) hoW ht (by omega) (by omega) M1 M10 ?_
  fail "s"
  refine wo_neS (k := 3) rfl okc_tb (by decide) ?_
  fail "s"
  refine product_s hg hg2 (by omega) hoW ht (by omega) (by omega) M1 M10 ?_
  fail "s"
  have ptab : TabP 200 (tbD N (o.map fun x => thr M x t)) := tabP (L := 2520 * 2520) (n := 100) (m := M) (fun l hl => by
    obtain ⟨x, hx, rfl⟩ := List.mem_map.mp hl
    exact thr_S (hoW x hx) ht (by omega)) (by decide) (by decide) (by decide) M1 M10 (by rw [List.length_map]; omega) (by rw [List.length_map]; omega)
  refine l_is_table_s ptab.pl (by omega) (by omega) ?_
  have etab : tabB g o.length M (tbD N (o.map fun x => thr M x t)) = true := by
    unfold tabB tbD
    dsimp only
    rw [List.length_map, List.length_map, decide_eq_true rfl, Bool.true_and, List.all_eq_true]
    intro d hd
    obtain ⟨l, hl, rfl⟩ := List.mem_map.mp hd
    obtain ⟨x, hx, rfl⟩ := List.mem_map.mp hl
    rw [rowB_rw, thr_len (fun l hl => (ht l hl).1), decide_eq_true rfl]
  rw [etab]
  fail "s"
  rw [hol]
  exact q _
end DD.K04

namespace DD.K04
open PySem PySem.Spec L2
open PyProof.Rows hiding St
local macro_rules | `(tactic| fail "z") => `(tactic| first | (refine sz_of ?_; simp only [List.length_cons, List.length_nil, List.length_map, List.length_range, List.length_set, List.length_append, Int.reduceNeg, Int.reduceSub, Int.reduceToNat, Nat.reduceAdd, Nat.zero_add, Nat.reduceLT, Nat.reduceLeDiff, ne_eq, Nat.reduceEqDiff, not_false_eq_true]; done) | (refine szl_of ?_; simp only [List.length_cons, List.length_nil, List.length_map, List.length_range, List.length_set, List.length_append, Int.reduceNeg, Int.reduceSub, Int.reduceToNat, Nat.reduceAdd, Nat.zero_add, Nat.reduceLT, Nat.reduceLeDiff, ne_eq, Nat.reduceEqDiff, not_false_eq_true]; done) | (simp only [List.length_cons, List.length_nil, List.length_map, List.length_range, List.length_set, List.length_append, Int.reduceNeg, Int.reduceSub, Int.reduceToNat, Nat.reduceAdd, Nat.zero_add, Nat.reduceLT, Nat.reduceLeDiff, ne_eq, Nat.reduceEqDiff, not_false_eq_true]; done))
local macro_rules | `(tactic| fail "w") => `(tactic| with_reducible first
  | refine w_seq ?_ | refine w_setF ?_ | refine w_setT ?_ | refine w_ret ?_ | refine w_ifS ?_ | refine w_expr ?_ | refine w_for ?_ | refine w_parF ?_ | refine w_asg ?_ | refine w_skip ?_
  | refine w_var (by with_unfolding_all rfl) ?_ | refine w_c ?_ | refine w_op2 ?_ | refine w_op1 ?_ | refine w_test ?_ | refine wb ?_ | refine w_nil ?_ | refine w_cons ?_
  | refine w_tup ?_ | refine w_lst ?_ | refine w_if ?_ | refine w_andT ?_ | refine w_orT ?_ | refine w_notT ?_ | refine w_andV ?_ | refine w_orV ?_ | refine w_notV ?_
  | refine wk_t ?_ | refine wk_f ?_ | refine wk_n ?_
  | refine wf_nx ?_ | refine wf_ret ?_ | refine wf_bk ?_ | refine wf_ct ?_ | refine wl_nx ?_ | refine wl_ct ?_ | refine wl_bk ?_ | refine wl_ret ?_ | refine wr_nx ?_ | refine wr_ret ?_
  | refine w_gset (by fail "z") ?_ | refine w_gtup (by with_unfolding_all rfl) ?_ | refine w_gcons ?_ | refine w_gnil ?_ | refine w_items ?_ | refine w_rng1 ?_ | refine w_rng2 ?_
  | refine w_blt ?_ | refine w_isi ?_ | refine w_vnil ?_ | refine w_vvalF ?_ | refine w_vvalT ?_ | refine w_vref (by with_unfolding_all rfl) ?_ | refine w_call ?_
  | refine w_appendF (by with_unfolding_all rfl) ?_ | refine w_extend (by with_unfolding_all rfl) ?_ | refine w_setitemF ?_ | refine w_ixOwn (by with_unfolding_all rfl) ?_ | refine w_lenOwn (by with_unfolding_all rfl) ?_ | refine w_move (by with_unfolding_all rfl) ?_ | refine w_frz (by with_unfolding_all rfl) ?_
  | refine wix (by with_unfolding_all rfl) (by with_unfolding_all rfl) ?_ | refine wap (by with_unfolding_all rfl) (by fail "z") ?_ | refine wxt (by with_unfolding_all rfl) (by with_unfolding_all rfl) (by fail "z") ?_ | refine wmm (by with_unfolding_all rfl) ?_ | refine wst (by with_unfolding_all rfl) (by with_unfolding_all rfl) ?_ | refine win ?_
  | refine w_fmt ?_ | refine w_jscons ?_ | refine w_jsnil ?_ | refine wjs ?_ | refine w_join ?_ | refine w_zip ?_ | refine w_zipS ?_ | refine w_enum ?_ | refine w_bor ?_ | refine w_borT ?_ | refine wfl_bl ?_ | refine wfl_int ?_
  | refine w_no ?_ | refine w_so ?_ | refine w_sl ?_ | refine w_rev ?_ | refine w_comp ?_ | refine w_chain ?_ | refine w_compnil ?_ | refine w_compcons ?_ | refine wp_pure ?_
  | refine wo_add ?_ | refine wo_sub ?_ | refine wo_neg ?_ | refine wo_lt ?_ | refine wo_le ?_ | refine wo_gt ?_ | refine wo_ge ?_ | refine wo_eqI ?_ | refine wo_neI ?_ | refine wo_notB ?_ | refine wo_isB ?_
  | refine wo_abs ?_ | refine wo_lenT ?_ | refine wo_lenL ?_ | refine wo_lenF ?_ | refine wo_lenM ?_ | refine wo_some ?_ | refine ix_at (by with_unfolding_all rfl) (by with_unfolding_all rfl) ?_
  | refine wo_mod (by omega) ?_ | refine wo_div (divc64 (by omega) (by omega) (by omega)) ?_ | refine wo_mul (mulc64 (by omega) (by omega) (by omega) (by omega)) ?_ | refine wo_pow (cpow64 (by omega) (by omega) (by omega) (by omega)) ?_
  | refine And.intro (by fail "z") ?_ | refine And.intro (And.intro (by fail "z") (And.intro (by fail "z") (by fail "z"))) ?_)
local macro_rules | `(tactic| fail "e") => `(tactic| simp only [List.map_cons, List.map_nil, List.replicate, List.cons_append, List.nil_append, List.append_nil, List.set_cons_zero, List.set_cons_succ, List.set_nil, A.frz, frzs_v, frzs, Nat.reduceSub, gath, back, List.getElem?_cons_zero, List.getElem?_cons_succ, Option.map_some, lentL, List.contains_cons, List.contains_nil, List.elem_nil, List.elem_cons, Nat.reduceAdd, Nat.reduceBEq, Bool.or_false, Bool.or_true, Bool.false_or, Bool.true_or, beq_self_eq_true, if_true, if_false, reduceIte, Bool.false_eq_true, Int.reduceToNat, iBool_bl, iBool_int, iInt_bl, iInt_int, isI_int, isI_bl, iTup_tup, iTup_lst, iTup_int, Int.reducePow, List.getElem?_nil, wipeE, wipeF, parkL, putL, Nat.reduceLT, Nat.reduceLeDiff, frzE])
local macro_rules | `(tactic| fail "s") => `(tactic| repeat (first | fail "w" | fail "e"))
local macro_rules | `(tactic| fail "t") => `(tactic| refine take_s (by omega) (by omega) (by omega) (by omega) (by omega) ?_)

theorem law_step {ns : List Int} {k : Int} {s2 s3 s4 s5 s6 s7 s8 s9 s10 s11 s12 s13 : Option A} {QF : Flow → DEnv → Prop} {E : Ex → DEnv → Prop} (h0 : 0 ≤ k) (h1 : k < 1000)
    (q : ∀ s2 s3 s4 s5 s6 s7 s8 s9 s10 s11 s12 s13, QF .nx [some (script ns), some (.v (.int k)), s2, s3, s4, s5, s6, s7, s8, s9, s10, s11, s12, s13, none, none, none]) :
    Wp (b_law_2 [some (script ns), some (.v (.int k)), s2, s3, s4, s5, s6, s7, s8, s9, s10, s11, s12, s13, none, none, none]) QF E := by
  unfold b_law_2
  fail "s"
  refine bag_s h0 h1 fun a b ha hb hb2 => ?_
  fail "s"
  refine ground_s ha hb hb2 fun g a b ha hb hb2 hg hg2 => ?_
  obtain ⟨R, inst, ⟨N⟩⟩ := numX_of hg hg2
  fail "s"
  fail "t"
  intro i8 a b ha hb hb2 hi0 hi1
  fail "s"
  have hd7 : 0 ≤ i8.fdiv 7 ∧ i8.fdiv 7 ≤ 1 := by
    rw [Int.fdiv_eq_ediv_of_nonneg _ (by decide)]
    omega
  refine wo_ixM (fun i => 5 ≤ i ∧ i ≤ 10) hd7.1 (by simp; omega) (by simp) fun sz hsz => ?_
  fail "s"
  fail "t"
  intro h' a b ha hb hb2 hh0 hh1
  fail "s"
  fail "t"
  intro w' a b ha hb hb2 hw0 hw1
  fail "s"
  fail "t"
  intro m' a b ha hb hb2 hm0 hm1
  fail "s"
  refine rows_s (N := N) hg hg2 ha hb hb2 (by omega) (by omega) (by omega) (by omega) fun o a b ha hb hb2 hol ho => ?_
  fail "s"
  refine rows_s (N := N) hg hg2 ha hb hb2 (by omega) (by omega) (by omega) (by omega) fun t a b ha hb hb2 htl ht => ?_
  fail "s"
  obtain ⟨H, eH⟩ : ∃ H : Nat, (H : Int) = 1 + h' := ⟨(1 + h').toNat, by omega⟩
  obtain ⟨W, eW⟩ : ∃ H : Nat, (H : Int) = 1 + w' := ⟨(1 + w').toNat, by omega⟩
  obtain ⟨M, eM⟩ : ∃ H : Nat, (H : Int) = 1 + m' := ⟨(1 + m').toNat, by omega⟩
  rw [← eH, Int.toNat_natCast] at hol
  rw [← eW, Int.toNat_natCast] at htl
  simp only [← eW, Int.toNat_natCast] at ho
  simp only [← eM, Int.toNat_natCast] at ht
  rw [← eH, ← eW, ← eM]
  have H1 : 1 ≤ H := by omega
  have H10 : H ≤ 10 := by omega
  have W1 : 1 ≤ W := by omega
  have W10 : W ≤ 10 := by omega
  have M1 : 1 ≤ M := by omega
  have M10 : M ≤ 10 := by omega
  have ho0 := ho (o.getD 0 []) (by rw [getD_at (by omega)]; exact List.getElem_mem _)
  refine ix_at (ds := o.map (rwD N)) (d := rwD N (o.getD 0 [])) rfl (rw_at (k := 0) (by omega)) ?_
  fail "s"
  have ht0 := ht (t.getD 0 []) (by rw [getD_at (by omega)]; exact List.getElem_mem _)
  refine ix_at (ds := t.map (rwD N)) (d := rwD N (t.getD 0 [])) rfl (rw_at (k := 0) (by omega)) ?_
  fail "s"
  refine odd_s ha hb hb2 fun od a b ha hb hb2 hod => ?_
  fail "s"
  refine ⟨⟨by decide, by decide⟩, ?_⟩
  have ptb : TabP 200 (tbD N o) := tabP ho (by decide) (by decide) (by decide) (by omega) (by omega) (by omega) (by omega)
  have ptt : TabP 200 (tbD N t) := tabP ht (by decide) (by decide) (by decide) (by omega) (by omega) (by omega) (by omega)
  have pr0 : RowP 200 (rwD N (o.getD 0 [])) := ho0.rowP (by decide) (by decide) (by decide) (by omega) (by omega)
  have pt0 : RowP 200 (rwD N (t.getD 0 [])) := ht0.rowP (by decide) (by decide) (by decide) (by omega) (by omega)
  refine w_forL (fun ds ρ => ∃ a b l s11 s12, ρ = [some (script ns), some (.v (.int k)), some (.m [.v (.int a), .v (.int b)]), some (.v (.int g)), some (.v (.int sz)), some (.v (.int H)), some (.v (.int W)), some (.v (.int M)), some (.v (tbD N o)), some (.v (tbD N t)), some (.m l), s11, s12, s13, none, none, none] ∧ 0 ≤ a ∧ 0 ≤ b ∧ b < 2147483647 ∧ l.length + 3 * ds.length ≤ 17 ∧ AllV (Pl 260) l)
    ⟨_, _, _, _, _, rfl, ha, hb, hb2, by simp, fun e he => ?_⟩ ?_ ?_
  · simp only [List.mem_cons, List.not_mem_nil, or_false] at he
    rcases he with rfl | rfl | rfl | rfl | rfl
    · exact ⟨_, rfl, Pl.mono (by decide) _ ptb.pl⟩
    · exact ⟨_, rfl, Pl.mono (by decide) _ pr0.pl⟩
    · exact ⟨_, rfl, Pl.mono (by decide) _ ptt.pl⟩
    · exact ⟨_, rfl, Pl.mono (by decide) _ pt0.pl⟩
    · exact ⟨_, rfl, Pl.mono (by decide) _ hod⟩
  · rintro d ds _ ⟨a, b, l, s11, s12, rfl, ha, hb, hb2, hl, hA⟩
    fail "s"
    refine law_in (n := 200) (by omega) hg2 ha hb hb2 (by omega) (by omega) (by omega) (by omega) ptb pr0 ⟨_, rfl, rw_at (k := 0) (by omega)⟩ (by omega) hA fun a b l' s12 ha hb hb2 hl' hA' => ?_
    fail "s"
    exact ⟨_, _, _, _, _, rfl, ha, hb, hb2, by simp at hl; omega, hA'⟩
  rintro _ ⟨a, b, l, s11, s12, rfl, ha, hb, hb2, hl, hA⟩
  have hl17 : l.length ≤ 17 := by omega
  refine wf_nx ?_
  fail "s"
  refine wo_eq rfl ?_
  fail "s"
  refine wo_eq (a := A.m ((frzs l ++ frzs (List.map A.v (frzs l).reverse)).map A.v)) (by unfold opAdd; exact if_pos (sz_of (by simp [frzs_length]; omega))) ?_
  fail "s"
  refine are_told_s (n := 260) (ds := frzs l ++ (frzs l).reverse) rfl (fun d hd => ?_) (by omega) (by omega) ?_
  · have := hA.frz
    simp at hd
    exact this d hd
  fail "s"
  refine are_told_s (n := 260) (ds := frzs l) rfl hA.frz (by omega) (by omega) ?_
  repeat' (fail_if_success (with_reducible refine w_seq ?_)); first | fail "w" | fail "e"
  exact law_tail (N := N) hg hg2 H1 H10 W1 W10 M1 M10 hol htl ho ht fun s13 => q _ _ _ _ _ _ _ _ _ _ _ _
end DD.K04

namespace DD.K04
open PySem PySem.Spec L2
open PyProof.Rows hiding St
local macro_rules | `(tactic| fail "z") => `(tactic| first | (refine sz_of ?_; simp only [List.length_cons, List.length_nil, List.length_map, List.length_range, List.length_set, List.length_append, Int.reduceNeg, Int.reduceSub, Int.reduceToNat, Nat.reduceAdd, Nat.zero_add, Nat.reduceLT, Nat.reduceLeDiff, ne_eq, Nat.reduceEqDiff, not_false_eq_true]; done) | (refine szl_of ?_; simp only [List.length_cons, List.length_nil, List.length_map, List.length_range, List.length_set, List.length_append, Int.reduceNeg, Int.reduceSub, Int.reduceToNat, Nat.reduceAdd, Nat.zero_add, Nat.reduceLT, Nat.reduceLeDiff, ne_eq, Nat.reduceEqDiff, not_false_eq_true]; done) | (simp only [List.length_cons, List.length_nil, List.length_map, List.length_range, List.length_set, List.length_append, Int.reduceNeg, Int.reduceSub, Int.reduceToNat, Nat.reduceAdd, Nat.zero_add, Nat.reduceLT, Nat.reduceLeDiff, ne_eq, Nat.reduceEqDiff, not_false_eq_true]; done))
local macro_rules | `(tactic| fail "w") => `(tactic| with_reducible first
  | refine w_seq ?_ | refine w_setF ?_ | refine w_setT ?_ | refine w_ret ?_ | refine w_ifS ?_ | refine w_expr ?_ | refine w_for ?_ | refine w_parF ?_ | refine w_asg ?_ | refine w_skip ?_
  | refine w_var (by with_unfolding_all rfl) ?_ | refine w_c ?_ | refine w_op2 ?_ | refine w_op1 ?_ | refine w_test ?_ | refine wb ?_ | refine w_nil ?_ | refine w_cons ?_
  | refine w_tup ?_ | refine w_lst ?_ | refine w_if ?_ | refine w_andT ?_ | refine w_orT ?_ | refine w_notT ?_ | refine w_andV ?_ | refine w_orV ?_ | refine w_notV ?_
  | refine wk_t ?_ | refine wk_f ?_ | refine wk_n ?_
  | refine wf_nx ?_ | refine wf_ret ?_ | refine wf_bk ?_ | refine wf_ct ?_ | refine wl_nx ?_ | refine wl_ct ?_ | refine wl_bk ?_ | refine wl_ret ?_ | refine wr_nx ?_ | refine wr_ret ?_
  | refine w_gset (by fail "z") ?_ | refine w_gtup (by with_unfolding_all rfl) ?_ | refine w_gcons ?_ | refine w_gnil ?_ | refine w_items ?_ | refine w_rng1 ?_ | refine w_rng2 ?_
  | refine w_blt ?_ | refine w_isi ?_ | refine w_vnil ?_ | refine w_vvalF ?_ | refine w_vvalT ?_ | refine w_vref (by with_unfolding_all rfl) ?_ | refine w_call ?_
  | refine w_appendF (by with_unfolding_all rfl) ?_ | refine w_extend (by with_unfolding_all rfl) ?_ | refine w_setitemF ?_ | refine w_ixOwn (by with_unfolding_all rfl) ?_ | refine w_lenOwn (by with_unfolding_all rfl) ?_ | refine w_move (by with_unfolding_all rfl) ?_ | refine w_frz (by with_unfolding_all rfl) ?_
  | refine wix (by with_unfolding_all rfl) (by with_unfolding_all rfl) ?_ | refine wap (by with_unfolding_all rfl) (by fail "z") ?_ | refine wxt (by with_unfolding_all rfl) (by with_unfolding_all rfl) (by fail "z") ?_ | refine wmm (by with_unfolding_all rfl) ?_ | refine wst (by with_unfolding_all rfl) (by with_unfolding_all rfl) ?_ | refine win ?_
  | refine w_fmt ?_ | refine w_jscons ?_ | refine w_jsnil ?_ | refine wjs ?_ | refine w_join ?_ | refine w_zip ?_ | refine w_zipS ?_ | refine w_enum ?_ | refine w_bor ?_ | refine w_borT ?_ | refine wfl_bl ?_ | refine wfl_int ?_
  | refine w_no ?_ | refine w_so ?_ | refine w_sl ?_ | refine w_rev ?_ | refine w_comp ?_ | refine w_chain ?_ | refine w_compnil ?_ | refine w_compcons ?_ | refine wp_pure ?_
  | refine wo_add ?_ | refine wo_sub ?_ | refine wo_neg ?_ | refine wo_lt ?_ | refine wo_le ?_ | refine wo_gt ?_ | refine wo_ge ?_ | refine wo_eqI ?_ | refine wo_neI ?_ | refine wo_notB ?_ | refine wo_isB ?_
  | refine wo_abs ?_ | refine wo_lenT ?_ | refine wo_lenL ?_ | refine wo_lenF ?_ | refine wo_lenM ?_ | refine wo_some ?_ | refine ix_at (by with_unfolding_all rfl) (by with_unfolding_all rfl) ?_
  | refine wo_mod (by omega) ?_ | refine wo_div (divc64 (by omega) (by omega) (by omega)) ?_ | refine wo_mul (mulc64 (by omega) (by omega) (by omega) (by omega)) ?_ | refine wo_pow (cpow64 (by omega) (by omega) (by omega) (by omega)) ?_
  | refine And.intro (by fail "z") ?_ | refine And.intro (And.intro (by fail "z") (And.intro (by fail "z") (by fail "z"))) ?_)
local macro_rules | `(tactic| fail "e") => `(tactic| simp only [List.map_cons, List.map_nil, List.replicate, List.cons_append, List.nil_append, List.append_nil, List.set_cons_zero, List.set_cons_succ, List.set_nil, A.frz, frzs_v, frzs, Nat.reduceSub, gath, back, List.getElem?_cons_zero, List.getElem?_cons_succ, Option.map_some, lentL, List.contains_cons, List.contains_nil, List.elem_nil, List.elem_cons, Nat.reduceAdd, Nat.reduceBEq, Bool.or_false, Bool.or_true, Bool.false_or, Bool.true_or, beq_self_eq_true, if_true, if_false, reduceIte, Bool.false_eq_true, Int.reduceToNat, iBool_bl, iBool_int, iInt_bl, iInt_int, isI_int, isI_bl, iTup_tup, iTup_lst, iTup_int, Int.reducePow, List.getElem?_nil, wipeE, wipeF, parkL, putL, Nat.reduceLT, Nat.reduceLeDiff, frzE])
local macro_rules | `(tactic| fail "s") => `(tactic| repeat (first | fail "w" | fail "e"))
local macro_rules | `(tactic| fail "t") => `(tactic| refine take_s (by omega) (by omega) (by omega) (by omega) (by omega) ?_)

abbrev N3 : NumX ((3 : Nat) : Int) (_root_.Fin 3) := numXF 3 (by decide) (by decide)
theorem T_law (ns : List Int) (hl : ns.length ≤ 63) (hb : ∀ z ∈ ns, Builtin.Int.intBits z ≤ 1048576) : ∃ l, n_law [script ns] = .ok (.v (.bl true)) l := by
  have key : Wc (n_law [script ns]) (fun a _ => a = .v (.bl true)) fun _ _ => False := by
    refine wc_fn rfl rfl ?_
    unfold b_law
    fail "s"
    simp only [List.length_map]
    refine wo_eq (a := .v (.int (if (ns.length : Int) < 5 then ns.length else 5))) (by unfold opMin opI2; simp) ?_
    fail "s"
    refine wo_eq (a := .v (.int (if (if (ns.length : Int) < 5 then (ns.length : Int) else 5) > 2 then (if (ns.length : Int) < 5 then (ns.length : Int) else 5) else 2))) (by unfold opMax opI2; simp) ?_
    fail "s"
    refine ⟨⟨by split <;> split <;> omega, by split <;> split <;> omega⟩, ?_⟩
    have hk6 : (if (if (ns.length : Int) < 5 then (ns.length : Int) else 5) > 2 then (if (ns.length : Int) < 5 then (ns.length : Int) else 5) else 2).toNat ≤ 5 := by split <;> split <;> omega
    generalize (if (if (ns.length : Int) < 5 then (ns.length : Int) else 5) > 2 then (if (ns.length : Int) < 5 then (ns.length : Int) else 5) else 2).toNat = kk at hk6
    refine w_forL (fun ds ρ => ∃ s1 s2 s3 s4 s5 s6 s7 s8 s9 s10 s11 s12 s13, ρ = [some (script ns), s1, s2, s3, s4, s5, s6, s7, s8, s9, s10, s11, s12, s13, none, none, none] ∧ ∀ d ∈ ds, ∃ k : Int, d = .int k ∧ 0 ≤ k ∧ k < 6)
      ⟨_, _, _, _, _, _, _, _, _, _, _, _, _, rfl, fun d hd => ?_⟩ ?_ ?_
    · obtain ⟨i, hi, rfl⟩ := List.mem_map.mp hd
      have := List.mem_range.mp hi
      exact ⟨_, rfl, by omega, by omega⟩
    · rintro d ds _ ⟨s1, s2, s3, s4, s5, s6, s7, s8, s9, s10, s11, s12, s13, rfl, hds⟩
      obtain ⟨k, rfl, hk0, hk1⟩ := hds d (by simp)
      fail "s"
      refine law_step hk0 (by omega) fun s2 s3 s4 s5 s6 s7 s8 s9 s10 s11 s12 s13 => ?_
      fail "s"
      exact ⟨_, _, _, _, _, _, _, _, _, _, _, _, _, rfl, fun d hd => hds d (List.mem_cons_of_mem _ hd)⟩
    · rintro _ ⟨s1, s2, s3, s4, s5, s6, s7, s8, s9, s10, s11, s12, s13, rfl, _⟩
      refine wf_nx ?_
      fail "s"
      have e1 : D.tup [D.tup [D.int 1, D.int 1], D.tup [D.int 2, D.int 1]] = rwD N3 [1, 2] := rfl
      have e2 : D.tup [D.tup [D.tup [D.int 1, D.int 1]], D.tup [D.tup [D.int 2, D.int 1]]] = tbD N3 [[1], [2]] := rfl
      have e3 : D.tup [D.tup [D.int 2, D.int 1]] = rwD N3 (thr 1 [1, 2] [[1], [2]]) := rfl
      rw [e1, e2]
      refine through_s (N := N3) (m := 1) (.inr (by decide)) (by decide) ⟨rfl, fun _ _ => trivial⟩ (fun l hl => ⟨by simp at hl; rcases hl with rfl | rfl <;> rfl, fun _ _ => trivial⟩) (by decide) (by decide) (by decide) (by decide) ?_
      fail "s"
      refine wo_eqS (k := 2) e3 okc_rw (by decide) ?_
      fail "s"
  obtain ⟨a, l, e, rfl⟩ := ex_wc key
  exact ⟨l, e⟩
end DD.K04

namespace DD.K04
open PySem PySem.Spec L2
open PyProof.Rows hiding St
theorem fin (T : ∀ ns : List Int, ns.length ≤ 63 → (∀ z ∈ ns, Builtin.Int.intBits z ≤ 1048576) → ∃ l, n_law [script ns] = .ok (.v (.bl true)) l) {l : PySem.W.OpenLaw} {w : World} {K : PySem.W.Frag} {mg : Str → Option Value} {fa : Addr} (hfa : mg "law" = some (.ref fa)) (H : Facts K mg)
    (d_is_whole : Def0 K mg "is_whole" s_is_whole ["thing"])
    (d_shared : Def0 K mg "shared" s_shared ["one", "other"])
    (d_contrary_on : Def0 K mg "contrary_on" s_contrary_on ["wheel", "rest"])
    (d_turned : Def0 K mg "turned" s_turned ["table"])
    (d_l_is_whole : Def0 K mg "_law_is_whole" s_l_is_whole ["_law_thing"])
    (d_l_shared : Def0 K mg "_law_shared" s_l_shared ["_law_one", "_law_other"])
    (d_l_bag : Def0 K mg "_law_bag" s_l_bag ["_law_script", "_law_at"])
    (d_l_take : Def0 K mg "_law_take" s_l_take ["_law_bag_here", "_law_many"])
    (d_l_swapped : Def0 K mg "_law_swapped" s_l_swapped ["_law_row_here", "_law_at", "_law_thing"])
    (d_is_number : Def0 K mg "is_number" s_is_number ["ground", "thing"])
    (d_lowest : Def0 K mg "lowest" s_lowest ["ground", "top", "bottom"])
    (d_l_is_number : Def0 K mg "_law_is_number" s_l_is_number ["_law_g", "_law_thing"])
    (d_l_low : Def0 K mg "_law_low" s_l_low ["_law_g", "_law_up", "_law_down"])
    (d_l_ground : Def0 K mg "_law_ground" s_l_ground ["_law_bag_here"])
    (d_l_odd : Def0 K mg "_law_odd" s_l_odd ["_law_bag_here"])
    (d_plus : Def0 K mg "plus" s_plus ["ground", "x", "y"])
    (d_times : Def0 K mg "times" s_times ["ground", "x", "y"])
    (d_is_row : Def0 K mg "is_row" s_is_row ["ground", "thing", "many"])
    (d_l_is_row : Def0 K mg "_law_is_row" s_l_is_row ["_law_g", "_law_thing", "_law_many"])
    (d_l_plus : Def0 K mg "_law_plus" s_l_plus ["_law_g", "_law_x", "_law_y"])
    (d_l_times : Def0 K mg "_law_times" s_l_times ["_law_g", "_law_x", "_law_y"])
    (d_l_number : Def0 K mg "_law_number" s_l_number ["_law_bag_here", "_law_g"])
    (d_l_bent_number : Def0 K mg "_law_bent_number" s_l_bent_number ["_law_bag_here", "_law_g", "_law_x"])
    (d_is_table : Def0 K mg "is_table" s_is_table ["ground", "thing", "high", "wide"])
    (d_scaled : Def0 K mg "scaled" s_scaled ["ground", "row", "x"])
    (d_added : Def0 K mg "added" s_added ["ground", "row", "other"])
    (d_l_is_table : Def0 K mg "_law_is_table" s_l_is_table ["_law_g", "_law_thing", "_law_high", "_law_wide"])
    (d_l_sum : Def0 K mg "_law_sum" s_l_sum ["_law_g", "_law_some"])
    (d_l_row : Def0 K mg "_law_row" s_l_row ["_law_bag_here", "_law_g", "_law_many"])
    (d_l_added : Def0 K mg "_law_added" s_l_added ["_law_g", "_law_row_here", "_law_other"])
    (d_l_bent_row : Def0 K mg "_law_bent_row" s_l_bent_row ["_law_bag_here", "_law_g", "_law_row_here"])
    (d_through : Def0 K mg "through" s_through ["ground", "row", "table"])
    (d_l_rows : Def0 K mg "_law_rows" s_l_rows ["_law_bag_here", "_law_g", "_law_high", "_law_wide"])
    (d_l_bent_table : Def0 K mg "_law_bent_table" s_l_bent_table ["_law_bag_here", "_law_g", "_law_table"])
    (d_l_are_told : Def0 K mg "_law_are_told" s_l_are_told ["_law_g", "_law_things", "_law_high", "_law_wide"])
    (d_l_cell : Def0 K mg "_law_cell" s_l_cell ["_law_g", "_law_one", "_law_other", "_law_i", "_law_j"])
    (d_product : Def0 K mg "product" s_product ["ground", "one", "other"])
    (d_law : Def0 K mg "law" s_law ["_law_script"])
    : ∃ fd : FuncData, (∀ (s : Shared) (v : Value), BindsTo s fd ⟨[v], []⟩ [("_law_script", v)]) ∧ ∀ base : Heap, K.In base → base.Ns mainGlobals mg → FnOk l.prog w K mg base CX0 7 fa fd ["_law_script"] (spScript K 63) :=
  let ⟨f, fd, d_law⟩ := d_law
  law_end hfa d_law (fun base =>
    have c_is_whole : CalD l.prog w K mg base 1 "is_whole" n_is_whole [] := ok_is_whole H d_is_whole 
    have c_shared : CalD l.prog w K mg base 1 "shared" n_shared [] := ok_shared H d_shared 
    have c_contrary_on : CalD l.prog w K mg base 1 "contrary_on" n_contrary_on [] := ok_contrary_on H d_contrary_on 
    have c_turned : CalD l.prog w K mg base 1 "turned" n_turned [] := ok_turned H d_turned 
    have c_l_is_whole : CalD l.prog w K mg base 1 "_law_is_whole" n_l_is_whole [] := ok_l_is_whole H d_l_is_whole 
    have c_l_shared : CalD l.prog w K mg base 1 "_law_shared" n_l_shared [] := ok_l_shared H d_l_shared 
    have c_l_bag : CalD l.prog w K mg base 1 "_law_bag" n_l_bag [] := ok_l_bag H d_l_bag 
    have c_l_take : CalD l.prog w K mg base 1 "_law_take" n_l_take [] := ok_l_take H d_l_take 
    have c_l_swapped : CalD l.prog w K mg base 1 "_law_swapped" n_l_swapped [] := ok_l_swapped H d_l_swapped 
    have c_is_number : CalD l.prog w K mg base 2 "is_number" n_is_number [] := ok_is_number H d_is_number c_is_whole c_shared
    have c_lowest : CalD l.prog w K mg base 2 "lowest" n_lowest [] := ok_lowest H d_lowest c_contrary_on c_shared
    have c_l_is_number : CalD l.prog w K mg base 2 "_law_is_number" n_l_is_number [] := ok_l_is_number H d_l_is_number c_l_is_whole c_l_shared
    have c_l_low : CalD l.prog w K mg base 2 "_law_low" n_l_low [] := ok_l_low H d_l_low c_l_shared
    have c_l_ground : CalD l.prog w K mg base 2 "_law_ground" n_l_ground [] := ok_l_ground H d_l_ground c_l_take
    have c_l_odd : CalD l.prog w K mg base 2 "_law_odd" n_l_odd [] := ok_l_odd H d_l_odd c_l_take
    have c_plus : CalD l.prog w K mg base 3 "plus" n_plus [] := ok_plus H d_plus c_lowest
    have c_times : CalD l.prog w K mg base 3 "times" n_times [] := ok_times H d_times c_lowest
    have c_is_row : CalD l.prog w K mg base 3 "is_row" n_is_row [] := ok_is_row H d_is_row c_is_number
    have c_l_is_row : CalD l.prog w K mg base 3 "_law_is_row" n_l_is_row [] := ok_l_is_row H d_l_is_row c_l_is_number
    have c_l_plus : CalD l.prog w K mg base 3 "_law_plus" n_l_plus [] := ok_l_plus H d_l_plus c_l_low
    have c_l_times : CalD l.prog w K mg base 3 "_law_times" n_l_times [] := ok_l_times H d_l_times c_l_low
    have c_l_number : CalD l.prog w K mg base 3 "_law_number" n_l_number [] := ok_l_number H d_l_number c_l_low c_l_take
    have c_l_bent_number : CalD l.prog w K mg base 3 "_law_bent_number" n_l_bent_number [] := ok_l_bent_number H d_l_bent_number c_l_odd c_l_take
    have c_is_table : CalD l.prog w K mg base 4 "is_table" n_is_table [] := ok_is_table H d_is_table c_is_row
    have c_scaled : CalD l.prog w K mg base 4 "scaled" n_scaled [] := ok_scaled H d_scaled c_times
    have c_added : CalD l.prog w K mg base 4 "added" n_added [] := ok_added H d_added c_plus
    have c_l_is_table : CalD l.prog w K mg base 4 "_law_is_table" n_l_is_table [] := ok_l_is_table H d_l_is_table c_l_is_row
    have c_l_sum : CalD l.prog w K mg base 4 "_law_sum" n_l_sum [] := ok_l_sum H d_l_sum c_l_plus
    have c_l_row : CalD l.prog w K mg base 4 "_law_row" n_l_row [] := ok_l_row H d_l_row c_l_number
    have c_l_added : CalD l.prog w K mg base 4 "_law_added" n_l_added [] := ok_l_added H d_l_added c_l_plus
    have c_l_bent_row : CalD l.prog w K mg base 4 "_law_bent_row" n_l_bent_row [] := ok_l_bent_row H d_l_bent_row c_l_bent_number c_l_swapped c_l_take
    have c_through : CalD l.prog w K mg base 5 "through" n_through [] := ok_through H d_through c_added c_scaled
    have c_l_rows : CalD l.prog w K mg base 5 "_law_rows" n_l_rows [] := ok_l_rows H d_l_rows c_l_added c_l_row c_l_take
    have c_l_bent_table : CalD l.prog w K mg base 5 "_law_bent_table" n_l_bent_table [] := ok_l_bent_table H d_l_bent_table c_l_bent_row c_l_odd c_l_swapped c_l_take
    have c_l_are_told : CalD l.prog w K mg base 5 "_law_are_told" n_l_are_told [] := ok_l_are_told H d_l_are_told c_l_is_row c_l_is_table c_is_row c_is_table
    have c_l_cell : CalD l.prog w K mg base 5 "_law_cell" n_l_cell [] := ok_l_cell H d_l_cell c_l_sum c_l_times
    have c_product : CalD l.prog w K mg base 6 "product" n_product [] := ok_product H d_product c_through
    ok_law H d_law c_l_are_told c_l_bag c_l_bent_row c_l_bent_table c_l_cell c_l_ground c_l_is_table c_l_odd c_l_rows c_l_take c_product c_through c_turned) T
end DD.K04
open PySem PySem.W PyProof.Rows
set_option maxHeartbeats 0 in
theorem PySem.Challenge.cw_fewmirrors_k04_rows_and_tables_holds : PySem.Challenge.rw_fewmirrors_k04_rows_and_tables.Holds := by
  w_on; o_law; k_head; (case hw => w_witness2)
  k_fill
  refine L2.walk_ofB (l := PySem.Challenge.rw_fewmirrors_k04_rows_and_tables) (n := 63) (k := 7) (x := "_law_script") (CX := fun _ => L2.CX0) (sp := fun w => DD.spScript _ 63) rfl (by decide) rfl ⟨rfl, by decide, by decide⟩ (fun w h Y => PySem.W.kIn_of Y) ?F (fun _ _ a ns hl hb _ hS => ⟨a, ns, rfl, hl, hb, hS, fun v _ e => e⟩) (fun _ _ _ _ _ h => h)
  case F =>
    intro w mg fa h KX G hmg
    refine' DD.K04.fin DD.K04.T_law hmg ?H ?d_is_whole ?d_shared ?d_contrary_on ?d_turned ?d_l_is_whole ?d_l_shared ?d_l_bag ?d_l_take ?d_l_swapped ?d_is_number ?d_lowest ?d_l_is_number ?d_l_low ?d_l_ground ?d_l_odd ?d_plus ?d_times ?d_is_row ?d_l_is_row ?d_l_plus ?d_l_times ?d_l_number ?d_l_bent_number ?d_is_table ?d_scaled ?d_added ?d_l_is_table ?d_l_sum ?d_l_row ?d_l_added ?d_l_bent_row ?d_through ?d_l_rows ?d_l_bent_table ?d_l_are_told ?d_l_cell ?d_product ?d_law
    case H =>
      refine' ⟨PySem.W.mg_none_of KX G (by k_is), PySem.W.mg_none_of KX G (by k_is), PySem.W.mg_none_of KX G (by k_is), PySem.W.mg_none_of KX G (by k_is), PySem.W.mg_none_of KX G (by k_is), PySem.W.mg_none_of KX G (by k_is), PySem.W.mg_none_of KX G (by k_is), PySem.W.mg_none_of KX G (by k_is), PySem.W.mg_none_of KX G (by k_is), PySem.W.mg_none_of KX G (by k_is), PySem.W.mg_none_of KX G (by k_is), PySem.W.mg_none_of KX G (by k_is), PySem.W.mg_none_of KX G (by k_is), ?g_NOUGHT⟩
      case g_NOUGHT => (refine' DD.glob_kd KX G ?e ?k; (case e => k_is); (case k => (refine' DD.KD.tup ?lu1 ?cu1 ?du1 ?zu1 ?ru1; (case lu1 => k_is); (case cu1 => exact rfl); (case du1 => exact rfl); (case zu1 => decide); (case ru1 => (refine' .cons ?e0u1 (.cons ?e1u1 (.nil)); (case e0u1 => exact .int _ _); (case e1u1 => exact .int _ _))))))
    case d_is_whole => (refine' DD.def_ex KX G ?a ?l ?c ?k ?b); (case a => k_is); (case l => k_is); (case c => k_is); (case k => k_is); (case b => exact fun _ _ _ _ _ _ us hl => match us, hl with | [_], _ => rfl)
    case d_shared => (refine' DD.def_ex KX G ?a ?l ?c ?k ?b); (case a => k_is); (case l => k_is); (case c => k_is); (case k => k_is); (case b => exact fun _ _ _ _ _ _ us hl => match us, hl with | [_, _], _ => rfl)
    case d_contrary_on => (refine' DD.def_ex KX G ?a ?l ?c ?k ?b); (case a => k_is); (case l => k_is); (case c => k_is); (case k => k_is); (case b => exact fun _ _ _ _ _ _ us hl => match us, hl with | [_, _], _ => rfl)
    case d_turned => (refine' DD.def_ex KX G ?a ?l ?c ?k ?b); (case a => k_is); (case l => k_is); (case c => k_is); (case k => k_is); (case b => exact fun _ _ _ _ _ _ us hl => match us, hl with | [_], _ => rfl)
    case d_l_is_whole => (refine' DD.def_ex KX G ?a ?l ?c ?k ?b); (case a => k_is); (case l => k_is); (case c => k_is); (case k => k_is); (case b => exact fun _ _ _ _ _ _ us hl => match us, hl with | [_], _ => rfl)
    case d_l_shared => (refine' DD.def_ex KX G ?a ?l ?c ?k ?b); (case a => k_is); (case l => k_is); (case c => k_is); (case k => k_is); (case b => exact fun _ _ _ _ _ _ us hl => match us, hl with | [_, _], _ => rfl)
    case d_l_bag => (refine' DD.def_ex KX G ?a ?l ?c ?k ?b); (case a => k_is); (case l => k_is); (case c => k_is); (case k => k_is); (case b => exact fun _ _ _ _ _ _ us hl => match us, hl with | [_, _], _ => rfl)
    case d_l_take => (refine' DD.def_ex KX G ?a ?l ?c ?k ?b); (case a => k_is); (case l => k_is); (case c => k_is); (case k => k_is); (case b => exact fun _ _ _ _ _ _ us hl => match us, hl with | [_, _], _ => rfl)
    case d_l_swapped => (refine' DD.def_ex KX G ?a ?l ?c ?k ?b); (case a => k_is); (case l => k_is); (case c => k_is); (case k => k_is); (case b => exact fun _ _ _ _ _ _ us hl => match us, hl with | [_, _, _], _ => rfl)
    case d_is_number => (refine' DD.def_ex KX G ?a ?l ?c ?k ?b); (case a => k_is); (case l => k_is); (case c => k_is); (case k => k_is); (case b => exact fun _ _ _ _ _ _ us hl => match us, hl with | [_, _], _ => rfl)
    case d_lowest => (refine' DD.def_ex KX G ?a ?l ?c ?k ?b); (case a => k_is); (case l => k_is); (case c => k_is); (case k => k_is); (case b => exact fun _ _ _ _ _ _ us hl => match us, hl with | [_, _, _], _ => rfl)
    case d_l_is_number => (refine' DD.def_ex KX G ?a ?l ?c ?k ?b); (case a => k_is); (case l => k_is); (case c => k_is); (case k => k_is); (case b => exact fun _ _ _ _ _ _ us hl => match us, hl with | [_, _], _ => rfl)
    case d_l_low => (refine' DD.def_ex KX G ?a ?l ?c ?k ?b); (case a => k_is); (case l => k_is); (case c => k_is); (case k => k_is); (case b => exact fun _ _ _ _ _ _ us hl => match us, hl with | [_, _, _], _ => rfl)
    case d_l_ground => (refine' DD.def_ex KX G ?a ?l ?c ?k ?b); (case a => k_is); (case l => k_is); (case c => k_is); (case k => k_is); (case b => exact fun _ _ _ _ _ _ us hl => match us, hl with | [_], _ => rfl)
    case d_l_odd => (refine' DD.def_ex KX G ?a ?l ?c ?k ?b); (case a => k_is); (case l => k_is); (case c => k_is); (case k => k_is); (case b => exact fun _ _ _ _ _ _ us hl => match us, hl with | [_], _ => rfl)
    case d_plus => (refine' DD.def_ex KX G ?a ?l ?c ?k ?b); (case a => k_is); (case l => k_is); (case c => k_is); (case k => k_is); (case b => exact fun _ _ _ _ _ _ us hl => match us, hl with | [_, _, _], _ => rfl)
    case d_times => (refine' DD.def_ex KX G ?a ?l ?c ?k ?b); (case a => k_is); (case l => k_is); (case c => k_is); (case k => k_is); (case b => exact fun _ _ _ _ _ _ us hl => match us, hl with | [_, _, _], _ => rfl)
    case d_is_row => (refine' DD.def_ex KX G ?a ?l ?c ?k ?b); (case a => k_is); (case l => k_is); (case c => k_is); (case k => k_is); (case b => exact fun _ _ _ _ _ _ us hl => match us, hl with | [_, _, _], _ => rfl)
    case d_l_is_row => (refine' DD.def_ex KX G ?a ?l ?c ?k ?b); (case a => k_is); (case l => k_is); (case c => k_is); (case k => k_is); (case b => exact fun _ _ _ _ _ _ us hl => match us, hl with | [_, _, _], _ => rfl)
    case d_l_plus => (refine' DD.def_ex KX G ?a ?l ?c ?k ?b); (case a => k_is); (case l => k_is); (case c => k_is); (case k => k_is); (case b => exact fun _ _ _ _ _ _ us hl => match us, hl with | [_, _, _], _ => rfl)
    case d_l_times => (refine' DD.def_ex KX G ?a ?l ?c ?k ?b); (case a => k_is); (case l => k_is); (case c => k_is); (case k => k_is); (case b => exact fun _ _ _ _ _ _ us hl => match us, hl with | [_, _, _], _ => rfl)
    case d_l_number => (refine' DD.def_ex KX G ?a ?l ?c ?k ?b); (case a => k_is); (case l => k_is); (case c => k_is); (case k => k_is); (case b => exact fun _ _ _ _ _ _ us hl => match us, hl with | [_, _], _ => rfl)
    case d_l_bent_number => (refine' DD.def_ex KX G ?a ?l ?c ?k ?b); (case a => k_is); (case l => k_is); (case c => k_is); (case k => k_is); (case b => exact fun _ _ _ _ _ _ us hl => match us, hl with | [_, _, _], _ => rfl)
    case d_is_table => (refine' DD.def_ex KX G ?a ?l ?c ?k ?b); (case a => k_is); (case l => k_is); (case c => k_is); (case k => k_is); (case b => exact fun _ _ _ _ _ _ us hl => match us, hl with | [_, _, _, _], _ => rfl)
    case d_scaled => (refine' DD.def_ex KX G ?a ?l ?c ?k ?b); (case a => k_is); (case l => k_is); (case c => k_is); (case k => k_is); (case b => exact fun _ _ _ _ _ _ us hl => match us, hl with | [_, _, _], _ => rfl)
    case d_added => (refine' DD.def_ex KX G ?a ?l ?c ?k ?b); (case a => k_is); (case l => k_is); (case c => k_is); (case k => k_is); (case b => exact fun _ _ _ _ _ _ us hl => match us, hl with | [_, _, _], _ => rfl)
    case d_l_is_table => (refine' DD.def_ex KX G ?a ?l ?c ?k ?b); (case a => k_is); (case l => k_is); (case c => k_is); (case k => k_is); (case b => exact fun _ _ _ _ _ _ us hl => match us, hl with | [_, _, _, _], _ => rfl)
    case d_l_sum => (refine' DD.def_ex KX G ?a ?l ?c ?k ?b); (case a => k_is); (case l => k_is); (case c => k_is); (case k => k_is); (case b => exact fun _ _ _ _ _ _ us hl => match us, hl with | [_, _], _ => rfl)
    case d_l_row => (refine' DD.def_ex KX G ?a ?l ?c ?k ?b); (case a => k_is); (case l => k_is); (case c => k_is); (case k => k_is); (case b => exact fun _ _ _ _ _ _ us hl => match us, hl with | [_, _, _], _ => rfl)
    case d_l_added => (refine' DD.def_ex KX G ?a ?l ?c ?k ?b); (case a => k_is); (case l => k_is); (case c => k_is); (case k => k_is); (case b => exact fun _ _ _ _ _ _ us hl => match us, hl with | [_, _, _], _ => rfl)
    case d_l_bent_row => (refine' DD.def_ex KX G ?a ?l ?c ?k ?b); (case a => k_is); (case l => k_is); (case c => k_is); (case k => k_is); (case b => exact fun _ _ _ _ _ _ us hl => match us, hl with | [_, _, _], _ => rfl)
    case d_through => (refine' DD.def_ex KX G ?a ?l ?c ?k ?b); (case a => k_is); (case l => k_is); (case c => k_is); (case k => k_is); (case b => exact fun _ _ _ _ _ _ us hl => match us, hl with | [_, _, _], _ => rfl)
    case d_l_rows => (refine' DD.def_ex KX G ?a ?l ?c ?k ?b); (case a => k_is); (case l => k_is); (case c => k_is); (case k => k_is); (case b => exact fun _ _ _ _ _ _ us hl => match us, hl with | [_, _, _, _], _ => rfl)
    case d_l_bent_table => (refine' DD.def_ex KX G ?a ?l ?c ?k ?b); (case a => k_is); (case l => k_is); (case c => k_is); (case k => k_is); (case b => exact fun _ _ _ _ _ _ us hl => match us, hl with | [_, _, _], _ => rfl)
    case d_l_are_told => (refine' DD.def_ex KX G ?a ?l ?c ?k ?b); (case a => k_is); (case l => k_is); (case c => k_is); (case k => k_is); (case b => exact fun _ _ _ _ _ _ us hl => match us, hl with | [_, _, _, _], _ => rfl)
    case d_l_cell => (refine' DD.def_ex KX G ?a ?l ?c ?k ?b); (case a => k_is); (case l => k_is); (case c => k_is); (case k => k_is); (case b => exact fun _ _ _ _ _ _ us hl => match us, hl with | [_, _, _, _, _], _ => rfl)
    case d_product => (refine' DD.def_ex KX G ?a ?l ?c ?k ?b); (case a => k_is); (case l => k_is); (case c => k_is); (case k => k_is); (case b => exact fun _ _ _ _ _ _ us hl => match us, hl with | [_, _, _], _ => rfl)
    case d_law => (refine' DD.def_ex KX G ?a ?l ?c ?k ?b); (case a => k_is); (case l => k_is); (case c => k_is); (case k => k_is); (case b => exact fun _ _ _ _ _ _ us hl => match us, hl with | [_], _ => rfl)

